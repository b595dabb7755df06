import PyProof.Rows.All
import Wide.All
import OpenK.AllK
import Wide.FinOn
import HandS.ForMost
import HandS.IsInst
import HandS.Lambda
import HandS.ForExc
import HandS.Conv
import HandS.Zip
import HandS.TupAny
import HandS.Flow
import HandS.Deep
import HandS.TupLe
import HandS.TupMul
import HandS.ExcIs
import HandS.TryMany
import HandS.Defaults
import HandS.HeadHook2
import KE.SortKeyHeap
import HandS.TupSets
import HandS.Dict
import HandS.DictComp
import HandS.Iter
import KE.KTupSum
import KE.KDictDisplayH
import HandS.Small
import KE.SortData
import HandS.Style
import PyProof.TupleOfSeq
import HandS.ExcValue
import KE.KeyNested
import HandS.Head0
import HandS.Head1
import HandS.Head2
import HandS.HeadEnd
import HandS.HeadHook1
import HandS.HeadHook3
import HandS.HeadHook4
import HandS.HeadWalk
import PySem.Challenge.RW_shownshares_k03_ends_of_lots
set_option Elab.async false
set_option linter.all false
set_option maxRecDepth 100000
set_option maxHeartbeats 1000000
namespace Ly
open PySem L2
abbrev Fg := PySem.W.Frag
/-- data: what stands still. scr: the script; dct: a dict by tuples of ints; obj: an instance of the class at C -/
inductive D where
  | none
  | bool (b : Bool)
  | int (i : Int)
  | str (s : Str)
  | list (xs : List D)
  | tuple (xs : List D)
  | scr (ns : List Int)
  | dct (ks : List (List Int)) (vs : List D)
  | obj (C : Addr) (ns : List Str) (vs : List D)
  | kst (xs : List D)
  | dfz (ks : List (List Int)) (vs : List D)
mutual
def toPy : D → PyData
  | .none => .none
  | .bool b => .bool b
  | .int i => .int i
  | .str s => .str s
  | .list xs => .list (toPys xs)
  | .tuple xs => .tuple (toPys xs)
  | .scr _ => .dict []
  | .dct _ _ => .dict []
  | .obj _ _ _ => .dict []
  | .kst _ => .dict []
  | .dfz _ _ => .dict []
def toPys : List D → List PyData
  | [] => []
  | d :: ds => toPy d :: toPys ds
end
/-- the keys of a dict by tuples of ints -/
def keyT (k : List Int) : List Key := k.map Sum.inl

/-! ### heaps -/
/-- the table of a code object: it may grow -/
def isTbl : HO → Bool
  | .tbl _ => true
  | _ => false
/-- what a slot may own -/
def ownO : HO → Bool
  | .lst _ => true
  | .dT _ => true
  | .ins _ _ _ => true
  | .own _ => true
  | _ => false
theorem own_tbl {o : HO} (h : ownO o = true) : isTbl o = false := by cases o <;> first | rfl | cases h
structure Ex (H H' : Hp) : Prop where
  o : ∀ a o, H a = some o → isTbl o = false → H' a = some o
  t : ∀ a o, H a = some o → isTbl o = true → ∃ u, H' a = some u ∧ isTbl u = true
theorem Ex.refl (H : Hp) : Ex H H := ⟨fun _ _ h _ => h, fun _ o h t => ⟨o, h, t⟩⟩
theorem Ex.trans {H H1 H2 : Hp} (a : Ex H H1) (b : Ex H1 H2) : Ex H H2 := ⟨fun x o h t => b.o x o (a.o x o h t) t, fun x o h t => by
  obtain ⟨u, h1, t1⟩ := a.t x o h t
  exact b.t x u h1 t1⟩
theorem Ex.back {H H' : Hp} {p : Addr} (e : Ex H H') (h : H' p = none) : H p = none := by
  cases h1 : H p with
  | none => rfl
  | some o =>
    cases t : isTbl o with
    | false => rw [e.o p o h1 t] at h; cases h
    | true => obtain ⟨u, h2, _⟩ := e.t p o h1 t; rw [h2] at h; cases h
/-- what the first heap does not know may be written in the second -/
theorem Ex.mut {H H' : Hp} {p : Addr} {o : HO} (e : Ex H H') (h : H p = none) : Ex H (upd H' p o) := ⟨fun a u ha t => by
  rw [upd_ne (ne_of_none ha h)]; exact e.o a u ha t, fun a u ha t => by
  rw [upd_ne (ne_of_none ha h)]; exact e.t a u ha t⟩
theorem Ex.new {H : Hp} {p : Addr} {o : HO} (h : H p = none) : Ex H (upd H p o) := (Ex.refl H).mut h
/-- what the second heap knows may be taken into the first -/
theorem Ex.add {H H' : Hp} {p : Addr} {o : HO} (e : Ex H H') (h : H' p = some o) (t : isTbl o = false) : Ex (upd H p o) H' := ⟨fun a u ha tu => by
  by_cases z : a = p
  · subst z; rw [upd_same] at ha; cases ha; exact h
  · rw [upd_ne z] at ha; exact e.o a u ha tu, fun a u ha tu => by
  by_cases z : a = p
  · subst z; rw [upd_same] at ha; cases ha; rw [t] at tu; cases tu
  · rw [upd_ne z] at ha; exact e.t a u ha tu⟩
/-- tables of lambdas -/
def q0 : Str := "all_lots.<locals>.<lambda>"
/-- the table of the def that makes a lambda -/
def TbK (K : Fg) (H : Hp) : Prop := ∀ c P, PySem.W.tabIn K "all_lots" = some (c, P) → LamX.TabS H P q0
def Tb (H H' : Hp) : Prop := ∀ P, LamX.TabS H P q0 → LamX.TabS H' P q0
theorem Tb.refl (H : Hp) : Tb H H := fun _ h => h
theorem TbK.up {K : Fg} {H H' : Hp} (t : TbK K H) (h : Tb H H') : TbK K H' := fun c P e => h P (t c P e)
theorem Tb.trans {H H1 H2 : Hp} (a : Tb H H1) (b : Tb H1 H2) : Tb H H2 := fun P h => b P (a P h)
theorem tab_upd {H : Hp} {p P : Addr} {o : HO} (hp : H p = none ∨ ∃ u, H p = some u ∧ ownO u = true) (h : LamX.TabS H P q0) : LamX.TabS (upd H p o) P q0 := by
  obtain ⟨ps, h1, h2, h3⟩ := h
  have ne : ∀ a u, H a = some u → ownO u = false → a ≠ p := fun a u ha hu z => by
    subst z
    rcases hp with q | ⟨v, q, hv⟩
    · rw [q] at ha; cases ha
    · rw [q] at ha; cases ha; rw [hv] at hu; cases hu
  refine ⟨ps, by rw [upd_ne (ne P _ h1 rfl)]; exact h1, h2, fun pos cv hc => ?_⟩
  obtain ⟨c, e1, e2⟩ := h3 pos cv hc
  exact ⟨c, e1, by rw [upd_ne (ne c _ e2 rfl)]; exact e2⟩
theorem Tb.upd {H : Hp} {p : Addr} {o : HO} (hp : H p = none ∨ ∃ u, H p = some u ∧ ownO u = true) : Tb H (upd H p o) := fun _ h => tab_upd hp h
theorem ex_rd {H H' : Hp} {a : Addr} {u : HO} (e : Ex H H') (ht : isTbl u = false) (h : Rd H a u) : Rd H' a u := by
  rcases h with h | ⟨o, h⟩
  · exact Or.inl (e.o a _ h ht)
  · exact Or.inr ⟨o, e.o a _ h rfl⟩
theorem ex_t {K : Fg} {H H' : Hp} {a : Addr} {xs : List V} (e : Ex H H') (h : H a = some (.tup xs)) : SqT K H' a xs := SqT.of (e.o _ _ h rfl)
theorem ex_k {K : Fg} {H H' : Hp} {a : Addr} {xs : List V} (e : Ex H H') (h : SqT K H a xs) : SqT K H' a xs := by
  rcases h with h | h
  · exact Or.inl (ex_rd e rfl h)
  · exact Or.inr h
theorem ex_l {K : Fg} {H H' : Hp} {a : Addr} {xs : List V} (e : Ex H H') (h : SqL K H a xs) : SqL K H' a xs := by
  rcases h with h | h
  · exact Or.inl (ex_rd e rfl h)
  · exact Or.inr h

/-! ### data in a heap -/
mutual
inductive Rp (K : Fg) (H : Hp) : V → D → Prop
  | non : Rp K H .non .none
  | bl (b : Bool) : Rp K H (.bl b) (.bool b)
  | int (i : Int) : Rp K H (.int i) (.int i)
  | str (x : Str) : Rp K H (.str x) (.str x)
  | lst {a : Addr} {xs : List V} {ds : List D} : H a = some (.lst xs) → RpL K H xs ds → Rp K H (.ref a) (.list ds)
  | tup {a : Addr} {xs : List V} {ds : List D} : H a = some (.tup xs) → RpL K H xs ds → Rp K H (.ref a) (.tuple ds)
  | kst {a : Addr} {xs : List V} {ds : List D} : SqT K H a xs → RpL K H xs ds → Rp K H (.ref a) (.kst ds)
  | scr {a : Addr} {ns : List Int} : SqL K H a (ns.map V.int) → Rp K H (.ref a) (.scr ns)
  | dct {a : Addr} {kvs : List (List Key × V)} {ks : List (List Int)} {ds : List D} : H a = some (.dT kvs) → kvs.map (·.1) = ks.map keyT → RpL K H (kvs.map (·.2)) ds → Rp K H (.ref a) (.dct ks ds)
  | dfz {a : Addr} {kvs : List (List Key × V)} {ks : List (List Int)} {ds : List D} : Rd H a (.dT kvs) → kvs.map (·.1) = ks.map keyT → RpL K H (kvs.map (·.2)) ds → Rp K H (.ref a) (.dfz ks ds)
  | obj {a C dx : Addr} {fs : List (Str × V)} {ns : List Str} {ds : List D} : H a = some (.ins C dx fs) → fs.map (·.1) = ns → RpL K H (fs.map (·.2)) ds → Rp K H (.ref a) (.obj C ns ds)
inductive RpL (K : Fg) (H : Hp) : List V → List D → Prop
  | nil : RpL K H [] []
  | cons {v : V} {vs : List V} {d : D} {ds : List D} : Rp K H v d → RpL K H vs ds → RpL K H (v :: vs) (d :: ds)
end
mutual
theorem Rp.mono {K : Fg} {H H' : Hp} (e : Ex H H') : ∀ (d : D) (v : V), Rp K H v d → Rp K H' v d
  | .none, _, h => by cases h; exact .non
  | .bool b, _, h => by cases h; exact .bl b
  | .int i, _, h => by cases h; exact .int i
  | .str x, _, h => by cases h; exact .str x
  | .list ds, _, h => by
    cases h with
    | lst h1 h2 => exact .lst (e.o _ _ h1 rfl) (RpL.mono e ds _ h2)
  | .tuple ds, _, h => by
    cases h with
    | tup h1 h2 => exact .tup (e.o _ _ h1 rfl) (RpL.mono e ds _ h2)
  | .kst ds, _, h => by
    cases h with
    | kst h1 h2 => exact .kst (ex_k e h1) (RpL.mono e ds _ h2)
  | .scr ns, _, h => by cases h with | scr h1 => exact .scr (ex_l e h1)
  | .dct ks ds, _, h => by cases h with | dct h1 h2 h3 => exact .dct (e.o _ _ h1 rfl) h2 (RpL.mono e ds _ h3)
  | .dfz ks ds, _, h => by cases h with | dfz h1 h2 h3 => exact .dfz (ex_rd e rfl h1) h2 (RpL.mono e ds _ h3)
  | .obj C ns ds, _, h => by cases h with | obj h1 h2 h3 => exact .obj (e.o _ _ h1 rfl) h2 (RpL.mono e ds _ h3)
theorem RpL.mono {K : Fg} {H H' : Hp} (e : Ex H H') : ∀ (ds : List D) (vs : List V), RpL K H vs ds → RpL K H' vs ds
  | [], _, h => by cases h; exact .nil
  | d :: ds, _, h => by
    cases h with
    | cons h1 h2 => exact .cons (Rp.mono e d _ h1) (RpL.mono e ds _ h2)
end
theorem Rp.up {K : Fg} {H H' : Hp} {d : D} {v : V} (h : Rp K H v d) (e : Ex H H') : Rp K H' v d := Rp.mono e d v h
theorem RpL.up {K : Fg} {H H' : Hp} {d : List D} {v : List V} (h : RpL K H v d) (e : Ex H H') : RpL K H' v d := RpL.mono e d v h
mutual
theorem Rp.dp {K : Fg} {H : Hp} : ∀ (d : D) (v : V), (toPy d).canLay0 = true → Rp K H v d → Dp K H v (toPy d)
  | .none, _, _, h => by cases h; rw [toPy]; exact .non
  | .bool b, _, _, h => by cases h; rw [toPy]; exact .bl b
  | .int i, _, _, h => by cases h; rw [toPy]; exact .int i
  | .str x, _, _, h => by cases h; rw [toPy]; exact .str x
  | .list ds, _, c, h => by
    cases h with
    | lst h1 h2 => rw [toPy]; exact .lst (SqL.of h1) (RpL.dp ds _ (by simpa [toPy, PyData.canLay0] using c) h2)
  | .tuple ds, _, c, h => by
    cases h with
    | tup h1 h2 => rw [toPy]; exact .tup (SqT.of h1) (RpL.dp ds _ (by simpa [toPy, PyData.canLay0] using c) h2)
  | .scr _, _, c, _ => by simp [toPy, PyData.canLay0] at c
  | .dct _ _, _, c, _ => by simp [toPy, PyData.canLay0] at c
  | .obj _ _ _, _, c, _ => by simp [toPy, PyData.canLay0] at c
  | .kst _, _, c, _ => by simp [toPy, PyData.canLay0] at c
  | .dfz _ _, _, c, _ => by simp [toPy, PyData.canLay0] at c
theorem RpL.dp {K : Fg} {H : Hp} : ∀ (ds : List D) (vs : List V), PyData.canLayAll0 (toPys ds) = true → RpL K H vs ds → DpAll K H vs (toPys ds)
  | [], _, _, h => by cases h; rw [toPys]; exact .nil
  | d :: ds, _, c, h => by
    have c' : (toPy d).canLay0 = true ∧ PyData.canLayAll0 (toPys ds) = true := by simpa [toPys, PyData.canLayAll0] using c
    cases h with
    | cons h1 h2 => rw [toPys]; exact .cons (Rp.dp d _ c'.1 h1) (RpL.dp ds _ c'.2 h2)
end

/-- data that holds no list (kl), no dict (kd), no object (ko) -/
structure Kd where
  kl : Bool
  kd : Bool
  ko : Bool
mutual
def cln (k : Kd) : D → Bool
  | .list ds => !k.kl && clns k ds
  | .tuple ds => clns k ds
  | .scr _ => !k.kl
  | .dct _ ds => !k.kd && clns k ds
  | .dfz _ ds => !k.kd && clns k ds
  | .obj _ _ ds => !k.ko && clns k ds
  | .kst _ => false
  | _ => true
def clns (k : Kd) : List D → Bool
  | [] => true
  | d :: ds => cln k d && clns k ds
end
/-- objects of these kinds -/
def Kd.has (k : Kd) : HO → Bool
  | .lst _ => k.kl
  | .dT _ => k.kd
  | .ins _ _ _ => k.ko
  | .own _ => k.ko
  | _ => false
def del (H : Hp) (fp : List Addr) : Hp := fun a => if a ∈ fp then none else H a
theorem del_in {H : Hp} {fp : List Addr} {a : Addr} (h : a ∈ fp) : del H fp a = none := by unfold del; rw [if_pos h]
theorem del_out {H : Hp} {fp : List Addr} {a : Addr} (h : a ∉ fp) : del H fp a = H a := by unfold del; rw [if_neg h]
theorem del_has {H : Hp} {fp : List Addr} {k : Kd} (hk : ∀ a ∈ fp, ∃ o, H a = some o ∧ k.has o = true) {a : Addr} {o : HO} (h : H a = some o) (ho : k.has o = false) : del H fp a = some o := by
  rw [del_out]; exact h
  intro z; obtain ⟨u, h1, h2⟩ := hk a z
  rw [h] at h1; cases h1; rw [ho] at h2; cases h2
mutual
theorem Rp.del {K : Fg} {H : Hp} {fp : List Addr} {k : Kd} (hk : ∀ a ∈ fp, ∃ o, H a = some o ∧ k.has o = true) : ∀ (d : D) (v : V), cln k d = true → Rp K H v d → Rp K (Ly.del H fp) v d
  | .none, _, _, h => by cases h; exact .non
  | .bool b, _, _, h => by cases h; exact .bl b
  | .int i, _, _, h => by cases h; exact .int i
  | .str x, _, _, h => by cases h; exact .str x
  | .list ds, _, n, h => by
    have n' : k.kl = false ∧ clns k ds = true := by simpa [cln] using n
    cases h with
    | lst h1 h2 => exact .lst (del_has hk h1 n'.1) (RpL.del hk ds _ n'.2 h2)
  | .tuple ds, _, n, h => by
    cases h with
    | tup h1 h2 => exact .tup (del_has hk h1 rfl) (RpL.del hk ds _ (by simpa [cln] using n) h2)
  | .scr _, _, n, h => by
    have n' : k.kl = false := by simpa [cln] using n
    cases h with
    | scr h1 =>
      refine .scr ?_
      rcases h1 with h1 | h1
      · rcases h1 with h1 | ⟨u, h1⟩
        · exact .inl (.inl (del_has hk h1 n'))
        · exact .inl (.inr ⟨u, del_has hk h1 rfl⟩)
      · exact .inr h1
  | .dct _ ds, _, n, h => by
    have n' : k.kd = false ∧ clns k ds = true := by simpa [cln] using n
    cases h with
    | dct h1 h2 h3 => exact .dct (del_has hk h1 n'.1) h2 (RpL.del hk ds _ n'.2 h3)
  | .dfz _ ds, _, n, h => by
    have n' : k.kd = false ∧ clns k ds = true := by simpa [cln] using n
    cases h with
    | dfz h1 h2 h3 =>
      refine .dfz ?_ h2 (RpL.del hk ds _ n'.2 h3)
      rcases h1 with h1 | ⟨u, h1⟩
      · exact .inl (del_has hk h1 n'.1)
      · exact .inr ⟨u, del_has hk h1 rfl⟩
  | .obj _ _ ds, _, n, h => by
    have n' : k.ko = false ∧ clns k ds = true := by simpa [cln] using n
    cases h with
    | obj h1 h2 h3 => exact .obj (del_has hk h1 n'.1) h2 (RpL.del hk ds _ n'.2 h3)
  | .kst _, _, n, h => by simp [cln] at n
theorem RpL.del {K : Fg} {H : Hp} {fp : List Addr} {k : Kd} (hk : ∀ a ∈ fp, ∃ o, H a = some o ∧ k.has o = true) : ∀ (ds : List D) (vs : List V), clns k ds = true → RpL K H vs ds → RpL K (Ly.del H fp) vs ds
  | [], _, _, h => by cases h; exact .nil
  | d :: ds, _, n, h => by
    cases h with
    | cons h1 h2 =>
      have n' : cln k d = true ∧ clns k ds = true := by simpa [clns] using n
      exact .cons (Rp.del hk d _ n'.1 h1) (RpL.del hk ds _ n'.2 h2)
end
theorem RpL.length {K : Fg} {H : Hp} : ∀ {vs : List V} {ds : List D}, RpL K H vs ds → vs.length = ds.length
  | _, _, .nil => rfl
  | _, _, .cons _ t => by simp [RpL.length t]
theorem RpL.get {K : Fg} {H : Hp} : ∀ {vs : List V} {ds : List D} {i : Nat} {d : D}, RpL K H vs ds → ds[i]? = some d → ∃ v, vs[i]? = some v ∧ Rp K H v d
  | _, _, _, _, .nil, e => by simp at e
  | _, _, 0, _, .cons h _, e => by simp at e; subst e; exact ⟨_, rfl, h⟩
  | _, _, i + 1, d, .cons _ t, e => by
    obtain ⟨v, h1, h2⟩ := RpL.get (i := i) (d := d) t (by simpa using e)
    exact ⟨v, by simpa using h1, h2⟩
theorem RpL.getV {K : Fg} {H : Hp} : ∀ {vs : List V} {ds : List D} {i : Nat} {v : V}, RpL K H vs ds → vs[i]? = some v → ∃ d, ds[i]? = some d ∧ Rp K H v d
  | _, _, _, _, .nil, e => by simp at e
  | _, _, 0, _, .cons h _, e => by simp at e; subst e; exact ⟨_, rfl, h⟩
  | _, _, i + 1, d, .cons _ t, e => by
    obtain ⟨v, h1, h2⟩ := RpL.getV (i := i) (v := d) t (by simpa using e)
    exact ⟨v, by simpa using h1, h2⟩
theorem RpL.app {K : Fg} {H : Hp} : ∀ {vs ws : List V} {ds es : List D}, RpL K H vs ds → RpL K H ws es → RpL K H (vs ++ ws) (ds ++ es)
  | _, _, _, _, .nil, s => s
  | _, _, _, _, .cons r t, s => .cons r (RpL.app t s)
theorem RpL.set {K : Fg} {H : Hp} {v : V} {d : D} (h : Rp K H v d) : ∀ {vs : List V} {ds : List D} (i : Nat), RpL K H vs ds → RpL K H (vs.set i v) (ds.set i d)
  | _, _, _, .nil => .nil
  | _, _, 0, .cons _ t => .cons h t
  | _, _, i + 1, .cons q t => .cons q (RpL.set h i t)
theorem RpL.take {K : Fg} {H : Hp} : ∀ {vs : List V} {ds : List D} (n : Nat), RpL K H vs ds → RpL K H (vs.take n) (ds.take n)
  | _, _, 0, _ => .nil
  | _, _, _ + 1, .nil => .nil
  | _, _, n + 1, .cons r t => .cons r (RpL.take n t)
theorem RpL.drop {K : Fg} {H : Hp} : ∀ {vs : List V} {ds : List D} (n : Nat), RpL K H vs ds → RpL K H (vs.drop n) (ds.drop n)
  | _, _, 0, r => r
  | _, _, _ + 1, .nil => .nil
  | _, _, n + 1, .cons _ t => RpL.drop n t
theorem RpL.rev {K : Fg} {H : Hp} : ∀ {vs : List V} {ds : List D}, RpL K H vs ds → RpL K H vs.reverse ds.reverse
  | _, _, .nil => .nil
  | _, _, .cons r t => by rw [List.reverse_cons, List.reverse_cons]; exact RpL.app (RpL.rev t) (.cons r .nil)
theorem RpL.ints {K : Fg} {H : Hp} : ∀ {vs : List V} {ns : List Int}, RpL K H vs (ns.map D.int) → vs = ns.map V.int
  | _, [], h => by cases h; rfl
  | _, n :: ns, h => by
    cases h with
    | cons h1 h2 => cases h1; rw [RpL.ints h2]; rfl
theorem RpL.ofInts {K : Fg} {H : Hp} : ∀ (ns : List Int), RpL K H (ns.map V.int) (ns.map D.int)
  | [] => .nil
  | n :: ns => .cons (.int n) (RpL.ofInts ns)

/-! ### the frame -/
/-- G within H; what may be shared (G) has grown to G2, the heap to G2 within H2; lists and dicts of H that are not shared are not shared later -/
structure Fm (G H G2 H2 : Hp) : Prop where
  g : Ex G G2
  h : Ex H H2
  i : Ex G2 H2
  n : ∀ a o, H a = some o → ownO o = true → G a = none → G2 a = none
  tb : Tb H H2
theorem Fm.refl {G H : Hp} (i : Ex G H) : Fm G H G H := ⟨Ex.refl _, Ex.refl _, i, fun _ _ _ _ h => h, Tb.refl _⟩
theorem Fm.trans {G H G1 H1 G2 H2 : Hp} (a : Fm G H G1 H1) (b : Fm G1 H1 G2 H2) : Fm G H G2 H2 :=
  ⟨a.g.trans b.g, a.h.trans b.h, b.i, fun x o e t n => b.n x o (a.h.o x o e (own_tbl t)) t (a.n x o e t n), a.tb.trans b.tb⟩
/-- a new shared object -/
theorem Fm.new {G H : Hp} {p : Addr} {o : HO} (i : Ex G H) (h : H p = none) (t : isTbl o = false := by rfl) : Fm G H (upd G p o) (upd H p o) := by
  have hg : G p = none := i.back h
  exact ⟨Ex.new hg, Ex.new h, (i.mut hg).add upd_same t, fun a u e _ n => by rw [upd_ne (ne_of_none e h)]; exact n, Tb.upd (.inl h)⟩
/-- a new object that is not shared -/
theorem Fm.own {G H : Hp} {p : Addr} {o : HO} (i : Ex G H) (h : H p = none) : Fm G H G (upd H p o) :=
  ⟨Ex.refl _, Ex.new h, i.trans (Ex.new h), fun _ _ _ _ n => n, Tb.upd (.inl h)⟩
/-- a thing of the second heap is shared from here on -/
theorem Fm.share {G H G2 H2 : Hp} {p : Addr} {o : HO} (f : Fm G H G2 H2) (h : H p = none ∨ ∃ u, H p = some u ∧ ownO u = false) (h2 : H2 p = some o) (g2 : G2 p = none) (t : isTbl o = false) : Fm G H (upd G2 p o) H2 :=
  ⟨f.g.trans (Ex.new g2), f.h, f.i.add h2 t, (fun a u e hu n => by
    rw [upd_ne]; exact f.n a u e hu n
    intro z; subst z
    rcases h with q | ⟨v, q, hv⟩
    · rw [q] at e; cases e
    · rw [q] at e; cases e; rw [hv] at hu; cases hu), f.tb⟩

/-! ### a dict's pairs in the heap and as data -/
inductive Al (K : Fg) (G : Hp) : List (List Key × V) → List (List Int × D) → Prop
  | nil : Al K G [] []
  | cons {k : List Int} {v : V} {d : D} {kvs : List (List Key × V)} {al : List (List Int × D)} : Rp K G v d → Al K G kvs al → Al K G ((keyT k, v) :: kvs) ((k, d) :: al)
theorem Al.keys {K : Fg} {G : Hp} {kvs : List (List Key × V)} {al : List (List Int × D)} (h : Al K G kvs al) : kvs.map (·.1) = (al.map (·.1)).map keyT := by
  induction h with
  | nil => rfl
  | cons _ _ ih => simp [ih]
theorem Al.vals {K : Fg} {G : Hp} {kvs : List (List Key × V)} {al : List (List Int × D)} (h : Al K G kvs al) : RpL K G (kvs.map (·.2)) (al.map (·.2)) := by
  induction h with
  | nil => exact .nil
  | cons r _ ih => exact .cons r ih
theorem Al.up {K : Fg} {G G2 : Hp} {kvs : List (List Key × V)} {al : List (List Int × D)} (h : Al K G kvs al) (e : Ex G G2) : Al K G2 kvs al := by
  induction h with
  | nil => exact .nil
  | cons r _ ih => exact .cons (r.up e) ih
/-! ### slots -/
/-- a field of an object of one's own -/
inductive OF where
  | dat (d : D)
  | dic (a : Addr) (al : List (List Int × D))
  | lst (a : Addr) (ds : List D)
inductive SL where
  | no
  | dat (d : D)
  | lst (ds : List D)
  | dic (al : List (List Int × D))
  | obj (l C dx : Addr) (ns : List Str) (fs : List OF)
  | raw (v : V)
abbrev Evn := List SL
def OF.data : OF → D
  | .dat d => d
  | .dic _ al => .dct (al.map (·.1)) (al.map (·.2))
  | .lst _ ds => .list ds
def OF.foot : OF → List Addr
  | .dat _ => []
  | .dic a _ => [a]
  | .lst a _ => [a]
def OF.kind : OF → Kd
  | .dat _ => ⟨false, false, false⟩
  | .dic _ _ => ⟨false, true, false⟩
  | .lst _ _ => ⟨true, false, false⟩
def Kd.or (a b : Kd) : Kd := ⟨a.kl || b.kl, a.kd || b.kd, a.ko || b.ko⟩
theorem Kd.or_l {a b : Kd} {o : HO} (h : a.has o = true) : (a.or b).has o = true := by cases o <;> simp_all [Kd.has, Kd.or]
theorem Kd.or_r {a b : Kd} {o : HO} (h : b.has o = true) : (a.or b).has o = true := by cases o <;> simp_all [Kd.has, Kd.or]
def kinds : List OF → Kd
  | [] => ⟨false, false, true⟩
  | f :: fs => f.kind.or (kinds fs)
def foots : List OF → List Addr
  | [] => []
  | f :: fs => f.foot ++ foots fs
/-- the addresses of a slot's own thing that stands at l -/
def foot (l : Addr) : SL → List Addr
  | .obj _ _ dx _ fs => l :: dx :: foots fs
  | _ => [l]
def SL.kind : SL → Kd
  | .lst _ => ⟨true, false, false⟩
  | .dic _ => ⟨false, true, false⟩
  | .obj _ _ _ _ fs => kinds fs
  | _ => ⟨false, false, false⟩
inductive OFok (K : Fg) (G H : Hp) : V → OF → Prop
  | dat {v : V} {d : D} : Rp K G v d → OFok K G H v (.dat d)
  | dic {a : Addr} {kvs : List (List Key × V)} {al : List (List Int × D)} : H a = some (.dT kvs) → Al K G kvs al → OFok K G H (.ref a) (.dic a al)
  | lst {a : Addr} {xs : List V} {ds : List D} : H a = some (.lst xs) → RpL K G xs ds → OFok K G H (.ref a) (.lst a ds)
inductive OFs (K : Fg) (G H : Hp) : List V → List OF → Prop
  | nil : OFs K G H [] []
  | cons {v : V} {vs : List V} {f : OF} {fs : List OF} : OFok K G H v f → OFs K G H vs fs → OFs K G H (v :: vs) (f :: fs)
/-- what a slot owns, as it stands in the heap at l -/
inductive OwnAt (K : Fg) (G H : Hp) (l : Addr) : SL → Prop
  | lst {xs : List V} {ds : List D} : H l = some (.lst xs) → RpL K G xs ds → OwnAt K G H l (.lst ds)
  | dic {kvs : List (List Key × V)} {al : List (List Int × D)} : H l = some (.dT kvs) → Al K G kvs al → OwnAt K G H l (.dic al)
  | obj {C dx : Addr} {flds : List (Str × V)} {ns : List Str} {fs : List OF} : H l = some (.ins C dx flds) → H dx = some (.own l) → flds.map (·.1) = ns → OFs K G H (flds.map (·.2)) fs → (l :: dx :: foots fs).Nodup → OwnAt K G H l (.obj l C dx ns fs)
def isOwn : SL → Bool
  | .lst _ => true
  | .dic _ => true
  | .obj _ _ _ _ _ => true
  | _ => false
theorem OwnAt.own {K : Fg} {G H : Hp} {l : Addr} {s : SL} (h : OwnAt K G H l s) : isOwn s = true := by cases h <;> rfl
/-- as data -/
def SL.data : SL → D
  | .lst ds => .list ds
  | .dic al => .dct (al.map (·.1)) (al.map (·.2))
  | .obj _ C _ ns fs => .obj C ns (fs.map OF.data)
  | .dat d => d
  | _ => .none
section
variable {K : Fg} {G H G2 H2 : Hp}
theorem OFok.mono {v : V} {f : OF} (h : OFok K G H v f) (e : Ex G G2) (hf : ∀ a ∈ f.foot, H2 a = H a) : OFok K G2 H2 v f := by
  cases h with
  | dat r => exact .dat (r.up e)
  | dic h1 h2 => exact .dic (by rw [hf _ (by simp [OF.foot])]; exact h1) (h2.up e)
  | lst h1 h2 => exact .lst (by rw [hf _ (by simp [OF.foot])]; exact h1) (h2.up e)
theorem OFs.mono : ∀ {vs : List V} {fs : List OF}, OFs K G H vs fs → Ex G G2 → (∀ a ∈ foots fs, H2 a = H a) → OFs K G2 H2 vs fs
  | _, _, .nil, _, _ => .nil
  | _, _, .cons h t, e, hf => .cons (h.mono e fun a ha => hf a (by simp [foots, ha])) (OFs.mono t e fun a ha => hf a (by simp [foots, ha]))
theorem OwnAt.mono {l : Addr} {s : SL} (h : OwnAt K G H l s) (e : Ex G G2) (hf : ∀ a ∈ foot l s, H2 a = H a) : OwnAt K G2 H2 l s := by
  cases h with
  | lst h1 h2 => exact .lst (by rw [hf _ (by simp [foot])]; exact h1) (h2.up e)
  | dic h1 h2 => exact .dic (by rw [hf _ (by simp [foot])]; exact h1) (h2.up e)
  | obj h1 h2 h3 h4 h5 => exact .obj (by rw [hf _ (by simp [foot])]; exact h1) (by rw [hf _ (by simp [foot])]; exact h2) h3 (h4.mono e fun a ha => hf a (by simp [foot, ha])) h5
theorem OFs.kinds : ∀ {vs : List V} {fs : List OF}, OFs K G H vs fs → ∀ a ∈ foots fs, ∃ o, H a = some o ∧ ownO o = true ∧ (Ly.kinds fs).has o = true
  | _, _, .cons h t, a, ha => by
    rw [foots, List.mem_append] at ha
    rcases ha with ha | ha
    · cases h with
      | dat _ => simp [OF.foot] at ha
      | dic h1 _ => simp only [OF.foot, List.mem_singleton] at ha; subst ha; exact ⟨_, h1, rfl, Kd.or_l rfl⟩
      | lst h1 _ => simp only [OF.foot, List.mem_singleton] at ha; subst ha; exact ⟨_, h1, rfl, Kd.or_l rfl⟩
    · obtain ⟨o, h1, h2, h3⟩ := OFs.kinds t a ha
      exact ⟨o, h1, h2, Kd.or_r h3⟩
theorem kinds_ko : ∀ fs : List OF, (kinds fs).ko = true
  | [] => rfl
  | f :: fs => by simp [kinds, Kd.or, kinds_ko fs]
theorem OwnAt.kinds {l : Addr} {s : SL} (h : OwnAt K G H l s) : ∀ a ∈ foot l s, ∃ o, H a = some o ∧ ownO o = true ∧ s.kind.has o = true := by
  intro a ha
  cases h with
  | lst h1 h2 => simp only [foot, List.mem_singleton] at ha; subst ha; exact ⟨_, h1, rfl, rfl⟩
  | dic h1 h2 => simp only [foot, List.mem_singleton] at ha; subst ha; exact ⟨_, h1, rfl, rfl⟩
  | @obj C dx flds ns fs h1 h2 h3 h4 h5 =>
    simp only [foot, List.mem_cons] at ha
    rcases ha with ha | ha | ha
    · subst ha; exact ⟨_, h1, rfl, kinds_ko fs⟩
    · subst ha; exact ⟨_, h2, rfl, kinds_ko fs⟩
    · exact h4.kinds a ha
theorem foot_l {l : Addr} {s : SL} : l ∈ foot l s := by cases s <;> simp [foot]
/-- what fp tells is shared from the heap -/
def shr (G H : Hp) (fp : List Addr) : Hp := fun a => if a ∈ fp then H a else G a
theorem shr_in {fp : List Addr} {a : Addr} (h : a ∈ fp) : shr G H fp a = H a := by unfold shr; rw [if_pos h]
theorem shr_out {fp : List Addr} {a : Addr} (h : a ∉ fp) : shr G H fp a = G a := by unfold shr; rw [if_neg h]
theorem ex_shr {fp : List Addr} (hg : ∀ a ∈ fp, G a = none) : Ex G (shr G H fp) := ⟨(fun a o e t => by
  rw [shr_out]; exact e
  intro z; rw [hg a z] at e; cases e), (fun a o e t => by
  rw [shr_out]; exact ⟨o, e, t⟩
  intro z; rw [hg a z] at e; cases e)⟩
theorem OFs.rp : ∀ {vs : List V} {fs : List OF} {fp : List Addr}, OFs K G H vs fs → Ex G (shr G H fp) → (∀ a ∈ foots fs, a ∈ fp) → RpL K (shr G H fp) vs (fs.map OF.data)
  | _, _, _, .nil, _, _ => .nil
  | _, _, _, .cons h t, e, hf => by
    refine .cons ?_ (OFs.rp t e fun a ha => hf a (by simp [foots, ha]))
    cases h with
    | dat r => exact r.up e
    | dic h1 h2 => exact .dct (by rw [shr_in (hf _ (by simp [foots, OF.foot]))]; exact h1) h2.keys (h2.vals.up e)
    | lst h1 h2 => exact .lst (by rw [shr_in (hf _ (by simp [foots, OF.foot]))]; exact h1) (h2.up e)
theorem OwnAt.rp {l : Addr} {s : SL} (h : OwnAt K G H l s) (hg : ∀ a ∈ foot l s, G a = none) : Rp K (shr G H (foot l s)) (.ref l) s.data := by
  have e := ex_shr (H := H) hg
  cases h with
  | lst h1 h2 => exact .lst (by rw [shr_in foot_l]; exact h1) (h2.up e)
  | dic h1 h2 => exact .dct (by rw [shr_in foot_l]; exact h1) h2.keys (h2.vals.up e)
  | obj h1 h2 h3 h4 h5 => exact .obj (by rw [shr_in foot_l]; exact h1) h3 (h4.rp e fun a ha => by simp [foot, ha])
end
/-- things of the second heap are shared from here on -/
theorem Fm.shares {G H G2 H2 : Hp} {fp : List Addr} (f : Fm G H G2 H2) (h : ∀ a ∈ fp, H a = none ∧ G2 a = none ∧ ∃ o, H2 a = some o ∧ ownO o = true) : Fm G H (shr G2 H2 fp) H2 := by
  have e : Ex G2 (shr G2 H2 fp) := ex_shr fun a ha => (h a ha).2.1
  refine ⟨f.g.trans e, f.h, ⟨fun a o q t => ?_, fun a o q t => ?_⟩, fun a o q t n => ?_, f.tb⟩
  · by_cases z : a ∈ fp
    · rw [shr_in z] at q; exact q
    · rw [shr_out z] at q; exact f.i.o a o q t
  · by_cases z : a ∈ fp
    · rw [shr_in z] at q; exact ⟨o, q, t⟩
    · rw [shr_out z] at q; exact f.i.t a o q t
  · rw [shr_out]; exact f.n a o q t n
    intro z; rw [(h a z).1] at q; cases q
def Own : Option SL → Prop
  | some s => isOwn s = true
  | _ => False
/-- a is a slot's own -/
def ownAt (σ : St) (env : Evn) (a : Addr) : Prop := ∃ (j : Nat) (x : SL) (l : Addr), env[j]? = some x ∧ isOwn x = true ∧ σ[j]? = some (some (V.ref l)) ∧ a ∈ foot l x
structure SR (K : Fg) (G0 B G H : Hp) (σ : St) (env : Evn) : Prop where
  fm : Fm G0 B G H
  len : σ.length = env.length
  dt : ∀ (i : Nat) (d : D), env[i]? = some (.dat d) → ∃ v, σ[i]? = some (some v) ∧ Rp K G v d
  rw : ∀ (i : Nat) (v : V), env[i]? = some (.raw v) → σ[i]? = some (some v)
  ow : ∀ (i : Nat) (x : SL), env[i]? = some x → isOwn x = true → ∃ l, σ[i]? = some (some (.ref l)) ∧ OwnAt K G H l x ∧ ∀ a ∈ foot l x, B a = none ∧ G a = none
  ap : ∀ (i j : Nat) (x y : SL) (l m a : Addr), i ≠ j → env[i]? = some x → env[j]? = some y → isOwn x = true → isOwn y = true → σ[i]? = some (some (.ref l)) → σ[j]? = some (some (.ref m)) → a ∈ foot l x → a ∉ foot m y
  tk : TbK K H
section
variable {K : Fg} {G0 B G H G2 H2 : Hp} {σ : St} {env : Evn}
theorem SR.i (s : SR K G0 B G H σ env) : Ex G H := s.fm.i
theorem SR.datAt (s : SR K G0 B G H σ env) {i : Nat} {d : D} (e : env[i]? = some (.dat d)) : ∃ v, σ[i]? = some (some v) ∧ Rp K G v d := s.dt i d e
theorem SR.rawAt (s : SR K G0 B G H σ env) {i : Nat} {v : V} (e : env[i]? = some (.raw v)) : σ[i]? = some (some v) := s.rw i v e
theorem SR.ownS (s : SR K G0 B G H σ env) {i : Nat} {x : SL} (e : env[i]? = some x) (h : isOwn x = true) : ∃ l, σ[i]? = some (some (.ref l)) ∧ OwnAt K G H l x ∧ ∀ a ∈ foot l x, B a = none ∧ G a = none := s.ow i x e h
theorem SR.own_ (s : SR K G0 B G H σ env) {a : Addr} (h : ownAt σ env a) : B a = none ∧ G a = none ∧ ∃ o, H a = some o ∧ ownO o = true := by
  obtain ⟨j, x, l, e, hx, el, ha⟩ := h
  obtain ⟨m, h1, h2, h3⟩ := s.ow j x e hx
  rw [el] at h1; cases h1
  obtain ⟨o, h4, h5, _⟩ := h2.kinds a ha
  exact ⟨(h3 a ha).1, (h3 a ha).2, o, h4, h5⟩
theorem SR.fwd (s : SR K G0 B G H σ env) (f : Fm G H G2 H2) : SR K G0 B G2 H2 σ env := by
  refine ⟨s.fm.trans f, s.len, fun i d e => ?_, s.rw, fun i x e hx => ?_, s.ap, s.tk.up f.tb⟩
  · obtain ⟨v, h1, h2⟩ := s.dt i d e
    exact ⟨v, h1, h2.up f.g⟩
  · obtain ⟨l, h1, h2, h3⟩ := s.ow i x e hx
    refine ⟨l, h1, h2.mono f.g fun a ha => ?_, fun a ha => ?_⟩
    · obtain ⟨o, h4, h5, _⟩ := h2.kinds a ha
      rw [h4]; exact f.h.o a o h4 (own_tbl h5)
    · obtain ⟨o, h4, h5, _⟩ := h2.kinds a ha
      exact ⟨(h3 a ha).1, f.n a o h4 h5 (h3 a ha).2⟩
theorem set_over {α : Type} {l : List α} {i : Nat} {x : α} (h : ¬ i < l.length) : l.set i x = l := List.set_eq_of_length_le (by omega)
/-- a slot is stored with what is no own thing -/
theorem SR.set_ (s : SR K G0 B G H σ env) {i : Nat} {v : V} {x : SL} (hx : isOwn x = false) (h1 : ∀ d, x = .dat d → Rp K G v d) (h2 : ∀ w, x = .raw w → w = v) : SR K G0 B G H (σ.set i (some v)) (env.set i x) := by
  by_cases hi : i < env.length
  case neg => rw [set_over hi, set_over (by rw [s.len]; exact hi)]; exact s
  have hs : i < σ.length := by rw [s.len]; exact hi
  refine ⟨s.fm, by simp [s.len], fun j d e => ?_, fun j w e => ?_, fun j y e hy => ?_, fun j k y z l m a hjk ej ek hy hz el em => ?_, s.tk⟩
  · by_cases q : i = j
    · subst q
      rw [List.getElem?_set_self hi] at e
      cases e
      exact ⟨v, by rw [List.getElem?_set_self hs], h1 d rfl⟩
    · rw [List.getElem?_set_ne q] at e ⊢; exact s.dt j d e
  · by_cases q : i = j
    · subst q
      rw [List.getElem?_set_self hi] at e
      cases e
      rw [List.getElem?_set_self hs, h2 w rfl]
    · rw [List.getElem?_set_ne q] at e ⊢; exact s.rw j w e
  · by_cases q : i = j
    · subst q
      rw [List.getElem?_set_self hi] at e
      cases e; rw [hx] at hy; cases hy
    · rw [List.getElem?_set_ne q] at e ⊢; exact s.ow j y e hy
  · by_cases q : i = j
    · subst q
      rw [List.getElem?_set_self hi] at ej
      cases ej; rw [hx] at hy; cases hy
    · by_cases q' : i = k
      · subst q'
        rw [List.getElem?_set_self hi] at ek
        cases ek; rw [hx] at hz; cases hz
      · rw [List.getElem?_set_ne q] at ej el
        rw [List.getElem?_set_ne q'] at ek em
        exact s.ap j k y z l m a hjk ej ek hy hz el em
theorem SR.set (s : SR K G0 B G H σ env) {i : Nat} {v : V} {d : D} (h : Rp K G v d) : SR K G0 B G H (σ.set i (some v)) (env.set i (.dat d)) := s.set_ rfl (fun _ e => by cases e; exact h) (fun _ e => nomatch e)
theorem SR.setRaw (s : SR K G0 B G H σ env) {i : Nat} (v : V) : SR K G0 B G H (σ.set i (some v)) (env.set i (.raw v)) := s.set_ rfl (fun _ e => nomatch e) (fun _ e => by cases e; rfl)
/-- .. with a new thing of one's own -/
theorem SR.setOwn (s : SR K G0 B G H σ env) {i : Nat} {p : Addr} {x : SL} (h : OwnAt K G H p x) (hb : ∀ a ∈ foot p x, B a = none ∧ G a = none ∧ ¬ ownAt σ env a) : SR K G0 B G H (σ.set i (some (.ref p))) (env.set i x) := by
  by_cases hi : i < env.length
  case neg => rw [set_over hi, set_over (by rw [s.len]; exact hi)]; exact s
  have hs : i < σ.length := by rw [s.len]; exact hi
  have ho := h.own
  refine ⟨s.fm, by simp [s.len], fun j d e => ?_, fun j w e => ?_, fun j y e hy => ?_, fun j k y z l m a hjk ej ek hy hz el em ha => ?_, s.tk⟩
  · by_cases q : i = j
    · subst q
      rw [List.getElem?_set_self hi] at e
      cases e; cases ho
    · rw [List.getElem?_set_ne q] at e ⊢; exact s.dt j d e
  · by_cases q : i = j
    · subst q
      rw [List.getElem?_set_self hi] at e
      cases e; cases ho
    · rw [List.getElem?_set_ne q] at e ⊢; exact s.rw j w e
  · by_cases q : i = j
    · subst q
      rw [List.getElem?_set_self hi] at e
      cases e
      exact ⟨p, by rw [List.getElem?_set_self hs], h, fun a ha => ⟨(hb a ha).1, (hb a ha).2.1⟩⟩
    · rw [List.getElem?_set_ne q] at e ⊢; exact s.ow j y e hy
  · by_cases q : i = j
    · subst q
      rw [List.getElem?_set_self hi] at ej
      rw [List.getElem?_set_self hs] at el
      rw [List.getElem?_set_ne hjk] at ek em
      cases ej; cases el
      exact fun hm => (hb a ha).2.2 ⟨k, z, m, ek, hz, em, hm⟩
    · rw [List.getElem?_set_ne q] at ej el
      by_cases q' : i = k
      · subst q'
        rw [List.getElem?_set_self hi] at ek
        rw [List.getElem?_set_self hs] at em
        cases ek; cases em
        exact fun hm => (hb a hm).2.2 ⟨j, y, l, ej, hy, el, ha⟩
      · rw [List.getElem?_set_ne q'] at ek em
        exact s.ap j k y z l m a hjk ej ek hy hz el em ha
/-- an own thing written: the heap differs from the old one at most at the addresses of the new one; they are the old one's, or new -/
theorem SR.mut (s : SR K G0 B G H σ env) {i : Nat} {x y : SL} (e : env[i]? = some x) (hx : isOwn x = true) {l : Addr} (el : σ[i]? = some (some (.ref l))) {H' : Hp} (h : OwnAt K G H' l y)
    (hs : ∀ a, a ∉ foot l y → H' a = H a) (hf : ∀ a ∈ foot l y, a ∈ foot l x ∨ (B a = none ∧ G a = none ∧ ¬ ownAt σ env a ∧ (H a = none ∨ ∃ o, H a = some o ∧ ownO o = true))) : SR K G0 B G H' σ (env.set i y) := by
  have hi : i < env.length := (List.getElem?_eq_some_iff.mp e).1
  obtain ⟨l', h1, h2, h3⟩ := s.ow i x e hx
  rw [el] at h1; cases h1
  have hb : ∀ a ∈ foot l y, B a = none ∧ G a = none ∧ (H a = none ∨ ∃ o, H a = some o ∧ ownO o = true) := fun a ha => by
    rcases hf a ha with z | ⟨z1, z2, z3, z4⟩
    · obtain ⟨o, h4, h5, _⟩ := h2.kinds a z
      exact ⟨(h3 a z).1, (h3 a z).2, .inr ⟨o, h4, h5⟩⟩
    · exact ⟨z1, z2, z4⟩
  have bx : ∀ {F : Hp}, (∀ a ∈ foot l y, F a = none) → Ex F H → Ex F H' := fun {F} hn ex => ⟨(fun a o q t => by
    rw [hs a]; exact ex.o a o q t
    intro z; rw [hn a z] at q; cases q), (fun a o q t => by
    rw [hs a]; exact ex.t a o q t
    intro z; rw [hn a z] at q; cases q)⟩
  have tb : Tb H H' := fun P ⟨ps, t1, t2, t3⟩ => by
    have ne : ∀ a o, H a = some o → ownO o = false → H' a = some o := fun a o q t => by
      rw [hs a]; exact q
      intro z
      rcases (hb a z).2.2 with w | ⟨u, w, w'⟩
      · rw [w] at q; cases q
      · rw [w] at q; cases q; rw [t] at w'; cases w'
    refine ⟨ps, ne _ _ t1 rfl, t2, fun pos cv hc => ?_⟩
    obtain ⟨c, e1, e2⟩ := t3 pos cv hc
    exact ⟨c, e1, ne _ _ e2 rfl⟩
  have apart : ∀ (j : Nat) (z : SL) (m a : Addr), i ≠ j → env[j]? = some z → isOwn z = true → σ[j]? = some (some (.ref m)) → a ∈ foot m z → a ∉ foot l y := fun j z m a hij ej hz em ha w => by
    rcases hf a w with u | ⟨_, _, u, _⟩
    · exact s.ap i j x z l m a hij e ej hx hz el em u ha
    · exact u ⟨j, z, m, ej, hz, em, ha⟩
  refine ⟨⟨s.fm.g, bx (fun a ha => (hb a ha).1) s.fm.h, bx (fun a ha => (hb a ha).2.1) s.fm.i, s.fm.n, s.fm.tb.trans tb⟩, by simp [s.len], fun j d ej => ?_, fun j w ej => ?_, fun j z ej hz => ?_, fun j k z w lj lk a hjk ej ek hz hw elj elk ha => ?_, s.tk.up tb⟩
  · by_cases q : i = j
    · subst q
      rw [List.getElem?_set_self hi] at ej
      cases ej; cases h
    · rw [List.getElem?_set_ne q] at ej; exact s.dt j d ej
  · by_cases q : i = j
    · subst q
      rw [List.getElem?_set_self hi] at ej
      cases ej; cases h
    · rw [List.getElem?_set_ne q] at ej; exact s.rw j w ej
  · by_cases q : i = j
    · subst q
      rw [List.getElem?_set_self hi] at ej
      cases ej
      exact ⟨l, el, h, fun a ha => ⟨(hb a ha).1, (hb a ha).2.1⟩⟩
    · rw [List.getElem?_set_ne q] at ej
      obtain ⟨m, g1, g2, g3⟩ := s.ow j z ej hz
      exact ⟨m, g1, g2.mono (Ex.refl _) fun a ha => hs a (apart j z m a q ej hz g1 ha), g3⟩
  · by_cases q : i = j
    · subst q
      rw [List.getElem?_set_self hi] at ej
      rw [List.getElem?_set_ne hjk] at ek
      cases ej
      rw [el] at elj; cases elj
      exact fun hm => apart k w lk a hjk ek hw elk hm ha
    · rw [List.getElem?_set_ne q] at ej
      by_cases q' : i = k
      · subst q'
        rw [List.getElem?_set_self hi] at ek
        cases ek
        rw [el] at elk; cases elk
        exact apart j z lj a q ej hz elj ha
      · rw [List.getElem?_set_ne q'] at ek
        exact s.ap j k z w lj lk a hjk ej ek hz hw elj elk ha
/-- a list or dict of one's own written -/
theorem SR.write (s : SR K G0 B G H σ env) {i : Nat} {x y : SL} (e : env[i]? = some x) (hx : isOwn x = true) {l : Addr} (el : σ[i]? = some (some (.ref l))) {o : HO} (h : OwnAt K G (upd H l o) l y) (hy : foot l y = [l]) : SR K G0 B G (upd H l o) σ (env.set i y) :=
  s.mut e hx el h (fun a ha => upd_ne (fun z => ha (by rw [hy, z]; exact List.mem_singleton.mpr rfl))) fun a ha => by
    rw [hy, List.mem_singleton] at ha; subst ha; exact .inl foot_l
/-- an own thing is shared from here on -/
theorem SR.freeze (s : SR K G0 B G H σ env) {i : Nat} {x : SL} (e : env[i]? = some x) (hx : isOwn x = true) : ∃ l, σ[i]? = some (some (.ref l)) ∧ (∀ a ∈ foot l x, G a = none ∧ ∃ o, H a = some o ∧ ownO o = true ∧ x.kind.has o = true) ∧ SR K G0 B (shr G H (foot l x)) H σ (env.set i (.dat x.data)) := by
  have hi : i < env.length := (List.getElem?_eq_some_iff.mp e).1
  obtain ⟨l, h1, h2, h3⟩ := s.ow i x e hx
  have eg : Ex G (shr G H (foot l x)) := ex_shr fun a ha => (h3 a ha).2
  refine ⟨l, h1, fun a ha => ⟨(h3 a ha).2, h2.kinds a ha⟩, s.fm.shares (fun a ha => ⟨(h3 a ha).1, (h3 a ha).2, let ⟨o, z1, z2, _⟩ := h2.kinds a ha; ⟨o, z1, z2⟩⟩), by simp [s.len], fun j d ej => ?_, fun j w ej => ?_, fun j z ej hz => ?_, fun j k z w lj lk a hjk ej ek hz hw elj elk ha => ?_, s.tk⟩
  · by_cases q : i = j
    · subst q
      rw [List.getElem?_set_self hi] at ej
      cases ej
      exact ⟨_, h1, h2.rp fun a ha => (h3 a ha).2⟩
    · rw [List.getElem?_set_ne q] at ej
      obtain ⟨v, g1, g2⟩ := s.dt j d ej
      exact ⟨v, g1, g2.up eg⟩
  · by_cases q : i = j
    · subst q
      rw [List.getElem?_set_self hi] at ej
      cases ej
    · rw [List.getElem?_set_ne q] at ej; exact s.rw j w ej
  · by_cases q : i = j
    · subst q
      rw [List.getElem?_set_self hi] at ej
      cases ej; cases hz
    · rw [List.getElem?_set_ne q] at ej
      obtain ⟨m, g1, g2, g3⟩ := s.ow j z ej hz
      refine ⟨m, g1, g2.mono eg fun a ha => rfl, fun a ha => ⟨(g3 a ha).1, ?_⟩⟩
      rw [shr_out fun w => s.ap i j x z l m a q e ej hx hz h1 g1 w ha]
      exact (g3 a ha).2
  · by_cases q : i = j
    · subst q
      rw [List.getElem?_set_self hi] at ej
      cases ej; cases hz
    · by_cases q' : i = k
      · subst q'
        rw [List.getElem?_set_self hi] at ek
        cases ek; cases hw
      · rw [List.getElem?_set_ne q] at ej
        rw [List.getElem?_set_ne q'] at ek
        exact s.ap j k z w lj lk a hjk ej ek hz hw elj elk ha
/-- forget slots -/
theorem SR.forget (s : SR K G0 B G H σ env) {σ' : St} {env' : Evn} (hl : σ'.length = env'.length) (h : ∀ (i : Nat) (x : SL), env'[i]? = some x → x = .no ∨ (env[i]? = some x ∧ σ'[i]? = σ[i]?)) : SR K G0 B G H σ' env' := by
  have at_ : ∀ {i : Nat} {x : SL}, env'[i]? = some x → x ≠ .no → env[i]? = some x ∧ σ'[i]? = σ[i]? := fun e n => (h _ _ e).resolve_left n
  have no : ∀ {x : SL}, isOwn x = true → x ≠ .no := fun h z => by subst z; cases h
  refine ⟨s.fm, hl, fun i d e => ?_, fun i v e => ?_, fun i x e hx => ?_, fun i j x y l m a hij ei ej hx hy el em => ?_, s.tk⟩
  · obtain ⟨e1, e2⟩ := at_ e (fun z => nomatch z)
    rw [e2]; exact s.dt i d e1
  · obtain ⟨e1, e2⟩ := at_ e (fun z => nomatch z)
    rw [e2]; exact s.rw i v e1
  · obtain ⟨e1, e2⟩ := at_ e (no hx)
    rw [e2]; exact s.ow i x e1 hx
  · obtain ⟨e1, e2⟩ := at_ ei (no hx)
    obtain ⟨e3, e4⟩ := at_ ej (no hy)
    rw [e2] at el; rw [e4] at em
    exact s.ap i j x y l m a hij e1 e3 hx hy el em
open Classical in
/-- the slots' own things taken out of the heap: a new base -/
noncomputable def bare (H : Hp) (σ : St) (env : Evn) : Hp := fun a => if ownAt σ env a then none else H a
theorem bare_own {H : Hp} {σ : St} {env : Evn} {a : Addr} (h : ownAt σ env a) : bare H σ env a = none := by unfold bare; rw [if_pos h]
theorem bare_not {H : Hp} {σ : St} {env : Evn} {a : Addr} (h : ¬ ownAt σ env a) : bare H σ env a = H a := by unfold bare; rw [if_neg h]
theorem SR.rebase (s : SR K G0 B G H σ env) : Fm G0 B G (bare H σ env) ∧ SR K G (bare H σ env) G H σ env := by
  have gb : Ex G (bare H σ env) := ⟨(fun a o q t => by
    rw [bare_not]; exact s.i.o a o q t
    intro z; rw [(s.own_ z).2.1] at q; cases q), (fun a o q t => by
    rw [bare_not]; exact s.i.t a o q t
    intro z; rw [(s.own_ z).2.1] at q; cases q)⟩
  have bh : ∀ a o, bare H σ env a = some o → H a = some o := fun a o q => by
    by_cases z : ownAt σ env a
    · rw [bare_own z] at q; cases q
    · rw [bare_not z] at q; exact q
  have hb : ∀ a o, H a = some o → ownO o = false → bare H σ env a = some o := fun a o q t => by
    rw [bare_not]; exact q
    intro z; obtain ⟨_, _, u, hu, ho⟩ := s.own_ z
    rw [q] at hu; cases hu; rw [t] at ho; cases ho
  refine ⟨⟨s.fm.g, ⟨fun a o q t => ?_, fun a o q t => ?_⟩, gb, s.fm.n, s.fm.tb.trans fun P hP => ?_⟩, ⟨⟨Ex.refl _, ⟨fun a o q _ => bh a o q, fun a o q t => ⟨o, bh a o q, t⟩⟩, s.i, fun _ _ _ _ h => h, fun P hP => ?_⟩, s.len, s.dt, s.rw, fun i x e hx => ?_, s.ap, s.tk⟩⟩
  · rw [bare_not]; exact s.fm.h.o a o q t
    intro z; rw [(s.own_ z).1] at q; cases q
  · rw [bare_not]; exact s.fm.h.t a o q t
    intro z; rw [(s.own_ z).1] at q; cases q
  · obtain ⟨ps, h1, h2, h3⟩ := hP
    refine ⟨ps, hb _ _ h1 rfl, h2, fun pos cv hc => ?_⟩
    obtain ⟨c, e1, e2⟩ := h3 pos cv hc
    exact ⟨c, e1, hb _ _ e2 rfl⟩
  · obtain ⟨ps, h1, h2, h3⟩ := hP
    refine ⟨ps, bh _ _ h1, h2, fun pos cv hc => ?_⟩
    obtain ⟨c, e1, e2⟩ := h3 pos cv hc
    exact ⟨c, e1, bh _ _ e2⟩
  · obtain ⟨l, h1, h2, h3⟩ := s.ow i x e hx
    exact ⟨l, h1, h2, fun a ha => ⟨bare_own ⟨i, x, l, e, hx, h1, ha⟩, (h3 a ha).2⟩⟩
theorem SR.over {G1 B1 : Hp} (f : Fm G0 B G1 B1) (s : SR K G1 B1 G H σ env) : SR K G0 B G H σ env :=
  ⟨f.trans s.fm, s.len, s.dt, s.rw, fun i x e hx => let ⟨l, h1, h2, h3⟩ := s.ow i x e hx; ⟨l, h1, h2, fun a ha => ⟨f.h.back (h3 a ha).1, (h3 a ha).2⟩⟩, s.ap, s.tk⟩
end
end Ly

namespace Ly
open PySem L2
/-! ### what evaluates to what -/
def EvD (K : Fg) (te : TE) (env : Evn) (d : D) : Prop := ∀ G0 B G H σ, SR K G0 B G H σ env → ∀ Q : VK, (∀ v G2 H2, Fm G H G2 H2 → Rp K G2 v d → Q v H2) → te σ H Q
def EvT (K : Fg) (tt : TT) (env : Evn) (b : Bool) : Prop := ∀ G0 B G H σ, SR K G0 B G H σ env → ∀ Q : Bool → Hp → Prop, (∀ G2 H2, Fm G H G2 H2 → Q b H2) → tt σ H Q
def EvA (K : Fg) (ta : TA) (env : Evn) (ds : List D) : Prop := ∀ G0 B G H σ, SR K G0 B G H σ env → ∀ Q : List V → Hp → Prop, (∀ vs G2 H2, Fm G H G2 H2 → RpL K G2 vs ds → Q vs H2) → ta σ H Q
def EvO (K : Fg) (to : TO) (env : Evn) (o : Option Int) : Prop := ∀ G0 B G H σ, SR K G0 B G H σ env → ∀ Q : Option Int → Hp → Prop, (∀ G2 H2, Fm G H G2 H2 → Q o H2) → to σ H Q
/-- a new list of one's own -/
def EvN (K : Fg) (te : TE) (env : Evn) (ds : List D) : Prop := ∀ G0 B G H σ, SR K G0 B G H σ env → ∀ Q : VK, (∀ p xs G2 H2, Fm G H G2 H2 → H p = none → G2 p = none → H2 p = some (.lst xs) → RpL K G2 xs ds → Q (.ref p) H2) → te σ H Q
/-- an operation on data -/
def RD (K : Fg) (r : R2) (a b d : D) : Prop := ∀ G H x y, Ex G H → Rp K G x a → Rp K G y b → ∀ Q : VK, (∀ v G2 H2, Fm G H G2 H2 → Rp K G2 v d → Q v H2) → r x y H Q
def RC (K : Fg) (r : List V → Hp → VK → Prop) (as : List D) (d : D) : Prop := ∀ G H xs, Ex G H → RpL K G xs as → ∀ Q : VK, (∀ v G2 H2, Fm G H G2 H2 → Rp K G2 v d → Q v H2) → r xs H Q
def RCN (K : Fg) (r : List V → Hp → VK → Prop) (as : List D) (ds : List D) : Prop := ∀ G H xs, Ex G H → RpL K G xs as → ∀ Q : VK, (∀ p ys G2 H2, Fm G H G2 H2 → H p = none → G2 p = none → H2 p = some (.lst ys) → RpL K G2 ys ds → Q (.ref p) H2) → r xs H Q
def RDN (K : Fg) (r : R2) (a b : D) (ds : List D) : Prop := ∀ G H x y, Ex G H → Rp K G x a → Rp K G y b → ∀ Q : VK, (∀ p ys G2 H2, Fm G H G2 H2 → H p = none → G2 p = none → H2 p = some (.lst ys) → RpL K G2 ys ds → Q (.ref p) H2) → r x y H Q
section
variable {K : Fg} {env : Evn} {te ta tb tc : TE} {t u : TT} {d a b c : D}
theorem share_new {G H G2 H2 : Hp} {p : Addr} {xs : List V} {ds : List D} (f : Fm G H G2 H2) (h1 : H p = none) (h2 : G2 p = none) (h3 : H2 p = some (.lst xs)) (h4 : RpL K G2 xs ds) :
    Fm G H (upd G2 p (.lst xs)) H2 ∧ Rp K (upd G2 p (.lst xs)) (.ref p) (.list ds) :=
  ⟨f.share (.inl h1) h3 h2 rfl, .lst upd_same (h4.up (Ex.new h2))⟩
theorem ev_ofN {ds : List D} (h : EvN K te env ds) : EvD K te env (.list ds) := fun G0 B G H σ s Q q =>
  h G0 B G H σ s Q fun p xs G2 H2 f h1 h2 h3 h4 => by
    obtain ⟨f', r⟩ := share_new f h1 h2 h3 h4
    exact q _ _ _ f' r
theorem rc_ofN {r : List V → Hp → VK → Prop} {as ds : List D} (h : RCN K r as ds) : RC K r as (.list ds) := fun G H xs i hx Q q =>
  h G H xs i hx Q fun p xs G2 H2 f h1 h2 h3 h4 => by
    obtain ⟨f', r⟩ := share_new f h1 h2 h3 h4
    exact q _ _ _ f' r
theorem rd_ofN {r : R2} {ds : List D} (h : RDN K r a b ds) : RD K r a b (.list ds) := fun G H x y i hx hy Q q =>
  h G H x y i hx hy Q fun p xs G2 H2 f h1 h2 h3 h4 => by
    obtain ⟨f', r⟩ := share_new f h1 h2 h3 h4
    exact q _ _ _ f' r
theorem ev_is (h : EvD K te env d) (e : d = c) : EvD K te env c := e ▸ h
theorem et_is {x y : Bool} (h : EvT K t env x) (e : x = y) : EvT K t env y := e ▸ h
theorem evn_is {x y : List D} (h : EvN K te env x) (e : x = y) : EvN K te env y := e ▸ h
/-! names, constants -/
theorem ev_var {i : Nat} (h : env[i]? = some (.dat d)) : EvD K (tVar i) env d := fun G0 B G H σ s Q q => by
  obtain ⟨v, h1, h2⟩ := s.datAt h
  exact ⟨v, h1, q v G H (Fm.refl s.i) h2⟩
theorem ev_int {i : Int} : EvD K (tC (.int i)) env (.int i) := fun G0 B G H σ s Q q => q _ G H (Fm.refl s.i) (.int i)
theorem ev_str {i : Str} : EvD K (tC (.str i)) env (.str i) := fun G0 B G H σ s Q q => q _ G H (Fm.refl s.i) (.str i)
theorem ev_bl {i : Bool} : EvD K (tC (.bl i)) env (.bool i) := fun G0 B G H σ s Q q => q _ G H (Fm.refl s.i) (.bl i)
theorem ev_non : EvD K (tC .non) env .none := fun G0 B G H σ s Q q => q _ G H (Fm.refl s.i) .non
/-- an own list read while it stands: what is found has no list in it -/
theorem thaw_fm {G G2 H H2 : Hp} {fp : List Addr} (h2 : ∀ a ∈ fp, G a = none) (f : Fm (shr G H fp) H G2 H2) : Fm G H (Ly.del G2 fp) H2 := by
  have out : ∀ {a : Addr} {o : HO}, G a = some o → a ∉ fp := fun e z => by rw [h2 _ z] at e; cases e
  have un : ∀ {a : Addr} {o : HO}, Ly.del G2 fp a = some o → G2 a = some o := fun {a o} e => by
    by_cases z : a ∈ fp
    · rw [del_in z] at e; cases e
    · rw [del_out z] at e; exact e
  refine ⟨⟨fun a o e t => ?_, fun a o e t => ?_⟩, f.h, ⟨fun a o e t => f.i.o a o (un e) t, fun a o e t => f.i.t a o (un e) t⟩, fun a o e t n => ?_, f.tb⟩
  · rw [del_out (out e)]; exact f.g.o a o (by rw [shr_out (out e)]; exact e) t
  · rw [del_out (out e)]; exact f.g.t a o (by rw [shr_out (out e)]; exact e) t
  · by_cases z : a ∈ fp
    · exact del_in z
    · rw [del_out z]; exact f.n a o e t (by rw [shr_out z]; exact n)
theorem ev_thaw {i : Nat} {x : SL} (he : env[i]? = some x) (hx : isOwn x = true) (hn : cln x.kind d = true) (h : EvD K te (env.set i (.dat x.data)) d) : EvD K te env d := fun G0 B G H σ s Q q => by
  obtain ⟨l, h1, h2, s'⟩ := s.freeze he hx
  refine h G0 B _ H σ s' Q fun v G2 H2 f r => ?_
  exact q v (Ly.del G2 (foot l x)) H2 (thaw_fm (fun a ha => (h2 a ha).1) f) (Rp.del (k := x.kind) (fun a ha => let ⟨_, o, z1, z2, z3⟩ := h2 a ha; ⟨o, f.g.o a o (by rw [shr_in ha]; exact z1) (own_tbl z2), z3⟩) d v hn r)
theorem et_thaw {i : Nat} {y : SL} {x : Bool} (he : env[i]? = some y) (hy : isOwn y = true) (h : EvT K t (env.set i (.dat y.data)) x) : EvT K t env x := fun G0 B G H σ s Q q => by
  obtain ⟨l, h1, h2, s'⟩ := s.freeze he hy
  exact h G0 B _ H σ s' Q fun G2 H2 f => q _ H2 (thaw_fm (fun a ha => (h2 a ha).1) f)
/-! operations -/
theorem ev_op {r : R2} (ha : EvD K ta env a) (hb : EvD K tb env b) (hr : RD K r a b d) : EvD K (tOp r ta tb) env d := fun G0 B G H σ s Q q =>
  ha G0 B G H σ s _ fun x G1 H1 f1 r1 => hb G0 B G1 H1 σ (s.fwd f1) _ fun y G2 H2 f2 r2 =>
    hr G2 H2 x y f2.i (r1.up f2.g) r2 Q fun v G3 H3 f3 r3 => q v G3 H3 ((f1.trans f2).trans f3) r3
theorem evn_op {r : R2} {ds : List D} (ha : EvD K ta env a) (hb : EvD K tb env b) (hr : RDN K r a b ds) : EvN K (tOp r ta tb) env ds := fun G0 B G H σ s Q q =>
  ha G0 B G H σ s _ fun x G1 H1 f1 r1 => hb G0 B G1 H1 σ (s.fwd f1) _ fun y G2 H2 f2 r2 =>
    hr G2 H2 x y f2.i (r1.up f2.g) r2 Q fun p xs G3 H3 f3 h1 h2 h3 h4 => q p xs G3 H3 ((f1.trans f2).trans f3) ((f1.h.trans f2.h).back h1) h2 h3 h4
theorem rd_I0 {g : Int → Int → V} {i j : Int} (h : ∀ H, Rp K H (g i j) d) : RD K (rI0 g) (.int i) (.int j) d := fun G H x y e hx hy Q q => by
  cases hx; cases hy
  exact ⟨i, j, rfl, rfl, q _ G H (Fm.refl e) (h G)⟩
theorem rd_I {C : Int → Int → Prop} {g : Int → Int → V} {i j : Int} (hc : C i j) (h : ∀ H, Rp K H (g i j) d) : RD K (rI C g) (.int i) (.int j) d := fun G H x y e hx hy Q q => by
  cases hx; cases hy
  exact ⟨i, j, rfl, rfl, hc, q _ G H (Fm.refl e) (h G)⟩
theorem ev_add {i j : Int} (ha : EvD K ta env (.int i)) (hb : EvD K tb env (.int j)) : EvD K (tOp (rI0 fun i j => .int (i + j)) ta tb) env (.int (i + j)) := ev_op ha hb (rd_I0 fun _ => .int _)
theorem ev_sub {i j : Int} (ha : EvD K ta env (.int i)) (hb : EvD K tb env (.int j)) : EvD K (tOp (rI0 fun i j => .int (i - j)) ta tb) env (.int (i - j)) := ev_op ha hb (rd_I0 fun _ => .int _)
theorem ev_mul {i j : Int} (ha : EvD K ta env (.int i)) (hb : EvD K tb env (.int j)) (hc : CMul i j) : EvD K (tOp (rI CMul fun i j => .int (i * j)) ta tb) env (.int (i * j)) := ev_op ha hb (rd_I hc fun _ => .int _)
theorem ev_div {i j : Int} (ha : EvD K ta env (.int i)) (hb : EvD K tb env (.int j)) (hc : CDiv i j) : EvD K (tOp (rI CDiv fun i j => .int (i / j)) ta tb) env (.int (i / j)) := ev_op ha hb (rd_I hc fun _ => .int _)
theorem ev_mod {i j : Int} (ha : EvD K ta env (.int i)) (hb : EvD K tb env (.int j)) (hc : 0 < j) : EvD K (tOp (rI (fun _ j => 0 < j) fun i j => .int (i % j)) ta tb) env (.int (i % j)) := ev_op ha hb (rd_I (C := fun _ j => 0 < j) hc fun _ => .int _)
theorem ev_pow {i j : Int} (ha : EvD K ta env (.int i)) (hb : EvD K tb env (.int j)) (hc : CPow i j) : EvD K (tOp (rI CPow fun i j => .int (i ^ j.toNat)) ta tb) env (.int (i ^ j.toNat)) := ev_op ha hb (rd_I hc fun _ => .int _)
theorem ev_neg {i : Int} (ha : EvD K ta env (.int i)) : EvD K (tUn (rU fun i => .int (-i)) ta) env (.int (-i)) := fun G0 B G H σ s Q q =>
  ha G0 B G H σ s _ fun x G1 H1 f1 r1 => by cases r1; exact ⟨i, rfl, q _ G1 H1 f1 (.int _)⟩
theorem rd_lt {i j : Int} : RD K (rI0 fun i j => .bl (decide (i < j))) (.int i) (.int j) (.bool (decide (i < j))) := rd_I0 fun _ => .bl _
theorem rd_le {i j : Int} : RD K (rI0 fun i j => .bl (decide (i ≤ j))) (.int i) (.int j) (.bool (decide (i ≤ j))) := rd_I0 fun _ => .bl _
theorem rd_gt {i j : Int} : RD K (rI0 fun i j => .bl (decide (j < i))) (.int i) (.int j) (.bool (decide (j < i))) := rd_I0 fun _ => .bl _
theorem rd_ge {i j : Int} : RD K (rI0 fun i j => .bl (decide (j ≤ i))) (.int i) (.int j) (.bool (decide (j ≤ i))) := rd_I0 fun _ => .bl _
/-- data that == may be asked of; its answer -/
def shp (a : D) : Bool := SeqAt.shaped (toPy a)
def eqD (a b : D) : Bool := PyData.eqv (toPy a) (toPy b)
theorem rd_eq (ha : shp a = true) (hb : shp b = true) : RD K (rEqD K) a b (.bool (eqD a b)) := fun G H x y e hx hy Q q =>
  ⟨toPy a, toPy b, Rp.dp _ _ (SeqAt.canLay_of_shaped ha) (hx.up e), Rp.dp _ _ (SeqAt.canLay_of_shaped hb) (hy.up e), ha, hb, q _ G H (Fm.refl e) (.bl _)⟩
theorem rd_ne (ha : shp a = true) (hb : shp b = true) : RD K (rNeD K) a b (.bool (!eqD a b)) := fun G H x y e hx hy Q q =>
  ⟨toPy a, toPy b, Rp.dp _ _ (SeqAt.canLay_of_shaped ha) (hx.up e), Rp.dp _ _ (SeqAt.canLay_of_shaped hb) (hy.up e), ha, hb, q _ G H (Fm.refl e) (.bl _)⟩
/-- is None, is not None -/
def isNone : D → Bool
  | .none => true
  | _ => false
theorem rp_none {H : Hp} {x : V} (h : Rp K H x a) : decide (x = .non) = isNone a := by
  cases h <;> simp [isNone]
theorem rd_isN : RD K (fun x y H Q => y = .non ∧ Q (.bl (decide (x = .non))) H) a .none (.bool (isNone a)) := fun G H x y e hx hy Q q => by
  cases hy
  refine ⟨rfl, q _ G H (Fm.refl e) ?_⟩
  rw [rp_none hx]; exact .bl _
theorem rd_notN : RD K (fun x y H Q => y = .non ∧ Q (.bl (!decide (x = .non))) H) a .none (.bool (!isNone a)) := fun G H x y e hx hy Q q => by
  cases hy
  refine ⟨rfl, q _ G H (Fm.refl e) ?_⟩
  rw [rp_none hx]; exact .bl _
/-! tests -/
theorem et_test {x : Bool} (h : EvD K te env (.bool x)) : EvT K (tTest te) env x := fun G0 B G H σ s Q q =>
  h G0 B G H σ s _ fun v G1 H1 f1 r1 => by cases r1; exact ⟨x, rfl, q G1 H1 f1⟩
theorem et_B {x : Bool} (h : EvD K te env (.bool x)) : EvT K (tB te) env x := fun G0 B G H σ s Q q =>
  h G0 B G H σ s _ fun v G1 H1 f1 r1 => by cases r1; exact ⟨x, rfl, q G1 H1 f1⟩
theorem et_and {x y : Bool} (h1 : EvT K t env x) (h2 : x = true → EvT K u env y) : EvT K (tAnd t u) env (x && y) := fun G0 B G H σ s Q q =>
  h1 G0 B G H σ s _ fun G1 H1 f1 => by
    cases x with
    | true => show u σ H1 Q; exact h2 rfl G0 B G1 H1 σ (s.fwd f1) Q fun G2 H2 f2 => q G2 H2 (f1.trans f2)
    | false => show Q false H1; exact q G1 H1 f1
theorem et_or {x y : Bool} (h1 : EvT K t env x) (h2 : x = false → EvT K u env y) : EvT K (tOr t u) env (x || y) := fun G0 B G H σ s Q q =>
  h1 G0 B G H σ s _ fun G1 H1 f1 => by
    cases x with
    | true => show Q true H1; exact q G1 H1 f1
    | false => show u σ H1 Q; exact h2 rfl G0 B G1 H1 σ (s.fwd f1) Q fun G2 H2 f2 => q G2 H2 (f1.trans f2)
theorem et_not {x : Bool} (h1 : EvT K t env x) : EvT K (tNot t) env (!x) := fun G0 B G H σ s Q q => h1 G0 B G H σ s _ fun G1 H1 f1 => q G1 H1 f1
theorem ev_and {x y : Bool} (h1 : EvD K ta env (.bool x)) (h2 : x = true → EvD K tb env (.bool y)) : EvD K (tAndV ta tb) env (.bool (x && y)) := fun G0 B G H σ s Q q =>
  h1 G0 B G H σ s _ fun v G1 H1 f1 r1 => by
    cases r1
    refine ⟨x, rfl, ?_⟩
    cases x with
    | true => show tb σ H1 Q; exact h2 rfl G0 B G1 H1 σ (s.fwd f1) Q fun v G2 H2 f2 r2 => q v G2 H2 (f1.trans f2) r2
    | false => show Q (.bl false) H1; exact q _ G1 H1 f1 (.bl _)
theorem ev_or {x y : Bool} (h1 : EvD K ta env (.bool x)) (h2 : x = false → EvD K tb env (.bool y)) : EvD K (tOrV ta tb) env (.bool (x || y)) := fun G0 B G H σ s Q q =>
  h1 G0 B G H σ s _ fun v G1 H1 f1 r1 => by
    cases r1
    refine ⟨x, rfl, ?_⟩
    cases x with
    | false => show tb σ H1 Q; exact h2 rfl G0 B G1 H1 σ (s.fwd f1) Q fun v G2 H2 f2 r2 => q v G2 H2 (f1.trans f2) r2
    | true => show Q (.bl true) H1; exact q _ G1 H1 f1 (.bl _)
theorem ev_not {x : Bool} (h1 : EvD K ta env (.bool x)) : EvD K (tNotV ta) env (.bool (!x)) := fun G0 B G H σ s Q q =>
  h1 G0 B G H σ s _ fun v G1 H1 f1 r1 => by cases r1; exact ⟨x, rfl, q _ G1 H1 f1 (.bl _)⟩
theorem ev_if {x : Bool} (h : EvT K t env x) (h1 : x = true → EvD K ta env d) (h2 : x = false → EvD K tb env d) : EvD K (tIf t ta tb) env d := fun G0 B G H σ s Q q =>
  h G0 B G H σ s _ fun G1 H1 f1 => by
    cases x with
    | true => show ta σ H1 Q; exact h1 rfl G0 B G1 H1 σ (s.fwd f1) Q fun v G2 H2 f2 r2 => q v G2 H2 (f1.trans f2) r2
    | false => show tb σ H1 Q; exact h2 rfl G0 B G1 H1 σ (s.fwd f1) Q fun v G2 H2 f2 r2 => q v G2 H2 (f1.trans f2) r2
/-- a op b op' c -/
theorem ev_chain {r r' : R2} {x y : Bool} (ha : EvD K ta env a) (hb : EvD K tb env b) (hc : x = true → EvD K tc env c) (h1 : RD K r a b (.bool x)) (h2 : x = true → RD K r' b c (.bool y)) : EvD K (tChain r r' ta tb tc) env (.bool (x && y)) := fun G0 B G H σ s Q q =>
  ha G0 B G H σ s _ fun v G1 H1 f1 r1 => hb G0 B G1 H1 σ (s.fwd f1) _ fun w G2 H2 f2 r2 => h1 G2 H2 v w f2.i (r1.up f2.g) r2 _ fun z G3 H3 f3 r3 => by
    cases r3
    refine ⟨x, rfl, ?_⟩
    cases x with
    | true =>
      show tc σ H3 fun z' H4 => r' w z' H4 Q
      have f13 := (f1.trans f2).trans f3
      exact hc rfl G0 B G3 H3 σ (s.fwd f13) _ fun z' G4 H4 f4 r4 => h2 rfl G4 H4 w z' f4.i ((r2.up f3.g).up f4.g) r4 Q fun v5 G5 H5 f5 r5 => q v5 G5 H5 ((f13.trans f4).trans f5) r5
    | false => show Q (.bl false) H3; exact q _ G3 H3 ((f1.trans f2).trans f3) (.bl _)
/-! truth -/
def truD : D → Bool
  | .none => false
  | .bool b => b
  | .int i => i != 0
  | .str x => (x.length : Int) != 0
  | .list ds => !ds.isEmpty
  | .tuple ds => !ds.isEmpty
  | _ => false
def okStr : D → Bool
  | .str x => decide (x.length ≤ sizeLine)
  | .scr _ => false
  | .dct _ _ => false
  | .dfz _ _ => false
  | .obj _ _ _ => false
  | .kst _ => false
  | _ => true
theorem isEmpty_rp {H : Hp} {xs : List V} {ds : List D} (h : RpL K H xs ds) : ds.isEmpty = xs.isEmpty := by cases h <;> rfl
theorem tru_rp {G H : Hp} {x : V} (e : Ex G H) (h : Rp K G x a) (hs : okStr a = true) : TruV K x H (truD a) := by
  cases h with
  | non => exact rfl
  | bl b => exact rfl
  | int i => exact rfl
  | str y => exact ⟨by simpa [okStr] using hs, rfl⟩
  | lst h1 h2 => exact Or.inl ⟨_, SqL.of (e.o _ _ h1 rfl), by simp [truD, isEmpty_rp h2]⟩
  | tup h1 h2 => exact Or.inr (Or.inl ⟨_, ex_t e h1, by simp [truD, isEmpty_rp h2]⟩)
  | scr _ => cases hs
  | kst _ _ => cases hs
  | dfz _ _ _ => cases hs
  | dct _ _ _ => cases hs
  | obj _ _ _ => cases hs
theorem et_tru (h : EvD K te env a) (hs : okStr a = true := by rfl) : EvT K (fun σ H Q => te σ H fun x H' => ∃ k, TruV K x H' k ∧ Q k H') env (truD a) := fun G0 B G H σ s Q q =>
  h G0 B G H σ s _ fun v G1 H1 f1 r1 => ⟨truD a, tru_rp f1.i r1 hs, q G1 H1 f1⟩
/-! arguments, displays -/
theorem ea_nil : EvA K tNil env [] := fun G0 B G H σ s Q q => q [] G H (Fm.refl s.i) .nil
theorem ea_cons {tr : TA} {ds : List D} (h : EvD K te env d) (hr : EvA K tr env ds) : EvA K (tCons te tr) env (d :: ds) := fun G0 B G H σ s Q q =>
  h G0 B G H σ s _ fun v G1 H1 f1 r1 => hr G0 B G1 H1 σ (s.fwd f1) _ fun vs G2 H2 f2 r2 => q _ G2 H2 (f1.trans f2) (.cons (r1.up f2.g) r2)
theorem ev_tup {ta : TA} {ds : List D} (h : EvA K ta env ds) (hl : ds.length ≤ sizeLine := by (simp only [List.length_cons, List.length_nil]; decide)) : EvD K (tTup ta) env (.tuple ds) := fun G0 B G H σ s Q q =>
  h G0 B G H σ s _ fun vs G1 H1 f1 r1 => ⟨by rw [r1.length]; exact hl, fun p hp => by
    have f2 := Fm.new (o := .tup vs) f1.i hp
    exact q _ _ _ (f1.trans f2) (.tup upd_same (r1.up f2.g))⟩
theorem evn_lst {ta : TA} {ds : List D} (h : EvA K ta env ds) (hl : ds.length ≤ sizeLine := by (simp only [List.length_cons, List.length_nil]; decide)) : EvN K (tLst ta) env ds := fun G0 B G H σ s Q q =>
  h G0 B G H σ s _ fun vs G1 H1 f1 r1 => ⟨by rw [r1.length]; exact hl, fun p hp =>
    q p vs G1 _ (f1.trans (Fm.own f1.i hp)) (f1.h.back hp) (f1.i.back hp) upd_same r1⟩
theorem ev_lst {ta : TA} {ds : List D} (h : EvA K ta env ds) (hl : ds.length ≤ sizeLine := by (simp only [List.length_cons, List.length_nil]; decide)) : EvD K (tLst ta) env (.list ds) := ev_ofN (evn_lst h hl)
/-! calls of built-ins -/
theorem ev_cb {r : List V → Hp → VK → Prop} {ta : TA} {as : List D} (h : EvA K ta env as) (hr : RC K r as d) : EvD K (tCB r ta) env d := fun G0 B G H σ s Q q =>
  h G0 B G H σ s _ fun vs G1 H1 f1 r1 => hr G1 H1 vs f1.i r1 Q fun v G2 H2 f2 r2 => q v G2 H2 (f1.trans f2) r2
theorem evn_cb {r : List V → Hp → VK → Prop} {ta : TA} {as ds : List D} (h : EvA K ta env as) (hr : RCN K r as ds) : EvN K (tCB r ta) env ds := fun G0 B G H σ s Q q =>
  h G0 B G H σ s _ fun vs G1 H1 f1 r1 => hr G1 H1 vs f1.i r1 Q fun p xs G2 H2 f2 h1 h2 h3 h4 => q p xs G2 H2 (f1.trans f2) (f1.h.back h1) h2 h3 h4
/-- isinstance with a built-in class -/
def tyD : D → String
  | .none => "NoneType"
  | .bool _ => "bool"
  | .int _ => "int"
  | .str _ => "str"
  | .list _ => "list"
  | .tuple _ => "tuple"
  | .scr _ => "list"
  | .dct _ _ => "dict"
  | .obj _ _ _ => "object"
  | .kst _ => "object"
  | .dfz _ _ => "dict"
def noObj : D → Bool
  | .kst _ => false
  | .obj _ _ _ => false
  | .scr _ => false
  | .dfz _ _ => false
  | _ => true
theorem ty_rp {G H : Hp} {x : V} (e : Ex G H) (h : Rp K G x a) (ho : noObj a = true) : TyX K H x (.type (tyD a)) := by
  cases h with
  | non => exact .base .non
  | bl b => exact .base (.bl b)
  | int i => exact .base (.int i)
  | str y => exact .base (.str y)
  | lst h1 h2 => exact .base (.lst (e.o _ _ h1 rfl))
  | tup h1 h2 => exact .base (.tup (e.o _ _ h1 rfl))
  | kst _ _ => cases ho
  | dfz _ _ _ => cases ho
  | scr _ => cases ho
  | dct h1 _ _ => exact .base (.dT (e.o _ _ h1 rfl))
  | obj _ _ _ => cases ho
def isInst (d : D) (T : String) : Bool := (kitB (tyD d) T).getD false
theorem kitB_some (d : D) (T : String) (ho : noObj d = true) (h : T = "int" ∨ T = "bool" ∨ T = "str" ∨ T = "tuple" ∨ T = "list") : kitB (tyD d) T = some (isInst d T) := by
  have q : (kitB (tyD d) T).isSome = true := by
    rcases h with h | h | h | h | h <;> subst h <;> cases d <;> first | (cases ho; done) | (simp only [tyD]; decide +kernel)
  unfold isInst
  cases e : kitB (tyD d) T with
  | none => rw [e] at q; cases q
  | some b => rfl
theorem ev_isi {T : String} (ha : EvD K ta env a) (ho : noObj a = true) (hT : T = "int" ∨ T = "bool" ∨ T = "str" ∨ T = "tuple" ∨ T = "list" := by simp) : EvD K (tCB (rIsi K) (tCons ta (tCons (tC (.ty T)) tNil))) env (.bool (isInst a T)) := fun G0 B G H σ s Q q =>
  ha G0 B G H σ s _ fun x G1 H1 f1 r1 => ⟨x, .ty T, .type (tyD a), .type T, _, rfl, .ty T, ty_rp f1.i r1 ho, kit_ty (kitB_some a T ho hT), q _ G1 H1 f1 (.bl _)⟩
/-- len -/
def lenD : D → Nat
  | .str x => x.length
  | .list ds => ds.length
  | .tuple ds => ds.length
  | .scr ns => ns.length
  | _ => 0
def hasLen : D → Bool
  | .str x => decide (x.length ≤ sizeLine)
  | .list _ => true
  | .tuple _ => true
  | .scr _ => true
  | _ => false
theorem rc_len (h : hasLen a = true) : RC K (fun xs H Q => ∃ x n, xs = [x] ∧ LenV K x H n ∧ Q (.int n) H) [a] (.int (lenD a)) := fun G H xs e hx Q q => by
  cases hx with
  | cons r1 r2 =>
    cases r2
    refine ⟨_, lenD a, rfl, ?_, q _ G H (Fm.refl e) (.int _)⟩
    cases r1 with
    | non => cases h
    | bl b => cases h
    | int i => cases h
    | str y => exact ⟨by simpa [hasLen] using h, rfl⟩
    | lst h1 h2 => exact Or.inl ⟨_, SqL.of (e.o _ _ h1 rfl), by simp [lenD, h2.length]⟩
    | tup h1 h2 => exact Or.inr ⟨_, ex_t e h1, by simp [lenD, h2.length]⟩
    | scr h1 => exact Or.inl ⟨_, ex_l e h1, by simp [lenD]⟩
    | kst _ _ => cases h
    | dfz _ _ _ => cases h
    | dct _ _ _ => cases h
    | obj _ _ _ => cases h
theorem ev_len (ha : EvD K ta env a) (h : hasLen a = true := by rfl) : EvD K (tCB (fun xs H Q => ∃ x n, xs = [x] ∧ LenV K x H n ∧ Q (.int n) H) (tCons ta tNil)) env (.int (lenD a)) := ev_cb (ea_cons ha ea_nil) (rc_len h)
theorem ev_max {i j : Int} (ha : EvD K ta env (.int i)) (hb : EvD K tb env (.int j)) : EvD K (tCB (fun xs H Q => ∃ i j, xs = [.int i, .int j] ∧ Q (.int (if j > i then j else i)) H) (tCons ta (tCons tb tNil))) env (.int (max i j)) :=
  ev_cb (ea_cons ha (ea_cons hb ea_nil)) fun G H xs e hx Q q => by
    cases hx with
    | cons r1 r2 => cases r2 with
      | cons r2 r3 =>
        cases r3; cases r1; cases r2
        refine ⟨i, j, rfl, q _ G H (Fm.refl e) ?_⟩
        have z : (if j > i then j else i) = max i j := by rw [Int.max_def]; split <;> split <;> omega
        rw [z]; exact .int _
theorem ev_min {i j : Int} (ha : EvD K ta env (.int i)) (hb : EvD K tb env (.int j)) : EvD K (tCB (fun xs H Q => ∃ i j, xs = [.int i, .int j] ∧ Q (.int (if j < i then j else i)) H) (tCons ta (tCons tb tNil))) env (.int (min i j)) :=
  ev_cb (ea_cons ha (ea_cons hb ea_nil)) fun G H xs e hx Q q => by
    cases hx with
    | cons r1 r2 => cases r2 with
      | cons r2 r3 =>
        cases r3; cases r1; cases r2
        refine ⟨i, j, rfl, q _ G H (Fm.refl e) ?_⟩
        have z : (if j < i then j else i) = min i j := by rw [Int.min_def]; split <;> split <;> omega
        rw [z]; exact .int _
/-! subscripts -/
theorem atI_rp {H : Hp} {xs : List V} {ds : List D} {i : Int} (h : RpL K H xs ds) (e : atI ds i = some d) : ∃ v, atI xs i = some v ∧ Rp K H v d := by
  unfold atI at e ⊢
  rw [h.length]
  cases q : ixN ds.length i with
  | none => rw [q] at e; cases e
  | some j =>
    rw [q] at e
    obtain ⟨v, h1, h2⟩ := h.get (i := j) e
    exact ⟨v, h1, h2⟩
theorem rd_ixL {ds : List D} {i : Int} (h : atI ds i = some d) : RD K (rIxL K) (.list ds) (.int i) d := fun G H x y e hx hy Q q => by
  cases hx with
  | lst h1 h2 =>
    cases hy
    obtain ⟨v, g1, g2⟩ := atI_rp h2 h
    exact ⟨_, _, i, v, rfl, rfl, SqL.of (e.o _ _ h1 rfl), g1, q v G H (Fm.refl e) g2⟩
theorem rd_ixT {ds : List D} {i : Int} (h : atI ds i = some d) : RD K (rIxT K) (.tuple ds) (.int i) d := fun G H x y e hx hy Q q => by
  cases hx with
  | tup h1 h2 =>
    cases hy
    obtain ⟨v, g1, g2⟩ := atI_rp h2 h
    exact ⟨_, _, i, v, rfl, rfl, ex_t e h1, g1, q v G H (Fm.refl e) g2⟩
/-- a list or a tuple or a text at a place -/
def itemD : D → Int → Option D
  | .list ds, i => atI ds i
  | .tuple ds, i => atI ds i
  | .str z, i => if z.length ≤ sizeLine then (atI z.cps.toList i).map fun c => .str ⟨#[c]⟩ else none
  | .scr ns, i => (atI ns i).map .int
  | _, _ => none
theorem rd_ix {i : Int} (h : itemD a i = some d) : RD K (rIx K) a (.int i) d := fun G H x y e hx hy Q q => by
  cases a with
  | list ds => exact Or.inl (rd_ixL h G H x y e hx hy Q q)
  | tuple ds => exact Or.inr (Or.inl (rd_ixT h G H x y e hx hy Q q))
  | str z =>
    refine Or.inr (Or.inr ?_)
    cases hx; cases hy
    by_cases hz : z.length ≤ sizeLine
    · simp only [itemD, if_pos hz] at h
      cases c : atI z.cps.toList i with
      | none => rw [c] at h; cases h
      | some k =>
        rw [c] at h
        cases h
        exact ⟨z, i, k, rfl, rfl, hz, c, q _ G H (Fm.refl e) (.str _)⟩
    · simp only [itemD, if_neg hz] at h; cases h
  | none => cases h
  | bool b => cases h
  | int j => cases h
  | scr ns =>
    cases hx with
    | scr h1 =>
      cases hy
      simp only [itemD] at h
      cases c : atI ns i with
      | none => rw [c] at h; cases h
      | some k =>
        rw [c] at h
        cases h
        refine Or.inl ⟨_, _, i, .int k, rfl, rfl, ex_l e h1, ?_, q _ G H (Fm.refl e) (.int _)⟩
        unfold atI at c ⊢
        rw [List.length_map]
        cases z : ixN ns.length i with
        | none => rw [z] at c; cases c
        | some j =>
          rw [z] at c
          show (ns.map V.int)[j]? = some (.int k)
          rw [List.getElem?_map, show ns[j]? = some k from c]; rfl
  | dct _ _ => cases h
  | dfz _ _ => cases h
  | obj _ _ _ => cases h
  | kst _ => cases h
theorem ev_ix {i : Int} (ha : EvD K ta env a) (hb : EvD K tb env (.int i)) (h : itemD a i = some d) : EvD K (tOp (rIx K) ta tb) env d := ev_op ha hb (rd_ix h)
/-! x in a sequence of data (by ==) -/
def seqD : D → Option (List D)
  | .list ds => some ds
  | .tuple ds => some ds
  | _ => none
end
end Ly

namespace Ly
open PySem L2
/-! ### isinstance, by cases -/
def isI : D → Bool
  | .int _ => true
  | .bool _ => true
  | _ => false
def isB : D → Bool
  | .bool _ => true
  | _ => false
def isS : D → Bool
  | .str _ => true
  | _ => false
def isU : D → Bool
  | .tuple _ => true
  | _ => false
section
variable {K : Fg} {env : Evn} {te ta tb tc : TE} {t u : TT} {d a b c : D} {mg : Str → Option Value} {E : XK}
theorem isi_int (ho : noObj a = true) : isInst a "int" = isI a := by cases a <;> first | (cases ho; done) | (simp only [isInst, tyD, isI]; decide +kernel)
theorem isi_bool (ho : noObj a = true) : isInst a "bool" = isB a := by cases a <;> first | (cases ho; done) | (simp only [isInst, tyD, isB]; decide +kernel)
theorem isi_str (ho : noObj a = true) : isInst a "str" = isS a := by cases a <;> first | (cases ho; done) | (simp only [isInst, tyD, isS]; decide +kernel)
theorem isi_tup (ho : noObj a = true) : isInst a "tuple" = isU a := by cases a <;> first | (cases ho; done) | (simp only [isInst, tyD, isU]; decide +kernel)
theorem ev_isiI (ha : EvD K ta env a) (ho : noObj a = true) : EvD K (tCB (rIsi K) (tCons ta (tCons (tC (.ty "int")) tNil))) env (.bool (isI a)) := isi_int ho ▸ ev_isi ha ho
theorem ev_isiB (ha : EvD K ta env a) (ho : noObj a = true) : EvD K (tCB (rIsi K) (tCons ta (tCons (tC (.ty "bool")) tNil))) env (.bool (isB a)) := isi_bool ho ▸ ev_isi ha ho
theorem ev_isiS (ha : EvD K ta env a) (ho : noObj a = true) : EvD K (tCB (rIsi K) (tCons ta (tCons (tC (.ty "str")) tNil))) env (.bool (isS a)) := isi_str ho ▸ ev_isi ha ho
theorem ev_isiU (ha : EvD K ta env a) (ho : noObj a = true) : EvD K (tCB (rIsi K) (tCons ta (tCons (tC (.ty "tuple")) tNil))) env (.bool (isU a)) := isi_tup ho ▸ ev_isi ha ho

/-! ### statements -/
structure En where
  nx : Evn → Prop := fun _ => False
  rt : D → Prop := fun _ => False
  bk : Evn → Prop := fun _ => False
  ct : Evn → Prop := fun _ => False
  ex : Str → Prop := fun _ => False
  /-- a return: the slots, and what is returned; or the slot that is -/
  ro : Evn → D → Prop := fun _ _ => False
  ri : Evn → Nat → Prop := fun _ _ => False
structure EnOk (K : Fg) (mg : Str → Option Value) (G0 B : Hp) (Dd : Ends) (E : XK) (e : En) : Prop where
  nx : ∀ G H σ env, SR K G0 B G H σ env → e.nx env → Dd.nx σ H
  rt : ∀ G H v d, Fm G0 B G H → Rp K G v d → e.rt d → Dd.rt v H
  bk : ∀ G H σ env, SR K G0 B G H σ env → e.bk env → Dd.bk σ H
  ct : ∀ G H σ env, SR K G0 B G H σ env → e.ct env → Dd.ct σ H
  ex : ∀ G H x C, mg x = some (.ref C) → Fm G0 B G H → e.ex x → E (.ref C) none H
  ro : ∀ G H σ env v d, SR K G0 B G H σ env → Rp K G v d → e.ro env d → Dd.rt v H
  ri : ∀ G H σ env i v, SR K G0 B G H σ env → σ[i]? = some (some v) → e.ri env i → Dd.rt v H
def SD (K : Fg) (mg : Str → Option Value) (E : XK) (ts : TS) (env : Evn) (e : En) : Prop := ∀ G0 B G H σ Dd, SR K G0 B G H σ env → EnOk K mg G0 B Dd E e → ts Dd σ H
variable {e : En} {ts tz tu tw : TS}
theorem sd_seq (h : SD K mg E ts env { e with nx := fun env' => SD K mg E tz env' e }) : SD K mg E (tSeq ts tz) env e := fun G0 B G H σ Dd s k =>
  h G0 B G H σ _ s ⟨fun G H σ env s' q => q G0 B G H σ Dd s' k, k.rt, k.bk, k.ct, k.ex, k.ro, k.ri⟩
theorem sd_next (h : e.nx env) : SD K mg E tNext env e := fun G0 B G H σ Dd s k => k.nx G H σ env s h
theorem sd_break (h : e.bk env) : SD K mg E tBreak env e := fun G0 B G H σ Dd s k => k.bk G H σ env s h
theorem sd_cont (h : e.ct env) : SD K mg E tCont env e := fun G0 B G H σ Dd s k => k.ct G H σ env s h
theorem sd_asg {i : Nat} (h : EvD K te env d) (k : e.nx (env.set i (.dat d))) : SD K mg E (tAsg te (gName i)) env e := fun G0 B G H σ Dd s q =>
  h G0 B G H σ s _ fun v G2 H2 f r => q.nx G2 H2 _ _ ((s.fwd f).set r) k
theorem SR.own_new {G0 B G H : Hp} {σ : L2.St} {p : Addr} (s : SR K G0 B G H σ env) (h : H p = none) : ¬ ownAt σ env p := fun z => by
  obtain ⟨_, _, u, hu, _⟩ := s.own_ z
  rw [h] at hu; cases hu
theorem sd_asgN {i : Nat} {ds : List D} (h : EvN K te env ds) (k : e.nx (env.set i (.lst ds))) : SD K mg E (tAsg te (gName i)) env e := fun G0 B G H σ Dd s q =>
  h G0 B G H σ s _ fun p xs G2 H2 f h1 h2 h3 h4 => q.nx G2 H2 _ _ ((s.fwd f).setOwn (.lst h3 h4) fun a ha => by
    simp only [foot, List.mem_singleton] at ha; subst ha
    exact ⟨s.fm.h.back h1, h2, s.own_new h1⟩) k
theorem sd_drop (h : EvD K te env d) (k : e.nx env) : SD K mg E (tDrop te) env e := fun G0 B G H σ Dd s q =>
  h G0 B G H σ s _ fun v G2 H2 f r => q.nx G2 H2 _ _ (s.fwd f) k
theorem sd_ret (h : EvD K te env d) (k : e.rt d) : SD K mg E (tRet te) env e := fun G0 B G H σ Dd s q =>
  h G0 B G H σ s _ fun v G2 H2 f r => q.rt G2 H2 v d (s.fm.trans f) r k
theorem sd_retO (h : EvD K te env d) (k : e.ro env d) : SD K mg E (tRet te) env e := fun G0 B G H σ Dd s q =>
  h G0 B G H σ s _ fun v G2 H2 f r => q.ro G2 H2 σ env v d (s.fwd f) r k
theorem sd_retI {i : Nat} {x : SL} (he : env[i]? = some x) (hx : isOwn x = true) (k : e.ri env i) : SD K mg E (tRet (tVar i)) env e := fun G0 B G H σ Dd s q => by
  obtain ⟨l, h1, _, _⟩ := s.ownS he hx
  exact ⟨.ref l, h1, q.ri G H σ env i _ s h1 k⟩
theorem sd_if {x : Bool} (h : EvT K t env x) (h1 : x = true → SD K mg E tu env e) (h2 : x = false → SD K mg E tw env e) : SD K mg E (tIfS t tu tw) env e := fun G0 B G H σ Dd s q =>
  h G0 B G H σ s _ fun G2 H2 f => by
    cases x with
    | true => show tu Dd σ H2; exact h1 rfl G0 B G2 H2 σ Dd (s.fwd f) q
    | false => show tw Dd σ H2; exact h2 rfl G0 B G2 H2 σ Dd (s.fwd f) q
theorem sd_never {P : Prop} (h : False) : SD K mg E ts env e := h.elim
/-- an own thing is data from here on -/
theorem sd_freeze {i : Nat} {x : SL} (he : env[i]? = some x) (hx : isOwn x = true) (h : SD K mg E ts (env.set i (.dat x.data)) e) : SD K mg E ts env e := fun G0 B G H σ Dd s q => by
  obtain ⟨l, _, _, s'⟩ := s.freeze he hx
  exact h G0 B _ H σ Dd s' q
theorem sd_mono {e' : En} (h : SD K mg E ts env e) (nx : ∀ v, e.nx v → e'.nx v) (rt : ∀ v, e.rt v → e'.rt v) (bk : ∀ v, e.bk v → e'.bk v) (ct : ∀ v, e.ct v → e'.ct v) (ex : ∀ v, e.ex v → e'.ex v) (ro : ∀ v d, e.ro v d → e'.ro v d := by intro _ _ h; exact h) (ri : ∀ v d, e.ri v d → e'.ri v d := by intro _ _ h; exact h) : SD K mg E ts env e' :=
  fun G0 B G H σ Dd s k => h G0 B G H σ Dd s ⟨fun G H σ env s q => k.nx G H σ env s (nx _ q), fun G H v d f r q => k.rt G H v d f r (rt _ q), fun G H σ env s q => k.bk G H σ env s (bk _ q), fun G H σ env s q => k.ct G H σ env s (ct _ q), fun G H x C m f q => k.ex G H x C m f (ex _ q), fun G H σ env v d s r q => k.ro G H σ env v d s r (ro _ _ q), fun G H σ env i v s r q => k.ri G H σ env i v s r (ri _ _ q)⟩
/-- xs.append(e), xs of one's own -/
theorem sd_app {i : Nat} {ds : List D} (he : env[i]? = some (.lst ds)) (h : EvD K te env d) (hz : ds.length < sizeLine) (k : e.nx (env.set i (.lst (ds ++ [d])))) :
    SD K mg E (tDrop (tBM K "list" rAppend (tVar i) (tCons te tNil))) env e := fun G0 B G H σ Dd s q => by
  obtain ⟨l, h1, h5, _⟩ := s.ownS he rfl
  cases h5 with
  | lst h4 h5 =>
    refine ⟨.ref l, h1, Or.inl ⟨rfl, _, SqL.of h4⟩, h G0 B G H σ s _ fun v G2 H2 f r => ⟨l, _, v, rfl, rfl, f.h.o l _ h4 rfl, by rw [h5.length]; exact hz, ?_⟩⟩
    exact q.nx G2 _ σ _ ((s.fwd f).write he rfl h1 (.lst upd_same ((h5.up f.g).app (.cons r .nil))) rfl) k
/-! ### targets -/
/-- storing d changes env to env'; js: the slots that are stored -/
def TGt (K : Fg) (g : TG) (d : D) (env env' : Evn) (js : List Nat) : Prop := ∀ G0 B G H σ v, SR K G0 B G H σ env → Rp K G v d → ∀ Q : St → Hp → Prop, (∀ σ', SR K G0 B G H σ' env' → (∀ vs : List Nat, (∀ j ∈ js, j ∈ vs) → wipe σ' vs = wipe σ vs) → Q σ' H) → g v σ H Q
def TGs' (K : Fg) (g : TGs) (ds : List D) (env env' : Evn) (js : List Nat) : Prop := ∀ G0 B G H σ vs, SR K G0 B G H σ env → RpL K G vs ds → ∀ Q : St → Hp → Prop, (∀ σ', SR K G0 B G H σ' env' → (∀ ws : List Nat, (∀ j ∈ js, j ∈ ws) → wipe σ' ws = wipe σ ws) → Q σ' H) → g vs σ H Q
theorem wipe_get {σ : St} : ∀ {vs : List Nat} {i : Nat}, (wipe σ vs)[i]? = if i ∈ vs ∧ i < σ.length then some none else σ[i]?
  | [], i => by simp [wipe]
  | v :: vs, i => by
    unfold wipe
    have ih := wipe_get (σ := σ) (vs := vs) (i := i)
    by_cases h : v = i
    · subst h
      by_cases hl : v < σ.length
      · rw [List.getElem?_set_self (by rw [wipe_length]; exact hl), if_pos ⟨List.mem_cons_self, hl⟩]
      · rw [List.getElem?_eq_none (by rw [List.length_set, wipe_length]; omega), if_neg (fun z => hl z.2), List.getElem?_eq_none (by omega)]
    · rw [List.getElem?_set_ne h, ih]
      by_cases q : i ∈ vs ∧ i < σ.length
      · rw [if_pos q, if_pos ⟨List.mem_cons_of_mem _ q.1, q.2⟩]
      · rw [if_neg q, if_neg (fun z => q ⟨(List.mem_cons.mp z.1).resolve_left (fun w => h w.symm), z.2⟩)]
theorem wipe_set {σ : St} {j : Nat} {x : Option V} {vs : List Nat} (hj : j ∈ vs) : wipe (σ.set j x) vs = wipe σ vs := by
  apply List.ext_getElem?
  intro i
  rw [wipe_get, wipe_get, List.length_set]
  by_cases q : i ∈ vs ∧ i < σ.length
  · rw [if_pos q, if_pos q]
  · rw [if_neg q, if_neg q]
    by_cases h : j = i
    · subst h
      have : ¬ j < σ.length := fun z => q ⟨hj, z⟩
      rw [List.getElem?_eq_none (by rw [List.length_set]; omega), List.getElem?_eq_none (by omega)]
    · rw [List.getElem?_set_ne h]
theorem wipe_wipe {σ : St} {vs : List Nat} : wipe (wipe σ vs) vs = wipe σ vs := by
  apply List.ext_getElem?
  intro i
  rw [wipe_get, wipe_length]
  by_cases q : i ∈ vs ∧ i < σ.length
  · rw [if_pos q, wipe_get, if_pos q]
  · rw [if_neg q]
theorem tg_name {i : Nat} : TGt K (gName i) d env (env.set i (.dat d)) [i] := fun G0 B G H σ v s r Q q =>
  q _ (s.set r) fun vs h => wipe_set (h i List.mem_cons_self)
theorem tgs_nil : TGs' K gNil [] env env [] := fun G0 B G H σ vs s r Q q => by
  cases r
  exact ⟨rfl, q σ s fun _ _ => rfl⟩
theorem tgs_cons {g : TG} {gs : TGs} {ds : List D} {env1 env2 : Evn} {js ks : List Nat} (h1 : TGt K g d env env1 js) (h2 : TGs' K gs ds env1 env2 ks) : TGs' K (gCons g gs) (d :: ds) env env2 (js ++ ks) := fun G0 B G H σ vs s r Q q => by
  cases r with
  | cons r1 r2 =>
    refine ⟨_, _, rfl, h1 G0 B G H σ _ s r1 _ fun σ1 s1 w1 => h2 G0 B G H σ1 _ s1 r2 _ fun σ2 s2 w2 => q σ2 s2 fun vs h => ?_⟩
    rw [w2 vs fun j hj => h j (List.mem_append_right _ hj), w1 vs fun j hj => h j (List.mem_append_left _ hj)]
theorem tg_tup {gs : TGs} {ds : List D} {env' : Evn} {js : List Nat} {n : Nat} (h : TGs' K gs ds env env' js) (hn : ds.length = n) : TGt K (gTup K n gs) (.tuple ds) env env' js := fun G0 B G H σ v s r Q q => by
  cases r with
  | tup h1 h2 => exact ⟨_, _, rfl, ex_t s.i h1, by rw [h2.length]; exact hn, h G0 B G H σ _ s h2 Q q⟩
/-- (a, b) = e -/
theorem sd_asgT {g : TG} {env' : Evn} {js : List Nat} (h : EvD K te env d) (hg : TGt K g d env env' js) (k : e.nx env') : SD K mg E (tAsg te g) env e := fun G0 B G H σ Dd s q =>
  h G0 B G H σ s _ fun v G2 H2 f r => hg G0 B G2 H2 σ v (s.fwd f) r _ fun σ' s' _ => q.nx G2 H2 σ' env' s' k
theorem sd_par {i j : Nat} {ta : TA} (h : EvA K ta env [a, b]) (k : e.nx ((env.set i (.dat a)).set j (.dat b))) : SD K mg E (tPar i j ta) env e := fun G0 B G H σ Dd s q =>
  h G0 B G H σ s _ fun vs G2 H2 f r => by
    cases r with
    | cons r1 r2 => cases r2 with
      | cons r2 r3 =>
        cases r3
        exact ⟨_, _, rfl, q.nx G2 H2 _ _ (((s.fwd f).set r1).set r2) k⟩
/-! ### loops -/
theorem for_core {wi : TI} {g : TG} {tb : TS} {J : It} {n : Nat} {G0 B G H : Hp} {σ : St} {Dd : Ends} (Pv : Nat → Evn → Prop) (s : SR K G0 B G H σ env) (k : EnOk K mg G0 B Dd E e) (h0 : Pv 0 env)
    (hgo : ∀ i G1 H1, i < n → Ex G G1 → Ex G1 H1 → J.go i H1) (hst : ∀ G1 H1, Ex G G1 → Ex G1 H1 → J.stop n H1)
    (hs : ∀ i G1 H1 x H', i < n → Ex G G1 → Ex G1 H1 → J.yld i H1 x H' → ∃ G2 d, Fm G1 H1 G2 H' ∧ Rp K G2 x d ∧ ∀ env', Pv i env' → ∃ env2 js, TGt K g d env' env2 js ∧ SD K mg E tb env2 { e with nx := Pv (i + 1), ct := Pv (i + 1), bk := e.nx })
    (hd : ∀ env', Pv n env' → e.nx env') :
    ∃ W : Nat → Nat → St → Hp → Prop, (∃ m, W 0 m σ H) ∧ ∀ i m σ H, W i m σ H →
      (J.stop i H ∧ Dd.nx σ H) ∨ (J.go i H ∧ ∃ N : St → Hp → Prop, (∀ σ' H', N σ' H' → ∃ m', m' < m ∧ W (i + 1) m' σ' H') ∧ ∀ x H', J.yld i H x H' → g x σ H' fun σ2 H2 => tb { Dd with nx := N, ct := N, bk := Dd.nx } σ2 H2) := by
  obtain ⟨f, s1⟩ := s.rebase
  refine ⟨fun i m σ' H' => m = n - i ∧ i ≤ n ∧ ∃ G' env', SR K G (bare H σ env) G' H' σ' env' ∧ Pv i env', ⟨n, by simp, Nat.zero_le _, G, env, s1, h0⟩, ?_⟩
  rintro i m σ' H' ⟨rfl, hi, G', env', s', p⟩
  by_cases hlt : i < n
  · refine .inr ⟨hgo i G' H' hlt s'.fm.g s'.fm.i, fun σ2 H2 => ∃ G2 env2, SR K G (bare H σ env) G2 H2 σ2 env2 ∧ Pv (i + 1) env2, fun σ2 H2 ⟨G2, env2, s2, p2⟩ => ⟨n - (i + 1), by omega, rfl, hlt, G2, env2, s2, p2⟩, fun x Hy y => ?_⟩
    obtain ⟨G2, d, fy, ry, step⟩ := hs i G' H' x Hy hlt s'.fm.g s'.fm.i y
    obtain ⟨env2, js, hg, hb⟩ := step env' p
    refine hg G (bare H σ env) G2 Hy σ' x (s'.fwd fy) ry _ fun σ2 s2 _ => ?_
    refine hb G (bare H σ env) G2 Hy σ2 _ s2 ⟨fun G3 H3 σ3 env3 s3 q3 => ⟨G3, env3, s3, q3⟩, fun G3 H3 v d f3 r3 q3 => k.rt G3 H3 v d (f.trans f3) r3 q3, fun G3 H3 σ3 env3 s3 q3 => k.nx G3 H3 σ3 env3 (s3.over f) q3, fun G3 H3 σ3 env3 s3 q3 => ⟨G3, env3, s3, q3⟩, fun G3 H3 x C m f3 q3 => k.ex G3 H3 x C m (f.trans f3) q3, fun G3 H3 σ3 env3 v d s3 r3 q3 => k.ro G3 H3 σ3 env3 v d (s3.over f) r3 q3, fun G3 H3 σ3 env3 i v s3 r3 q3 => k.ri G3 H3 σ3 env3 i v (s3.over f) r3 q3⟩
  · have e1 : i = n := by omega
    subst e1
    exact .inl ⟨hst G' H' s'.fm.g s'.fm.i, k.nx G' H' σ' env' (s'.over f) (hd env' p)⟩
/-- for .. in a list that is data -/
theorem sd_forL {tl : TE} {g : TG} {tb : TS} {ds : List D} (h : EvD K tl env (.list ds)) (Pv : Nat → Evn → Prop) (h0 : Pv 0 env)
    (hs : ∀ i d env', ds[i]? = some d → Pv i env' → ∃ env2 js, TGt K g d env' env2 js ∧ SD K mg E tb env2 { e with nx := Pv (i + 1), ct := Pv (i + 1), bk := e.nx }) (hd : ∀ env', Pv ds.length env' → e.nx env') :
    SD K mg E (tFor (iList K tl) g tb) env e := fun G0 B G H σ Dd s q =>
  h G0 B G H σ s _ fun v G2 H2 f r => by
    cases r with
    | @lst a xs _ h1 h2 =>
      refine ⟨a, rfl, ⟨xs, SqL.of (f.i.o _ _ h1 rfl)⟩, for_core (wi := iList K tl) (n := ds.length) Pv (s.fwd f) q h0 (fun i G1 H1 hi e1 e2 => ?_) (fun G1 H1 e1 e2 => ⟨xs, SqL.of (e2.o _ _ (e1.o _ _ h1 rfl) rfl), by rw [h2.length]; exact Nat.le_refl _⟩) (fun i G1 H1 x H' hi e1 e2 y => ?_) hd⟩
      · obtain ⟨v, g1, _⟩ := h2.get (List.getElem?_eq_getElem hi)
        exact ⟨xs, v, SqL.of (e2.o _ _ (e1.o _ _ h1 rfl) rfl), g1⟩
      · obtain ⟨rfl, y⟩ := y
        have hx := y xs (SqL.of (e2.o _ _ (e1.o _ _ h1 rfl) rfl))
        obtain ⟨d, g1, g2⟩ := h2.getV hx
        exact ⟨G1, d, Fm.refl e2, g2.up e1, fun env' p => hs i d env' g1 p⟩
theorem sd_forT {tl : TE} {g : TG} {tb : TS} {ds : List D} (h : EvD K tl env (.tuple ds)) (Pv : Nat → Evn → Prop) (h0 : Pv 0 env)
    (hs : ∀ i d env', ds[i]? = some d → Pv i env' → ∃ env2 js, TGt K g d env' env2 js ∧ SD K mg E tb env2 { e with nx := Pv (i + 1), ct := Pv (i + 1), bk := e.nx }) (hd : ∀ env', Pv ds.length env' → e.nx env') :
    SD K mg E (tFor (iTup K tl) g tb) env e := fun G0 B G H σ Dd s q =>
  h G0 B G H σ s _ fun v G2 H2 f r => by
    cases r with
    | @tup a xs _ h1 h2 =>
      refine ⟨a, rfl, ⟨xs, ex_t f.i h1⟩, for_core (wi := iTup K tl) (n := ds.length) Pv (s.fwd f) q h0 (fun i G1 H1 hi e1 e2 => ?_) (fun G1 H1 e1 e2 => ⟨xs, ex_t (e1.trans e2) h1, by rw [h2.length]; exact Nat.le_refl _⟩) (fun i G1 H1 x H' hi e1 e2 y => ?_) hd⟩
      · obtain ⟨v, g1, _⟩ := h2.get (List.getElem?_eq_getElem hi)
        exact ⟨xs, v, ex_t (e1.trans e2) h1, g1⟩
      · obtain ⟨rfl, y⟩ := y
        have hx := y xs (ex_t (e1.trans e2) h1)
        obtain ⟨d, g1, g2⟩ := h2.getV hx
        exact ⟨G1, d, Fm.refl e2, g2.up e1, fun env' p => hs i d env' g1 p⟩
theorem for_rng {g : TG} {tb : TS} {G0 B G H : Hp} {σ : St} {Dd : Ends} {lo : Int} {n : Nat} (s : SR K G0 B G H σ env) (q : EnOk K mg G0 B Dd E e) (Pv : Nat → Evn → Prop) (h0 : Pv 0 env)
    (hs : ∀ i env', i < n → Pv i env' → ∃ env2 js, TGt K g (.int (lo + (i : Int))) env' env2 js ∧ SD K mg E tb env2 { e with nx := Pv (i + 1), ct := Pv (i + 1), bk := e.nx }) (hd : ∀ env', Pv n env' → e.nx env') :
    ∃ W : Nat → Nat → St → Hp → Prop, (∃ m, W 0 m σ H) ∧ ∀ i m σ H, W i m σ H →
      ((Itr lo n).stop i H ∧ Dd.nx σ H) ∨ ((Itr lo n).go i H ∧ ∃ N : St → Hp → Prop, (∀ σ' H', N σ' H' → ∃ m', m' < m ∧ W (i + 1) m' σ' H') ∧ ∀ x H', (Itr lo n).yld i H x H' → g x σ H' fun σ2 H2 => tb { Dd with nx := N, ct := N, bk := Dd.nx } σ2 H2) :=
  for_core (wi := fun _ _ _ => True) (J := Itr lo n) (n := n) Pv s q h0 (fun i G1 H1 hi _ _ => hi) (fun G1 H1 _ _ => Nat.le_refl _) (fun i G1 H1 x H' hi e1 e2 y => by
    obtain ⟨rfl, rfl⟩ := y
    exact ⟨G1, _, Fm.refl e2, .int _, fun env' p => hs i env' hi p⟩) hd
theorem sd_forR1 {ta : TA} {g : TG} {tb : TS} {n : Int} (h : EvA K ta env [.int n]) (hn : -(2 ^ 62) ≤ n ∧ n < 2 ^ 62) (Pv : Nat → Evn → Prop) (h0 : Pv 0 env)
    (hs : ∀ i env', i < n.toNat → Pv i env' → ∃ env2 js, TGt K g (.int (i : Int)) env' env2 js ∧ SD K mg E tb env2 { e with nx := Pv (i + 1), ct := Pv (i + 1), bk := e.nx }) (hd : ∀ env', Pv n.toNat env' → e.nx env') :
    SD K mg E (tFor (iRng1 ta) g tb) env e := fun G0 B G H σ Dd s q =>
  h G0 B G H σ s _ fun vs G2 H2 f r => by
    cases r with
    | cons r1 r2 =>
      cases r1; cases r2
      exact ⟨n, rfl, hn.1, hn.2, for_rng (s.fwd f) q Pv h0 (fun i env' hi p => by rw [Int.zero_add]; exact hs i env' hi p) hd⟩
theorem sd_forR2 {ta : TA} {g : TG} {tb : TS} {lo hi : Int} (h : EvA K ta env [.int lo, .int hi]) (hn : -(2 ^ 62) ≤ lo ∧ lo < 2 ^ 62 ∧ -(2 ^ 62) ≤ hi ∧ hi < 2 ^ 62) (Pv : Nat → Evn → Prop) (h0 : Pv 0 env)
    (hs : ∀ i env', i < (hi - lo).toNat → Pv i env' → ∃ env2 js, TGt K g (.int (lo + (i : Int))) env' env2 js ∧ SD K mg E tb env2 { e with nx := Pv (i + 1), ct := Pv (i + 1), bk := e.nx }) (hd : ∀ env', Pv (hi - lo).toNat env' → e.nx env') :
    SD K mg E (tFor (iRng2 ta) g tb) env e := fun G0 B G H σ Dd s q =>
  h G0 B G H σ s _ fun vs G2 H2 f r => by
    cases r with
    | cons r1 r2 => cases r2 with
      | cons r2 r3 =>
        cases r1; cases r2; cases r3
        exact ⟨lo, hi, rfl, hn, for_rng (s.fwd f) q Pv h0 hs hd⟩
/-- while, by a measure -/
theorem sd_while {tb : TS} (W : Nat → Evn → Prop) (m0 : Nat) (h0 : W m0 env)
    (hs : ∀ m env', W m env' → ∃ x, EvT K t env' x ∧ (x = true → SD K mg E tb env' { e with nx := fun v => ∃ m', m' < m ∧ W m' v, ct := fun v => ∃ m', m' < m ∧ W m' v, bk := e.nx }) ∧ (x = false → e.nx env')) :
    SD K mg E (tWhile t tb) env e := fun G0 B G H σ Dd s q => by
  refine ⟨fun m σ' H' => ∃ G' env', SR K G0 B G' H' σ' env' ∧ W m env', ⟨m0, G, env, s, h0⟩, fun m σ' H' ⟨G', env', s', w⟩ => ?_⟩
  obtain ⟨x, ht, h1, h2⟩ := hs m env' w
  refine ht G0 B G' H' σ' s' _ fun G2 H2 f => ?_
  cases x with
  | true =>
    rw [if_pos rfl]
    refine ⟨fun σ2 H2 => ∃ m', m' < m ∧ ∃ G2 env2, SR K G0 B G2 H2 σ2 env2 ∧ W m' env2, fun σ2 H2 z => z, h1 rfl G0 B G2 H2 σ' _ (s'.fwd f) ⟨fun G3 H3 σ3 env3 s3 ⟨m', hm, w3⟩ => ⟨m', hm, G3, env3, s3, w3⟩, q.rt, q.nx, fun G3 H3 σ3 env3 s3 ⟨m', hm, w3⟩ => ⟨m', hm, G3, env3, s3, w3⟩, q.ex, q.ro, q.ri⟩⟩
  | false =>
    rw [if_neg Bool.false_ne_true]
    exact q.nx G2 H2 σ' env' (s'.fwd f) (h2 rfl)
end
end Ly

namespace Ly
open PySem L2
section
variable {K : Fg} {env : Evn} {te ta tb tc : TE} {t u : TT} {d a b c : D} {mg : Str → Option Value} {E : XK} {e : En} {ts tz tu tw : TS}
/-! ### comprehensions -/
def wipeE (env : Evn) : List Nat → Evn
  | [] => env
  | v :: vs => (wipeE env vs).set v .no
theorem wipeE_length (env : Evn) : ∀ vs : List Nat, (wipeE env vs).length = env.length
  | [] => rfl
  | v :: vs => by unfold wipeE; rw [List.length_set, wipeE_length env vs]
theorem wipeE_get {env : Evn} : ∀ {vs : List Nat} {i : Nat} {x : SL}, (wipeE env vs)[i]? = some x → x = .no ∨ (env[i]? = some x ∧ i ∉ vs)
  | [], i, x, h => .inr ⟨h, by simp⟩
  | v :: vs, i, x, h => by
    unfold wipeE at h
    by_cases q : v = i
    · subst q
      by_cases hl : v < (wipeE env vs).length
      · rw [List.getElem?_set_self hl] at h; cases h; exact .inl rfl
      · rw [List.getElem?_eq_none (by rw [List.length_set]; omega)] at h; cases h
    · rw [List.getElem?_set_ne q] at h
      rcases wipeE_get h with z | ⟨z, z'⟩
      · exact .inl z
      · exact .inr ⟨z, by simp only [List.mem_cons, not_or]; exact ⟨fun w => q w.symm, z'⟩⟩
theorem SR.wiped {G0 B G H : Hp} {σ : St} (s : SR K G0 B G H σ env) (vs : List Nat) : SR K G0 B G H (wipe σ vs) (wipeE env vs) :=
  s.forget (by rw [wipe_length, wipeE_length, s.len]) fun i x h => by
    rcases wipeE_get h with z | ⟨z, z'⟩
    · exact .inl z
    · exact .inr ⟨z, by rw [wipe_get, if_neg (fun w => z' w.1)]⟩
/-- an address that is neither the base's, nor shared, nor a slot's is written -/
theorem SR.aside {G0 B G H : Hp} {σ : St} {p : Addr} {o : HO} (s : SR K G0 B G H σ env) (hp : H p = none ∨ ∃ u, H p = some u ∧ ownO u = true) (hb : B p = none) (hg : G p = none) (ho : ¬ ownAt σ env p) : SR K G0 B G (upd H p o) σ env :=
  ⟨⟨s.fm.g, s.fm.h.mut hb, s.fm.i.mut hg, s.fm.n, s.fm.tb.trans (Tb.upd hp)⟩, s.len, s.dt, s.rw, fun i x e hx => by
    obtain ⟨l, h1, h2, h3⟩ := s.ow i x e hx
    exact ⟨l, h1, h2.mono (Ex.refl _) fun a ha => upd_ne (fun z => ho ⟨i, x, l, e, hx, h1, by rw [← z]; exact ha⟩), h3⟩, s.ap, s.tk.up (Tb.upd hp)⟩
theorem lc_core' {g : TG} {J : It} {n : Nat} {G0 B G H : Hp} {σ : St} {vs : List Nat} {Q : VK} (f : Nat → Bool) (h : Nat → D) (hz : n < sizeLine) (s : SR K G0 B G H σ env)
    (hgo : ∀ i G1 H1, i < n → Ex G G1 → Ex G1 H1 → J.go i H1) (hst : ∀ G1 H1, Ex G G1 → Ex G1 H1 → J.stop n H1)
    (hs : ∀ i G1 H1 x H', i < n → Ex G G1 → Ex G1 H1 → J.yld i H1 x H' → ∃ G2 d, Fm G1 H1 G2 H' ∧ Rp K G2 x d ∧ ∃ env2 js, TGt K g d (wipeE env vs) env2 js ∧ (∀ j ∈ js, j ∈ vs) ∧ EvT K t env2 (f i) ∧ (f i = true → EvD K te env2 (h i)))
    (hq : ∀ p xs G2 H2, Fm G H G2 H2 → H p = none → G2 p = none → H2 p = some (.lst xs) → RpL K G2 xs (((List.range n).filter f).map h) → Q (.ref p) H2) :
    ∀ Dl, H Dl = none → ∃ W : Nat → Nat → Hp → Prop, (∃ m, W 0 m (upd H Dl (.lst []))) ∧ ∀ i m H, W i m H →
      (J.stop i H ∧ Q (.ref Dl) H) ∨ (J.go i H ∧ ∃ Nx : Hp → Prop, (∀ H', Nx H' → ∃ m', m' < m ∧ W (i + 1) m' H') ∧ ∀ x H', J.yld i H x H' → g x (wipe σ vs) H' fun σ2 H2 => wipe σ2 vs = wipe σ vs ∧ t σ2 H2 fun b H3 =>
        if b = true then te σ2 H3 fun y H4 => ∃ acc, H4 Dl = some (.lst acc) ∧ acc.length < sizeLine ∧ Nx (upd H4 Dl (.lst (acc ++ [y]))) else Nx H3) := by
  intro Dl hD
  have hno : ∀ {σ' : St} {env' : Evn} {G0 B G : Hp}, SR K G0 B G H σ' env' → ¬ ownAt σ' env' Dl := fun s => s.own_new hD
  have sw := (s.wiped vs).rebase.2
  have nO := hno (s.wiped vs)
  have hB : bare H (wipe σ vs) (wipeE env vs) Dl = none := by rw [bare_not nO]; exact hD
  refine ⟨fun i m H' => m = n - i ∧ i ≤ n ∧ ∃ G' acc, SR K G (bare H (wipe σ vs) (wipeE env vs)) G' H' (wipe σ vs) (wipeE env vs) ∧ Fm G H G' H' ∧ G' Dl = none ∧ H' Dl = some (.lst acc) ∧ RpL K G' acc (((List.range i).filter f).map h), ⟨n, by simp, Nat.zero_le _, G, [], sw.aside (.inl hD) hB (s.i.back hD) nO, Fm.own s.i hD, s.i.back hD, upd_same, .nil⟩, ?_⟩
  rintro i m H' ⟨rfl, hi, G', acc, s', fm, gD, aD, rD⟩
  by_cases hlt : i < n
  · refine .inr ⟨hgo i G' H' hlt fm.g fm.i, fun H2 => ∃ G2 acc, SR K G (bare H (wipe σ vs) (wipeE env vs)) G2 H2 (wipe σ vs) (wipeE env vs) ∧ Fm G H G2 H2 ∧ G2 Dl = none ∧ H2 Dl = some (.lst acc) ∧ RpL K G2 acc (((List.range (i + 1)).filter f).map h), fun H2 ⟨G2, acc2, z⟩ => ⟨n - (i + 1), by omega, rfl, hlt, G2, acc2, z⟩, fun x Hy y => ?_⟩
    obtain ⟨Gy, dx, fy, ry, env2, js, hg, hjs, ht, he⟩ := hs i G' H' x Hy hlt fm.g fm.i y
    have sy := s'.fwd fy
    refine hg G _ Gy Hy (wipe σ vs) x sy ry _ fun σ2 s2 w2 => ⟨by rw [w2 vs hjs, wipe_wipe], ?_⟩
    refine ht G _ Gy Hy σ2 s2 _ fun G3 H3 f3 => ?_
    have fy3 := fy.trans f3
    have gD3 : G3 Dl = none := fy3.n Dl _ aD rfl gD
    have aD3 := fy3.h.o Dl _ aD rfl
    cases hf : f i with
    | true =>
      rw [if_pos rfl]
      refine he hf G _ G3 H3 σ2 (s2.fwd f3) _ fun v G4 H4 f4 r4 => ⟨acc, f4.h.o Dl _ aD3 rfl, ?_, G4, acc ++ [v], ?_, ?_, f4.n Dl _ aD3 rfl gD3, upd_same, ?_⟩
      · have : acc.length ≤ i := by
          rw [rD.length, List.length_map]
          have := List.length_filter_le f (List.range i)
          rw [List.length_range] at this; exact this
        omega
      · exact (sy.fwd (f3.trans f4)).aside (.inr ⟨_, f4.h.o Dl _ aD3 rfl, rfl⟩) hB (f4.n Dl _ aD3 rfl gD3) nO
      · have q := fm.trans (fy3.trans f4)
        exact ⟨q.g, q.h.mut hD, q.i.mut (f4.n Dl _ aD3 rfl gD3), q.n, q.tb.trans (Tb.upd (.inr ⟨_, f4.h.o Dl _ aD3 rfl, rfl⟩))⟩
      · rw [List.range_succ, List.filter_append, List.map_append]
        have e1 : ([i].filter f).map h = [h i] := by simp [hf]
        rw [e1]
        exact (rD.up (fy3.trans f4).g).app (.cons r4 .nil)
    | false =>
      rw [if_neg Bool.false_ne_true]
      refine ⟨G3, acc, sy.fwd f3, fm.trans fy3, gD3, aD3, ?_⟩
      rw [List.range_succ, List.filter_append, List.map_append]
      have e1 : ([i].filter f).map h = [] := by simp [hf]
      rw [e1, List.append_nil]
      exact rD.up fy3.g
  · have e1 : i = n := by omega
    subst e1
    exact .inl ⟨hst G' H' fm.g fm.i, hq Dl acc G' H' fm hD gD aD rD⟩
/-- what a comprehension gives -/
theorem range_map {α β : Type} (f : α → Bool) (h : α → β) (xs : List α) (d : α) : ((List.range xs.length).filter fun i => f (xs.getD i d)).map (fun i => h (xs.getD i d)) = (xs.filter f).map h := by
  induction xs with
  | nil => rfl
  | cons x xs ih =>
    rw [List.length_cons, List.range_succ_eq_map, List.filter_cons]
    have e : (List.filter (fun i => f ((x :: xs).getD i d)) (List.map Nat.succ (List.range xs.length))).map (fun i => h ((x :: xs).getD i d)) = (xs.filter f).map h := by
      rw [← ih, List.filter_map, List.map_map]; rfl
    cases q : f x with
    | true => simp only [List.getD_cons_zero, q, if_true, List.map_cons, e, List.filter_cons]
    | false => simp only [List.getD_cons_zero, q, List.filter_cons]; simpa using e
theorem evn_lcL {tl : TE} {g : TG} {vs : List Nat} {ds : List D} (f : D → Bool) (h : D → D) (hl : EvD K tl env (.list ds)) (hz : ds.length < sizeLine)
    (hs : ∀ x, x ∈ ds → ∃ env2 js, TGt K g x (wipeE env vs) env2 js ∧ (∀ j ∈ js, j ∈ vs) ∧ EvT K t env2 (f x) ∧ (f x = true → EvD K te env2 (h x))) :
    EvN K (tLc (iList K tl) g t te vs) env ((ds.filter f).map h) := fun G0 B G H σ s Q q =>
  hl G0 B G H σ s _ fun v G2 H2 fm r => by
    cases r with
    | @lst a xs _ h1 h2 =>
      refine ⟨a, rfl, ⟨xs, SqL.of (fm.i.o _ _ h1 rfl)⟩, lc_core' (n := ds.length) (fun i => f (ds.getD i .none)) (fun i => h (ds.getD i .none)) hz (s.fwd fm) (fun i G1 H1 hi e1 e2 => ?_) (fun G1 H1 e1 e2 => ⟨xs, SqL.of (e2.o _ _ (e1.o _ _ h1 rfl) rfl), by rw [h2.length]; exact Nat.le_refl _⟩) (fun i G1 H1 x H' hi e1 e2 y => ?_) (fun p ys G3 H3 f3 g1 g2 g3 g4 => q p ys G3 H3 (fm.trans f3) (fm.h.back g1) g2 g3 (by rw [range_map] at g4; exact g4))⟩
      · obtain ⟨v, g1, _⟩ := h2.get (List.getElem?_eq_getElem hi)
        exact ⟨xs, v, SqL.of (e2.o _ _ (e1.o _ _ h1 rfl) rfl), g1⟩
      · obtain ⟨rfl, y⟩ := y
        have hx := y xs (SqL.of (e2.o _ _ (e1.o _ _ h1 rfl) rfl))
        obtain ⟨d, g1, g2⟩ := h2.getV hx
        have ed : ds.getD i .none = d := by rw [List.getD_eq_getElem?_getD, g1]; rfl
        obtain ⟨env2, js, k1, k2, k3, k4⟩ := hs d (List.mem_of_getElem? g1)
        exact ⟨G1, d, Fm.refl e2, g2.up e1, env2, js, k1, k2, by rw [ed]; exact k3, by rw [ed]; exact k4⟩
theorem evn_lcT {tl : TE} {g : TG} {vs : List Nat} {ds : List D} (f : D → Bool) (h : D → D) (hl : EvD K tl env (.tuple ds)) (hz : ds.length < sizeLine)
    (hs : ∀ x, x ∈ ds → ∃ env2 js, TGt K g x (wipeE env vs) env2 js ∧ (∀ j ∈ js, j ∈ vs) ∧ EvT K t env2 (f x) ∧ (f x = true → EvD K te env2 (h x))) :
    EvN K (tLc (iTup K tl) g t te vs) env ((ds.filter f).map h) := fun G0 B G H σ s Q q =>
  hl G0 B G H σ s _ fun v G2 H2 fm r => by
    cases r with
    | @tup a xs _ h1 h2 =>
      refine ⟨a, rfl, ⟨xs, ex_t fm.i h1⟩, lc_core' (n := ds.length) (fun i => f (ds.getD i .none)) (fun i => h (ds.getD i .none)) hz (s.fwd fm) (fun i G1 H1 hi e1 e2 => ?_) (fun G1 H1 e1 e2 => ⟨xs, ex_t (e1.trans e2) h1, by rw [h2.length]; exact Nat.le_refl _⟩) (fun i G1 H1 x H' hi e1 e2 y => ?_) (fun p ys G3 H3 f3 g1 g2 g3 g4 => q p ys G3 H3 (fm.trans f3) (fm.h.back g1) g2 g3 (by rw [range_map] at g4; exact g4))⟩
      · obtain ⟨v, g1, _⟩ := h2.get (List.getElem?_eq_getElem hi)
        exact ⟨xs, v, ex_t (e1.trans e2) h1, g1⟩
      · obtain ⟨rfl, y⟩ := y
        have hx := y xs (ex_t (e1.trans e2) h1)
        obtain ⟨d, g1, g2⟩ := h2.getV hx
        have ed : ds.getD i .none = d := by rw [List.getD_eq_getElem?_getD, g1]; rfl
        obtain ⟨env2, js, k1, k2, k3, k4⟩ := hs d (List.mem_of_getElem? g1)
        exact ⟨G1, d, Fm.refl e2, g2.up e1, env2, js, k1, k2, by rw [ed]; exact k3, by rw [ed]; exact k4⟩
theorem evn_lcR1 {ta : TA} {g : TG} {vs : List Nat} {n : Int} (f : Int → Bool) (h : Int → D) (hl : EvA K ta env [.int n]) (hz : n < 16777216)
    (hs : ∀ i : Nat, i < n.toNat → ∃ env2 js, TGt K g (.int (i : Int)) (wipeE env vs) env2 js ∧ (∀ j ∈ js, j ∈ vs) ∧ EvT K t env2 (f (i : Int)) ∧ (f (i : Int) = true → EvD K te env2 (h (i : Int)))) (hn : -(2 ^ 62) ≤ n := by omega) :
    EvN K (tLc (iRng1 ta) g t te vs) env (((List.range n.toNat).filter fun (i : Nat) => f (i : Int)).map fun (i : Nat) => h (i : Int)) := fun G0 B G H σ s Q q =>
  hl G0 B G H σ s _ fun ws G2 H2 fm r => by
    cases r with
    | cons r1 r2 =>
      cases r1; cases r2
      have hsz := sizeLine_eq
      refine ⟨n, rfl, hn, by omega, lc_core' (n := n.toNat) (fun i => f (i : Int)) (fun i => h (i : Int)) (by omega) (s.fwd fm) (fun i G1 H1 hi e1 e2 => hi) (fun G1 H1 e1 e2 => Nat.le_refl _) (fun i G1 H1 x H' hi e1 e2 y => ?_) (fun p ys G3 H3 f3 g1 g2 g3 g4 => q p ys G3 H3 (fm.trans f3) (fm.h.back g1) g2 g3 g4)⟩
      obtain ⟨rfl, rfl⟩ := y
      obtain ⟨env2, js, k1, k2, k3, k4⟩ := hs i hi
      exact ⟨G1, .int (0 + (i : Int)), Fm.refl e2, .int _, env2, js, by rw [Int.zero_add]; exact k1, k2, k3, k4⟩
theorem evn_lcR2 {ta : TA} {g : TG} {vs : List Nat} {lo hi : Int} (f : Int → Bool) (h : Int → D) (hl : EvA K ta env [.int lo, .int hi]) (hz : -(2 ^ 62) ≤ lo ∧ lo < 2 ^ 62 ∧ -(2 ^ 62) ≤ hi ∧ hi < 2 ^ 62 ∧ hi - lo < 16777216)
    (hs : ∀ i : Nat, i < (hi - lo).toNat → ∃ env2 js, TGt K g (.int (lo + (i : Int))) (wipeE env vs) env2 js ∧ (∀ j ∈ js, j ∈ vs) ∧ EvT K t env2 (f (lo + (i : Int))) ∧ (f (lo + (i : Int)) = true → EvD K te env2 (h (lo + (i : Int))))) :
    EvN K (tLc (iRng2 ta) g t te vs) env (((List.range (hi - lo).toNat).filter fun (i : Nat) => f (lo + (i : Int))).map fun (i : Nat) => h (lo + (i : Int))) := fun G0 B G H σ s Q q =>
  hl G0 B G H σ s _ fun ws G2 H2 fm r => by
    cases r with
    | cons r1 r2 => cases r2 with
      | cons r2 r3 =>
        cases r1; cases r2; cases r3
        have hsz := sizeLine_eq
        refine ⟨lo, hi, rfl, ⟨hz.1, hz.2.1, hz.2.2.1, hz.2.2.2.1⟩, lc_core' (n := (hi - lo).toNat) (fun i => f (lo + (i : Int))) (fun i => h (lo + (i : Int))) (by omega) (s.fwd fm) (fun i G1 H1 hi e1 e2 => hi) (fun G1 H1 e1 e2 => Nat.le_refl _) (fun i G1 H1 x H' hi e1 e2 y => ?_) (fun p ys G3 H3 f3 g1 g2 g3 g4 => q p ys G3 H3 (fm.trans f3) (fm.h.back g1) g2 g3 g4)⟩
        obtain ⟨rfl, rfl⟩ := y
        obtain ⟨env2, js, k1, k2, k3, k4⟩ := hs i hi
        exact ⟨G1, _, Fm.refl e2, .int _, env2, js, k1, k2, k3, k4⟩
theorem et_yes : EvT K tYes env true := fun G0 B G H σ s Q q => q G H (Fm.refl s.i)

/-! ### functions -/
inductive Res where
  | ok (d : D)
  | err (x : Str)
  | dic (al : List (List Int × D))
/-- a contract: arguments, result -/
abbrev Ct := List D → Res → Prop
def spD (K : Fg) (mg : Str → Option Value) (P : Ct) : Sp := fun vs H Q E => ∃ G ds r, Ex G H ∧ TbK K H ∧ RpL K G vs ds ∧ P ds r ∧
  (∀ d, r = .ok d → ∀ v G2 H2, Fm G H G2 H2 → Rp K G2 v d → Q v H2) ∧ (∀ x, r = .err x → ∀ C G2 H2, mg x = some (.ref C) → Fm G H G2 H2 → E (.ref C) none H2) ∧
  (∀ al, r = .dic al → ∀ p kvs G2 H2, Fm G H G2 H2 → H p = none → G2 p = none → H2 p = some (.dT kvs) → Al K G2 kvs al → Q (.ref p) H2)
theorem ev_call {P : Ct} {ta : TA} {as : List D} (h : EvA K ta env as) (hp : P as (.ok d)) : EvD K (tCall (spD K mg P) [] E ta) env d := fun G0 B G H σ s Q q =>
  h G0 B G H σ s _ fun vs G1 H1 f1 r1 => ⟨G1, as, .ok d, f1.i, s.tk.up f1.tb, by rw [List.append_nil]; exact r1, hp, fun d' e v G2 H2 f2 r2 => by cases e; exact q v G2 H2 (f1.trans f2) r2, (fun x e => nomatch e), (fun x e => nomatch e)⟩
/-- an expression that raises -/
def EvX (K : Fg) (mg : Str → Option Value) (E : XK) (te : TE) (env : Evn) (x : Str) : Prop := ∀ G0 B G H σ, SR K G0 B G H σ env → (∀ C G2 H2, mg x = some (.ref C) → Fm G H G2 H2 → E (.ref C) none H2) → ∀ Q : VK, te σ H Q
theorem ex_call {P : Ct} {ta : TA} {as : List D} {x : Str} (h : EvA K ta env as) (hp : P as (.err x)) : EvX K mg E (tCall (spD K mg P) [] E ta) env x := fun G0 B G H σ s k Q =>
  h G0 B G H σ s _ fun vs G1 H1 f1 r1 => ⟨G1, as, .err x, f1.i, s.tk.up f1.tb, by rw [List.append_nil]; exact r1, hp, fun d' e => (nomatch e), fun x' e C G2 H2 m f2 => by cases e; exact k C G2 H2 m (f1.trans f2), fun x e => nomatch e⟩
theorem sd_dropX {x : Str} (h : EvX K mg E te env x) (k : e.ex x) : SD K mg E (tDrop te) env e := fun G0 B G H σ Dd s q => h G0 B G H σ s (fun C G2 H2 m f => q.ex G2 H2 x C m (s.fm.trans f) k) _
theorem sd_asgX {x : Str} {g : TG} (h : EvX K mg E te env x) (k : e.ex x) : SD K mg E (tAsg te g) env e := fun G0 B G H σ Dd s q => h G0 B G H σ s (fun C G2 H2 m f => q.ex G2 H2 x C m (s.fm.trans f) k) _
theorem sd_retX {x : Str} (h : EvX K mg E te env x) (k : e.ex x) : SD K mg E (tRet te) env e := fun G0 B G H σ Dd s q => h G0 B G H σ s (fun C G2 H2 m f => q.ex G2 H2 x C m (s.fm.trans f) k) _
/-- raise X('..') -/
def tRz (E : XK) (mg : Str → Option Value) (x : Str) : TS := fun _ _ H => ∀ C, mg x = some (.ref C) → E (.ref C) none H
theorem sd_raise {x : Str} (k : e.ex x) : SD K mg E (tRz E mg x) env e := fun G0 B G H σ Dd s q C m => q.ex G H x C m s.fm k
def startE (N : List Str) (ds : List D) : Evn := ds.map SL.dat ++ List.replicate (N.length - ds.length) SL.no
theorem startE_get {N : List Str} {ds : List D} {i : Nat} {x : SL} (q : (startE N ds)[i]? = some x) : x = .no ∨ ∃ d, ds[i]? = some d ∧ x = .dat d := by
  unfold startE at q
  by_cases hi : i < ds.length
  · rw [List.getElem?_append_left (by simpa using hi), List.getElem?_map] at q
    cases z : ds[i]? with
    | none => rw [z] at q; cases q
    | some dd => rw [z] at q; cases q; exact .inr ⟨dd, rfl, rfl⟩
  · rw [List.getElem?_append_right (by simp; omega), List.getElem?_replicate] at q
    split at q
    · cases q; exact .inl rfl
    · cases q
theorem sr_start {G H : Hp} {N : List Str} {vs : List V} {ds : List D} (e : Ex G H) (tk : TbK K H) (r : RpL K G vs ds) : SR K G H G H (L2.start N vs) (startE N ds) := by
  have hl := r.length
  have no : ∀ {i : Nat} {x : SL}, (startE N ds)[i]? = some x → isOwn x = true → False := fun q h => by
    rcases startE_get q with z | ⟨_, _, z⟩ <;> (subst z; cases h)
  refine ⟨Fm.refl e, by simp [L2.start, startE, hl], fun i d q => ?_, fun i v q => ?_, fun i x q hx => (no q hx).elim, fun i j x y l m a _ q _ hx => (no q hx).elim, tk⟩
  · rcases startE_get q with z | ⟨dd, z, w⟩
    · cases z
    · cases w
      obtain ⟨v, h1, h2⟩ := r.get z
      refine ⟨v, ?_, h2⟩
      unfold L2.start
      have hv : i < vs.length := (List.getElem?_eq_some_iff.mp h1).1
      rw [List.getElem?_append_left (by simp; omega), List.getElem?_map, h1]; rfl
  · rcases startE_get q with z | ⟨_, _, z⟩ <;> cases z
/-- what a def's body is to reach -/
def enOf (r : Res) : En := { nx := fun _ => r = .ok .none, rt := fun d => r = .ok d, ex := fun x => r = .err x, ri := fun env i => ∃ al, r = .dic al ∧ env[i]? = some (.dic al) }
section
variable {P : Program} {w : World} {base : Heap} {x qual : Str} {st : Stmt} {f : Addr} {fd : FuncData} {N ps : List Str} {k : Nat} {C : Ct}
theorem run_sd {ts : TS} {vs : List V} {H : Hp} {Q : VK} (hb : ∀ ds r, C ds r → SD K mg E ts (startE N ds) (enOf r)) (h : spD K mg C vs H Q E) : ts { nx := fun _ H' => Q .non H', rt := Q } (L2.start N vs) H := by
  obtain ⟨G, ds, r, e1, tk, rp, c, h1, h2, h3⟩ := h
  refine hb ds r c G H G H _ _ (sr_start e1 tk rp) ⟨fun G2 H2 σ env s q => h1 _ q .non G2 H2 s.fm .non, fun G2 H2 v d f r q => h1 d q v G2 H2 f r, fun _ _ _ _ _ q => q.elim, fun _ _ _ _ _ q => q.elim, fun G2 H2 x C m f q => h2 x q C G2 H2 m f, fun _ _ _ _ _ _ _ _ q => q.elim, fun G2 H2 σ env i v s hv ⟨al, er, he⟩ => ?_⟩
  obtain ⟨l, g1, g2, g3⟩ := s.ownS he rfl
  rw [hv] at g1; cases g1
  cases g2 with
  | dic g4 g5 => exact h3 al er l _ G2 H2 s.fm (g3 l foot_l).1 (g3 l foot_l).2 g4 g5
theorem fn_ok (F : Fun K x qual st f fd) (S : FnScope N ps (defScope st)) (len : ∀ ds r, C ds r → ds.length = ps.length)
    (hbody : ∀ (cdv : Value) (A : Around) (outer : List PySem.Env) (s : Shared) (H : Hp) (E : XK), Room k (A.deeper (PyProof.Rows.envOfC qual (defScope st) s.heap.objs.size f cdv)) →
      ∃ t, PSs (cxOf CX0 P w K mg base N qual (defScope st) f cdv A outer s H E).nox (defBody st) t ∧ ∀ ds r, C ds r → SD K mg E t (startE N ds) (enOf r)) : FnOk P w K mg base CX0 (k + 1) f fd ps (spD K mg C) := by
  refine F.ok S (fun vs H Q E h => ?_) fun cdv A outer s H vs Q E hr h => ?_
  · obtain ⟨G, ds, r, e1, _, rp, c, _⟩ := h
    rw [rp.length]; exact len ds r c
  · obtain ⟨t, h1, h2⟩ := hbody cdv A outer s H E hr
    exact ⟨t, h1, run_sd h2 h⟩
theorem fn_okX (F : Fun K x qual st f fd) (S : FnScope N ps (defScope st)) (len : ∀ ds r, C ds r → ds.length = ps.length)
    (hbody : ∀ (cdv : Value) (A : Around) (outer : List PySem.Env) (s : Shared) (H : Hp) (E : XK), Room k (A.deeper (PyProof.Rows.envOfC qual (defScope st) s.heap.objs.size f cdv)) →
      ∃ t, PSs (cxOf (L2.CX P w) P w K mg base N qual (defScope st) f cdv A outer s H E) (defBody st) t ∧ ∀ ds r, C ds r → SD K mg E t (startE N ds) (enOf r)) : FnOk P w K mg base (L2.CX P w) (k + 1) f fd ps (spD K mg C) := by
  refine F.okX S (fun vs H Q E h => ?_) fun cdv A outer s H vs Q E hr h => ?_
  · obtain ⟨G, ds, r, e1, _, rp, c, _⟩ := h
    rw [rp.length]; exact len ds r c
  · obtain ⟨t, h1, h2⟩ := hbody cdv A outer s H E hr
    exact ⟨t, h1, run_sd h2 h⟩
end
/-! ### names of the module -/
/-- the def x stands at its name, with its promise -/
def FnH (P : Program) (w : World) (K : Fg) (mg : Str → Option Value) (base : Heap) (x : Str) (CX : CXT) (k : Nat) (ps : List Str) (C : Ct) : Prop :=
  ∃ f fd, FnOk P w K mg base CX k f fd ps (spD K mg C) ∧ mg x = some (.ref f) ∧ PySem.W.keepIn K (.ref f) = true ∧ Binds K fd ps []
end
section
variable {X : Cx} {x : Str} {k : Nat} {ps : List Str} {C : Ct} {p pos : Pos} {e : Expr} {es : List Expr} {t : TA}
/-- f(e, ..), f raises nothing -/
theorem pe_fn (h : FnH X.prog X.w X.K X.mg X.base x CX0 k ps C) (hr : Room k X.A) (hg : Gl X x) (ha : PA X (e :: es) t) (hdb : (x == ("__debug__" : Str)) = false := by decide)
    (he : starEach (e :: es) X.env = (false, eval e X.env) :: starEach es X.env := by rfl) (hpl : (backTo pos (starEach es X.env)).any (·.1) = false := by rfl) :
    PE X (.Call (.Name x p) (e :: es) [] pos) (tCall (spD X.K X.mg C) [] E0 t) := by
  obtain ⟨f, fd, F, m, kp, b⟩ := h
  exact pe_call F hr hg m kp b .nil pass0 ha hdb he hpl
/-- f(e, ..), f may raise, but not here -/
theorem pe_fnN (h : FnH X.prog X.w X.K X.mg X.base x (L2.CX X.prog X.w) k ps C) (hr : Room k X.A) (hg : Gl X x) (ha : PA X (e :: es) t) (hdb : (x == ("__debug__" : Str)) = false := by decide)
    (he : starEach (e :: es) X.env = (false, eval e X.env) :: starEach es X.env := by rfl) (hpl : (backTo pos (starEach es X.env)).any (·.1) = false := by rfl) :
    PE X (.Call (.Name x p) (e :: es) [] pos) (tCall (spD X.K X.mg C) [] E0 t) := by
  obtain ⟨f, fd, F, m, kp, b⟩ := h
  exact pe_call F hr hg m kp b .nil passL ha hdb he hpl
/-- f(e, ..), f may raise, and it leaves this def, too -/
theorem pe_fnX {E : XK} (h : FnH X.prog X.w X.K X.mg X.base x (L2.CX X.prog X.w) k ps C) (hr : Room k X.A) (tk : Takes X (fun cls d _ H => E cls d H)) (hg : Gl X x) (ha : PA X (e :: es) t) (hdb : (x == ("__debug__" : Str)) = false := by decide)
    (he : starEach (e :: es) X.env = (false, eval e X.env) :: starEach es X.env := by rfl) (hpl : (backTo pos (starEach es X.env)).any (·.1) = false := by rfl) :
    PE X (.Call (.Name x p) (e :: es) [] pos) (tCall (spD X.K X.mg C) [] E t) := by
  obtain ⟨f, fd, F, m, kp, b⟩ := h
  exact pe_call F hr hg m kp b .nil (passes_call tk fun _ _ _ _ h => h) ha hdb he hpl
/-- an own exception class -/
def ExcH (K : Fg) (mg : Str → Option Value) (x : Str) : Prop := ∃ C bmB, PySem.W.excIn K C bmB "ValueError.__new__" = true ∧ (∃ B initId, ExcBaseFacts B "ValueError.__new__" initId bmB) ∧ mg x = some (.ref C) ∧ PySem.W.keepIn K (.ref C) = true ∧
  PySem.W.subIn K (.ref C) (.type "BaseException") = some true ∧ PySem.W.typeIn K (.ref C) = some (.type "type")
theorem ps_rz {E : XK} {m : Str} {j : Nat} {p2 pos2 : Pos} (h : ExcH X.K X.mg x) (tk : Takes X (fun cls d _ H => E cls d H)) (hc : X.calm = true) (hg : Gl X x) (hdb : (x == ("__debug__" : Str)) = false := by decide) :
    PS X (.Raise (some (.Call (.Name x p) [.Constant (.str m) j p2] [] pos)) none pos2) (tRz E X.mg x) := by
  obtain ⟨C, bmB, q, ⟨B, iid, F⟩, gC, kC, s1, t1⟩ := h
  have hh := ps_raise (pos := pos2) hc tk (pmk_own (m := m) (j := j) (p := p) (p2 := p2) (pos := pos) F q gC kC (raises_own s1 t1) hg hdb)
  exact ⟨fun pins s σ H D I hw => hh.run pins s σ H D I (hw C gC)⟩
/-- a constant of the module -/
def tGc (K : Fg) (d : D) : TE := fun _ H Q => ∀ v, (∀ H', Rp K H' v d) → Q v H
def GcH (K : Fg) (mg : Str → Option Value) (x : Str) (d : D) : Prop := ∃ v u, mg x = some u ∧ RelV v u ∧ ∀ H, Rp K H v d
theorem pe_gc {d : D} (h : GcH X.K X.mg x d) (hg : Gl X x) (hd : (x == ("__debug__" : Str)) = false := by decide) : PE X (.Name x pos) (tGc X.K d) := by
  obtain ⟨v, u, m, r, q⟩ := h
  have hh := pe_glob (pos := pos) hg m r hd
  exact ⟨fun pins s σ H Q I hw => hh.run pins s σ H Q I (hw v q)⟩
theorem ev_gc {K : Fg} {env : Evn} {d : D} : EvD K (tGc K d) env d := fun G0 B G H σ s Q q v h => q v G H (Fm.refl s.i) (h G)
end
end Ly

namespace Ly
open PySem L2
/-! ### operators whatever the kinds -/
def rAddS : R2 := fun x y H Q => ∃ i j, x = .str i ∧ y = .str j ∧ i.length + j.length ≤ sizeLine ∧ Q (.str (i ++ j)) H
def rAddU (K : Fg) : R2 := fun x y H Q => (rI0 fun i j => .int (i + j)) x y H Q ∨ rAddS x y H Q ∨ rCatA K x y H Q ∨ rCat x y H Q
def rMulU (K : Fg) : R2 := fun x y H Q => (rI CMul fun i j => .int (i * j)) x y H Q ∨ rRep x y H Q ∨ rRepT K x y H Q
/-- the order of tuples of ints -/
def lexC (op : Int → Int → Bool) (z : Nat → Nat → Bool) : List Int → List Int → Bool
  | x :: xs, y :: ys => if x = y then lexC op z xs ys else op x y
  | xs, ys => z xs.length ys.length
theorem lexC_at (op : Int → Int → Bool) (z : Nat → Nat → Bool) (hz : ∀ a b, z (a + 1) (b + 1) = z a b) : ∀ (ns ms : List Int), Ob.lexAt (fun j => decide (ns.getD j 0 = ms.getD j 0)) (fun j => op (ns.getD j 0) (ms.getD j 0)) (z ns.length ms.length) 0 (min ns.length ms.length) = lexC op z ns ms := by
  have gen : ∀ (e r : Nat → Bool) (b : Bool) (n i : Nat), Ob.lexAt e r b (i + 1) n = Ob.lexAt (fun j => e (j + 1)) (fun j => r (j + 1)) b i n := by
    intro e r b n
    induction n with
    | zero => intro i; rfl
    | succ n ih =>
      intro i
      show (if e (i + 1) = true then Ob.lexAt e r b (i + 1 + 1) n else r (i + 1)) = (if e (i + 1) = true then Ob.lexAt (fun j => e (j + 1)) (fun j => r (j + 1)) b (i + 1) n else r (i + 1))
      rw [ih (i + 1)]
  intro ns
  induction ns with
  | nil => intro ms; rw [List.length_nil, Nat.zero_min]; cases ms <;> rfl
  | cons x xs ih =>
    intro ms
    cases ms with
    | nil => rw [List.length_nil, Nat.min_zero]; rfl
    | cons y ys =>
      have e1 : min (x :: xs).length (y :: ys).length = min xs.length ys.length + 1 := by simp only [List.length_cons]; omega
      rw [e1]
      show (if decide (x = y) = true then Ob.lexAt _ _ _ (0 + 1) _ else op x y) = _
      rw [gen]
      have q := ih ys
      show (if decide (x = y) = true then Ob.lexAt (fun j => decide (xs.getD j 0 = ys.getD j 0)) (fun j => op (xs.getD j 0) (ys.getD j 0)) (z (x :: xs).length (y :: ys).length) 0 (min xs.length ys.length) else op x y) = (if x = y then lexC op z xs ys else op x y)
      rw [List.length_cons, List.length_cons, hz, q]
      by_cases h : x = y
      · rw [if_pos (decide_eq_true h), if_pos h]
      · rw [if_neg (by simpa using h), if_neg h]
abbrev lexLt : List Int → List Int → Bool := lexC (fun a b => decide (a < b)) (fun a b => decide (a < b))
abbrev lexLe : List Int → List Int → Bool := lexC (fun a b => decide (a ≤ b)) (fun a b => decide (a ≤ b))
abbrev lexGt : List Int → List Int → Bool := lexC (fun a b => decide (b < a)) (fun a b => decide (a > b))
abbrev lexGe : List Int → List Int → Bool := lexC (fun a b => decide (b ≤ a)) (fun a b => decide (a ≥ b))
def rTup (K : Fg) (f : List Int → List Int → Bool) : R2 := fun x y H Q => ∃ a b ns ms, x = .ref a ∧ y = .ref b ∧ SqT K H a (ns.map V.int) ∧ SqT K H b (ms.map V.int) ∧ Q (.bl (f ns ms)) H
def rCmpU (K : Fg) (f : Int → Int → Bool) (g : List Int → List Int → Bool) : R2 := fun x y H Q => (rI0 fun i j => .bl (f i j)) x y H Q ∨ rTup K g x y H Q
abbrev rLtU (K : Fg) : R2 := rCmpU K (fun i j => decide (i < j)) lexLt
abbrev rLeU (K : Fg) : R2 := rCmpU K (fun i j => decide (i ≤ j)) lexLe
abbrev rGtU (K : Fg) : R2 := rCmpU K (fun i j => decide (j < i)) lexGt
abbrev rGeU (K : Fg) : R2 := rCmpU K (fun i j => decide (j ≤ i)) lexGe
/-- in, not in: by data, in a list, a tuple; a text in a text -/
def rInU (K : Fg) (neg : Bool) : R2 := fun x y H Q =>
  (∃ d ds, Dp K H x d ∧ (Dp K H y (.list ds) ∨ Dp K H y (.tuple ds)) ∧ SeqAt.shaped d = true ∧ SeqAt.shaped (.list ds) = true ∧ Q (.bl (neg ^^ (ds.any fun z => PyData.eqv z d))) H) ∨
  (∃ i j, x = .str i ∧ y = .str j ∧ Q (.bl (neg ^^ !(Builtin.Str.occurrences j i 0 j.length 1).isEmpty)) H)
section
variable {X : Cx}
theorem op_addU : OpR X (binaryOp .Add) (rAddU X.K) := by
  intro pins s σ H x y v u Q I rx ry h
  rcases h with h | h | h | h
  · exact op_add pins s σ H x y v u Q I rx ry h
  · exact op_add_str pins s σ H x y v u Q I rx ry h
  · exact op_catA pins s σ H x y v u Q I rx ry h
  · exact op_cat pins s σ H x y v u Q I rx ry h
theorem op_mulU : OpR X (binaryOp .Mult) (rMulU X.K) := by
  intro pins s σ H x y v u Q I rx ry h
  rcases h with h | h | h
  · exact op_mul pins s σ H x y v u Q I rx ry h
  · exact op_rep pins s σ H x y v u Q I rx ry h
  · exact op_repT pins s σ H x y v u Q I rx ry h
section
variable {pins : List (Addr × Obj)} {s : Shared} {σ : St} {H : Hp} {a b : Addr} {ns ms : List Int} {Q : VK}
theorem tup_facts (I : Inv X pins σ H s) (ha : SqT X.K H a (ns.map V.int)) : ∃ its : Array Value, s.heap.IsTuple a its ∧ its.size = ns.length ∧ ∀ j (h1 : j < its.size), ∃ t, its[j] = .int (ns.getD j 0) t := by
  obtain ⟨its, r1, p1, _⟩ := I.tuple ha
  have i1 : PyProof.Rows.IntsAre its ns := Vals.ints r1
  exact ⟨its.toArray, p1, by rw [List.size_toArray]; exact i1.length, fun j h1 => PyProof.Rows.IntsAre.int_at i1 _ _ (by simp at h1; simp [h1])⟩
theorem eq_facts {A : Around} (m n : Int) (t u : Tok) : SeqAt.EqAt A s (.int m t) (.int n u) (decide (m = n)) := by
  have z : (m == n) = decide (m = n) := by
    by_cases q : m = n
    · rw [decide_eq_true q]; exact beq_iff_eq.mpr q
    · rw [decide_eq_false q]; exact beq_eq_false_iff_ne.mpr q
  rw [← z]; exact SeqAt.EqAt.int_int _ _ _ _
end
theorem op_tup {op : CmpOp} {f : Int → Int → Bool} {z : Nat → Nat → Bool} (hz : ∀ a b, z (a + 1) (b + 1) = z a b)
    (main : ∀ {s : Shared} {l b : Addr} {i1 i2 : Array Value} {e r : Nat → Bool}, s.heap.IsTuple l i1 → s.heap.IsTuple b i2 → (∀ j (h1 : j < i1.size) (h2 : j < i2.size), SeqAt.EqAt X.A.in1 s i1[j] i2[j] (e j)) →
      (∀ j (h1 : j < i1.size) (h2 : j < i2.size), e j = false → Ob.RcOp op X.A.in1 s i1[j] i2[j] (r j)) → Ob.RcOp op X.A s (.ref l) (.ref b) (Ob.lexAt e r (z i1.size i2.size) 0 (min i1.size i2.size)))
    (hi : ∀ {s : Shared} (m n : Int) (t u : Tok), Ob.RcOp op X.A.in1 s (.int m t) (.int n u) (f m n)) (hop : compareOp op = richCompare op := by rfl) : OpR X (compareOp op) (rTup X.K (lexC f z)) := by
  intro pins s σ H x y v u Q I rx ry h
  obtain ⟨a, b, ns, ms, rfl, rfl, ha, hb, q⟩ := h
  cases rx; cases ry
  obtain ⟨i1, p1, e1, at1⟩ := tup_facts I ha
  obtain ⟨i2, p2, e2, at2⟩ := tup_facts I hb
  have R := main (e := fun j => decide (ns.getD j 0 = ms.getD j 0)) (r := fun j => f (ns.getD j 0) (ms.getD j 0)) p1 p2 (fun j h1 h2 => by
    obtain ⟨t, et⟩ := at1 j h1
    obtain ⟨t', et'⟩ := at2 j h2
    rw [et, et']; exact eq_facts _ _ _ _) (fun j h1 h2 _ => by
    obtain ⟨t, et⟩ := at1 j h1
    obtain ⟨t', et'⟩ := at2 j h2
    rw [et, et']; exact hi _ _ _ _)
  rw [e1, e2, lexC_at f z hz] at R
  rw [hop]
  exact R X.prog X.w X.xe (EP X pins σ Q) ⟨.bl _, H, I, rfl, q⟩
theorem op_ltU (hu : X.A.units < cLine) : OpR X (compareOp .Lt) (rLtU X.K) := op_lt.or (op_tup (fun a b => by simp) (fun p1 p2 he hr => Ob.RcOp.tuples_lt p1 p2 hu he hr) (fun m n t u => Ob.RcOp.lt_int m n t u))
theorem op_leU (hu : X.A.units < cLine) : OpR X (compareOp .LtE) (rLeU X.K) := op_le.or (op_tup (fun a b => by simp) (fun p1 p2 he hr => Ob.RcOp.tuples_le p1 p2 hu he hr) (fun m n t u => Ob.RcOp.le_int m n t u))
theorem op_gtU (hu : X.A.units < cLine) : OpR X (compareOp .Gt) (rGtU X.K) := op_gt.or (op_tup (fun a b => by simp) (fun p1 p2 he hr => Ob.RcOp.tuples_gt p1 p2 hu he hr) (fun m n t u => Ob.RcOp.gt_int m n t u))
theorem op_geU (hu : X.A.units < cLine) : OpR X (compareOp .GtE) (rGeU X.K) := op_ge.or (op_tup (fun a b => by simp) (fun p1 p2 he hr => Ob.RcOp.tuples_ge p1 p2 hu he hr) (fun m n t u => Ob.RcOp.ge_int m n t u))
theorem op_inU (hu : X.A.units + 65 < cLine) : OpR X (compareOp .In) (rInU X.K false) := by
  intro pins s σ H x y v u Q I rx ry h
  rcases h with ⟨d, ds, hd, he, sd, se, q⟩ | h
  · rw [Bool.false_xor] at q
    obtain ⟨as, r1⟩ := Dp.reads I d x v hd rx
    rcases he with he | he
    · obtain ⟨bs, r2⟩ := Dp.reads I _ y u he ry
      exact SeqAt.in_list_reads r2 r1 (SeqAt.canLay_of_shaped se) (SeqAt.canLay_of_shaped sd) (PyProof.Rows.room_in_shaped sd hu) ⟨.bl _, H, I, rfl, q⟩
    · obtain ⟨bs, r2⟩ := Dp.reads I _ y u he ry
      exact SeqAt.in_tuple_reads r2 r1 (SeqAt.canLay_of_shaped se) (SeqAt.canLay_of_shaped sd) (PyProof.Rows.room_in_shaped sd hu) ⟨.bl _, H, I, rfl, q⟩
  · obtain ⟨i, j, h1, h2, q⟩ := h
    rw [Bool.false_xor] at q
    exact op_in_str pins s σ H x y v u Q I rx ry ⟨i, j, h1, h2, q⟩
theorem op_notInU (hu : X.A.units + 65 < cLine) : OpR X (compareOp .NotIn) (rInU X.K true) := by
  intro pins s σ H x y v u Q I rx ry h
  rcases h with ⟨d, ds, hd, he, sd, se, q⟩ | h
  · rw [Bool.true_xor] at q
    obtain ⟨as, r1⟩ := Dp.reads I d x v hd rx
    rcases he with he | he
    · obtain ⟨bs, r2⟩ := Dp.reads I _ y u he ry
      exact SeqAt.notIn_list_reads r2 r1 (SeqAt.canLay_of_shaped se) (SeqAt.canLay_of_shaped sd) (PyProof.Rows.room_in_shaped sd hu) ⟨.bl _, H, I, rfl, q⟩
    · obtain ⟨bs, r2⟩ := Dp.reads I _ y u he ry
      exact SeqAt.notIn_tuple_reads r2 r1 (SeqAt.canLay_of_shaped se) (SeqAt.canLay_of_shaped sd) (PyProof.Rows.room_in_shaped sd hu) ⟨.bl _, H, I, rfl, q⟩
  · obtain ⟨i, j, h1, h2, q⟩ := h
    rw [Bool.true_xor] at q
    exact op_notin_str pins s σ H x y v u Q I rx ry ⟨i, j, h1, h2, q⟩
/-- slices -/
def rSlU (K : Fg) : V → Option Int → Option Int → Hp → VK → Prop := fun x lo hi H Q => rSlL K x lo hi H Q ∨ rSlA K x lo hi H Q ∨ rSlS x lo hi H Q
theorem sl_U : SlR X (rSlU X.K) := by
  intro pins s σ H x v vl vu lo hi sl Q I rx hs pl pu h
  rcases h with h | h | h
  · exact sl_list pins s σ H x v vl vu lo hi sl Q I rx hs pl pu h
  · exact sl_tupA pins s σ H x v vl vu lo hi sl Q I rx hs pl pu h
  · exact sl_str pins s σ H x v vl vu lo hi sl Q I rx hs pl pu h
end
section
variable {K : Fg} {env : Evn} {te ta tb tc : TE} {t u : TT} {d a b c : D} {mg : Str → Option Value} {E : XK} {e : En} {ts tz tu tw : TS}
theorem ev_addI {i j : Int} (ha : EvD K ta env (.int i)) (hb : EvD K tb env (.int j)) : EvD K (tOp (rAddU K) ta tb) env (.int (i + j)) := ev_op ha hb fun G H x y e hx hy Q q => Or.inl (rd_I0 (fun _ => .int _) G H x y e hx hy Q q)
theorem ev_addS {i j : Str} (ha : EvD K ta env (.str i)) (hb : EvD K tb env (.str j)) (hz : i.length + j.length ≤ sizeLine) : EvD K (tOp (rAddU K) ta tb) env (.str (i ++ j)) := ev_op ha hb fun G H x y e hx hy Q q => by
  cases hx; cases hy
  exact Or.inr (Or.inl ⟨i, j, rfl, rfl, hz, q _ G H (Fm.refl e) (.str _)⟩)
theorem ev_addT {xs ys : List D} (ha : EvD K ta env (.tuple xs)) (hb : EvD K tb env (.tuple ys)) (hz : xs.length + ys.length ≤ sizeLine) : EvD K (tOp (rAddU K) ta tb) env (.tuple (xs ++ ys)) := ev_op ha hb fun G H x y e hx hy Q q => by
  cases hx with
  | @tup _ vs _ h1 h2 => cases hy with
    | @tup _ ws _ g1 g2 =>
      have f1 := h2.length
      have f2 := g2.length
      refine Or.inr (Or.inr (Or.inl ⟨_, _, _, _, rfl, rfl, ex_t e h1, ex_t e g1, by omega, fun z => ?_, fun _ z => ?_, fun _ _ p hp => ?_⟩))
      · subst z; cases h2; exact q _ G H (Fm.refl e) (.tup g1 g2)
      · subst z; cases g2; rw [List.append_nil] at q; exact q _ G H (Fm.refl e) (.tup h1 h2)
      · have f := Fm.new (o := .tup (vs ++ ws)) e hp
        exact q _ _ _ f (.tup upd_same ((h2.up f.g).app (g2.up f.g)))
theorem evn_addL {xs ys : List D} (ha : EvD K ta env (.list xs)) (hb : EvD K tb env (.list ys)) (hz : xs.length + ys.length ≤ sizeLine) : EvN K (tOp (rAddU K) ta tb) env (xs ++ ys) := evn_op ha hb fun G H x y e hx hy Q q => by
  cases hx with
  | lst h1 h2 => cases hy with
    | lst g1 g2 =>
      have f1 := h2.length
      have f2 := g2.length
      exact Or.inr (Or.inr (Or.inr ⟨_, _, _, _, rfl, rfl, e.o _ _ h1 rfl, e.o _ _ g1 rfl, by omega, fun p hp => q p _ G _ (Fm.own e hp) hp (e.back hp) upd_same (h2.app g2)⟩))
theorem ev_addL {xs ys : List D} (ha : EvD K ta env (.list xs)) (hb : EvD K tb env (.list ys)) (hz : xs.length + ys.length ≤ sizeLine) : EvD K (tOp (rAddU K) ta tb) env (.list (xs ++ ys)) := ev_ofN (evn_addL ha hb hz)
theorem ev_mulI {i j : Int} (ha : EvD K ta env (.int i)) (hb : EvD K tb env (.int j)) (hc : CMul i j) : EvD K (tOp (rMulU K) ta tb) env (.int (i * j)) := ev_op ha hb fun G H x y e hx hy Q q => Or.inl (rd_I hc (fun _ => .int _) G H x y e hx hy Q q)
theorem RpL.rep {H : Hp} {vs : List V} {ds : List D} (h : RpL K H vs ds) : ∀ n : Nat, RpL K H (List.replicate n vs).flatten (List.replicate n ds).flatten
  | 0 => .nil
  | n + 1 => by rw [List.replicate_succ, List.replicate_succ, List.flatten_cons, List.flatten_cons]; exact h.app (RpL.rep h n)
theorem evn_mulL {xs : List D} {k : Int} (ha : EvD K ta env (.list xs)) (hb : EvD K tb env (.int k)) (h1 : -(2 ^ 63) ≤ k ∧ k < 2 ^ 63) (hz : xs.length * k.toNat ≤ sizeLine) : EvN K (tOp (rMulU K) ta tb) env (List.replicate k.toNat xs).flatten := evn_op ha hb fun G H x y e hx hy Q q => by
  cases hx with
  | lst g1 g2 =>
    cases hy
    have f1 := g2.length
    exact Or.inr (Or.inl ⟨_, k, _, rfl, rfl, e.o _ _ g1 rfl, h1.1, h1.2, by rw [f1]; exact hz, fun p hp => q p _ G _ (Fm.own e hp) hp (e.back hp) upd_same (g2.rep _)⟩)
theorem ev_mulT {xs : List D} {k : Int} (ha : EvD K ta env (.tuple xs)) (hb : EvD K tb env (.int k)) (h1 : 2 ≤ k ∧ k ≤ 1000) (h2 : xs ≠ []) (hz : xs.length ≤ 1000) : EvD K (tOp (rMulU K) ta tb) env (.tuple (List.replicate k.toNat xs).flatten) := ev_op ha hb fun G H x y e hx hy Q q => by
  cases hx with
  | @tup _ vs _ g1 g2 =>
    cases hy
    have f1 := g2.length
    refine Or.inr (Or.inr ⟨_, k, _, rfl, rfl, ex_t e g1, fun z => h2 (by subst z; cases g2; rfl), h1.1, h1.2, by omega, fun p hp => ?_⟩)
    have f := Fm.new (o := .tup (List.replicate k.toNat vs).flatten) e hp
    exact q _ _ _ f (.tup upd_same ((g2.up f.g).rep _))
/-! comparisons -/
theorem rd_cmpI {f : Int → Int → Bool} {g : List Int → List Int → Bool} {i j : Int} : RD K (rCmpU K f g) (.int i) (.int j) (.bool (f i j)) := fun G H x y e hx hy Q q => Or.inl (rd_I0 (fun _ => .bl _) G H x y e hx hy Q q)
def itup (ns : List Int) : D := .tuple (ns.map .int)
theorem rd_cmpT {f : Int → Int → Bool} {g : List Int → List Int → Bool} {ns ms : List Int} : RD K (rCmpU K f g) (itup ns) (itup ms) (.bool (g ns ms)) := fun G H x y e hx hy Q q => by
  cases hx with
  | tup h1 h2 => cases hy with
    | tup g1 g2 =>
      rw [h2.ints] at h1
      rw [g2.ints] at g1
      exact Or.inr ⟨_, _, ns, ms, rfl, rfl, ex_t e h1, ex_t e g1, q _ G H (Fm.refl e) (.bl _)⟩
/-- in -/
def inD (x : D) (ds : List D) : Bool := ds.any fun z => eqD z x
theorem toPys_any (x : D) : ∀ ds : List D, ((toPys ds).any fun z => PyData.eqv z (toPy x)) = inD x ds
  | [] => by simp [toPys, inD]
  | d :: ds => by
    have ih := toPys_any x ds
    simp only [toPys, List.any_cons, inD, eqD] at ih ⊢
    rw [ih]
theorem rd_inL {neg : Bool} {ds : List D} (ha : shp a = true) (hb : shp (.list ds) = true) : RD K (rInU K neg) a (.list ds) (.bool (neg ^^ inD a ds)) := fun G H x y e hx hy Q q => by
  refine Or.inl ⟨toPy a, toPys ds, Rp.dp _ _ (SeqAt.canLay_of_shaped ha) (hx.up e), Or.inl ?_, ha, ?_, ?_⟩
  · have z := Rp.dp _ _ (SeqAt.canLay_of_shaped hb) (hy.up e)
    rw [toPy] at z; exact z
  · have z := hb
    rw [shp, toPy] at z; exact z
  · rw [toPys_any]; exact q _ G H (Fm.refl e) (.bl _)
theorem shp_tl {ds : List D} : shp (.tuple ds) = shp (.list ds) := by
  have h1 : (PyData.tuple (toPys ds)).canLay0 = (PyData.list (toPys ds)).canLay0 := by simp only [PyData.canLay0]
  have h2 : (PyData.tuple (toPys ds)).depth = (PyData.list (toPys ds)).depth := by simp only [PyData.depth]
  unfold shp SeqAt.shaped
  rw [toPy, toPy, h1, h2]
theorem rd_inT {neg : Bool} {ds : List D} (ha : shp a = true) (hb : shp (.tuple ds) = true) : RD K (rInU K neg) a (.tuple ds) (.bool (neg ^^ inD a ds)) := fun G H x y e hx hy Q q => by
  refine Or.inl ⟨toPy a, toPys ds, Rp.dp _ _ (SeqAt.canLay_of_shaped ha) (hx.up e), Or.inr ?_, ha, ?_, ?_⟩
  · have z := Rp.dp _ _ (SeqAt.canLay_of_shaped hb) (hy.up e)
    rw [toPy] at z; exact z
  · have z := hb
    rw [shp_tl, shp, toPy] at z; exact z
  · rw [toPys_any]; exact q _ G H (Fm.refl e) (.bl _)
theorem rd_inK {neg : Bool} {ds : List D} (ha : shp a = true) (hb : shp (.tuple ds) = true) : RD K (rInU K neg) a (.kst ds) (.bool (neg ^^ inD a ds)) := fun G H x y e hx hy Q q => by
  cases hy with
  | kst h1 h2 =>
    have c := SeqAt.canLay_of_shaped hb
    rw [toPy, PyData.canLay0] at c
    refine Or.inl ⟨toPy a, toPys ds, Rp.dp _ _ (SeqAt.canLay_of_shaped ha) (hx.up e), Or.inr (.tup (ex_k e h1) (RpL.dp _ _ c (h2.up e))), ha, ?_, ?_⟩
    · have z := hb
      rw [shp_tl, shp, toPy] at z; exact z
    · rw [toPys_any]; exact q _ G H (Fm.refl e) (.bl _)
/-! not, by truth -/
theorem ev_notT (h : EvD K ta env a) (hs : okStr a = true := by rfl) : EvD K (tNotT K ta) env (.bool (!truD a)) := fun G0 B G H σ s Q q =>
  h G0 B G H σ s _ fun v G1 H1 f1 r1 => ⟨truD a, tru_rp f1.i r1 hs, q _ G1 H1 f1 (.bl _)⟩
/-! slices -/
def cutD (xs : List D) (lo hi : Option Int) : List D := (xs.drop (HT.sIx xs.length 0 lo)).take (HT.sIx xs.length xs.length hi - HT.sIx xs.length 0 lo)
theorem RpL.cut {H : Hp} {vs : List V} {ds : List D} (h : RpL K H vs ds) (lo hi : Option Int) : RpL K H (cutV vs lo hi) (cutD ds lo hi) := by
  unfold cutV cutD
  rw [h.length]
  exact (h.drop _).take _
theorem eo_none : EvO K tNoPart env none := fun G0 B G H σ s Q q => q G H (Fm.refl s.i)
theorem eo_some {i : Int} (h : EvD K te env (.int i)) : EvO K (tPart te) env (some i) := fun G0 B G H σ s Q q => h G0 B G H σ s _ fun v G1 H1 f1 r1 => by
  cases r1; exact ⟨i, rfl, q G1 H1 f1⟩
theorem evn_slL {tl th : TO} {xs : List D} {lo hi : Option Int} (h : EvD K te env (.list xs)) (h1 : EvO K tl env lo) (h2 : EvO K th env hi) : EvN K (tSl (rSlU K) te tl th) env (cutD xs lo hi) := fun G0 B G H σ s Q q =>
  h G0 B G H σ s _ fun v G1 H1 f1 r1 => h1 G0 B G1 H1 σ (s.fwd f1) _ fun G2 H2 f2 => h2 G0 B G2 H2 σ ((s.fwd f1).fwd f2) _ fun G3 H3 f3 => by
    have f13 := (f1.trans f2).trans f3
    cases r1 with
    | lst g1 g2 => exact Or.inl ⟨_, _, rfl, SqL.of (f3.h.o _ _ (f2.h.o _ _ (f1.i.o _ _ g1 rfl) rfl) rfl), fun p hp => q p _ G3 _ (f13.trans (Fm.own f3.i hp)) (f13.h.back hp) (f3.i.back hp) upd_same ((g2.up (f2.trans f3).g).cut lo hi)⟩
theorem ev_slL {tl th : TO} {xs : List D} {lo hi : Option Int} (h : EvD K te env (.list xs)) (h1 : EvO K tl env lo) (h2 : EvO K th env hi) : EvD K (tSl (rSlU K) te tl th) env (.list (cutD xs lo hi)) := ev_ofN (evn_slL h h1 h2)
theorem ev_slT {tl th : TO} {xs : List D} {lo hi : Option Int} (h : EvD K te env (.tuple xs)) (h1 : EvO K tl env lo) (h2 : EvO K th env hi) : EvD K (tSl (rSlU K) te tl th) env (.tuple (cutD xs lo hi)) := fun G0 B G H σ s Q q =>
  h G0 B G H σ s _ fun v G1 H1 f1 r1 => h1 G0 B G1 H1 σ (s.fwd f1) _ fun G2 H2 f2 => h2 G0 B G2 H2 σ ((s.fwd f1).fwd f2) _ fun G3 H3 f3 => by
    have f13 := (f1.trans f2).trans f3
    cases r1 with
    | @tup _ vs _ g1 g2 =>
      refine Or.inr (Or.inl ⟨_, _, rfl, ex_t ((f1.i.trans f2.h).trans f3.h) g1, fun z => ?_, fun z p hp => ?_⟩)
      · refine q _ G3 H3 f13 ?_
        have e1 : cutD xs lo hi = xs := by
          have hl := g2.length
          unfold cutD
          rw [hl] at z
          rw [z.1, z.2, List.drop_zero, Nat.sub_zero, List.take_length]
        rw [e1]
        exact .tup ((f2.trans f3).g.o _ _ g1 rfl) (g2.up (f2.trans f3).g)
      · have f := Fm.new (o := .tup (cutV vs lo hi)) f3.i hp
        exact q _ _ _ (f13.trans f) (.tup upd_same (((g2.up (f2.trans f3).g).up f.g).cut lo hi))
end
end Ly

namespace Ly
open PySem L2
/-! ### built-in names -/
theorem b_isinstance : bootBuiltins "isinstance" = some (.builtin "isinstance") := by decide +kernel
theorem b_len : bootBuiltins "len" = some (.builtin "len") := by decide +kernel
theorem b_max : bootBuiltins "max" = some (.builtin "max") := by decide +kernel
theorem b_min : bootBuiltins "min" = some (.builtin "min") := by decide +kernel
theorem b_sum : bootBuiltins "sum" = some (.builtin "sum") := by decide +kernel
theorem b_sorted : bootBuiltins "sorted" = some (.builtin "sorted") := by decide +kernel
theorem b_int : bootBuiltins "int" = some (.type "int") := by decide +kernel
theorem b_bool : bootBuiltins "bool" = some (.type "bool") := by decide +kernel
theorem b_str : bootBuiltins "str" = some (.type "str") := by decide +kernel
theorem b_tuple : bootBuiltins "tuple" = some (.type "tuple") := by decide +kernel
theorem b_list : bootBuiltins "list" = some (.type "list") := by decide +kernel
theorem b_set : bootBuiltins "set" = some (.type "set") := by decide +kernel
structure NoB (mg : Str → Option Value) : Prop where
  isinstance_ : mg "isinstance" = none
  len : mg "len" = none
  max_ : mg "max" = none
  min_ : mg "min" = none
  sum_ : mg "sum" = none
  sorted_ : mg "sorted" = none
  int_ : mg "int" = none
  bool_ : mg "bool" = none
  str_ : mg "str" = none
  tuple_ : mg "tuple" = none
  list_ : mg "list" = none
  set_ : mg "set" = none
  range_ : mg "range" = none
  zip_ : mg "zip" = none
  enumerate_ : mg "enumerate" = none
theorem u65 {k : Nat} {A : Around} (hr : Room k A) : A.units + 65 < cLine := by have := hr.un; omega
/-! ### a list or a tuple walked -/
def iSeq (K : Fg) (tl : TE) : TI := fun σ H R => tl σ H fun x H1 => ∃ a, x = .ref a ∧ (((∃ xs, SqL K H1 a xs) ∧ R (Itl K a) H1) ∨ ((∃ xs, SqT K H1 a xs) ∧ R (Itt K a) H1))
theorem pi_seq {X : Cx} {tg l : Expr} {tl : TE} (hl : PE X l tl) : PI X tg l (iSeq X.K tl) := by
  refine ⟨fun pins s σ H R I h => ?_⟩
  refine thn (hl.run pins s σ H _ I h) fun v s1 ⟨x, H1, I1, r1, q1⟩ => ?_
  obtain ⟨a, e, q⟩ := q1
  subst e
  cases r1
  rcases q with ⟨⟨xs, hq⟩, q⟩ | ⟨⟨xs, hq⟩, q⟩
  · obtain ⟨its, rv, p, hz⟩ := I1.list hq
    refine wpAny_pyIter_list p.isList ?_
    refine ⟨s1.heap.objs.size, [s1.heap.objs.size], _, _, H1, rfl, I1.kept (t' := s1.toks) fun b o e => Heap.get?_push_of_some _ e, turn_list a _, ⟨_, Heap.get?_push_size _ rfl, rfl, rfl⟩, fun b hb => ?_, q⟩
    have e : b = s1.heap.objs.size := by simpa using hb
    subst e
    exact I1.fpOk (Nat.le_refl _) (I1.hok.fresh (Nat.le_refl _))
  · obtain ⟨its, rv, p, hz⟩ := I1.tuple hq
    refine wpAny_pyIter_tuple (show s1.heap.IsTuple a its.toArray from p) ?_
    refine ⟨s1.heap.objs.size, [s1.heap.objs.size], _, _, H1, rfl, I1.kept (t' := s1.toks) fun b o e => Heap.get?_push_of_some _ e, turn_tuple a _, ⟨_, Heap.get?_push_size _ rfl, rfl, rfl⟩, fun b hb => ?_, q⟩
    have e : b = s1.heap.objs.size := by simpa using hb
    subst e
    exact I1.fpOk (Nat.le_refl _) (I1.hok.fresh (Nat.le_refl _))
section
variable {K : Fg} {env : Evn} {te ta tb tc : TE} {t u : TT} {d a b c : D} {mg : Str → Option Value} {E : XK} {e : En} {ts tz tu tw : TS}
theorem sd_forS {tl : TE} {g : TG} {tb : TS} {ds : List D} (h : EvD K tl env d) (hd' : seqD d = some ds) (Pv : Nat → Evn → Prop) (h0 : Pv 0 env)
    (hs : ∀ i d env', ds[i]? = some d → Pv i env' → ∃ env2 js, TGt K g d env' env2 js ∧ SD K mg E tb env2 { e with nx := Pv (i + 1), ct := Pv (i + 1), bk := e.nx }) (hd : ∀ env', Pv ds.length env' → e.nx env') :
    SD K mg E (tFor (iSeq K tl) g tb) env e := fun G0 B G H σ Dd s q =>
  h G0 B G H σ s _ fun v G2 H2 f r => by
    cases r with
    | @lst a xs _ h1 h2 =>
      cases hd'
      refine ⟨a, rfl, Or.inl ⟨⟨xs, SqL.of (f.i.o _ _ h1 rfl)⟩, for_core (wi := iList K tl) (n := ds.length) Pv (s.fwd f) q h0 (fun i G1 H1 hi e1 e2 => ?_) (fun G1 H1 e1 e2 => ⟨xs, SqL.of (e2.o _ _ (e1.o _ _ h1 rfl) rfl), by rw [h2.length]; exact Nat.le_refl _⟩) (fun i G1 H1 x H' hi e1 e2 y => ?_) hd⟩⟩
      · obtain ⟨v, g1, _⟩ := h2.get (List.getElem?_eq_getElem hi)
        exact ⟨xs, v, SqL.of (e2.o _ _ (e1.o _ _ h1 rfl) rfl), g1⟩
      · obtain ⟨rfl, y⟩ := y
        have hx := y xs (SqL.of (e2.o _ _ (e1.o _ _ h1 rfl) rfl))
        obtain ⟨d, g1, g2⟩ := h2.getV hx
        exact ⟨G1, d, Fm.refl e2, g2.up e1, fun env' p => hs i d env' g1 p⟩
    | @tup a xs _ h1 h2 =>
      cases hd'
      refine ⟨a, rfl, Or.inr ⟨⟨xs, ex_t f.i h1⟩, for_core (wi := iTup K tl) (n := ds.length) Pv (s.fwd f) q h0 (fun i G1 H1 hi e1 e2 => ?_) (fun G1 H1 e1 e2 => ⟨xs, ex_t (e1.trans e2) h1, by rw [h2.length]; exact Nat.le_refl _⟩) (fun i G1 H1 x H' hi e1 e2 y => ?_) hd⟩⟩
      · obtain ⟨v, g1, _⟩ := h2.get (List.getElem?_eq_getElem hi)
        exact ⟨xs, v, ex_t (e1.trans e2) h1, g1⟩
      · obtain ⟨rfl, y⟩ := y
        have hx := y xs (ex_t (e1.trans e2) h1)
        obtain ⟨d, g1, g2⟩ := h2.getV hx
        exact ⟨G1, d, Fm.refl e2, g2.up e1, fun env' p => hs i d env' g1 p⟩
    | _ => cases hd'
theorem evn_lcS {tl : TE} {g : TG} {vs : List Nat} {ds : List D} (f : D → Bool) (h : D → D) (hl : EvD K tl env d) (hd' : seqD d = some ds) (hz : ds.length < sizeLine)
    (hs : ∀ x, x ∈ ds → ∃ env2 js, TGt K g x (wipeE env vs) env2 js ∧ (∀ j ∈ js, j ∈ vs) ∧ EvT K t env2 (f x) ∧ (f x = true → EvD K te env2 (h x))) :
    EvN K (tLc (iSeq K tl) g t te vs) env ((ds.filter f).map h) := fun G0 B G H σ s Q q =>
  hl G0 B G H σ s _ fun v G2 H2 fm r => by
    cases r with
    | @lst a xs _ h1 h2 =>
      cases hd'
      refine ⟨a, rfl, Or.inl ⟨⟨xs, SqL.of (fm.i.o _ _ h1 rfl)⟩, lc_core' (n := ds.length) (fun i => f (ds.getD i .none)) (fun i => h (ds.getD i .none)) hz (s.fwd fm) (fun i G1 H1 hi e1 e2 => ?_) (fun G1 H1 e1 e2 => ⟨xs, SqL.of (e2.o _ _ (e1.o _ _ h1 rfl) rfl), by rw [h2.length]; exact Nat.le_refl _⟩) (fun i G1 H1 x H' hi e1 e2 y => ?_) (fun p ys G3 H3 f3 g1 g2 g3 g4 => q p ys G3 H3 (fm.trans f3) (fm.h.back g1) g2 g3 (by rw [range_map] at g4; exact g4))⟩⟩
      · obtain ⟨v, g1, _⟩ := h2.get (List.getElem?_eq_getElem hi)
        exact ⟨xs, v, SqL.of (e2.o _ _ (e1.o _ _ h1 rfl) rfl), g1⟩
      · obtain ⟨rfl, y⟩ := y
        have hx := y xs (SqL.of (e2.o _ _ (e1.o _ _ h1 rfl) rfl))
        obtain ⟨d, g1, g2⟩ := h2.getV hx
        have ed : ds.getD i .none = d := by rw [List.getD_eq_getElem?_getD, g1]; rfl
        obtain ⟨env2, js, k1, k2, k3, k4⟩ := hs d (List.mem_of_getElem? g1)
        exact ⟨G1, d, Fm.refl e2, g2.up e1, env2, js, k1, k2, by rw [ed]; exact k3, by rw [ed]; exact k4⟩
    | @tup a xs _ h1 h2 =>
      cases hd'
      refine ⟨a, rfl, Or.inr ⟨⟨xs, ex_t fm.i h1⟩, lc_core' (n := ds.length) (fun i => f (ds.getD i .none)) (fun i => h (ds.getD i .none)) hz (s.fwd fm) (fun i G1 H1 hi e1 e2 => ?_) (fun G1 H1 e1 e2 => ⟨xs, ex_t (e1.trans e2) h1, by rw [h2.length]; exact Nat.le_refl _⟩) (fun i G1 H1 x H' hi e1 e2 y => ?_) (fun p ys G3 H3 f3 g1 g2 g3 g4 => q p ys G3 H3 (fm.trans f3) (fm.h.back g1) g2 g3 (by rw [range_map] at g4; exact g4))⟩⟩
      · obtain ⟨v, g1, _⟩ := h2.get (List.getElem?_eq_getElem hi)
        exact ⟨xs, v, ex_t (e1.trans e2) h1, g1⟩
      · obtain ⟨rfl, y⟩ := y
        have hx := y xs (ex_t (e1.trans e2) h1)
        obtain ⟨d, g1, g2⟩ := h2.getV hx
        have ed : ds.getD i .none = d := by rw [List.getD_eq_getElem?_getD, g1]; rfl
        obtain ⟨env2, js, k1, k2, k3, k4⟩ := hs d (List.mem_of_getElem? g1)
        exact ⟨G1, d, Fm.refl e2, g2.up e1, env2, js, k1, k2, by rw [ed]; exact k3, by rw [ed]; exact k4⟩
    | _ => cases hd'
end
/-! ### defs by their place -/
def DefAt (K : Fg) (mg : Str → Option Value) (x qual : Str) (st : Stmt) (ps : List Str) : Prop :=
  ∃ f fd, FunD K x qual (defArgs st) (defBody st) (defScope st) [] [] f fd ∧ mg x = some (.ref f) ∧ Binds K fd ps []
section
variable {P : Program} {w : World} {K : Fg} {mg : Str → Option Value} {base : Heap} {x qual : Str} {st : Stmt} {N ps : List Str} {k : Nat} {C : Ct}
theorem fnh (h : DefAt K mg x qual st ps) (S : FnScope N ps (defScope st)) (len : ∀ ds r, C ds r → ds.length = ps.length)
    (hbody : ∀ (f : Addr) (cdv : Value) (A : Around) (outer : List PySem.Env) (s : Shared) (H : Hp) (E : XK), Room k (A.deeper (PyProof.Rows.envOfC qual (defScope st) s.heap.objs.size f cdv)) →
      ∃ t, PSs (cxOf CX0 P w K mg base N qual (defScope st) f cdv A outer s H E).nox (defBody st) t ∧ ∀ ds r, C ds r → SD K mg E t (startE N ds) (enOf r)) : FnH P w K mg base x CX0 (k + 1) ps C := by
  obtain ⟨f, fd, F, m, b⟩ := h
  refine ⟨f, fd, F.ok S (fun vs H Q E h => ?_) (fun cdv A outer s H vs Q E hr h => ?_), m, F.kp, b⟩
  · obtain ⟨G, ds, r, e1, _, rp, c, _⟩ := h
    rw [rp.length]; exact len ds r c
  · obtain ⟨t, h1, h2⟩ := hbody f cdv A outer s H E hr
    exact ⟨t, h1.nox, run_sd h2 h⟩
theorem fnhX (h : DefAt K mg x qual st ps) (S : FnScope N ps (defScope st)) (len : ∀ ds r, C ds r → ds.length = ps.length)
    (hbody : ∀ (f : Addr) (cdv : Value) (A : Around) (outer : List PySem.Env) (s : Shared) (H : Hp) (E : XK), Room k (A.deeper (PyProof.Rows.envOfC qual (defScope st) s.heap.objs.size f cdv)) →
      ∃ t, PSs (cxOf (L2.CX P w) P w K mg base N qual (defScope st) f cdv A outer s H E) (defBody st) t ∧ ∀ ds r, C ds r → SD K mg E t (startE N ds) (enOf r)) : FnH P w K mg base x (L2.CX P w) (k + 1) ps C := by
  obtain ⟨f, fd, F, m, b⟩ := h
  refine ⟨f, fd, F.ok S (fun vs H Q E h => ?_) (fun cdv A outer s H vs Q E hr h => ?_), m, F.kp, b⟩
  · obtain ⟨G, ds, r, e1, _, rp, c, _⟩ := h
    rw [rp.length]; exact len ds r c
  · obtain ⟨t, h1, h2⟩ := hbody f cdv A outer s H E hr
    exact ⟨t, h1, run_sd h2 h⟩
end
/-! ### try: several clauses, some with a name -/
abbrev TSx := Addr → Value → Option Addr → TS
def wMix (K : Fg) (Wout : WX) (D : Ends) : List (Value × Option Nat × TSx) → WX
  | [] => Wout
  | (c, none, ts) :: r => fun cls d σ H => ∃ b, PySem.W.exmOne K cls c = some b ∧ (b = true → ∀ a, H a = none → ts a cls d D σ H) ∧ (b = false → wMix K Wout D r cls d σ H)
  | (c, some i, ts) :: r => fun cls d σ H => ∃ b, PySem.W.exmOne K cls c = some b ∧
      (b = true → ∀ a, H a = none → ts a cls d { nx := fun σ' H' => D.nx (σ'.set i none) H', rt := D.rt, bk := fun σ' H' => D.bk (σ'.set i none) H', ct := fun σ' H' => D.ct (σ'.set i none) H' } (σ.set i (some (.ref a))) H) ∧
      (b = false → wMix K Wout D r cls d σ H)
def tTry (K : Fg) (tbw : WX → TS) (Wout : WX) (l : List (Value × Option Nat × TSx)) : TS := fun D σ H => tbw (wMix K Wout D l) D σ H
inductive HdM (X : Cx) : List ExceptHandler → List (Value × Option Nat × TSx) → Prop
  | nil : HdM X [] []
  | cons0 {x : Str} {c : Value} {ts : TSx} {b₀ : Stmt} {suite : List Stmt} {np pos' : Pos} {hds : List ExceptHandler} {l : List (Value × Option Nat × TSx)} (hc : Names X x c)
      (hsu : ∀ (a : Addr) (oe : Obj) (cls : Value) (d : Option Addr) (pn : List (Addr × Obj)), Zc cls d oe → (∃ vs, oe.data = .fields vs) → PSs (X.suite a ((a, oe) :: pn)) (b₀ :: suite) (ts a cls d)) (r : HdM X hds l) :
      HdM X (.ExceptHandler (some (.Name x np)) none (b₀ :: suite) pos' :: hds) ((c, none, ts) :: l)
  | consN {x n : Str} {i : Nat} {c : Value} {ts : TSx} {b₀ : Stmt} {suite : List Stmt} {np pos' : Pos} {hds : List ExceptHandler} {l : List (Value × Option Nat × TSx)} (hc : Names X x c) (hi : X.N[i]? = some n) (hln : X.env.kindOf n = some .local)
      (hsu : ∀ (a : Addr) (oe : Obj) (cls : Value) (d : Option Addr) (pn : List (Addr × Obj)), Zc cls d oe → (∃ vs, oe.data = .fields vs) → PSs (X.suite a ((a, oe) :: pn)) (b₀ :: suite) (ts a cls d)) (r : HdM X hds l) :
      HdM X (.ExceptHandler (some (.Name x np)) (some n) (b₀ :: suite) pos' :: hds) ((c, some i, ts) :: l)
/-! what is known where a clause is looked at: the error lies at a, in the state s -/
section
open PySem PySem.Spec PyProof.Rows
structure Caught (X : Cx) (pins : List (Addr × Obj)) (σ : L2.St) (H : Hp) (a : Addr) (cls : Value) (d : Option Addr) (s : Shared) : Prop where
  ok : X.Ok
  st : X.stack = X.env :: X.outer
  fr : X.env.frame = some X.env.locals
  na : H a = none
  back : ∃ (Bs : Heap) (si : Shared), Inv X pins σ H si ∧ (∀ b o, si.heap.get? b = some o → b ∉ frs X.stack → Bs.get? b = some o) ∧ si.heap.UpToSlots s.heap ∧ HandSPX.FlyingZ Bs (X.env :: X.outer) a (Zc cls d) s.heap ∧ s.os = si.os ∧ AllBare s.gens
variable {X : Cx} {pins : List (Addr × Obj)} {σ : L2.St} {H : Hp} {a : Addr} {cls : Value} {d : Option Addr} {s : Shared} {D : Ends}
theorem Caught.inv (k : Caught X pins σ H a cls d s) : Inv X pins σ H s := by
  obtain ⟨Bs, si, I, nb, up, fl, os, ag⟩ := k.back
  exact I.landed nb fl.1 up os ag
/-- the error's own object, and the context of a suite -/
theorem Caught.held (k : Caught X pins σ H a cls d s) : ∃ oe, s.heap.get? a = some oe ∧ Zc cls d oe ∧ (∃ vs, oe.data = .fields vs) ∧ Inv (X.suite a ((a, oe) :: (X.pn ++ pins))) [] σ H s := by
  have J := k.inv
  obtain ⟨Bs, si, I, nb, up, fl, os, ag⟩ := k.back
  obtain ⟨oe, vs, ea, z, dt⟩ := fl.there
  have out : a ∉ frs (X.env :: X.outer) := fun hm => by
    obtain ⟨_, o2, e2, no⟩ := fl.2.2.1.mem hm
    rw [ea] at e2; cases e2; exact no _ dt
  refine ⟨oe, ea, z, ⟨vs, dt⟩, J.suite ea dt k.na (fun q => out ?_) fun hm => out ?_⟩
  · exact List.mem_filterMap.mpr ⟨X.env, List.mem_cons_self, by rw [k.fr, q]⟩
  · obtain ⟨e, he, q⟩ := List.mem_filterMap.mp hm
    exact List.mem_filterMap.mpr ⟨e, List.mem_cons_of_mem _ he, q⟩
theorem Caught.grounded {A : Around} {E : Value → Shared → Prop} {Q : Unit → Shared → Prop} (k : Caught X pins σ H a cls d s) (h : ∀ s', Caught X pins σ H a cls d s' → Q () s') : wpAny (model X.prog X.w) A (setFlight (.ref a) none) Q E s := by
  obtain ⟨Bs, si, I, nb, up, fl, os, ag⟩ := k.back
  exact HandSPX.lands_againZ fl fun h' fl' up' => h _ ⟨k.ok, k.st, k.fr, k.na, Bs, si, I, nb, up.trans up', fl', os, ag⟩
/-- no clause has taken it: it goes on -/
theorem Caught.passed {Wout : WX} (k : Caught X pins σ H a cls d s) (tk : Takes X Wout) (w : Wout cls d σ H) : wpAny (model X.prog X.w) X.A (handleBy (.ref a) X.env []) (SP X pins D) X.xe s := by
  obtain ⟨Bs, si, I, nb, up, fl, os, ag⟩ := k.back
  have go : wpAny (model X.prog X.w) X.A (setFlight (.ref a) (some X.env.locals)) (fun _ s4 => wpAny (model X.prog X.w) X.A (throw (.ref a) : Sem Flow) (SP X pins D) X.xe s4) X.xe s :=
    HandSPX.setFlight_upZ fl fun h4 held u4 => wpAny_throw (tk _ _ ⟨a, Bs, si, pins, σ, H, cls, d, rfl, I, nb, up.trans u4, .inr (.inr (by rw [k.st]; exact held)), k.na, os, ag, w⟩)
  rw [← k.fr] at go
  obtain ⟨_, _, _, oe, vs, T, oT, ts', ea, z, dt, v1, r⟩ := id fl
  refine wpAny_handleBy_nil ?_
  unfold PySem.passOn
  refine wpAny_bind (wpAny_field ea dt v1 ?_)
  rw [if_neg (by simp : ¬ ((Value.ref T == Value.none) = true))]
  first | exact wpAny_bind (wpAny_pure (wpAny_bind go)) | exact wpAny_bind go
/-- the clause's class, read -/
theorem Caught.named {x : Str} {c : Value} {np : Pos} {Q : Value → Shared → Prop} {E : Value → Shared → Prop} (k : Caught X pins σ H a cls d s) (hc : Names X x c) (q : Q c s) : wpAny (model X.prog X.w) (X.A.mark (some (.ref a))) (eval (.Name x np) X.env) Q E s := by
  obtain ⟨oe, _, _, _, S⟩ := k.held
  obtain ⟨g, db, m | ⟨m, v, nn⟩⟩ := hc
  · exact ld_glob (X := X.suite a ((a, oe) :: (X.pn ++ pins))) S g m q db
  · exact ld_blt (X := X.suite a ((a, oe) :: (X.pn ++ pins))) S g m v q nn db
theorem sp_back {f : Flow} {q : Addr × Obj} {s6 : Shared} (ok : X.Ok) (h : SP (X.suite a (q :: (X.pn ++ pins))) [] D f s6) : SP X pins D f s6 := by
  cases f with
  | next => obtain ⟨a1, a2, a3, a4⟩ := h; exact ⟨a1, a2, a3.unsuite ok, a4⟩
  | brk => obtain ⟨a1, a2, a3, a4⟩ := h; exact ⟨a1, a2, a3.unsuite ok, a4⟩
  | cont => obtain ⟨a1, a2, a3, a4⟩ := h; exact ⟨a1, a2, a3.unsuite ok, a4⟩
  | ret u => obtain ⟨a1, a2, a3, a4, a5, a6⟩ := h; exact ⟨a1, a2, a3, a4.unsuite ok, a5, a6⟩
theorem Caught.by_ {Wout : WX} (hN : X.N.Nodup) (k : Caught X pins σ H a cls d s) (tk : Takes X Wout) : ∀ {hds : List ExceptHandler} {l : List (Value × Option Nat × TSx)}, HdM X hds l → wMix X.K Wout D l cls d σ H →
    wpAny (model X.prog X.w) X.A (handleBy (.ref a) X.env hds) (SP X pins D) X.xe s := by
  intro hds l hk
  obtain ⟨oe0, ea0, z0, _, _⟩ := k.held
  have ty : PySem.W.Looks (model X.prog X.w) s.heap (typeOf (.ref a)) cls := fun A Q E s2 kp q => wpAny_typeOf_ref (kp _ _ ea0) (by rw [z0.1]; exact q)
  induction hk with
  | nil => intro w; exact k.passed tk w
  | @cons0 x c ts b₀ suite np pos' more l2 hc hsu r ih =>
    rintro ⟨b, eb, yes, no⟩
    refine wpAny_handleBy_cons (codeAny_handlers_test (k.named hc ((PySem.W.exm_one (M := model X.prog X.w) k.inv.kIn ty eb).here ?_))) (by intro q; cases q)
    cases b with
    | false => exact ih (no rfl)
    | true =>
      refine codeAny_handlers_suite (k.grounded fun s5 k5 => ?_)
      obtain ⟨oe, _, z, hf, S⟩ := k5.held
      exact wpAny_mono ((hsu a oe cls d (X.pn ++ pins) z hf).run [] s5 σ H D S (yes rfl a k.na)) (fun f s6 q => sp_back k.ok q) fun _ _ z => z.elim
  | @consN x n i c ts b₀ suite np pos' more l2 hc hi hln hsu r ih =>
    rintro ⟨b, eb, yes, no⟩
    refine wpAny_handleBy_cons (codeAny_handlers_test (k.named hc ((PySem.W.exm_one (M := model X.prog X.w) k.inv.kIn ty eb).here ?_))) (by intro q; cases q)
    cases b with
    | false => exact ih (no rfl)
    | true =>
      refine codeAny_handlers_suite_as (k.grounded fun s5 k5 => ?_)
      obtain ⟨oe, _, z, hf, S⟩ := k5.held
      refine store_ok (X := X.suite a ((a, oe) :: (X.pn ++ pins))) (v := .ref a) S hN hi (.inl hln) rfl (fun s7 S7 => ?_) (.inr hln)
      refine wpAny_mono ((hsu a oe cls d (X.pn ++ pins) z hf).run [] s7 _ H _ S7 (yes rfl a k.na)) (fun f s6 q => ?_) fun _ _ z => z.elim
      have q' := sp_back k.ok q
      cases f with
      | next => obtain ⟨_, _, J6, q6⟩ := q'; exact gone_ok J6 hN hi hln fun _ J => ⟨_, _, J, q6⟩
      | brk => obtain ⟨_, _, J6, q6⟩ := q'; exact gone_ok J6 hN hi hln fun _ J => ⟨_, _, J, q6⟩
      | cont => obtain ⟨_, _, J6, q6⟩ := q'; exact gone_ok J6 hN hi hln fun _ J => ⟨_, _, J, q6⟩
      | ret u => obtain ⟨_, _, _, J6, r6, q6⟩ := q'; exact gone_ok J6 hN hi hln fun _ J => ⟨_, _, _, J, r6, q6⟩
variable {body : List Stmt} {hd0 : ExceptHandler} {hds : List ExceptHandler} {l : List (Value × Option Nat × TSx)} {pos : Pos} {tb : WX → TS} {Wout : WX}
theorem sp_ofTry {pn' : List (Addr × Obj)} {xe : Value → Shared → Prop} {f : Flow} {s6 : Shared} (ok : X.Ok) (h : SP (X.tr (X.pn ++ pins) xe) pn' D f s6) : SP X pins D f s6 := by
  cases f with
  | next => obtain ⟨a1, a2, a3, a4⟩ := h; exact ⟨a1, a2, a3.ofTry ok, a4⟩
  | brk => obtain ⟨a1, a2, a3, a4⟩ := h; exact ⟨a1, a2, a3.ofTry ok, a4⟩
  | cont => obtain ⟨a1, a2, a3, a4⟩ := h; exact ⟨a1, a2, a3.ofTry ok, a4⟩
  | ret u => obtain ⟨a1, a2, a3, a4, a5, a6⟩ := h; exact ⟨a1, a2, a3, a4.ofTry ok, a5, a6⟩
theorem ps_try_mix (hN : X.N.Nodup) (st : X.stack = X.env :: X.outer) (fr : X.env.frame = some X.env.locals) (tk : Takes X Wout)
    (hb : ∀ (W : WX) (pn : List (Addr × Obj)) (xe : Value → Shared → Prop), Takes (X.tr pn xe) W → PassesOwn (model X.prog X.w) X.A X.env xe → PSs (X.tr pn xe) body (tb W))
    (hh : HdM X (hd0 :: hds) l) : PS X (.Try body (hd0 :: hds) [] [] pos) (tTry X.K tb Wout l) := by
  refine ⟨fun pins s σ H D I h => wpAny_Try_except ?_⟩
  refine wpAny_mono ((hb (wMix X.K Wout D l) (X.pn ++ pins) _ (fun u s' xx => ?_) PassesOwn.looking).run [] s σ H D (I.toTry _) h) (fun f s1 q => ?_) fun _ _ z => z
  · obtain ⟨a, Bs, si, pn', σ', H', cls, d, rfl, J, nb, up, sky, na, os, ag, w⟩ := xx
    refine Sky.land Zc.steady (by rw [I.ok.frames, st]) fr (show Sky Bs (X.env :: X.outer) a (Zc cls d) X.env.locals s'.heap by rw [← st]; exact sky) fun h3 fl u3 => ?_
    exact Caught.by_ (s := { s' with heap := h3 }) hN ⟨I.ok, st, fr, na, Bs, si, J.ofTry I.ok, nb, up.trans u3, fl, os, ag⟩ tk hh w
  · cases f with
    | next => exact wpAny_execs_nil (sp_ofTry (f := .next) I.ok q)
    | brk => exact sp_ofTry (f := .brk) I.ok q
    | cont => exact sp_ofTry (f := .cont) I.ok q
    | ret u => exact sp_ofTry (f := .ret u) I.ok q
end
end Ly

namespace Ly
open PySem L2
section
variable {K : Fg} {env : Evn} {te ta tb tc : TE} {t u : TT} {d a b c : D} {mg : Str → Option Value} {E : XK} {e : En} {ts tz tu tw : TS} {Es : St → XK} {ex : Str → Prop}
/-! ### try -/
/-- within a try's body: what is raised goes to Es at the slots as they stand -/
def SDS (K : Fg) (mg : Str → Option Value) (Es : St → XK) (ts : TS) (env : Evn) (e : En) (ex : Str → Prop) : Prop := ∀ G0 B G H σ Dd, SR K G0 B G H σ env → EnOk K mg G0 B Dd (fun _ _ _ => True) e →
  (∀ G2 H2 x C, mg x = some (.ref C) → SR K G0 B G2 H2 σ env → ex x → Es σ (.ref C) none H2) → ts Dd σ H
def EvXS (K : Fg) (mg : Str → Option Value) (Es : St → XK) (te : TE) (env : Evn) (x : Str) : Prop := ∀ G0 B G H σ, SR K G0 B G H σ env → (∀ C G2 H2, mg x = some (.ref C) → Fm G H G2 H2 → Es σ (.ref C) none H2) → ∀ Q : VK, te σ H Q
theorem ev_callS {P : Ct} {ta : TA} {as : List D} (h : EvA K ta env as) (hp : P as (.ok d)) : EvD K (tCallS (spD K mg P) Es ta) env d := fun G0 B G H σ s Q q =>
  h G0 B G H σ s _ fun vs G1 H1 f1 r1 => ⟨G1, as, .ok d, f1.i, s.tk.up f1.tb, r1, hp, fun d' e v G2 H2 f2 r2 => by cases e; exact q v G2 H2 (f1.trans f2) r2, (fun x e => nomatch e), (fun x e => nomatch e)⟩
theorem exs_call {P : Ct} {ta : TA} {as : List D} {x : Str} (h : EvA K ta env as) (hp : P as (.err x)) : EvXS K mg Es (tCallS (spD K mg P) Es ta) env x := fun G0 B G H σ s k Q =>
  h G0 B G H σ s _ fun vs G1 H1 f1 r1 => ⟨G1, as, .err x, f1.i, s.tk.up f1.tb, r1, hp, fun d' e => (nomatch e), fun x' e C G2 H2 m f2 => by cases e; exact k C G2 H2 m (f1.trans f2), fun x e => nomatch e⟩
theorem sds_ret (h : EvD K te env d) (k : e.rt d) : SDS K mg Es (tRet te) env e ex := fun G0 B G H σ Dd s q _ =>
  h G0 B G H σ s _ fun v G2 H2 f r => q.rt G2 H2 v d (s.fm.trans f) r k
theorem sds_retX {x : Str} (h : EvXS K mg Es te env x) (k : ex x) : SDS K mg Es (tRet te) env e ex := fun G0 B G H σ Dd s q z =>
  h G0 B G H σ s (fun C G2 H2 m f => z G2 H2 x C m (s.fwd f) k) _
theorem sds_drop (h : EvD K te env d) (k : e.nx env) : SDS K mg Es (tDrop te) env e ex := fun G0 B G H σ Dd s q _ =>
  h G0 B G H σ s _ fun v G2 H2 f r => q.nx G2 H2 _ _ (s.fwd f) k
theorem sds_dropX {x : Str} (h : EvXS K mg Es te env x) (k : ex x) : SDS K mg Es (tDrop te) env e ex := fun G0 B G H σ Dd s q z =>
  h G0 B G H σ s (fun C G2 H2 m f => z G2 H2 x C m (s.fwd f) k) _
theorem sds_if {x : Bool} (h : EvT K t env x) (h1 : x = true → SDS K mg Es tu env e ex) (h2 : x = false → SDS K mg Es tw env e ex) : SDS K mg Es (tIfS t tu tw) env e ex := fun G0 B G H σ Dd s q z =>
  h G0 B G H σ s _ fun G2 H2 f => by
    cases x with
    | true => show tu Dd σ H2; exact h1 rfl G0 B G2 H2 σ Dd (s.fwd f) q z
    | false => show tw Dd σ H2; exact h2 rfl G0 B G2 H2 σ Dd (s.fwd f) q z
theorem sds_next (h : e.nx env) : SDS K mg Es tNext env e ex := fun G0 B G H σ Dd s k _ => k.nx G H σ env s h
/-- the clauses take it -/
def Hn (K : Fg) (mg : Str → Option Value) (E : XK) (Wout : WX) (l : List (Value × Option Nat × TSx)) (env : Evn) (e : En) (C : Addr) : Prop := ∀ G0 B G H σ Dd, SR K G0 B G H σ env → EnOk K mg G0 B Dd E e → wMix K Wout Dd l (.ref C) none σ H
theorem hn_skip {Wout : WX} {l : List (Value × Option Nat × TSx)} {C : Addr} {cv : Value} {o : Option Nat} {tx : TSx} (h : PySem.W.exmOne K (.ref C) cv = some false) (k : Hn K mg E Wout l env e C) : Hn K mg E Wout ((cv, o, tx) :: l) env e C := fun G0 B G H σ Dd s q => by
  cases o with
  | none => exact ⟨false, h, fun z => (nomatch z), fun _ => k G0 B G H σ Dd s q⟩
  | some i => exact ⟨false, h, fun z => (nomatch z), fun _ => k G0 B G H σ Dd s q⟩
theorem hn_take {Wout : WX} {l : List (Value × Option Nat × TSx)} {C : Addr} {cv : Value} {tx : TSx} (h : PySem.W.exmOne K (.ref C) cv = some true) (k : ∀ a, SD K mg E (tx a (.ref C) none) env e) : Hn K mg E Wout ((cv, none, tx) :: l) env e C := fun G0 B G H σ Dd s q =>
  ⟨true, h, fun _ a _ => k a G0 B G H σ Dd s q, fun z => (nomatch z)⟩
theorem SR.unset {G0 B G H : Hp} {σ : St} (s : SR K G0 B G H σ env) (i : Nat) : SR K G0 B G H (σ.set i none) (env.set i .no) :=
  s.forget (by simp [s.len]) fun j x h => by
    by_cases q : i = j
    · subst q
      by_cases hl : i < env.length
      · rw [List.getElem?_set_self hl] at h; cases h; exact .inl rfl
      · rw [List.getElem?_eq_none (by rw [List.length_set]; omega)] at h; cases h
    · rw [List.getElem?_set_ne q] at h
      exact .inr ⟨h, by rw [List.getElem?_set_ne q]⟩
theorem hn_takeN {Wout : WX} {l : List (Value × Option Nat × TSx)} {C : Addr} {cv : Value} {i : Nat} {tx : TSx} (h : PySem.W.exmOne K (.ref C) cv = some true)
    (k : ∀ a, SD K mg E (tx a (.ref C) none) (env.set i (.raw (.ref a))) { e with nx := fun v => e.nx (v.set i .no), bk := fun v => e.bk (v.set i .no), ct := fun v => e.ct (v.set i .no) }) : Hn K mg E Wout ((cv, some i, tx) :: l) env e C := fun G0 B G H σ Dd s q =>
  ⟨true, h, fun _ a _ => k a G0 B G H _ _ (s.setRaw (.ref a)) ⟨fun G H σ env s' z => q.nx G H _ _ (s'.unset i) z, q.rt, fun G H σ env s' z => q.bk G H _ _ (s'.unset i) z, fun G H σ env s' z => q.ct G H _ _ (s'.unset i) z, q.ex, q.ro, q.ri⟩, fun z => (nomatch z)⟩
theorem sd_try {Wout : WX} {l : List (Value × Option Nat × TSx)} {tbw : WX → TS} (hb : ∀ W, SDS K mg (WE W) (tbw W) env e ex) (hh : ∀ x C, mg x = some (.ref C) → ex x → Hn K mg E Wout l env e C) : SD K mg E (tTry K tbw Wout l) env e := fun G0 B G H σ Dd s q =>
  hb _ G0 B G H σ Dd s ⟨q.nx, q.rt, q.bk, q.ct, fun _ _ _ _ _ _ _ => trivial, q.ro, q.ri⟩ fun G2 H2 x C m s2 z => hh x C m z G0 B G2 H2 σ Dd s2 q
/-! isinstance of the caught error -/
def rIsE' (K : Fg) (cls : Value) (dd : Option Addr) (a : Addr) : List V → Hp → VK → Prop := fun xs H Q => ∃ C, cls = .ref C ∧ dd = none ∧ ExcC K C ∧ rIsE K C a xs H Q
theorem ev_isE {C CS a : Addr} {i : Nat} {x : Bool} (he : env[i]? = some (.raw (.ref a))) (hc : ExcC K C) (hk : PySem.W.kitOne K (.ref C) (.ref CS) = some x) :
    EvD K (tCB (rIsE' K (.ref C) none a) (tCons (tVar i) (tCons (tC (.ref CS)) tNil))) env (.bool x) := fun G0 B G H σ s Q q =>
  ⟨.ref a, s.rawAt he, C, rfl, rfl, hc, .ref CS, .ref CS, x, rfl, fun u h => h, hk, q _ G H (Fm.refl s.i) (.bl _)⟩
end
theorem PE.eqv {X : Cx} {e : Expr} {t t' : TE} (h : PE X e t) (q : t = t') : PE X e t' := q ▸ h
theorem PG.eqv {X : Cx} {e : Expr} {t t' : TG} (h : PG X e t) (q : t = t') : PG X e t' := q ▸ h
theorem PTs.eqv {X : Cx} {es : List Expr} {t t' : TT} (h : PTs X es t) (q : t = t') : PTs X es t' := q ▸ h
theorem PSs.eqv {X : Cx} {sts : List Stmt} {t t' : TS} (h : PSs X sts t) (e : t = t') : PSs X sts t' := e ▸ h
section
variable {X : Cx}
theorem call_isE' {a : Addr} {oe : Obj} {cls : Value} {dd : Option Addr} {pn : List (Addr × Obj)} (hz : Zc cls dd oe) (hf : ∃ vs, oe.data = .fields vs) : CallR (X.suite a ((a, oe) :: pn)) (.builtin "isinstance") (rIsE' X.K cls dd a) := by
  intro pins s σ H xs us Q I r h
  obtain ⟨C, rfl, rfl, hc, h⟩ := h
  exact call_isE hc hz hf pins s σ H xs us Q I r h
variable {x : Str} {k : Nat} {ps : List Str} {C : Ct} {p pos : Pos} {e : Expr} {es : List Expr} {t : TA}
/-- f(e, ..) in a try's body -/
theorem pe_fnS {W : WX} (h : FnH X.prog X.w X.K X.mg X.base x (L2.CX X.prog X.w) k ps C) (hr : Room k X.A) (tk : Takes X W) (hg : Gl X x) (ha : PA X (e :: es) t) (hdb : (x == ("__debug__" : Str)) = false := by decide)
    (he : starEach (e :: es) X.env = (false, eval e X.env) :: starEach es X.env := by rfl) (hpl : (backTo pos (starEach es X.env)).any (·.1) = false := by rfl) :
    PE X (.Call (.Name x p) (e :: es) [] pos) (tCallS (spD X.K X.mg C) (WE W) t) := by
  obtain ⟨f, fd, F, m, kp, b⟩ := h
  exact pe_callS F hr hg m kp b (fun σ => passAt tk σ) ha hdb he hpl
end
end Ly

set_option autoImplicit false
namespace Ly
open PySem PySem.Spec PyProof.Rows L2 PySem.Calls
/-! ### a lambda (len(x), x), called -/
section
variable {prog : Program} {w : World} {A : Around} {E : Value → Shared → Prop} {s : Shared} {mg mb : Str → Option Value}
abbrev lamBody (p1 p2 p3 p4 p5 : Pos) (k0 : Nat) : Expr := .Tuple [.Call (.Name "len" p1) [.Name "lot" p2] [] p3, .Name "lot" p4] k0 p5
structure LamOk (params : Arguments) (body : Expr) (scope : Scope) : Prop where
  kind : scope.kind = .function
  co : scope.isCoroutine = false
  gen : scope.isGenerator = false
  cell : ∀ y ∈ scope.names, y.2 ≠ .cell
  free : ∀ y ∈ scope.names, y.2 ≠ .free
  var : scope.names.lookup ("lot" : Str) = some .local
  len : scope.names.lookup ("len" : Str) = some .globalImplicit
  bind : ∀ (q : Str) (pm cv ctv v : Value), bindArgs (PySem.W.kla_fn "<lambda>" q params body scope [] pm cv ctv) ⟨[v], []⟩ = pure [(("lot" : Str), v)]
theorem reads_ints {h : Heap} : ∀ {vs : List Value} {ns : List Int}, IntsAre vs ns → ReadsAll h vs (ns.map PyData.int) []
  | _, _, .nil => .nil
  | _, _, .cons _ _ t => .cons (.int _ _) (reads_ints t)
theorem key_turn {f b c' : Addr} {q : Str} {params : Arguments} {scope : Scope} {pm ctv : Value} {p1 p2 p3 p4 p5 : Pos} {k0 : Nat} {vs : List Value} {ns : List Int} (hr : A.depth < recursionLimit)
    (ho : s.heap.get? f = some (PySem.W.kla_obj "<lambda>" q params (lamBody p1 p2 p3 p4 p5 k0) scope [] pm c' ctv))
    (hcode : ∃ (oc : Obj) (us : Array Value) (t : Tok), s.heap.get? c' = some oc ∧ oc.data = .fields us ∧ us[1]? = some (.str q t))
    (hlim : s.heap.NoLimit) (hg : s.heap.Ns mainGlobals mg) (hm : mg "len" = none) (hb : s.heap.Ns builtinsNs mb) (hbl : mb "len" = some (.builtin "len"))
    (L : LamOk params (lamBody p1 p2 p3 p4 p5 k0) scope) (ht : IsTup s.heap b vs.toArray) (hi : IntsAre vs ns) (hz : vs.length ≤ sizeLine) :
    wpAny (model prog w) A (call (.ref f) [.ref b]) (PySem.W.KeyPure (.tuple [.int ns.length, .tuple (ns.map .int)]) s) (fun _ _ => False) s := by
  obtain ⟨oc, us, t, hoc, hdc, hvc⟩ := hcode
  refine wpAny_call (PySem.W.kla_callFunE hr ho rfl L.co L.gen rfl ⟨c', oc, us, t, rfl, hoc, hdc, hvc⟩ ?_)
  rw [L.bind]
  refine wpAny_pure (wpAny_newFunctionEnv L.cell (fun y hy => ?_) (fun h₁ hns hsb => ⟨hlim.fresh _ hsb, ?_⟩) L.kind)
  · rw [List.mem_singleton.mp hy]; exact L.var
  have kp : ∀ b o, s.heap.get? b = some o → h₁.get? b = some o := fun b o e => hsb.extBut b o (Nat.ne_of_lt (Heap.lt_size e)) (Heap.get?_push_of_some _ e)
  refine PySem.W.kla_codeExpr ?_
  have one : ∀ (tk : Nat) (pz : Pos) (Q : Value → Shared → Prop) (E : Value → Shared → Prop) (A : Around), Q (.ref b) { s with heap := h₁, toks := tk } → wpAny (model prog w) A (eval (.Name "lot" pz) (newEnv scope s.heap.objs.size mainGlobals [] (q ++ ".<locals>.") (some f) (.ref c') none builtinsNs)) Q E { s with heap := h₁, toks := tk } := fun tk pz Q E A h =>
    wpAny_Name (wpAny_loadName_local (m := fun x => [(("lot" : Str), Value.ref b)].reverse.lookup x) L.kind L.var hns rfl h)
  have ht1 : IsTup h₁ b vs.toArray := let ⟨o, e, r⟩ := ht; ⟨o, kp _ _ e, r⟩
  refine wpAny_Tuple_spliced (Calls.spliced_cons (wpAny_Call_Name_kw (Calls.Name_function_global L.kind L.len (Calls.loadGlobal_builtin (hg.keeps kp) hm (hb.keeps kp) hbl ?_)))) 
  refine PyProof.Rows.callWith_builtin1 (Calls.spliced_cons (one _ p2 _ _ _ (Calls.spliced_nil (len_tuple ht1 (by have hl := line63; have hs : sizeLine = 16777216 := sizeLine_eq; simp only [List.size_toArray]; omega) ?_))))
  refine Calls.spliced_cons (one _ p4 _ _ _ (Calls.spliced_nil ⟨by simp; decide, ?_⟩))
  obtain ⟨ob, e1, e2, n, e3⟩ := ht1
  have el : vs.toArray.size = ns.length := by simp [hi.length]
  refine ⟨_, _, rfl, fun b o e => Heap.get?_push_of_some _ (kp b o e), ?_⟩
  rw [el]
  exact .tuple (Heap.get?_push_size _ rfl) rfl rfl (.cons (.int _ _) (.cons (.tuple (Heap.get?_push_of_some _ e1) e2 e3 (reads_ints hi)) .nil))
/-! ### sorted(a dict, key=f) -/
theorem collect_src {T : String} {r d : Addr} {n : Nat} {P : Nat → Value → Prop} {OK : Heap → Prop} {Q : List Value → Shared → Prop} (K : PySem.W.KdlSrc prog w T r d n P OK) (hh : A.handled = none) (hok : OK s.heap) (hn : n ≤ sizeLine)
    (hQ : ∀ (h' : Heap) (tk : Nat) (acc : Array Value), (∀ b o, s.heap.get? b = some o → h'.get? b = some o) → s.heap.objs.size ≤ h'.objs.size → ItemsOf P acc n → Q acc.toList { s with heap := h', toks := tk }) :
    wpAny (model prog w) A (collect (.ref r)) Q E s := by
  unfold collect
  refine wpAny_bind (wpAny_runValue (codeAny_builtin F.entry_proto_collect ?_))
  rw [Around.under_plainId F.plain_proto_collect _]
  show wpAny _ A.in1 (newList [] >>= fun l => again (.builtin "list.__iadd__" ⟨[l, .ref r], []⟩)) _ _ s
  refine wpAny_bind (wpAny_newObj_type (wpAny_pure ⟨plainId_quiet F.plain_list_iadd _, codeAny_builtin F.entry_list_iadd ?_⟩))
  rw [Around.under_plainId F.plain_list_iadd _]
  have hS : (s.heap.push { cls := .type "list", data := .seq ([] : List Value).toArray }).get? s.heap.objs.size = some { cls := .type "list", data := .seq #[] 0 } := Heap.get?_push_size _ rfl
  have up : ∀ b o, s.heap.get? b = some o → (s.heap.push { cls := .type "list", data := .seq ([] : List Value).toArray }).get? b = some o := fun b o q => Heap.get?_push_of_some _ q
  obtain ⟨l1, l2⟩ := K.there _ hok
  have go := PySem.W.kdl_extend (s := { s with heap := s.heap.push { cls := .type "list", data := .seq ([] : List Value).toArray } }) (A := A) K hh (K.keep _ _ hok fun b _ o q => up b o q) s.heap.objs.size (Nat.ne_of_gt l1) (Nat.ne_of_gt l2) (.ref s.heap.objs.size) 0 hS
    (R := fun rr s' => rr = .ok (.ret (.ref s.heap.objs.size)) ∧ ∃ (h' : Heap) (tk : Nat) (acc : Array Value) (c' : Nat), s' = { s with heap := h', toks := tk } ∧
      (∀ b o, s.heap.get? b = some o → h'.get? b = some o) ∧ h'.get? s.heap.objs.size = some { cls := .type "list", dict := none, data := .seq acc c', slots := #[] } ∧ ItemsOf P acc n)
    (fun h' tk acc c' hk e hi => ⟨rfl, h', tk, acc, c', rfl, fun b o q => hk b o (Nat.ne_of_lt (Heap.lt_size q)) (up b o q), e, hi⟩) hn
  have fin : ∀ {rr : Result} {s' : Shared}, (rr = .ok (.ret (.ref s.heap.objs.size)) ∧ ∃ (h' : Heap) (tk : Nat) (acc : Array Value) (c' : Nat), s' = { s with heap := h', toks := tk } ∧
      (∀ b o, s.heap.get? b = some o → h'.get? b = some o) ∧ h'.get? s.heap.objs.size = some { cls := .type "list", dict := none, data := .seq acc c', slots := #[] } ∧ ItemsOf P acc n) →
      rr = .ok (.ret (.ref s.heap.objs.size)) ∧ wpAny (model prog w) A (load s.heap.objs.size >>= fun o => match o.data with | .seq xs _ => (pure xs.toList : Sem (List Value)) | _ => unsupported "internal:collect") Q E s' := by
    rintro rr s' ⟨e, h', tk, acc, c', rfl, hk, hS', hi⟩
    exact ⟨e, wpAny_bind (wpAny_load hS' (wpAny_pure (hQ h' tk acc hk (Nat.le_of_lt (Heap.lt_size hS')) hi)))⟩
  refine wpAny_mono go (fun fn s' h => ?_) (fun e s' h => absurd h.1 (by simp))
  cases fn with
  | done f =>
    obtain ⟨e, h2⟩ := fin h
    cases e
    exact h2
  | again c' =>
    refine ⟨h.1, codeAny_mono h.2 fun rr s'' hr' => ?_⟩
    obtain ⟨e, h2⟩ := fin hr'
    subst e
    exact h2
theorem sorted_key_src {β : Type} {T : String} {r d : Addr} {n : Nat} {P : Nat → Value → Prop} {OK : Heap → Prop} {f : Addr} {bs : List β} {R : Value → β → Prop} {Q : Value → Shared → Prop} (k : β → PyData) (K : PySem.W.KdlSrc prog w T r d n P OK) (hh : A.handled = none) (hok : OK s.heap) (hn : n ≤ sizeLine)
    (he : ∀ acc : Array Value, ItemsOf P acc n → PySem.W.EachIs R acc.toList bs) (hal : PySem.W.AllAlike (bs.map k)) (hk : PySem.W.Sortable (bs.map k)) (hu : ∀ x, x ∈ bs → A.units + 2 + (k x).depth < cLine)
    (turn : ∀ (v : Value) (x : β), R v x → x ∈ bs → ∀ (h : Heap) (tk : Nat), (∀ b o, s.heap.get? b = some o → h.get? b = some o) →
      wpAny (model prog w) A.in1.in1 (call (.ref f) [v]) (PySem.W.KeyPure (k x) { s with heap := h, toks := tk }) (fun _ _ => False) { s with heap := h, toks := tk })
    (h : ∀ (out : List Value) (c : Nat) (h' : Heap) (tk a : Nat), (∀ b o, s.heap.get? b = some o → h'.get? b = some o) → s.heap.objs.size ≤ a → h'.get? a = some (seqObj "list" (List.toArray out) c) → PySem.W.EachIs R out (bs.mergeSort (PySem.W.dataLe false k)) →
      Q (.ref a) { s with heap := h', toks := tk }) :
    wpAny (model prog w) A (call (.builtin "sorted") [.ref r] [(Str.ofString "key", .ref f)]) Q E s := by
  refine call_function_entry_kw kind_sorted plain_sorted entry_sorted (ksk_s1 _ _) ?_
  unfold Builtin.«sorted»
  refine wpAny_bind (m := checkCount "sorted" 1 1 _) (wpAny_pure ?_)
  refine wpAny_bind (collect_src K hh hok hn fun h1 tk1 acc kp1 sz1 it => ?_)
  have e := he acc it
  have ln : acc.toList.length ≤ sizeLine := by rw [Array.length_toList, it.1]; exact hn
  refine wpAny_bind (wpAny_newList ?_ ln)
  have hat : (h1.push (seqObj "list" acc.toList.toArray 0)).get? h1.objs.size = some (seqObj "list" acc.toList.toArray 0) := Heap.get?_push_size _ rfl
  refine wpAny_bind (wpAny_holding (wpAny_call_entry_kw slot_list_sort ⟨_, hat, rfl⟩ entry_list_sort ?_ (ksk_l1 _ _)))
  rw [ksk_t1]
  have up : ∀ {g : Heap}, PySem.W.KeepsBut h1.objs.size (h1.push (seqObj "list" acc.toList.toArray 0)) g → ∀ b o, s.heap.get? b = some o → g.get? b = some o := fun {g} kp b o q =>
    kp b o (Nat.ne_of_lt (Nat.lt_of_lt_of_le (Heap.lt_size q) sz1)) (Heap.get?_push_of_some _ (kp1 b o q))
  refine PySem.W.keyH_tree (kz := bs.map k) (vs := acc.toList) (s := { s with heap := h1.push (seqObj "list" acc.toList.toArray 0), toks := tk1 }) hat (by rw [List.length_map]; exact e.length.symm) ln hal hk (PySem.W.bound_map (A := A.in1.in1) hu)
    (PySem.W.keyH_turns (s := { s with heap := h1.push (seqObj "list" acc.toList.toArray 0), toks := tk1 }) e fun v x hR hx h tk kp => turn v x hR hx h tk (up kp)) fun h' tk out c kp hD ko => ⟨_, rfl, wpAny_pure ⟨_, rfl, ?_⟩⟩
  exact h out c h' tk _ (up kp) sz1 hD (PySem.W.keyedOut_each k ko e)
end
/-! ### a lambda made: its code object is new, or the table has it -/
theorem tbl_new {H : Hp} {P z : Addr} {ps add : Array Value} {o : HO} (hP : H P = some (.tbl ps)) (hz : H z = none) (ho : isTbl o = false) : Ex H (upd (upd H P (.tbl (ps ++ add))) z o) :=
  ⟨(fun a u e t => by
    rw [upd_ne (ne_of_none e hz), upd_ne]
    · exact e
    · intro w; subst w; rw [hP] at e; cases e; cases t), fun a u e t => by
    rw [upd_ne (ne_of_none e hz)]
    by_cases w : a = P
    · subst w; rw [upd_same]; exact ⟨_, rfl, rfl⟩
    · rw [upd_ne w]; exact ⟨u, e, t⟩⟩
theorem tbl_tab {H : Hp} {P z : Addr} {ps : Array Value} {l c : Value} {pos : Pos} (hP : H P = some (.tbl ps)) (hz : H z = none) (ht : TriplesOk ps.toList) (hl : l = rawInt pos.line) (hc : c = rawInt pos.col) :
    Tb H (upd (upd H P (.tbl (ps ++ #[l, c, .ref z]))) z (LamX.CodeO z q0)) := by
  subst hl hc
  have ex := tbl_new (add := #[rawInt pos.line, rawInt pos.col, .ref z]) (o := LamX.CodeO z q0) hP hz rfl
  rintro R ⟨qs, r1, r2, r3⟩
  have cd : ∀ (p : Pos) (v : Value), codeAmong p qs.toList = some v → ∃ k, v = .ref k ∧ upd (upd H P (.tbl (ps ++ #[rawInt pos.line, rawInt pos.col, .ref z]))) z (LamX.CodeO z q0) k = some (LamX.CodeO k q0) := fun p v e => by
    obtain ⟨k, e1, e2⟩ := r3 p v e
    exact ⟨k, e1, ex.o _ _ e2 rfl⟩
  by_cases hR : R = P
  · subst hR
    rw [hP] at r1; cases r1
    have el : (ps ++ #[rawInt pos.line, rawInt pos.col, .ref z]).toList = ps.toList ++ [rawInt pos.line, rawInt pos.col, .ref z] := by simp
    refine ⟨_, by rw [upd_ne (ne_of_none hP hz), upd_same], by rw [el]; exact PySem.TriplesOk_snoc _ _ _ _ ht, fun p v e => ?_⟩
    rw [el] at e
    rcases LamX.among_app _ ht e with w | w
    · exact cd p v w
    · exact ⟨z, w, upd_same⟩
  · exact ⟨qs, by rw [upd_ne (ne_of_none r1 hz), upd_ne hR]; exact r1, r2, cd⟩
section
variable {X : Cx} {pins : List (Addr × Obj)} {σ : L2.St} {H : Hp} {s : Shared}
theorem lam_made {c P : Addr} {params : Arguments} {body : Expr} {scope : Scope} {pos : Pos} {E Q : Value → Shared → Prop} (I : Inv X pins σ H s) (TB : LamX.TabB X.base X.mg c P) (hc : X.env.code = .ref c) (hq : X.env.qual ++ ("<lambda>" : Str) = q0) (hT : LamX.TabS H P q0)
    (hdef : defaultsOf params X.env = ([], [])) (hno : ∀ y ∈ scope.names, y.2 ≠ .free)
    (go : ∀ (f z : Addr) (pm ct : Value) (H1 : Hp) (s1 : Shared), Inv X pins σ H1 s1 → Ex H H1 → Tb H H1 → s1.heap.get? f = some (PySem.W.kla_obj "<lambda>" q0 params body scope (cloFrom X.env.cells scope.names []) pm z ct) → H1 z = some (LamX.CodeO z q0) → (∀ p, s1.heap.objs.size ≤ p → H1 p = none) → (∀ p, H1 p = none → H p = none) → Q (.ref f) s1) :
    wpAny (model X.prog X.w) X.A (eval (.Lambda params body scope pos) X.env) Q E s := by
  obtain ⟨ps, tP, tk, tc⟩ := hT
  have gP : s.heap.get? P = some { cls := .none, data := .fields ps } := I.hok P _ tP
  have cl := closure_ok (scope := scope) (env := X.env) fun y hy e => absurd e (hno y hy)
  have bt := TB.bm.keeps I.bk
  have cb := TB.code.keeps I.bk
  refine PySem.W.kla_eval hdef ?_
  rw [hq]
  cases hk : codeAmong pos ps.toList with
  | some v =>
    obtain ⟨z, rfl, hz⟩ := tc pos v hk
    refine PySem.W.kla_makeFunctionHit (mg := X.mg) (c := c) (P := P) (ps := ps) cl I.ok.glob (I.mod.glob.keeps I.bk) hc cb gP tk hk bt fun ct h1 tk1 up sz => ?_
    have J := I.kept (h' := h1.push (PySem.W.kla_obj "<lambda>" q0 params body scope (cloFrom X.env.cells scope.names []) ((X.mg "__name__").getD .none) z ct)) (t' := tk1) fun b o e => Heap.get?_push_of_some _ (up b o e)
    exact go _ z _ ct H _ J (Ex.refl H) (Tb.refl H) (Heap.get?_push_size _ rfl) hz (fun p hp => J.hok.fresh hp) fun p hp => hp
  | none =>
    refine PySem.W.kla_makeFunction (mg := X.mg) (c := c) (P := P) (ps := ps) cl I.ok.glob (I.mod.glob.keeps I.bk) hc cb gP tk hk TB.gP bt fun z ct h1 tk1 up ge lt rc tb => ?_
    obtain ⟨z', oc, us, t, e, hoc, hd, hv⟩ := rc
    cases e
    have nz : H z = none := I.hok.fresh ge
    have J := LamX.inv_table (t' := tk1) (more := #[rawInt pos.line, rawInt pos.col, .ref z]) (h' := h1.push (PySem.W.kla_obj "<lambda>" q0 params body scope (cloFrom X.env.cells scope.names []) ((X.mg "__name__").getD .none) z ct)) I tP
      (fun b o hb e => Heap.get?_push_of_some _ (up b o hb e)) (Heap.get?_push_of_some _ tb) ge ⟨oc, us, t, Heap.get?_push_of_some _ hoc, hd, hv⟩
    refine go _ z _ ct _ _ J (tbl_new tP nz rfl) (tbl_tab tP nz tk rfl rfl) (Heap.get?_push_size _ rfl) upd_same (fun p hp => J.hok.fresh hp) fun p hp => ?_
    by_cases w1 : p = z
    · subst w1; exact nz
    · rw [upd_ne w1] at hp
      by_cases w2 : p = P
      · subst w2; rw [upd_same] at hp; cases hp
      · rw [upd_ne w2] at hp; exact hp
end
/-! ### sorted(d, key=lambda lot: (len(lot), lot)), d a dict by tuples of ints -/
def lotKey (x : List Int) : PyData := .tuple [.int x.length, .tuple (x.map .int)]
theorem clo_none {cells : List (Str × Addr)} : ∀ {names : List (Str × NameKind)} {acc : List (Str × Addr)}, (∀ y ∈ names, y.2 ≠ .free) → cloFrom cells names acc = acc
  | [], _, _ => rfl
  | (x, k) :: r, acc, h => by
    have h1 := h (x, k) List.mem_cons_self
    have h2 := clo_none (cells := cells) (names := r) (acc := acc) fun y hy => h y (List.mem_cons_of_mem _ hy)
    cases k <;> first | exact absurd rfl h1 | exact h2
theorem key_ints (x : List Int) : (keyT x).map kV = x.map V.int := by rw [keyT, List.map_map]; rfl
theorem keys_each {H : Hp} {kvs : List (List Key × V)} {xs : List (List Key × Addr × Value)} (r : KT H kvs xs) : ∀ {ks : List (List Int)}, kvs.map (·.1) = ks.map keyT →
    PySem.W.EachIs (fun v x => ∃ b, v = Value.ref b ∧ H b = some (.tup (x.map V.int))) (xs.map fun x => Value.ref x.2.1) ks := by
  induction r with
  | nil => intro ks e; cases ks with
    | nil => exact .nil
    | cons _ _ => simp at e
  | cons h t ih => intro ks e; cases ks with
    | nil => simp at e
    | cons k ks =>
      rw [List.map_cons, List.map_cons] at e
      injection e with e1 e2
      refine .cons ⟨_, rfl, ?_⟩ (ih e2)
      have h2 := h.2.1
      rw [e1, key_ints] at h2
      exact h2
theorem each_vals {H : Hp} {us : List Value} {ks : List (List Int)} (h : PySem.W.EachIs (fun v x => ∃ b, v = Value.ref b ∧ H b = some (.tup (x.map V.int))) us ks) :
    ∃ bs : List V, Vals bs us ∧ PySem.W.EachIs (fun v x => ∃ b, v = V.ref b ∧ H b = some (.tup (x.map V.int))) bs ks := by
  induction h with
  | nil => exact ⟨[], .nil, .nil⟩
  | cons r _ ih =>
    obtain ⟨bs, h1, h2⟩ := ih
    obtain ⟨b, rfl, hb⟩ := r
    exact ⟨.ref b :: bs, .cons rfl h1, .cons ⟨b, rfl, hb⟩ h2⟩
theorem alike_ints : ∀ x y : List Int, PySem.W.alikeAll (x.map PyData.int) (y.map PyData.int) = true
  | [], _ => by simp [PySem.W.alikeAll]
  | _ :: _, [] => by simp [PySem.W.alikeAll]
  | _ :: x, _ :: y => by simp [PySem.W.alikeAll, PySem.W.alike, alike_ints x y]
theorem depth_ints : ∀ x : List Int, PyData.depthAll (x.map PyData.int) = 0
  | [] => by simp [PyData.depthAll]
  | _ :: x => by simp [PyData.depthAll, PyData.depth, depth_ints x]
def tSortLam (P : Addr) (ta : TA) : TE := fun σ H Q => ta σ H fun vs H1 => ∃ (d : Addr) (kvs : List (List Key × V)) (ks : List (List Int)), vs = [.ref d] ∧ H1 d = some (.dT kvs) ∧ kvs.map (·.1) = ks.map keyT ∧ LamX.TabS H1 P q0 ∧
  ∀ (H2 : Hp) (p : Addr) (bs : List V), Ex H1 H2 → Tb H1 H2 → H1 p = none → H2 p = none → PySem.W.EachIs (fun v x => ∃ b, v = V.ref b ∧ H2 b = some (.tup (x.map V.int))) bs (ks.mergeSort (PySem.W.dataLe false lotKey)) → Q (.ref p) (upd H2 p (.lst bs))
section
variable {X : Cx}
theorem pe_sortLam {c P : Addr} {k k0 : Nat} {params : Arguments} {scope : Scope} {e : Expr} {ta : TA} {p p1 p2 p3 p4 p5 lpos kpos pos : Pos} (TB : LamX.TabB X.base X.mg c P) (hc : X.env.code = .ref c) (hq : X.env.qual ++ ("<lambda>" : Str) = q0) (hcalm : X.calm = true) (hr : Room k X.A)
    (hg : Gl X "sorted") (hm : X.mg "sorted" = none) (hm2 : X.mg "len" = none) (ha : PA X [e] ta) (L : LamOk params (lamBody p1 p2 p3 p4 p5 k0) scope) (hdef : defaultsOf params X.env = ([], []))
    (he : backTo pos (starEach [e] X.env) = (false, eval e X.env) :: backTo pos (starEach [] X.env) := by rfl) (hpl : (backTo pos (starEach [e] X.env)).any (·.1) = false := by rfl) :
    PE X (.Call (.Name "sorted" p) [e] [⟨some "key", .Lambda params (lamBody p1 p2 p3 p4 p5 k0) scope lpos, kpos⟩] pos) (tSortLam P ta) := by
  refine ⟨fun pins s σ H Q I h => ?_⟩
  refine wpAny_Call_Name_kw (ld_blt I hg hm (u := .builtin "sorted") (by rfl) ?_)
  refine PyProof.Rows.callWith_kw (thn (ha.run pos pins s σ H _ I h) fun us s1 ⟨vs, H1, I1, r1, q1⟩ => ?_) he hpl
  obtain ⟨d, kvs, ks, rfl, hd, hk, hT, go⟩ := q1
  obtain ⟨u, rfl, ru⟩ := vals1 r1
  obtain rfl : u = Value.ref d := ru
  show wpAny _ _ (evalAll [(do let v ← eval (.Lambda params (lamBody p1 p2 p3 p4 p5 k0) scope lpos) X.env; standAt pos; pure v)]) _ _ s1
  refine wpAny_evalAll_cons (wpAny_bind (lam_made I1 TB hc hq hT hdef L.free fun f z pm ct H2 s2 I2 ex tb hf hz fr bk => wpAny_bind (wpAny_standAt (wpAny_pure (wpAny_evalAll_nil ?_)))))
  show wpAny _ _ (call (.builtin "sorted") [.ref d] [(Str.ofString "key", .ref f)]) _ _ s2
  have hd2 := ex.o _ _ hd rfl
  obtain ⟨zl, hs, xs, pr, o, es, ep, ho, hx, hdt, hes, hn⟩ := (show ObjOk X.prog X.w H2 s2.heap d (.dT kvs) from I2.hok d _ hd2)
  have l1 : es.size = xs.length := by rw [← Array.length_toList, hes, List.length_map]
  have l2 : kvs.length = xs.length := Paired.length pr
  rw [clo_none L.free] at hf
  obtain ⟨mb, b1, b2⟩ := I2.mod.blt
  obtain ⟨⟨oc, cs, t, hoc, hcd, hcv⟩, _, _⟩ := I2.hok z _ hz
  refine sorted_key_src (bs := ks) (R := fun v x => ∃ b, v = Value.ref b ∧ H2 b = some (.tup (x.map V.int))) lotKey (kdl_raw hs hx hdt) (I2.ok.hd hcalm) ho (by omega) (fun acc it => ?_) (fun x hx y hy => ?_) (.inl fun x hx => ?_) (fun x _ => ?_) (fun v x hv _ h tk kp => ?_) fun out c h' tk a kp sz at_ ea => ?_
  · have ea : acc.toList = xs.map fun x => Value.ref x.2.1 := by
      apply List.ext_getElem?
      intro j
      have hj : es.toList[j]? = xs[j]?.map (entryOfKey (tupleKind (mixKind X.prog X.w))) := by rw [hes, List.getElem?_map]
      rw [List.getElem?_map]
      by_cases lt : j < es.size
      · obtain ⟨v, hv⟩ : ∃ v, acc.toList[j]? = some v := ⟨_, List.getElem?_eq_getElem (by rw [Array.length_toList, it.1]; exact lt)⟩
        obtain ⟨en, e1, e2⟩ := it.2 j v (by rw [← Array.getElem?_toList]; exact hv)
        rw [Array.getElem?_toList, e1] at hj
        obtain ⟨y, hy⟩ : ∃ y, xs[j]? = some y := ⟨_, List.getElem?_eq_getElem (by omega)⟩
        rw [hy] at hj ⊢
        cases hj
        rw [hv, e2]; rfl
      · rw [List.getElem?_eq_none (by rw [Array.length_toList, it.1]; omega), List.getElem?_eq_none (by omega)]; rfl
    rw [ea]
    exact keys_each pr hk
  · obtain ⟨x', _, rfl⟩ := List.mem_map.mp hx
    obtain ⟨y', _, rfl⟩ := List.mem_map.mp hy
    simp [lotKey, PySem.W.alike, PySem.W.alikeAll, alike_ints]
  · obtain ⟨x', _, rfl⟩ := List.mem_map.mp hx
    exact ⟨_, _, rfl⟩
  · have := hr.un
    have hdp : (lotKey x).depth ≤ 2 := by simp [lotKey, PyData.depth, PyData.depthAll, depth_ints]
    omega
  · obtain ⟨b, rfl, hb⟩ := hv
    obtain ⟨its, rv, pl, hz2⟩ := I2.tuple (SqT.of hb)
    have hi := rv.ints
    have pl2 : IsTup h b its.toArray := let ⟨o, e, r⟩ := pl; ⟨o, kp _ _ e, r⟩
    exact key_turn (s := { s2 with heap := h, toks := tk }) (mg := X.mg) (mb := mb) hr.depth (kp _ _ hf) ⟨oc, cs, t, kp _ _ hoc, hcd, hcv⟩ (I2.nolimit.keeps kp) ((I2.mod.glob.keeps I2.bk).keeps kp) hm2 ((b1.keeps I2.bk).keeps kp) ((b2 "len" (by decide)).trans (by rfl)) L pl2 hi (by rw [← rv.length]; exact hz2)
  · obtain ⟨bs, v1, v2⟩ := each_vals ea
    have fra : H2 a = none := I2.hok.fresh sz
    refine ⟨.ref a, upd H2 a (.lst bs), I2.laid (t' := tk) kp sz ?_, rfl, go H2 a bs ex tb (bk a fra) fra v2⟩
    refine ⟨?_, out, c, v1, at_⟩
    rw [v2.length, List.length_mergeSort, ← List.length_map (f := keyT), ← hk, List.length_map]
    exact zl
end
end Ly

namespace Ly
open PySem L2
/-! ### all tuples of the heap may be shared -/
def tupG (G H : Hp) : Hp := fun a => match H a with
  | some (.tup xs) => some (.tup xs)
  | _ => G a
theorem tupG_tup {G H : Hp} {a : Addr} {xs : List V} (h : H a = some (.tup xs)) : tupG G H a = some (.tup xs) := by unfold tupG; rw [h]
theorem tupG_or {G H : Hp} {a : Addr} : (∃ xs, H a = some (.tup xs) ∧ tupG G H a = some (.tup xs)) ∨ tupG G H a = G a := by
  unfold tupG
  cases h : H a with
  | none => exact .inr rfl
  | some o => cases o <;> first | exact .inl ⟨_, rfl, rfl⟩ | exact .inr rfl
theorem Fm.tups {G H G2 H2 : Hp} (f : Fm G H G2 H2) : Fm G H (tupG G2 H2) H2 := by
  have e : Ex G2 (tupG G2 H2) := ⟨fun a o h t => by
    rcases tupG_or (G := G2) (H := H2) (a := a) with ⟨xs, h1, h2⟩ | h1
    · rw [f.i.o a o h t] at h1; cases h1; exact h2
    · rw [h1]; exact h, fun a o h t => by
    rcases tupG_or (G := G2) (H := H2) (a := a) with ⟨xs, h1, h2⟩ | h1
    · obtain ⟨u, hu, tu⟩ := f.i.t a o h t
      rw [hu] at h1; cases h1; cases tu
    · rw [h1]; exact ⟨o, h, t⟩⟩
  refine ⟨f.g.trans e, f.h, ⟨fun a o h t => ?_, fun a o h t => ?_⟩, fun a o h t n => ?_, f.tb⟩
  · rcases tupG_or (G := G2) (H := H2) (a := a) with ⟨xs, h1, h2⟩ | h1
    · rw [h2] at h; cases h; exact h1
    · rw [h1] at h; exact f.i.o a o h t
  · rcases tupG_or (G := G2) (H := H2) (a := a) with ⟨xs, h1, h2⟩ | h1
    · rw [h2] at h; cases h; cases t
    · rw [h1] at h; exact f.i.t a o h t
  · rcases tupG_or (G := G2) (H := H2) (a := a) with ⟨xs, h1, h2⟩ | h1
    · rw [f.h.o a o h (own_tbl t)] at h1; cases h1; cases t
    · rw [h1]; exact f.n a o h t n
section
variable {K : Fg} {env : Evn} {te ta tb tc : TE} {t u : TT} {d a b c : D} {mg : Str → Option Value} {E : XK} {e : En}
/-! ### sorted(d, key=lambda ..) -/
def sortLots (ks : List (List Int)) : List (List Int) := ks.mergeSort (PySem.W.dataLe false lotKey)
theorem rpl_tups {H : Hp} {bs : List V} {ks : List (List Int)} (h : PySem.W.EachIs (fun v x => ∃ b, v = V.ref b ∧ H b = some (.tup (x.map V.int))) bs ks) : RpL K H bs (ks.map itup) := by
  induction h with
  | nil => exact .nil
  | cons r _ ih =>
    obtain ⟨b, rfl, hb⟩ := r
    exact .cons (.tup hb (RpL.ofInts _)) ih
theorem evn_sortLam {cc P : Addr} {i : Nat} {al : List (List Int × D)} (ht : PySem.W.tabIn K "all_lots" = some (cc, P)) (he : env[i]? = some (.dic al)) : EvN K (tSortLam P (tCons (tVar i) tNil)) env ((sortLots (al.map (·.1))).map itup) := fun G0 B G H σ s Q q => by
  obtain ⟨x, e1, o1, _⟩ := s.ownS he rfl
  cases o1 with
  | @dic kvs _ h1 h2 =>
    refine ⟨.ref x, e1, x, kvs, al.map (·.1), rfl, h1, h2.keys, s.tk cc P ht, fun H2 p bs ex tb n1 n2 ea => ?_⟩
    have f2 : Fm G H (tupG G H2) H2 := Fm.tups ⟨Ex.refl _, ex, s.i.trans ex, fun _ _ _ _ n => n, tb⟩
    have f3 : Fm G H (tupG G H2) (upd H2 p (.lst bs)) := f2.trans (Fm.own f2.i n2)
    exact q p bs _ _ f3 n1 (f2.i.back n2) upd_same (rpl_tups (ea.mono fun v x ⟨b, e1, e2⟩ => ⟨b, e1, tupG_tup e2⟩))
/-! ### dicts of one's own -/
def putA (al : List (List Int × D)) (k : List Int) (d : D) : List (List Int × D) := if (al.any fun p => decide (p.1 = k)) = true then al.map (fun p => if p.1 = k then (p.1, d) else p) else al ++ [(k, d)]
def getA (al : List (List Int × D)) (k : List Int) : Option D := (al.find? fun p => decide (p.1 = k)).map (·.2)
theorem keyT_inj : ∀ {x y : List Int}, keyT x = keyT y ↔ x = y
  | [], [] => by simp [keyT]
  | [], _ :: _ => by simp [keyT]
  | _ :: _, [] => by simp [keyT]
  | a :: x, b :: y => by
    have ih := keyT_inj (x := x) (y := y)
    simp only [keyT, List.map_cons, List.cons.injEq, Sum.inl.injEq] at ih ⊢
    rw [ih]
theorem al_of {G : Hp} : ∀ {kvs : List (List Key × V)} {al : List (List Int × D)}, kvs.map (·.1) = (al.map (·.1)).map keyT → RpL K G (kvs.map (·.2)) (al.map (·.2)) → Al K G kvs al
  | [], [], _, _ => .nil
  | [], _ :: _, e, _ => by simp at e
  | _ :: _, [], e, _ => by simp at e
  | (k, v) :: kvs, (k', d) :: al, e, r => by
    simp only [List.map_cons] at e r
    injection e with e1 e2
    subst e1
    cases r with
    | cons r1 r2 => exact .cons r1 (al_of e2 r2)
theorem Al.length {G : Hp} {kvs : List (List Key × V)} {al : List (List Int × D)} (h : Al K G kvs al) : kvs.length = al.length := by
  induction h with
  | nil => rfl
  | cons _ _ ih => simp [ih]
theorem Al.any {G : Hp} {kvs : List (List Key × V)} {al : List (List Int × D)} (h : Al K G kvs al) (k : List Int) : (kvs.any fun kv => decide (kv.1 = keyT k)) = al.any fun p => decide (p.1 = k) := by
  induction h with
  | nil => rfl
  | cons _ _ ih => simp [ih, keyT_inj]
theorem Al.snoc {G : Hp} {kvs : List (List Key × V)} {al : List (List Int × D)} (h : Al K G kvs al) {k : List Int} {v : V} (r : Rp K G v d) : Al K G (kvs ++ [(keyT k, v)]) (al ++ [(k, d)]) := by
  induction h with
  | nil => exact .cons r .nil
  | cons r' _ ih => exact .cons r' ih
theorem Al.repl {G : Hp} {kvs : List (List Key × V)} {al : List (List Int × D)} (h : Al K G kvs al) {k : List Int} {v : V} (r : Rp K G v d) : Al K G (kvs.map fun kv => if kv.1 = keyT k then (kv.1, v) else kv) (al.map fun p => if p.1 = k then (p.1, d) else p) := by
  induction h with
  | nil => exact .nil
  | @cons k' v' d' _ _ r' _ ih =>
    rw [List.map_cons, List.map_cons]
    by_cases e : k' = k
    · rw [if_pos (keyT_inj.mpr e), if_pos e]; exact .cons r ih
    · rw [if_neg (fun z => e (keyT_inj.mp z)), if_neg e]; exact .cons r' ih
theorem Al.put {G : Hp} {kvs : List (List Key × V)} {al : List (List Int × D)} (h : Al K G kvs al) {k : List Int} {v : V} (r : Rp K G v d) : Al K G (putK kvs (keyT k) v) (putA al k d) := by
  unfold putK putA
  rw [h.any k]
  split
  · exact h.repl r
  · exact h.snoc r
theorem Al.get {G : Hp} {kvs : List (List Key × V)} {al : List (List Int × D)} (h : Al K G kvs al) {k : List Int} (e : getA al k = some d) : ∃ v, valV kvs (keyT k) = some v ∧ Rp K G v d := by
  induction h with
  | nil => cases e
  | @cons k' v' d' _ _ r' _ ih =>
    by_cases z : k' = k
    · rw [valV_pos (keyT_inj.mpr z)]
      rw [show getA ((k', d') :: _) k = some d' by simp [getA, List.find?_cons, z]] at e
      cases e; exact ⟨v', rfl, r'⟩
    · rw [valV_neg (fun w => z (keyT_inj.mp w))]
      refine ih ?_
      rw [← e]; simp [getA, List.find?_cons, z]
theorem Al.has {G : Hp} {kvs : List (List Key × V)} {al : List (List Int × D)} (h : Al K G kvs al) (k : List Int) : (valV kvs (keyT k)).isSome = (getA al k).isSome := by
  induction h with
  | nil => rfl
  | @cons k' v' d' _ _ r' _ ih =>
    by_cases z : k' = k
    · rw [valV_pos (keyT_inj.mpr z)]
      simp [getA, List.find?_cons, z]
    · rw [valV_neg (fun w => z (keyT_inj.mp w)), ih]
      simp [getA, List.find?_cons, z]
theorem length_putA (al : List (List Int × D)) (k : List Int) (d : D) : (putA al k d).length ≤ al.length + 1 := by
  unfold putA
  split
  · rw [List.length_map]; omega
  · rw [List.length_append, List.length_cons, List.length_nil]; omega
/-- a new dict of one's own -/
def EvK (K : Fg) (te : TE) (env : Evn) (al : List (List Int × D)) : Prop := ∀ G0 B G H σ, SR K G0 B G H σ env → ∀ Q : VK, (∀ p kvs G2 H2, Fm G H G2 H2 → H p = none → G2 p = none → H2 p = some (.dT kvs) → Al K G2 kvs al → Q (.ref p) H2) → te σ H Q
theorem evk_new : EvK K tDNewT env [] := fun G0 B G H σ s Q q p hp => q p [] G _ (Fm.own s.i hp) hp (s.i.back hp) upd_same .nil
theorem evk_if {x : Bool} {al : List (List Int × D)} (h : EvT K t env x) (h1 : x = true → EvK K ta env al) (h2 : x = false → EvK K tb env al) : EvK K (tIf t ta tb) env al := fun G0 B G H σ s Q q =>
  h G0 B G H σ s _ fun G1 H1 f1 => by
    cases x with
    | true => show ta σ H1 Q; exact h1 rfl G0 B G1 H1 σ (s.fwd f1) Q fun p kvs G2 H2 f2 e1 e2 e3 e4 => q p kvs G2 H2 (f1.trans f2) (f1.h.back e1) e2 e3 e4
    | false => show tb σ H1 Q; exact h2 rfl G0 B G1 H1 σ (s.fwd f1) Q fun p kvs G2 H2 f2 e1 e2 e3 e4 => q p kvs G2 H2 (f1.trans f2) (f1.h.back e1) e2 e3 e4
theorem ev_ofK {al : List (List Int × D)} (h : EvK K te env al) : EvD K te env (.dct (al.map (·.1)) (al.map (·.2))) := fun G0 B G H σ s Q q =>
  h G0 B G H σ s Q fun p kvs G2 H2 f h1 h2 h3 h4 => q _ _ _ (f.share (.inl h1) h3 h2 rfl) (.dct upd_same h4.keys (h4.vals.up (Ex.new h2)))
theorem sd_asgK {i : Nat} {al : List (List Int × D)} (h : EvK K te env al) (k : e.nx (env.set i (.dic al))) : SD K mg E (tAsg te (gName i)) env e := fun G0 B G H σ Dd s q =>
  h G0 B G H σ s _ fun p kvs G2 H2 f h1 h2 h3 h4 => q.nx G2 H2 _ _ ((s.fwd f).setOwn (.dic h3 h4) fun a ha => by
    simp only [foot, List.mem_singleton] at ha; subst ha
    exact ⟨s.fm.h.back h1, h2, s.own_new h1⟩) k
/-- d[k] = v, d of one's own -/
theorem sd_dput {i : Nat} {al : List (List Int × D)} {k : List Int} (he : env[i]? = some (.dic al)) (hv : EvD K tb env d) (hk : EvD K ta env (itup k)) (hz : al.length < sizeLine) (kk : e.nx (env.set i (.dic (putA al k d)))) :
    SD K mg E (sDPut (tVar i) ta tb) env e := fun G0 B G H σ Dd s q =>
  hv G0 B G H σ s _ fun v G1 H1 f1 r1 => by
    obtain ⟨l, h1, h5, _⟩ := (s.fwd f1).ownS he rfl
    refine ⟨.ref l, h1, hk G0 B G1 H1 σ (s.fwd f1) _ fun y G2 H2 f2 r2 => ?_⟩
    cases h5 with
    | @dic kvs _ h4 hal =>
      cases r2 with
      | @tup b xs _ g1 g2 =>
        have ex := g2.ints
        subst ex
        have hH : H2 l = some (.dT kvs) := f2.h.o l _ h4 rfl
        refine ⟨l, upd H2 l (.dT (putK kvs (keyT k) v)), rfl, DPut.t hH (by rw [key_ints]; exact f2.i.o _ _ g1 rfl) (by rw [hal.length]; exact hz), ?_⟩
        exact q.nx G2 _ σ _ (((s.fwd f1).fwd f2).write he rfl h1 (.dic upd_same ((hal.up f2.g).put (r1.up f2.g))) rfl) kk
/-- d[k], d data -/
theorem ev_dget {ks : List (List Int)} {vs : List D} {k : List Int} (h : EvD K ta env (.dct ks vs)) (hk : EvD K tb env (itup k)) (hg : getA (ks.zip vs) k = some d) : EvD K (tDGet ta tb) env d := fun G0 B G H σ s Q q =>
  h G0 B G H σ s _ fun v G1 H1 f1 r1 => hk G0 B G1 H1 σ (s.fwd f1) _ fun y G2 H2 f2 r2 => by
    cases r1 with
    | @dct x kvs _ _ h1 h2 h3 =>
      have l1 : ks.length = vs.length := by
        have e1 := congrArg List.length h2
        have e2 := h3.length
        simp only [List.length_map] at e1 e2
        omega
      have hal : Al K G1 kvs (ks.zip vs) := al_of (by rw [List.map_fst_zip (by omega)]; exact h2) (by rw [List.map_snd_zip (by omega)]; exact h3)
      cases r2 with
      | @tup b xs _ g1 g2 =>
        have ex := g2.ints
        subst ex
        obtain ⟨w, w1, w2⟩ := (hal.up f2.g).get hg
        exact ⟨x, w, rfl, .inr ⟨kvs, keyT k, b, ex_rd f2.h rfl (ex_rd f1.i rfl (.inl h1)), rfl, by rw [key_ints]; exact f2.i.o _ _ g1 rfl, w1.symm⟩, q w G2 H2 (f1.trans f2) w2⟩
/-- d[k], d data that may be walked just now -/
theorem ev_dgetF {ks : List (List Int)} {vs : List D} {k : List Int} (h : EvD K ta env (.dfz ks vs)) (hk : EvD K tb env (itup k)) (hg : getA (ks.zip vs) k = some d) : EvD K (tDGet ta tb) env d := fun G0 B G H σ s Q q =>
  h G0 B G H σ s _ fun v G1 H1 f1 r1 => hk G0 B G1 H1 σ (s.fwd f1) _ fun y G2 H2 f2 r2 => by
    cases r1 with
    | @dfz x kvs _ _ h1 h2 h3 =>
      have l1 : ks.length = vs.length := by
        have e1 := congrArg List.length h2
        have e2 := h3.length
        simp only [List.length_map] at e1 e2
        omega
      have hal : Al K G1 kvs (ks.zip vs) := al_of (by rw [List.map_fst_zip (by omega)]; exact h2) (by rw [List.map_snd_zip (by omega)]; exact h3)
      cases r2 with
      | @tup b xs _ g1 g2 =>
        have ex := g2.ints
        subst ex
        obtain ⟨w, w1, w2⟩ := (hal.up f2.g).get hg
        exact ⟨x, w, rfl, .inr ⟨kvs, keyT k, b, ex_rd f2.h rfl (ex_rd f1.i rfl h1), rfl, by rw [key_ints]; exact f2.i.o _ _ g1 rfl, w1.symm⟩, q w G2 H2 (f1.trans f2) w2⟩
/-- k not in d -/
theorem ev_dnotin {ks : List (List Int)} {vs : List D} {k : List Int} (hk : EvD K tb env (itup k)) (h : EvD K ta env (.dct ks vs)) : EvD K (tDNotIn tb ta) env (.bool (!(getA (ks.zip vs) k).isSome)) := fun G0 B G H σ s Q q =>
  hk G0 B G H σ s _ fun y G1 H1 f1 r1 => h G0 B G1 H1 σ (s.fwd f1) _ fun v G2 H2 f2 r2 => by
    cases r2 with
    | @dct x kvs _ _ h1 h2 h3 =>
      have l1 : ks.length = vs.length := by
        have e1 := congrArg List.length h2
        have e2 := h3.length
        simp only [List.length_map] at e1 e2
        omega
      have hal : Al K G2 kvs (ks.zip vs) := al_of (by rw [List.map_fst_zip (by omega)]; exact h2) (by rw [List.map_snd_zip (by omega)]; exact h3)
      cases r1 with
      | @tup b xs _ g1 g2 =>
        have ex := g2.ints
        subst ex
        refine ⟨x, valV kvs (keyT k), rfl, .inr ⟨kvs, keyT k, b, .inl (f2.i.o _ _ h1 rfl), rfl, by rw [key_ints]; exact f2.h.o _ _ (f1.i.o _ _ g1 rfl) rfl, rfl⟩, ?_⟩
        rw [hal.has k]
        exact q _ G2 H2 (f1.trans f2) (.bl _)
end
end Ly

namespace Ly
open PySem PySem.Spec PyProof.Rows L2
/-! ### sum of a list or a tuple of ints -/
def rSumU (K : Fg) : List V → Hp → VK → Prop := fun vs H Q => ∃ (a : Addr) (ns : List Int), vs = [V.ref a] ∧ (SqL K H a (ns.map V.int) ∨ SqT K H a (ns.map V.int)) ∧ Q (.int ns.sum) H
section
variable {X : Cx}
theorem sum_tup {prog : Program} {w : World} {A : Around} {E : Value → Shared → Prop} {s : Shared} {l : Addr} {its : List Value} {ns : List Int} {Q : Value → Shared → Prop} (hh : A.handled = none) (ht : s.heap.IsTuple l its.toArray) (hi : IntsAre its ns)
    (h : ∀ h' tk t', (∀ b o, s.heap.get? b = some o → h'.get? b = some o) → Q (.int ns.sum t') { s with heap := h', toks := tk }) : wpAny (model prog w) A (call (.builtin "sum") [.ref l]) Q E s := by
  obtain ⟨xs, e⟩ := hi.allInts.items
  have q : numsOf (intItems xs).toList = ns := by rw [← e]; exact hi.numsOf
  rw [nums_intItems] at q
  rw [e] at ht
  refine PySem.W.ktm_sumG hh ht fun h1 tk t1 up => ?_
  rw [preSum_eq, List.take_of_length_le (by simp), q]
  exact h h1 tk t1 up
theorem call_sumU (hc : X.calm = true) : CallR X (.builtin "sum") (rSumU X.K) := by
  intro pins s σ H vs us Q I r h
  obtain ⟨a, ns, rfl, hs, q⟩ := h
  rw [Vals.ref1 r]
  rcases hs with hs | hs
  · obtain ⟨its, rv, hl, _⟩ := I.list hs
    exact sum_raw (I.ok.hd hc) hl.isList rv.ints fun h1 tk t1 up => ⟨.int _, H, I.kept up, ⟨_, rfl⟩, q⟩
  · obtain ⟨its, rv, hl, _⟩ := I.tuple hs
    exact sum_tup (I.ok.hd hc) hl rv.ints fun h1 tk t1 up => ⟨.int _, H, I.kept up, ⟨_, rfl⟩, q⟩
end
section
variable {K : Fg} {env : Evn} {te ta tb tc : TE} {t u : TT} {d a b c : D} {mg : Str → Option Value} {E : XK} {e : En}
theorem ev_sumL {ns : List Int} (h : EvD K te env (.list (ns.map .int))) : EvD K (tCB (rSumU K) (tCons te tNil)) env (.int ns.sum) := ev_cb (ea_cons h ea_nil) fun G H xs ex hx Q q => by
  cases hx with
  | cons r1 r2 =>
    cases r2
    cases r1 with
    | lst h1 h2 =>
      have z := h2.ints
      subst z
      exact ⟨_, ns, rfl, .inl (SqL.of (ex.o _ _ h1 rfl)), q _ G H (Fm.refl ex) (.int _)⟩
theorem ev_sumT {ns : List Int} (h : EvD K te env (itup ns)) : EvD K (tCB (rSumU K) (tCons te tNil)) env (.int ns.sum) := ev_cb (ea_cons h ea_nil) fun G H xs ex hx Q q => by
  cases hx with
  | cons r1 r2 =>
    cases r2
    cases r1 with
    | tup h1 h2 =>
      have z := h2.ints
      subst z
      exact ⟨_, ns, rfl, .inr (ex_t ex h1), q _ G H (Fm.refl ex) (.int _)⟩
/-! ### tuple(..) -/
theorem ev_tupL {ds : List D} (h : EvD K te env (.list ds)) : EvD K (tCB (fun xs H Q => ∃ p ys, xs = [.ref p] ∧ ((SqL K H p ys ∧ ∀ l, H l = none → Q (.ref l) (upd H l (.tup ys))) ∨ (SqT K H p ys ∧ Q (.ref p) H))) (tCons te tNil)) env (.tuple ds) := ev_cb (ea_cons h ea_nil) fun G H xs ex hx Q q => by
  cases hx with
  | cons r1 r2 =>
    cases r2
    cases r1 with
    | lst h1 h2 => exact ⟨_, _, rfl, .inl ⟨SqL.of (ex.o _ _ h1 rfl), fun l hl => q _ _ _ (Fm.new (o := .tup _) ex hl) (.tup upd_same (h2.up (Ex.new (ex.back hl))))⟩⟩
def rgI (n : Int) : List Int := (List.range n.toNat).map fun (i : Nat) => (i : Int)
theorem ev_tupRg {n : Int} (h : EvD K te env (.int n)) (h0 : 0 ≤ n) (h1 : n ≤ 16777216) : EvD K (tTupRg (tRg1 te)) env (itup (rgI n)) := fun G0 B G H σ s Q q =>
  h G0 B G H σ s _ fun v G1 H1 f1 r1 => by
    cases r1
    refine ⟨n, rfl, RgOk.of_le (Int.le_refl _) h1 (by omega) h0, fun p hp => ?_⟩
    have f2 := Fm.new (o := .tup (rgV 0 n)) f1.i hp
    refine q _ _ _ (f1.trans f2) (.tup upd_same ?_)
    have ez : rgV 0 n = (rgI n).map V.int := by
      unfold rgV rgI
      rw [List.map_map, Int.sub_zero]
      refine List.map_congr_left fun i _ => ?_
      show V.int (0 + (i : Int)) = V.int (i : Int)
      rw [Int.zero_add]
    rw [ez]
    exact RpL.ofInts _
theorem evn_lstRg {n : Int} (h : EvD K te env (.int n)) (h0 : 0 ≤ n) (h1 : n ≤ 16777216) : EvN K (tLstRg (tRg1 te)) env ((rgI n).map .int) := fun G0 B G H σ s Q q =>
  h G0 B G H σ s _ fun v G1 H1 f1 r1 => by
    cases r1
    refine ⟨n, rfl, RgOk.of_le (Int.le_refl _) h1 (by omega) h0, fun p hp => ?_⟩
    refine q p _ G1 _ (f1.trans (Fm.own f1.i hp)) (f1.h.back hp) (f1.i.back hp) upd_same ?_
    have ez : rgV 0 n = (rgI n).map V.int := by
      unfold rgV rgI
      rw [List.map_map, Int.sub_zero]
      refine List.map_congr_left fun i _ => ?_
      show V.int (0 + (i : Int)) = V.int (i : Int)
      rw [Int.zero_add]
    rw [ez]
    exact RpL.ofInts _
/-! ### zip, enumerate -/
theorem zip_get {α β : Type} {xs : List α} {ys : List β} {i : Nat} {x : α} {y : β} (h1 : xs[i]? = some x) (h2 : ys[i]? = some y) : (xs.zip ys)[i]? = some (x, y) := by rw [List.getElem?_zip_eq_some]; exact ⟨h1, h2⟩
theorem lcZ_core {J : It} {g : TG} {vs : List Nat} {xs ys : List D} {G0 B G H : Hp} {σ : L2.St} {Q : VK} (f : D × D → Bool) (h : D × D → D) (hz : xs.length < sizeLine) (s : SR K G0 B G H σ env)
    (hgo : ∀ i G1 H1 x y, xs[i]? = some x → ys[i]? = some y → Ex G G1 → Ex G1 H1 → J.go i H1) (hst : ∀ i G1 H1, (xs.length ≤ i ∨ ys.length ≤ i) → Ex G G1 → Ex G1 H1 → J.stop i H1)
    (hy : ∀ i G1 H1 v H' x y, xs[i]? = some x → ys[i]? = some y → Ex G G1 → Ex G1 H1 → J.yld i H1 v H' → ∃ G2, Fm G1 H1 G2 H' ∧ Rp K G2 v (.tuple [x, y]))
    (hs : ∀ x y, (x, y) ∈ xs.zip ys → ∃ env2 js, TGt K g (.tuple [x, y]) (wipeE env vs) env2 js ∧ (∀ j ∈ js, j ∈ vs) ∧ EvT K t env2 (f (x, y)) ∧ (f (x, y) = true → EvD K te env2 (h (x, y))))
    (hq : ∀ p zs G2 H2, Fm G H G2 H2 → H p = none → G2 p = none → H2 p = some (.lst zs) → RpL K G2 zs (((xs.zip ys).filter f).map h) → Q (.ref p) H2) :
    ∀ Dl, H Dl = none → ∃ W : Nat → Nat → Hp → Prop, (∃ m, W 0 m (upd H Dl (.lst []))) ∧ ∀ i m H, W i m H →
      (J.stop i H ∧ Q (.ref Dl) H) ∨ (J.go i H ∧ ∃ Nx : Hp → Prop, (∀ H', Nx H' → ∃ m', m' < m ∧ W (i + 1) m' H') ∧ ∀ x H', J.yld i H x H' → g x (wipe σ vs) H' fun σ2 H2 => wipe σ2 vs = wipe σ vs ∧ t σ2 H2 fun b H3 =>
        if b = true then te σ2 H3 fun y H4 => ∃ acc, H4 Dl = some (.lst acc) ∧ acc.length < sizeLine ∧ Nx (upd H4 Dl (.lst (acc ++ [y]))) else Nx H3) := by
  have hl : (xs.zip ys).length = min xs.length ys.length := List.length_zip
  have at_ : ∀ i, i < (xs.zip ys).length → ∃ x y, xs[i]? = some x ∧ ys[i]? = some y ∧ (xs.zip ys)[i]? = some (x, y) := fun i hi => by
    have h1 : xs[i]? = some (xs[i]'(by omega)) := List.getElem?_eq_getElem (by omega)
    have h2 : ys[i]? = some (ys[i]'(by omega)) := List.getElem?_eq_getElem (by omega)
    exact ⟨_, _, h1, h2, zip_get h1 h2⟩
  refine lc_core' (n := (xs.zip ys).length) (fun i => f ((xs.zip ys).getD i (.none, .none))) (fun i => h ((xs.zip ys).getD i (.none, .none))) (by omega) s (fun i G1 H1 hi e1 e2 => ?_) (fun G1 H1 e1 e2 => hst _ G1 H1 (by omega) e1 e2) (fun i G1 H1 x H' hi e1 e2 y => ?_) (fun p zs G3 H3 f3 g1 g2 g3 g4 => hq p zs G3 H3 f3 g1 g2 g3 (by rw [range_map] at g4; exact g4))
  · obtain ⟨x, y, h1, h2, _⟩ := at_ i hi
    exact hgo i G1 H1 x y h1 h2 e1 e2
  · obtain ⟨x', y', h1, h2, h3⟩ := at_ i hi
    obtain ⟨G2, f2, r2⟩ := hy i G1 H1 x H' x' y' h1 h2 e1 e2 y
    have ed : (xs.zip ys).getD i (.none, .none) = (x', y') := by rw [List.getD_eq_getElem?_getD, h3]; rfl
    obtain ⟨env2, js, k1, k2, k3, k4⟩ := hs x' y' (List.mem_of_getElem? h3)
    exact ⟨G2, _, f2, r2, env2, js, k1, k2, by rw [ed]; exact k3, by rw [ed]; exact k4⟩
/-- [.. for (x, y) in zip(xs, ys) if ..], both tuples -/
theorem evn_lcZT {tA : TA} {g : TG} {vs : List Nat} {xs ys : List D} (f : D × D → Bool) (h : D × D → D) (hl : EvA K tA env [.tuple xs, .tuple ys]) (hz : xs.length < sizeLine)
    (hs : ∀ x y, (x, y) ∈ xs.zip ys → ∃ env2 js, TGt K g (.tuple [x, y]) (wipeE env vs) env2 js ∧ (∀ j ∈ js, j ∈ vs) ∧ EvT K t env2 (f (x, y)) ∧ (f (x, y) = true → EvD K te env2 (h (x, y)))) :
    EvN K (tLc (RZ.iZipA K tA) g t te vs) env (((xs.zip ys).filter f).map h) := fun G0 B G H σ s Q q =>
  hl G0 B G H σ s _ fun ws G2 H2 fm r => by
    cases r with
    | cons r1 r2 => cases r2 with
      | cons r2 r3 =>
        cases r3
        cases r1 with
        | @tup a1 us _ h1 h2 => cases r2 with
          | @tup a2 ws _ g1 g2 =>
            refine ⟨a1, a2, us, ws, rfl, .inr ⟨ex_t fm.i h1, ex_t fm.i g1, lcZ_core f h hz (s.fwd fm) (fun i G1 H1 x y e1 e2 x1 x2 => ?_) (fun i G1 H1 e1 x1 x2 => ?_) (fun i G1 H1 v H' x y e1 e2 x1 x2 yl => ?_) hs (fun p zs G3 H3 f3 b1 b2 b3 b4 => q p zs G3 H3 (fm.trans f3) (fm.h.back b1) b2 b3 b4)⟩⟩
            · obtain ⟨v1, c1, _⟩ := h2.get e1
              obtain ⟨v2, c2, _⟩ := g2.get e2
              exact ⟨us, ws, v1, v2, ex_t (x1.trans x2) h1, ex_t (x1.trans x2) g1, c1, c2⟩
            · have l1 := h2.length
              have l2 := g2.length
              exact ⟨us, ws, ex_t (x1.trans x2) h1, ex_t (x1.trans x2) g1, by omega⟩
            · obtain ⟨T, v1, v2, rfl, hT, rfl, k1, k2⟩ := yl
              have c1 := k1 us (ex_t (x1.trans x2) h1)
              have c2 := k2 ws (ex_t (x1.trans x2) g1)
              obtain ⟨d1, m1, m2⟩ := h2.getV c1
              obtain ⟨d2, n1, n2⟩ := g2.getV c2
              rw [e1] at m1; cases m1
              rw [e2] at n1; cases n1
              have fn := Fm.new (o := .tup [v1, v2]) x2 hT
              exact ⟨_, fn, .tup upd_same (.cons ((m2.up x1).up fn.g) (.cons ((n2.up x1).up fn.g) .nil))⟩
theorem evn_lcZL {tA : TA} {g : TG} {vs : List Nat} {xs ys : List D} (f : D × D → Bool) (h : D × D → D) (hl : EvA K tA env [.list xs, .list ys]) (hz : xs.length < sizeLine)
    (hs : ∀ x y, (x, y) ∈ xs.zip ys → ∃ env2 js, TGt K g (.tuple [x, y]) (wipeE env vs) env2 js ∧ (∀ j ∈ js, j ∈ vs) ∧ EvT K t env2 (f (x, y)) ∧ (f (x, y) = true → EvD K te env2 (h (x, y)))) :
    EvN K (tLc (RZ.iZipA K tA) g t te vs) env (((xs.zip ys).filter f).map h) := fun G0 B G H σ s Q q =>
  hl G0 B G H σ s _ fun ws G2 H2 fm r => by
    cases r with
    | cons r1 r2 => cases r2 with
      | cons r2 r3 =>
        cases r3
        cases r1 with
        | @lst a1 us _ h1 h2 => cases r2 with
          | @lst a2 ws _ g1 g2 =>
            have sq : ∀ {G1 H1 : Hp}, Ex G2 G1 → Ex G1 H1 → SqL K H1 a1 us ∧ SqL K H1 a2 ws := fun x1 x2 => ⟨SqL.of ((x1.trans x2).o _ _ h1 rfl), SqL.of ((x1.trans x2).o _ _ g1 rfl)⟩
            refine ⟨a1, a2, us, ws, rfl, .inl ⟨SqL.of (fm.i.o _ _ h1 rfl), SqL.of (fm.i.o _ _ g1 rfl), lcZ_core f h hz (s.fwd fm) (fun i G1 H1 x y e1 e2 x1 x2 => ?_) (fun i G1 H1 e1 x1 x2 => ?_) (fun i G1 H1 v H' x y e1 e2 x1 x2 yl => ?_) hs (fun p zs G3 H3 f3 b1 b2 b3 b4 => q p zs G3 H3 (fm.trans f3) (fm.h.back b1) b2 b3 b4)⟩⟩
            · obtain ⟨v1, c1, _⟩ := h2.get e1
              obtain ⟨v2, c2, _⟩ := g2.get e2
              exact ⟨us, ws, v1, v2, (sq x1 x2).1, (sq x1 x2).2, c1, c2⟩
            · have l1 := h2.length
              have l2 := g2.length
              exact ⟨us, ws, (sq x1 x2).1, (sq x1 x2).2, by omega⟩
            · obtain ⟨T, v1, v2, rfl, hT, rfl, k1, k2⟩ := yl
              have c1 := k1 us (sq x1 x2).1
              have c2 := k2 ws (sq x1 x2).2
              obtain ⟨d1, m1, m2⟩ := h2.getV c1
              obtain ⟨d2, n1, n2⟩ := g2.getV c2
              rw [e1] at m1; cases m1
              rw [e2] at n1; cases n1
              have fn := Fm.new (o := .tup [v1, v2]) x2 hT
              exact ⟨_, fn, .tup upd_same (.cons ((m2.up x1).up fn.g) (.cons ((n2.up x1).up fn.g) .nil))⟩
/-- for i, x in enumerate(xs) -/
theorem sd_forE {tA : TA} {g : TG} {tb : TS} {ds : List D} (h : EvA K tA env [.list ds]) (Pv : Nat → Evn → Prop) (h0 : Pv 0 env)
    (hs : ∀ i d env', ds[i]? = some d → Pv i env' → ∃ env2 js, TGt K g (.tuple [.int (i : Nat), d]) env' env2 js ∧ SD K mg E tb env2 { e with nx := Pv (i + 1), ct := Pv (i + 1), bk := e.nx }) (hd : ∀ env', Pv ds.length env' → e.nx env') :
    SD K mg E (tFor (iEnum K tA) g tb) env e := fun G0 B G H σ Dd s q =>
  h G0 B G H σ s _ fun ws G2 H2 f r => by
    cases r with
    | cons r1 r2 =>
      cases r2
      cases r1 with
      | @lst a xs _ h1 h2 =>
        refine ⟨a, xs, rfl, SqL.of (f.i.o _ _ h1 rfl), for_core (wi := iEnum K tA) (n := ds.length) Pv (s.fwd f) q h0 (fun i G1 H1 hi e1 e2 => ?_) (fun G1 H1 e1 e2 => ⟨xs, SqL.of (e2.o _ _ (e1.o _ _ h1 rfl) rfl), by rw [h2.length]; exact Nat.le_refl _⟩) (fun i G1 H1 x H' hi e1 e2 y => ?_) hd⟩
        · obtain ⟨v, g1, _⟩ := h2.get (List.getElem?_eq_getElem hi)
          exact ⟨xs, v, SqL.of (e2.o _ _ (e1.o _ _ h1 rfl) rfl), g1⟩
        · obtain ⟨T, v, rfl, hT, rfl, y⟩ := y
          obtain ⟨d, g1, g2⟩ := h2.getV (y xs (SqL.of (e2.o _ _ (e1.o _ _ h1 rfl) rfl)))
          have fn := Fm.new (o := .tup [.int (i : Nat), v]) e2 hT
          exact ⟨_, _, fn, .tup upd_same (.cons (.int _) (.cons ((g2.up e1).up fn.g) .nil)), fun env' p => hs i d env' g1 p⟩
end
end Ly

namespace Ly
open PySem L2
section
variable {K : Fg} {env : Evn} {te ta tb tc : TE} {t u : TT} {d a b c : D} {mg : Str → Option Value} {E : XK} {e : En}
/-- a list or a tuple as what is walked -/
theorem seq_src {G H : Hp} {v : V} {ds : List D} {R : It → Hp → Prop} (hs : seqD d = some ds) (r : Rp K G v d) (ex : Ex G H)
    (k : ∀ J : It, (∀ i G1 H1, i < ds.length → Ex G G1 → Ex G1 H1 → J.go i H1) → (∀ G1 H1, Ex G G1 → Ex G1 H1 → J.stop ds.length H1) →
      (∀ i G1 H1 x H', i < ds.length → Ex G G1 → Ex G1 H1 → J.yld i H1 x H' → H' = H1 ∧ ∃ z, ds[i]? = some z ∧ Rp K G1 x z) → R J H) :
    ∃ a, v = .ref a ∧ (((∃ xs, SqL K H a xs) ∧ R (Itl K a) H) ∨ ((∃ xs, SqT K H a xs) ∧ R (Itt K a) H)) := by
  cases r with
  | @lst a xs _ h1 h2 =>
    cases hs
    have sq : ∀ {G1 H1 : Hp}, Ex G G1 → Ex G1 H1 → SqL K H1 a xs := fun x1 x2 => SqL.of ((x1.trans x2).o _ _ h1 rfl)
    refine ⟨a, rfl, .inl ⟨⟨xs, SqL.of (ex.o _ _ h1 rfl)⟩, k _ (fun i G1 H1 hi e1 e2 => ?_) (fun G1 H1 e1 e2 => ⟨xs, sq e1 e2, by rw [h2.length]; exact Nat.le_refl _⟩) (fun i G1 H1 x H' hi e1 e2 y => ?_)⟩⟩
    · obtain ⟨v, g1, _⟩ := h2.get (List.getElem?_eq_getElem hi)
      exact ⟨xs, v, sq e1 e2, g1⟩
    · obtain ⟨rfl, y⟩ := y
      obtain ⟨z, g1, g2⟩ := h2.getV (y xs (sq e1 e2))
      exact ⟨rfl, z, g1, g2.up e1⟩
  | @tup a xs _ h1 h2 =>
    cases hs
    have sq : ∀ {G1 H1 : Hp}, Ex G G1 → Ex G1 H1 → SqT K H1 a xs := fun x1 x2 => ex_t (x1.trans x2) h1
    refine ⟨a, rfl, .inr ⟨⟨xs, ex_t ex h1⟩, k _ (fun i G1 H1 hi e1 e2 => ?_) (fun G1 H1 e1 e2 => ⟨xs, sq e1 e2, by rw [h2.length]; exact Nat.le_refl _⟩) (fun i G1 H1 x H' hi e1 e2 y => ?_)⟩⟩
    · obtain ⟨v, g1, _⟩ := h2.get (List.getElem?_eq_getElem hi)
      exact ⟨xs, v, sq e1 e2, g1⟩
    · obtain ⟨rfl, y⟩ := y
      obtain ⟨z, g1, g2⟩ := h2.getV (y xs (sq e1 e2))
      exact ⟨rfl, z, g1, g2.up e1⟩
  | _ => cases hs
theorem iseq_ev {tl : TE} {ds : List D} {G0 B G H : Hp} {σ : L2.St} {R : It → Hp → Prop} (hs : seqD d = some ds) (hl : EvD K tl env d) (s : SR K G0 B G H σ env)
    (k : ∀ (J : It) (G2 H2 : Hp), Fm G H G2 H2 → (∀ i G1 H1, i < ds.length → Ex G2 G1 → Ex G1 H1 → J.go i H1) → (∀ G1 H1, Ex G2 G1 → Ex G1 H1 → J.stop ds.length H1) →
      (∀ i G1 H1 x H', i < ds.length → Ex G2 G1 → Ex G1 H1 → J.yld i H1 x H' → H' = H1 ∧ ∃ z, ds[i]? = some z ∧ Rp K G1 x z) → R J H2) : iSeq K tl σ H R :=
  hl G0 B G H σ s _ fun v G2 H2 f r => seq_src (R := R) hs r f.i fun J h1 h2 h3 => k J G2 H2 f h1 h2 h3
theorem own_wiped {σ : L2.St} {vs : List Nat} {p : Addr} (h : ¬ ownAt σ env p) : ¬ ownAt (wipe σ vs) (wipeE env vs) p := fun ⟨j, x, l, e, hx, z, hp⟩ => h (by
  rcases wipeE_get e with w | ⟨w, w'⟩
  · subst w; cases hx
  · rw [wipe_get] at z
    by_cases hj : j ∈ vs ∧ j < σ.length
    · rw [if_pos hj] at z; cases z
    · rw [if_neg hj] at z
      exact ⟨j, x, l, w, hx, z, hp⟩)
/-- a store touches no thing that stands aside -/
theorem TGt.aside {g : TG} {env' : Evn} {js : List Nat} (h : TGt K g d env env' js) {G0 B G H : Hp} {σ : L2.St} {v : V} {p : Addr} {o : HO} (s : SR K G0 B G H σ env) (r : Rp K G v d) (hp : H p = some o) (hn : ¬ ownAt σ env p) {Q : L2.St → Hp → Prop}
    (k : ∀ σ', SR K G0 B G H σ' env' → ¬ ownAt σ' env' p → (∀ vs : List Nat, (∀ j ∈ js, j ∈ vs) → wipe σ' vs = wipe σ vs) → Q σ' H) : g v σ H Q := by
  obtain ⟨f, s1⟩ := s.rebase
  refine h G _ G H σ v s1 r Q fun σ' s' w => k σ' (s'.over f) (fun z => ?_) w
  have q := (s'.own_ z).1
  rw [bare_not hn, hp] at q
  cases q
/-- [.. for x in xs for y in ys(x) if ..] -/
theorem evn_lc2 {tl tl1 : TE} {t1 : TT} {g g1 : TG} {vs vs1 : List Nat} {ds : List D} (ins : D → List D) (f : D → D → Bool) (h : D → D → D) (hd' : seqD d = some ds) (hl : EvD K tl env d) (hz : (ds.flatMap ins).length < sizeLine)
    (hs : ∀ x, x ∈ ds → ∃ env2 js, TGt K g x (wipeE env vs) env2 js ∧ (∀ j ∈ js, j ∈ vs) ∧ EvT K t env2 true ∧ ∃ y, seqD y = some (ins x) ∧ EvD K tl1 env2 y ∧
      ∀ z, z ∈ ins x → ∃ env3 js3, TGt K g1 z (wipeE env2 vs1) env3 js3 ∧ (∀ j ∈ js3, j ∈ vs1) ∧ EvT K t1 env3 (f x z) ∧ (f x z = true → EvD K te env3 (h x z))) :
    EvN K (tLc2 (iSeq K tl) g t (iSeq K tl1) g1 t1 te vs vs1) env (ds.flatMap fun x => ((ins x).filter (f x)).map (h x)) := fun G0 B G H σ s Q q =>
  iseq_ev hd' hl s fun J Ga Ha fa hgo hst hyl Dl hD => by
    have s := s.fwd fa
    have hB : ∀ {G0 B : Hp} {σ : L2.St} {env : Evn}, SR K G0 B Ga Ha σ env → ¬ ownAt σ env Dl := fun s => s.own_new hD
    have sw := (s.wiped vs).rebase.2
    have nO := hB (s.wiped vs)
    have hb : bare Ha (wipe σ vs) (wipeE env vs) Dl = none := by rw [bare_not nO]; exact hD
    -- lengths
    have len : ∀ n m : Nat, n < ds.length → ∀ x, ds[n]? = some x → m ≤ (ins x).length → (((ds.take n).flatMap fun x => ((ins x).filter (f x)).map (h x)) ++ ((((ins x).take m).filter (f x)).map (h x))).length + ((ins x).length - m) < sizeLine := fun n m hn x hx hm => by
      have e1 : ∀ l : List D, (l.flatMap fun x => ((ins x).filter (f x)).map (h x)).length ≤ (l.flatMap ins).length := fun l => by
        induction l with
        | nil => exact Nat.le_refl _
        | cons y l ih =>
          rw [List.flatMap_cons, List.flatMap_cons, List.length_append, List.length_append, List.length_map]
          have := List.length_filter_le (f y) (ins y)
          omega
      have e2 : ds = ds.take n ++ x :: ds.drop (n + 1) := by
        obtain ⟨h1, h2⟩ := List.getElem?_eq_some_iff.mp hx
        rw [← h2, ← List.drop_eq_getElem_cons h1, List.take_append_drop]
      have e3 : (ds.flatMap ins).length = ((ds.take n).flatMap ins).length + ((ins x).length + ((ds.drop (n + 1)).flatMap ins).length) := by
        conv => lhs; rw [e2]
        rw [List.flatMap_append, List.flatMap_cons, List.length_append, List.length_append]
      have e4 := e1 (ds.take n)
      have e5 := List.length_filter_le (f x) ((ins x).take m)
      rw [List.length_take] at e5
      rw [List.length_append, List.length_map]
      omega
    refine ⟨fun i m H' => m = ds.length - i ∧ i ≤ ds.length ∧ ∃ G' acc, SR K Ga (bare Ha (wipe σ vs) (wipeE env vs)) G' H' (wipe σ vs) (wipeE env vs) ∧ Fm Ga Ha G' H' ∧ G' Dl = none ∧ H' Dl = some (.lst acc) ∧ RpL K G' acc ((ds.take i).flatMap fun x => ((ins x).filter (f x)).map (h x)),
      ⟨ds.length, rfl, Nat.zero_le _, Ga, [], sw.aside (.inl hD) hb (s.i.back hD) nO, Fm.own s.i hD, s.i.back hD, upd_same, .nil⟩, ?_⟩
    rintro i m H1 ⟨rfl, hi, G1, acc, s1, f1, gD, aD, rD⟩
    by_cases hlt : i < ds.length
    case neg =>
      have ei : i = ds.length := by omega
      subst ei
      rw [List.take_length] at rD
      exact .inl ⟨hst G1 H1 f1.g f1.i, q Dl acc G1 H1 (fa.trans f1) (fa.h.back hD) gD aD rD⟩
    refine .inr ⟨hgo i G1 H1 hlt f1.g f1.i, fun H2 => ∃ G2 acc, SR K Ga (bare Ha (wipe σ vs) (wipeE env vs)) G2 H2 (wipe σ vs) (wipeE env vs) ∧ Fm Ga Ha G2 H2 ∧ G2 Dl = none ∧ H2 Dl = some (.lst acc) ∧ RpL K G2 acc ((ds.take (i + 1)).flatMap fun x => ((ins x).filter (f x)).map (h x)),
      fun H2 ⟨G2, acc2, z⟩ => ⟨ds.length - (i + 1), by omega, rfl, hlt, G2, acc2, z⟩, fun x Hy y => ?_⟩
    obtain ⟨rfl, dx, hdx, ry⟩ := hyl i G1 H1 x Hy hlt f1.g f1.i y
    obtain ⟨env2, js, hg, hjs, ht, y, hy, hy1, hin⟩ := hs dx (List.mem_of_getElem? hdx)
    refine hg.aside s1 ry aD nO fun σ2 s2 nO2 w2 => ⟨by rw [w2 vs hjs, wipe_wipe], ?_⟩
    refine ht _ _ G1 Hy σ2 s2 _ fun G3 H3 f3 => ?_
    rw [if_pos rfl]
    refine iseq_ev hy hy1 (s2.fwd f3) fun J1 G4 H4 f4 hgo1 hst1 hyl1 => ?_
    have f34 := f3.trans f4
    have aD4 := f34.h.o Dl _ aD rfl
    have gD4 : G4 Dl = none := f34.n Dl _ aD rfl gD
    have len' := len i
    refine ⟨fun j k H' => k = (ins dx).length - j ∧ j ≤ (ins dx).length ∧ ∃ G' acc, SR K Ga (bare Ha (wipe σ vs) (wipeE env vs)) G' H' (wipe σ vs) (wipeE env vs) ∧ SR K Ga (bare Ha (wipe σ vs) (wipeE env vs)) G' H' (wipe σ2 vs1) (wipeE env2 vs1) ∧ Fm Ga Ha G' H' ∧ Ex G4 G' ∧ G' Dl = none ∧ H' Dl = some (.lst acc) ∧
        RpL K G' acc (((ds.take i).flatMap fun x => ((ins x).filter (f x)).map (h x)) ++ ((((ins dx).take j).filter (f dx)).map (h dx))),
      ⟨(ins dx).length, rfl, Nat.zero_le _, G4, acc, s1.fwd f34, (s2.fwd f34).wiped vs1, f1.trans f34, Ex.refl _, gD4, aD4, by simpa using rD.up f34.g⟩, ?_⟩
    rintro j k H5 ⟨rfl, hj, G5, acc5, s5, s5', f5, x5, gD5, aD5, rD5⟩
    by_cases hjt : j < (ins dx).length
    case neg =>
      have ej : j = (ins dx).length := by omega
      subst ej
      refine .inl ⟨hst1 G5 H5 x5 f5.i, G5, acc5, s5, f5, gD5, aD5, ?_⟩
      rw [List.take_length] at rD5
      rw [List.take_add_one, hdx]
      simpa using rD5
    refine .inr ⟨hgo1 j G5 H5 hjt x5 f5.i, fun H6 => ∃ G' acc, SR K Ga (bare Ha (wipe σ vs) (wipeE env vs)) G' H6 (wipe σ vs) (wipeE env vs) ∧ SR K Ga (bare Ha (wipe σ vs) (wipeE env vs)) G' H6 (wipe σ2 vs1) (wipeE env2 vs1) ∧ Fm Ga Ha G' H6 ∧ Ex G4 G' ∧ G' Dl = none ∧ H6 Dl = some (.lst acc) ∧
        RpL K G' acc (((ds.take i).flatMap fun x => ((ins x).filter (f x)).map (h x)) ++ ((((ins dx).take (j + 1)).filter (f dx)).map (h dx))), fun H6 ⟨G6, a6, z⟩ => ⟨(ins dx).length - (j + 1), by omega, rfl, hjt, G6, a6, z⟩, fun x6 Hz yz => ?_⟩
    obtain ⟨rfl, dz, hdz, rz⟩ := hyl1 j G5 H5 x6 Hz hjt x5 f5.i yz
    obtain ⟨env3, js3, hg3, hjs3, ht3, he3⟩ := hin dz (List.mem_of_getElem? hdz)
    refine hg3 _ _ G5 Hz _ x6 s5' rz _ fun σ3 s3 w3 => ⟨by rw [w3 vs1 hjs3, wipe_wipe], ?_⟩
    refine ht3 _ _ G5 Hz σ3 s3 _ fun G6 H6 f6 => ?_
    have aD6 := f6.h.o Dl _ aD5 rfl
    have gD6 : G6 Dl = none := f6.n Dl _ aD5 rfl gD5
    have nO3 : ¬ ownAt (wipe σ2 vs1) (wipeE env2 vs1) Dl := own_wiped nO2
    have tk : ((ins dx).take (j + 1)).filter (f dx) = ((ins dx).take j).filter (f dx) ++ ([dz].filter (f dx)) := by
      rw [List.take_add_one, hdz, List.filter_append]; rfl
    cases hf : f dx dz with
    | false =>
      rw [if_neg Bool.false_ne_true]
      refine ⟨G6, acc5, s5.fwd f6, s5'.fwd f6, f5.trans f6, x5.trans f6.g, gD6, aD6, ?_⟩
      rw [tk, show [dz].filter (f dx) = [] by simp [hf], List.append_nil]
      exact rD5.up f6.g
    | true =>
      rw [if_pos rfl]
      refine he3 hf _ _ G6 H6 σ3 (s3.fwd f6) _ fun vz G7 H7 f7 r7 => ?_
      have aD7 := f7.h.o Dl _ aD6 rfl
      have gD7 : G7 Dl = none := f7.n Dl _ aD6 rfl gD6
      have f67 := f6.trans f7
      refine ⟨acc5, aD7, ?_, G7, acc5 ++ [vz], (s5.fwd f67).aside (.inr ⟨_, aD7, rfl⟩) hb gD7 nO, (s5'.fwd f67).aside (.inr ⟨_, aD7, rfl⟩) hb gD7 nO3, ?_, x5.trans f67.g, gD7, upd_same, ?_⟩
      · rw [rD5.length]
        have := len' j hlt dx hdx hj
        omega
      · have z := f5.trans f67
        exact ⟨z.g, z.h.mut hD, z.i.mut gD7, z.n, z.tb.trans (Tb.upd (.inr ⟨_, aD7, rfl⟩))⟩
      · rw [tk, show [dz].filter (f dx) = [dz] by simp [hf], List.map_append, ← List.append_assoc]
        exact (rD5.up f67.g).app (.cons r7 .nil)
end
end Ly

namespace Ly
open PySem PySem.Spec PyProof.Rows L2
section
variable {X : Cx}
/-! ### xs[i] += e -/
def rGetL (K : Fg) : V → V → Hp → VK → Prop := fun o i H Q => ∃ (p : Addr) (xs : List V) (n : Nat) (x : V), o = .ref p ∧ i = .int (n : Int) ∧ SqL K H p xs ∧ xs[n]? = some x ∧ Q x H
theorem get_listU : PGet X (rGetL X.K) := by
  intro pins s σ H o i ov iv Q I ro ri h
  obtain ⟨p, xs, n, x, rfl, rfl, hp, hx, q⟩ := h
  cases ro
  obtain ⟨t, rfl⟩ := ri
  obtain ⟨its, r, pl, hz⟩ := I.list hp
  obtain ⟨u, hu, ru⟩ := r.get hx
  have hn : n < its.length := (List.getElem?_eq_some_iff.mp hu).1
  have hl := line63
  have h2 := r.length
  exact wpAny_getItem_list pl.isList (Int.natCast_nonneg n) (by omega) (by simpa using hu) ⟨x, H, I, ru, q⟩
/-! ### {k: v}, k a tuple of ints and texts -/
def tDispT (tk tv : TE) : TE := fun σ H Q => ∀ p, H p = none → tPairs [(tk, tv)] σ (upd H p (.dT [])) fun ps H2 => ∃ x y, ps = [(x, y)] ∧ H2 p = some (.dT []) ∧ ∃ (b : Addr) (k : List Key), x = .ref b ∧ H2 b = some (.tup (k.map kV)) ∧ Q (.ref p) (upd H2 p (.dT [(k, y)]))
theorem pe_dispT {k v : Expr} {tk tv : TE} {pos : Pos} (hu : X.A.units + 1 < cLine) (hk : PE X k tk) (hv : PE X v tv) : PE X (.Dict [some k] [v] pos) (tDispT tk tv) := by
  refine ⟨fun pins s σ H Q I q => ?_⟩
  have fr := I.hok.fresh (Nat.le_refl s.heap.objs.size)
  have J := I.laid (a := s.heap.objs.size) (o := .dT []) (h' := s.heap.push { cls := .type "dict", data := .dict #[] }) (t' := s.toks) (fun _ _ z => Heap.get?_push_of_some _ z) (Nat.le_refl _) (dt_empty s.heap I.big)
  have pp : PPs X pos [some k] [v] [(tk, tv)] := pps_cons hk hv pps_nil
  rw [arm_eval_Dict, zip_pairTrees [some k] [v] X.env pos rfl rfl, dictDisplay_pairs _ (fun z => by cases z) (by show 1 < 17; omega)]
  have room : (tupleKind (mixKind X.prog X.w)).room X.A := show X.A.units < cLine by omega
  refine wpAny_bind (wpAny_standAt (wpAny_bind (wpAny_subDictH (knd := tupleKind (mixKind X.prog X.w)) room (show 1 ≤ 15 by omega) (thn (pp.run pins _ σ _ _ J (q _ fr)) fun ws s2 ⟨ps, H2, I2, rel, x, y, e0, hD, b, kk, e1, hb, q2⟩ => ?_))))
  subst e0 e1
  cases rel with
  | @cons _ w2 _ _ r1 r2 =>
    cases r2
    obtain ⟨wk, wv⟩ := w2
    obtain rfl : wk = Value.ref b := r1.1
    obtain ⟨z, hs, xs, pr, dd⟩ := dt_of I2.hok hD
    cases pr
    refine ⟨[(kk, b, wv)], ⟨rfl, rfl, key_of I2.hok hb, trivial⟩, dd, fun h1 tk d1 sb => wpAny_pure ⟨.ref s.heap.objs.size, _, ?_, rfl, q2⟩⟩
    obtain ⟨o, es, ep, ho, h2, h3, h4, _, h5⟩ := d1
    refine d_write I2 (by rw [hD]; exact True.intro) sb ⟨o, ho⟩ ⟨?_, hs, [(kk, b, wv)], .cons ⟨rfl, ?_, r1.2⟩ .nil, o, es, ep, ho, h2, h3, h4, h5⟩
    · rw [sizeLine_eq]; show 1 ≤ _; omega
    · rw [upd_ne (ne_of hb hD (fun z => nomatch z))]; exact hb
/-! ### {k: v for .. in ..}, k a tuple of ints and texts -/
theorem put_tup {pins : List (Addr × Obj)} {σ : L2.St} {H : Hp} {s : Shared} {E : Value → Shared → Prop} {p b : Addr} {kvs : List (List Key × V)} {k : List Key} {v : V} {r : Value} {Q : Unit → Shared → Prop} (hu : X.A.units < cLine) (I : Inv X pins σ H s) (hp : H p = some (.dT kvs)) (hb : H b = some (.tup (k.map kV))) (hl : kvs.length < sizeLine) (rv : RelV v r)
    (go : ∀ s1, Inv X pins σ (upd H p (.dT (putK kvs k v))) s1 → Q () s1) : wpAny (model X.prog X.w) X.A (dictSet p (.ref b) r) Q E s := by
  obtain ⟨z, hs, xs, rel, dd⟩ := dt_of I.hok hp
  have l1 := Paired.length rel
  have l2 := length_putK kvs k v
  refine wpAny_dictSet_heap (knd := tupleKind (mixKind X.prog X.w)) (hsz := by omega) hu (key_of I.hok hb) dd fun h1 d1 sb => go _ ?_
  obtain ⟨o, es, ep, ho, h2, h3, h4, _, h5⟩ := d1
  refine d_write I (by rw [hp]; exact True.intro) sb ⟨o, ho⟩ ⟨by omega, hs, _, (rel.put k hb rv).keeps fun c ys ec => ?_, o, es, ep, ho, h2, h3, h4, h5⟩
  rw [upd_ne (ne_of ec hp (fun z => nomatch z))]; exact ec
def tDcT (wi : TI) (g : TG) (tt : TT) (tk tv : TE) (vs : List Nat) : TE := fun σ H Q => wi σ H fun J H1 => ∀ p, H1 p = none → ∃ W : Nat → Nat → Hp → Prop, (∃ m, W 0 m (upd H1 p (.dT []))) ∧ ∀ i m H, W i m H →
  (J.stop i H ∧ Q (.ref p) H) ∨ (J.go i H ∧ ∃ Nx : Hp → Prop, (∀ H', Nx H' → ∃ m', m' < m ∧ W (i + 1) m' H') ∧ ∀ x H', J.yld i H x H' → g x (wipe σ vs) H' fun σ2 H2 => wipe σ2 vs = wipe σ vs ∧ tt σ2 H2 fun b H3 =>
    if b = true then tk σ2 H3 fun y H4 => tv σ2 H4 fun z H5 => ∃ (kvs : List (List Key × V)) (k : List Key) (a : Addr), y = .ref a ∧ H5 a = some (.tup (k.map kV)) ∧ H5 p = some (.dT kvs) ∧ kvs.length < sizeLine ∧ Nx (upd H5 p (.dT (putK kvs k z))) else Nx H3)
/-- the block's own context -/
abbrev BX (X : Cx) (s : Shared) (H : Hp) (scope : Scope) (C : Addr) (cl : List (Str × Addr)) (fp : List Addr) : Cx := X.blk s H scope (compEnvC scope cl C X.env) fp
theorem dcT_core {pins : List (Addr × Obj)} {s : Shared} {σ : L2.St} {H : Hp} {Q : VK} {kx vx tg iter : Expr} {ifs : List Expr} {scope : Scope} {own : List (Str × Nat)} {pos ipos : Pos} {wi : TI} {g : TG} {tt : TT} {tk tv : TE} {use : Option (Value → Sem Unit)} {Qf : Value → Shared → Prop} (hu : X.A.units < cLine) (calm : X.calm = true) (nd : X.N.Nodup) (I : Inv X pins σ H s) (src : PI X tg iter wi) (bok : BlkOk X.N X.env.scope scope own)
    (hG : ∀ s H C cl fp, PG (BX X s H scope C cl fp) tg g) (hT : ∀ s H C cl fp, PTs (BX X s H scope C cl fp) ifs tt) (hK : ∀ s H C cl fp, PE (BX X s H scope C cl fp) kx tk) (hV : ∀ s H C cl fp, PE (BX X s H scope C cl fp) vx tv)
    (fold : ∀ x, foldedSetIterable iter X.env x = pure x) (h : tDcT wi g tt tk tv (own.map (·.2)) σ H Q)
    (fin : ∀ p C s1 m H1, Inv X pins σ H1 s1 → Q (.ref p) H1 → s1.heap.Ns C m → FpOk X pins H1 C → compPost (model X.prog X.w) X.A X.xe use Qf (.ref p) C (.ok .next) s1) :
    wpAny (model X.prog X.w) X.A (comprehension (.DictComp kx vx [⟨tg, iter, ifs, 0⟩] scope pos) scope X.env ipos newDict false (eval iter X.env) use) Qf X.xe s := by
  have cells : ∀ y ∈ scope.names, y.2 = .free → ∃ c, X.env.cells.lookup y.1 = some c := fun y hy z => (bok.free y hy z).elim (fun w => I.ok.has _ (.inl w)) (fun w => I.ok.has _ (.inr w))
  refine wpAny_comprehension_free (use := use) rfl fold (closure_ok cells) bok.kind (fun y hy z => by rw [bok.uniq y hy, z]) (thn (src.run pins s σ H _ I h) fun xv sa hx => thn hx fun itv sb hb => ?_)
  obtain ⟨it, fp, tn, J, Hb, rfl, Ib, T, stb, fpb, q⟩ := hb
  refine wpAny_newObj_type (newEnv_comp ?_)
  -- the new dict at p
  obtain ⟨p, hp⟩ : ∃ p, p = sb.heap.objs.size := ⟨_, rfl⟩
  have np : Hb p = none := Ib.hok.fresh (Nat.le_of_eq hp.symm)
  obtain ⟨W, ⟨m0, w0⟩, turn⟩ := q p np
  obtain ⟨sc, hsc⟩ : ∃ sc : Shared, sc = { sb with heap := sb.heap.push { cls := .type "dict", data := .dict #[] } } := ⟨_, rfl⟩
  have hsh : sc.heap = sb.heap.push { cls := .type "dict", data := .dict #[] } := by rw [hsc]
  have Ic : Inv X pins σ (upd Hb p (.dT [])) sc := by
    rw [hsc]
    refine Ib.laid (t' := sb.toks) (fun b o z => Heap.get?_push_of_some _ z) (Nat.le_of_eq hp.symm) ?_
    rw [hp]; exact dt_empty sb.heap Ib.big
  have fpc : ∀ b ∈ fp, FpOk X pins (upd Hb p (.dT [])) b ∧ b < sc.heap.objs.size := fun b hb => by
    obtain ⟨o, z, _⟩ := T.obj _ _ stb b hb
    have lt := Heap.lt_size z
    refine ⟨⟨?_, (fpb b hb).2⟩, by rw [hsh, Heap.size_push]; exact Nat.lt_succ_of_lt lt⟩
    rw [upd_ne (by rw [hp]; exact Nat.ne_of_lt lt)]; exact (fpb b hb).1
  have stc : tn 0 sc.heap := T.keep _ _ _ stb fun b _ o z => by rw [hsh]; exact Heap.get?_push_of_some _ z
  have Id := block_start Ic bok nd fpc
  -- names for the block's environment
  obtain ⟨cl, hcl⟩ : ∃ cl, cl = cellsFrom (sc.heap.objs.size + 1) scope.names (cloFrom X.env.cells scope.names []) := ⟨_, rfl⟩
  rw [← hcl] at Id
  obtain ⟨Hc, hHc⟩ : ∃ Hc, Hc = upd Hb p (.dT []) := ⟨_, rfl⟩
  rw [← hHc] at Ic fpc Id w0
  obtain ⟨Y, hY⟩ : ∃ Y, Y = BX X sc Hc scope sc.heap.objs.size cl fp := ⟨_, rfl⟩
  have pg := hG sc Hc sc.heap.objs.size cl fp
  have pt := hT sc Hc sc.heap.objs.size cl fp
  have pk := hK sc Hc sc.heap.objs.size cl fp
  have pv := hV sc Hc sc.heap.objs.size cl fp
  obtain ⟨sd, hsd⟩ : ∃ sd : Shared, sd = { sc with heap := pushCells (sc.heap.push { cls := .type "dict", data := .dict #[] }) scope.names } := ⟨_, rfl⟩
  have std : tn 0 sd.heap := T.keep _ _ _ stc fun b _ o z => by rw [hsd]; exact pushCells_keeps _ _ _ _ (Heap.get?_push_of_some _ z)
  have nfp : ∀ b ∈ fp, Hc b = none := fun b hb => (fpc b hb).1.1
  have stat : ∀ {σ1 : L2.St} {H1 : Hp} {s1 : Shared}, Inv (BX X sc Hc scope sc.heap.objs.size cl fp) [] σ1 H1 s1 → (∀ b ∈ fp, H1 b = none) → ∀ b ∈ fp, FpOk (BX X sc Hc scope sc.heap.objs.size cl fp) [] H1 b := fun {σ1 H1 s1} I1 hn b hb =>
    ⟨hn b hb, (I1.ok.exf b hb).1, I1.ok.exfs b hb, .inl hb, fun x c z => (I1.ok.exf b hb).2 x c z, fun r hr => absurd (show r ∈ ([] : List (Addr × Obj)) ++ [] from hr) (by simp)⟩
  have loop : codeAny (model X.prog X.w) X.A (.compLoop (.DictComp kx vx [⟨tg, iter, ifs, 0⟩] scope pos) 0 (.ref it) (.ref p) (compEnvC scope cl sc.heap.objs.size X.env)) (compPost (model X.prog X.w) X.A X.xe use Qf (.ref p) sc.heap.objs.size) sd := by
    refine compLoop_anyD (fun n s1 => ∃ i H1, Inv (BX X sc Hc scope sc.heap.objs.size cl fp) [] (wipe σ (own.map (·.2))) H1 s1 ∧ tn i s1.heap ∧ (∀ b ∈ fp, H1 b = none) ∧ W i n H1) ?_ m0 ⟨0, Hc, by rw [hsd]; exact Id, std, nfp, w0⟩
    rintro n s1 ⟨i, H1, I1, st1, n1, w1⟩
    rcases turn i n H1 w1 with ⟨stop, qq⟩ | ⟨go, Nx, hNx, step⟩
    · refine thnF (T.done (BX X sc Hc scope sc.heap.objs.size cl fp) rfl rfl rfl calm i [] s1 _ H1 (fun _ _ => False) I1 (stat I1 n1) st1 stop) fun r s2 ⟨hr, I2⟩ => ?_
      subst hr
      have I3 : Inv X pins σ H1 s2 := Ic.call' (ch := fp) I2.os I2.base I2.hok I2.bare fun b hb => let z := (fpc b hb).1; ⟨z.2.2.2.1, z.2.1, z.2.2.2.2.1, z.2.2.2.2.2⟩
      have nC : H1 sc.heap.objs.size = none := I2.free
      obtain ⟨m, hn, _⟩ := I2.loc
      exact fin p _ s2 m H1 I3 qq hn (Ic.fpOk (Nat.le_refl _) nC)
    · refine thnF (T.item (BX X sc Hc scope sc.heap.objs.size cl fp) rfl rfl rfl calm i [] s1 _ H1 (fun _ _ => False) I1 (stat I1 n1) st1 go) fun r s2 ⟨u, hr, h2⟩ => ?_
      subst hr
      refine thnF h2 fun _ s3 ⟨x, H3, I3, r3, y3, st3, n3⟩ => ?_
      have I3' := I3.pinned (stat I3 n3) (T.obj _ _ st3)
      refine thnF (pg.run _ s3 _ H3 x u _ I3' r3 (step x H3 y3)) fun _ s4 ⟨σ4, H4, I4, hw, q4⟩ => thnF (pt.run _ s4 σ4 H4 _ I4 q4) fun bb s5 ⟨H5, I5, q5⟩ => ?_
      have next : ∀ {s6 : Shared} {H6 : Hp}, Inv (BX X sc Hc scope sc.heap.objs.size cl fp) ([] ++ pinsAt fp s3.heap) σ4 H6 s6 → Nx H6 → ∃ m, m < n ∧ ∃ i H7, Inv (BX X sc Hc scope sc.heap.objs.size cl fp) [] (wipe σ (own.map (·.2))) H7 s6 ∧ tn i s6.heap ∧ (∀ b ∈ fp, H7 b = none) ∧ W i m H7 := fun {s6 H6} I6 nx => by
        obtain ⟨m', lt, w'⟩ := hNx H6 nx
        have pin : ∀ b ∈ fp, ∀ o, s3.heap.get? b = some o → s6.heap.get? b = some o ∧ H6 b = none := fun b hb o z =>
          let y := I6.pin (b, o) (List.mem_append_right _ (List.mem_append_right _ (mem_pinsAt hb z))); ⟨y.1, y.2.1⟩
        refine ⟨m', lt, i + 1, H6, (I6.unpinned (pins := [])).weak (by rw [← hw, wipe_length]) (fun j v z => ?_), T.keep _ _ _ st3 fun b hb o z => (pin b hb o z).1, fun b hb => ?_, w'⟩
        · rw [← hw] at z; exact (wipe_some z).1
        · obtain ⟨o, z, _⟩ := T.obj _ _ st3 b hb
          exact (pin b hb o z).2
      cases bb with
      | false => simp only [Bool.false_eq_true, if_false] at q5 ⊢; exact next I5 q5
      | true =>
        simp only [if_true] at q5 ⊢
        refine thnF (pk.run _ s5 σ4 H5 _ I5 q5) fun z1 s6 ⟨yk, H6, I6, r6, q6⟩ => thnF (pv.run _ s6 σ4 H6 _ I6 q6) fun z2 s7 ⟨yv, H7, I7, r7, kvs, kk, a, ek, ha, hd, hl, nx⟩ => ?_
        subst ek
        obtain rfl : z1 = Value.ref a := r6
        exact put_tup (X := BX X sc Hc scope sc.heap.objs.size cl fp) hu I7 hd ha hl r7 fun s8 I8 => next I8 nx
  subst hsd
  subst hcl
  subst hsc
  subst hp
  exact codeAny_compStart_dict loop (T.self X.A 0 _ _ _ std loop)
theorem pe_dcT {kx vx tg iter : Expr} {ifs : List Expr} {scope : Scope} {own : List (Str × Nat)} {pos : Pos} {wi : TI} {g : TG} {tt : TT} {tk tv : TE} (hu : X.A.units < cLine) (calm : X.calm = true) (nd : X.N.Nodup) (src : PI X tg iter wi) (bok : BlkOk X.N X.env.scope scope own)
    (hG : ∀ s H C cl fp, PG (BX X s H scope C cl fp) tg g) (hT : ∀ s H C cl fp, PTs (BX X s H scope C cl fp) ifs tt) (hK : ∀ s H C cl fp, PE (BX X s H scope C cl fp) kx tk) (hV : ∀ s H C cl fp, PE (BX X s H scope C cl fp) vx tv)
    (fold : ∀ x, foldedSetIterable iter X.env x = pure x := by intro _; rfl) : PE X (.DictComp kx vx [⟨tg, iter, ifs, 0⟩] scope pos) (tDcT wi g tt tk tv (own.map (·.2))) := by
  refine ⟨fun pins s σ H Q I h => ?_⟩
  rw [arm_eval_DictComp]
  refine dcT_core hu calm nd I src bok hG hT hK hV fold h fun p C s1 m H1 I1 q hn ⟨a0, a1, a2, a3, a4, a5⟩ => ⟨m, hn, fun h2 sm => ?_⟩
  exact ⟨.ref p, H1, I1.turned (t' := s1.toks) (fun b o hb z => (sm.2 b hb).trans z) a0 a1 a3 a4 a5, rfl, q⟩
/-- name = {..} on one line, the name a local -/
theorem ps_setDcT {i : Nat} {y : Str} {py : Pos} {kx vx tg iter : Expr} {ifs : List Expr} {scope : Scope} {own : List (Str × Nat)} {pos spos : Pos} {wi : TI} {g : TG} {tt : TT} {tk tv : TE} (hu : X.A.units < cLine) (calm : X.calm = true) (nd : X.N.Nodup) (hy : X.N[i]? = some y) (yl : X.env.scope.names.lookup y = some .local)
    (sw : swapsWith (.DictComp kx vx [⟨tg, iter, ifs, 0⟩] scope pos) (some (.Name y py)) spos.line X.env = pure true) (src : PI X tg iter wi) (bok : BlkOk X.N X.env.scope scope own)
    (hG : ∀ s H C cl fp, PG (BX X s H scope C cl fp) tg g) (hT : ∀ s H C cl fp, PTs (BX X s H scope C cl fp) ifs tt) (hK : ∀ s H C cl fp, PE (BX X s H scope C cl fp) kx tk) (hV : ∀ s H C cl fp, PE (BX X s H scope C cl fp) vx tv)
    (fold : ∀ x, foldedSetIterable iter X.env x = pure x := by intro _; rfl) : PS X (.Assign [.Name y py] (.DictComp kx vx [⟨tg, iter, ifs, 0⟩] scope pos) spos) (tAsg (tDcT wi g tt tk tv (own.map (·.2))) (gName i)) := by
  refine ⟨fun pins s σ H D I h => ?_⟩
  rw [exec_Assign_Name_used _ _ _ _ sw]
  refine wpAny_bind (wpAny_standAt (wpAny_bind ?_))
  show wpAny _ X.A (do let _ ← comprehension (.DictComp kx vx [⟨tg, iter, ifs, 0⟩] scope pos) scope X.env (firstIterPos [⟨tg, iter, ifs, 0⟩] pos) newDict false (eval iter X.env) (some (assign (.Name y py) X.env))) _ _ s
  have h : tDcT wi g tt tk tv (own.map (·.2)) σ H (fun x H1 => gName i x σ H1 D.nx) := h
  refine wpAny_bind (thn (dcT_core (Qf := fun _ s1 => SP X pins D .next s1) hu calm nd I src bok hG hT hK hV fold h fun p C s1 m H1 I1 q hn ⟨a0, a1, a2, a3, a4, a5⟩ => ?_) fun _ s1 hq => wpAny_pure (wpAny_pure hq))
  show wpAny _ _ (assign (.Name y py) X.env (.ref p)) _ _ _
  refine wpAny_assign_Name (store_ok2 (v := V.ref p) I1 nd hy (.inl yl) rfl (fun s2 I2 ⟨a, sb, ha⟩ => ?_) (.inr yl))
  have ne : C ≠ a := by
    rcases ha with z | z
    · rw [z]; exact a1
    · exact fun w => a4 y a z w.symm
  exact ⟨m, hn.sameBut sb ne, fun h3 sm => ⟨_, H1, I2.turned (t' := s2.toks) (fun b o hb z => (sm.2 b hb).trans z) a0 a1 a3 a4 a5, q⟩⟩
theorem swd_true {kx vx : Expr} {gs : List Comprehension} {scope : Scope} {pos py : Pos} {y : Str} {l : Nat} {env : Env} (hk : env.scope.kind = .function) (hy : env.scope.names.lookup y = some .local) (hl : (py.line == pos.line) = true)
    (ha : (scope.names.any fun (n, k) => n == y && (k == .local || k == .cell)) = false) : swapsWith (.DictComp kx vx gs scope pos) (some (.Name y py)) l env = pure true := by
  have e1 : env.kindOf y = some .local := hy
  have e2 : env.blockKind = .function := by unfold Env.blockKind; rw [hk]; rfl
  unfold swapsWith
  simp only [e2, e1, ha, Expr.pos, hl]
  rfl
end
end Ly

namespace Ly
open PySem L2
section
variable {K : Fg} {env : Evn} {te ta tb tc : TE} {t u : TT} {d a b c : D} {mg : Str → Option Value} {E : XK} {e : En}
/-! ### dicts: display, comprehension, call -/
theorem evk_disp {k : List Int} (hk : EvD K ta env (itup k)) (hv : EvD K tb env d) : EvK K (tDispT ta tb) env [(k, d)] := fun G0 B G H σ s Q q p hp => by
  have nO := s.own_new hp
  have hb : B p = none := s.fm.h.back hp
  have s0 : SR K G0 B G (upd H p (.dT [])) σ env := s.aside (.inl hp) hb (s.i.back hp) nO
  refine hk G0 B G _ σ s0 _ fun x G1 H1 f1 r1 => hv G0 B G1 H1 σ (s0.fwd f1) _ fun y G2 H2 f2 r2 => ?_
  have f12 := f1.trans f2
  have hd : H2 p = some (.dT []) := f12.h.o p _ upd_same rfl
  have gp : G2 p = none := f12.n p _ upd_same rfl (s.i.back hp)
  cases r1 with
  | @tup bb xs _ g1 g2 =>
    have ez := g2.ints
    subst ez
    refine ⟨_, y, rfl, hd, bb, keyT k, rfl, by rw [key_ints]; exact f2.h.o _ _ (f1.i.o _ _ g1 rfl) rfl, ?_⟩
    have f0 : Fm G H G2 H2 := (Fm.own s.i hp).trans f12
    have f3 : Fm G H G2 (upd H2 p (.dT [(keyT k, y)])) := ⟨f0.g, f0.h.mut hp, f0.i.mut gp, f0.n, f0.tb.trans (Tb.upd (.inr ⟨_, hd, rfl⟩))⟩
    exact q p _ G2 _ f3 hp gp upd_same (.cons r2 .nil)
theorem evk_call {P : Ct} {tA : TA} {as : List D} {al : List (List Int × D)} (h : EvA K tA env as) (hp : P as (.dic al)) : EvK K (tCall (spD K mg P) [] E tA) env al := fun G0 B G H σ s Q q =>
  h G0 B G H σ s _ fun vs G1 H1 f1 r1 => ⟨G1, as, .dic al, f1.i, s.tk.up f1.tb, by rw [List.append_nil]; exact r1, hp, (fun _ z => nomatch z), (fun _ z => nomatch z), fun al' z p kvs G2 H2 f2 h1 h2 h3 h4 => by
    cases z; exact q p kvs G2 H2 (f1.trans f2) (f1.h.back h1) h2 h3 h4⟩
def putAll (al : List (List Int × D)) (ks : List (List Int × D)) : List (List Int × D) := ks.foldl (fun a p => putA a p.1 p.2) al
theorem length_putAll : ∀ (ks al : List (List Int × D)), (putAll al ks).length ≤ al.length + ks.length
  | [], al => by simp [putAll]
  | p :: ks, al => by
    have h1 := length_putA al p.1 p.2
    have h2 := length_putAll ks (putA al p.1 p.2)
    simp only [putAll, List.foldl_cons, List.length_cons] at h2 ⊢
    omega
/-- {k(x): v(x) for x in xs} -/
theorem evk_dc {tl : TE} {g : TG} {vs : List Nat} {ds : List D} (kf : D → List Int) (vf : D → D) (hd' : seqD d = some ds) (hl : EvD K tl env d) (hz : ds.length < sizeLine)
    (hs : ∀ x, x ∈ ds → ∃ env2 js, TGt K g x (wipeE env vs) env2 js ∧ (∀ j ∈ js, j ∈ vs) ∧ EvT K t env2 true ∧ EvD K ta env2 (itup (kf x)) ∧ EvD K tb env2 (vf x)) :
    EvK K (tDcT (iSeq K tl) g t ta tb vs) env (putAll [] (ds.map fun x => (kf x, vf x))) := fun G0 B G H σ s Q q =>
  iseq_ev hd' hl s fun J Ga Ha fa hgo hst hyl p hp => by
    have s := s.fwd fa
    have sw := (s.wiped vs).rebase.2
    have nO : ¬ ownAt (wipe σ vs) (wipeE env vs) p := (s.wiped vs).own_new hp
    have hb : bare Ha (wipe σ vs) (wipeE env vs) p = none := by rw [bare_not nO]; exact hp
    refine ⟨fun i m H' => m = ds.length - i ∧ i ≤ ds.length ∧ ∃ G' kvs, SR K Ga (bare Ha (wipe σ vs) (wipeE env vs)) G' H' (wipe σ vs) (wipeE env vs) ∧ Fm Ga Ha G' H' ∧ G' p = none ∧ H' p = some (.dT kvs) ∧ Al K G' kvs (putAll [] ((ds.take i).map fun x => (kf x, vf x))),
      ⟨ds.length, rfl, Nat.zero_le _, Ga, [], sw.aside (.inl hp) hb (s.i.back hp) nO, Fm.own s.i hp, s.i.back hp, upd_same, .nil⟩, ?_⟩
    rintro i m H1 ⟨rfl, hi, G1, kvs, s1, f1, gp, ap, al⟩
    by_cases hlt : i < ds.length
    case neg =>
      have ei : i = ds.length := by omega
      subst ei
      rw [List.take_length] at al
      exact .inl ⟨hst G1 H1 f1.g f1.i, q p kvs G1 H1 (fa.trans f1) (fa.h.back hp) gp ap al⟩
    refine .inr ⟨hgo i G1 H1 hlt f1.g f1.i, fun H2 => ∃ G2 kvs, SR K Ga (bare Ha (wipe σ vs) (wipeE env vs)) G2 H2 (wipe σ vs) (wipeE env vs) ∧ Fm Ga Ha G2 H2 ∧ G2 p = none ∧ H2 p = some (.dT kvs) ∧ Al K G2 kvs (putAll [] ((ds.take (i + 1)).map fun x => (kf x, vf x))),
      fun H2 ⟨G2, k2, z⟩ => ⟨ds.length - (i + 1), by omega, rfl, hlt, G2, k2, z⟩, fun x Hy y => ?_⟩
    obtain ⟨rfl, dx, hdx, ry⟩ := hyl i G1 H1 x Hy hlt f1.g f1.i y
    obtain ⟨env2, js, hg, hjs, ht, hk, hv⟩ := hs dx (List.mem_of_getElem? hdx)
    refine hg _ _ G1 Hy _ x s1 ry _ fun σ2 s2 w2 => ⟨by rw [w2 vs hjs, wipe_wipe], ?_⟩
    refine ht _ _ G1 Hy σ2 s2 _ fun G3 H3 f3 => ?_
    rw [if_pos rfl]
    refine hk _ _ G3 H3 σ2 (s2.fwd f3) _ fun x4 G4 H4 f4 r4 => hv _ _ G4 H4 σ2 ((s2.fwd f3).fwd f4) _ fun x5 G5 H5 f5 r5 => ?_
    have f35 := (f3.trans f4).trans f5
    have a5 := f35.h.o p _ ap rfl
    have g5 : G5 p = none := f35.n p _ ap rfl gp
    cases r4 with
    | @tup bb xs _ c1 c2 =>
      have ez := c2.ints
      subst ez
      have lk := length_putAll ((ds.take i).map fun x => (kf x, vf x)) []
      rw [List.length_map, List.length_take] at lk
      refine ⟨kvs, keyT (kf dx), bb, rfl, by rw [key_ints]; exact f5.h.o _ _ (f4.i.o _ _ c1 rfl) rfl, a5, by rw [al.length]; simp only [List.length_nil] at lk; omega, G5, _, (s1.fwd f35).aside (.inr ⟨_, a5, rfl⟩) hb g5 nO, ?_, g5, upd_same, ?_⟩
      · have z := f1.trans f35
        exact ⟨z.g, z.h.mut hp, z.i.mut g5, z.n, z.tb.trans (Tb.upd (.inr ⟨_, a5, rfl⟩))⟩
      · rw [List.take_add_one, hdx]
        simp only [Option.toList, List.map_append, List.map_cons, List.map_nil, putAll, List.foldl_append, List.foldl_cons, List.foldl_nil]
        exact (al.up f35.g).put r5
/-! ### xs[i] += n, xs of one's own -/
theorem sd_augL {i n : Nat} {ds : List D} {x y : Int} (he : env[i]? = some (.lst ds)) (hi : EvD K ta env (.int (n : Int))) (hn : ds[n]? = some (.int x)) (hv : EvD K tb env (.int y)) (k : e.nx (env.set i (.lst (ds.set n (.int (x + y)))))) :
    SD K mg E (tAugS (tVar i) ta tb (rGetL K) (ipI fun i j => i + j) rSetL) env e := fun G0 B G H σ Dd s q => by
  obtain ⟨l, h1, h5, _⟩ := s.ownS he rfl
  cases h5 with
  | @lst xs _ h4 h5 =>
    refine ⟨.ref l, h1, hi G0 B G H σ s _ fun v G1 H1 f1 r1 => ?_⟩
    cases r1
    have a1 := f1.h.o l _ h4 rfl
    obtain ⟨w, w1, w2⟩ := h5.get hn
    cases w2
    refine ⟨l, xs, n, _, rfl, rfl, SqL.of a1, w1, hv G0 B G1 H1 σ (s.fwd f1) _ fun v2 G2 H2 f2 r2 => ?_⟩
    cases r2
    have a2 := f2.h.o l _ a1 rfl
    have hlt : n < xs.length := (List.getElem?_eq_some_iff.mp w1).1
    refine ⟨x, y, rfl, rfl, l, xs, (n : Int), n, rfl, rfl, a2, (show ixN xs.length (n : Int) = some n by simp [ixN, hlt]), ?_⟩
    exact q.nx G2 _ σ _ (((s.fwd f1).fwd f2).write he rfl h1 (.lst upd_same (RpL.set (.int (x + y)) n (h5.up (f1.trans f2).g))) rfl) k
/-! ### a dict that is empty, walked -/
theorem upd_back {H : Hp} {p : Addr} {o u : HO} (h : H p = some u) : upd (upd H p o) p u = H := by
  funext a
  by_cases z : a = p
  · subst z; rw [upd_same, h]
  · rw [upd_ne z, upd_ne z]
theorem sd_forK0 {i : Nat} {g : TG} {tb : TS} (he : env[i]? = some (.dat (.dct [] []))) (k : e.nx env) : SD K mg E (tLock (tFor (iKeys (tVar i)) g tb)) env e := fun G0 B G H σ Dd s q => by
  obtain ⟨v, h1, r⟩ := s.datAt he
  cases r with
  | @dct a kvs _ _ g1 g2 g3 =>
    have ek : kvs = [] := by cases kvs with
      | nil => rfl
      | cons _ _ => simp at g2
    subst ek
    have hH := s.i.o _ _ g1 rfl
    refine ⟨a, .dT [], hH, True.intro, fun od => ⟨.ref a, h1, a, od, rfl, .inr ⟨[], upd_same, fun j m σ' H' => j = 0 ∧ σ' = σ ∧ H' = upd H a (.frz od (.dT [])), ⟨0, rfl, rfl, rfl⟩, ?_⟩⟩⟩
    rintro j m σ' H' ⟨rfl, rfl, rfl⟩
    refine .inl ⟨⟨upd_same, Nat.le_refl _⟩, upd_same, ?_⟩
    rw [upd_back hH]
    exact q.nx G H _ env s k
/-! ### objects -/
def fieldOf (ns : List Str) (ds : List D) (f : Str) : Option D := (ns.zip ds).lookup f
theorem lookup_rp {H : Hp} {f : Str} : ∀ {flds : List (Str × V)} {ns : List Str} {ds : List D}, flds.map (·.1) = ns → RpL K H (flds.map (·.2)) ds → fieldOf ns ds f = some d → ∃ v, flds.lookup f = some v ∧ Rp K H v d
  | [], _, _, e, _, h => by subst e; simp [fieldOf] at h
  | (n, v) :: flds, _, _, e, r, h => by
    subst e
    cases r with
    | @cons _ _ d' ds' r1 r2 =>
      simp only [fieldOf, List.map_cons, List.zip_cons_cons, List.lookup_cons] at h ⊢
      cases q : f == n with
      | true => rw [q] at h; cases h; exact ⟨v, rfl, r1⟩
      | false => rw [q] at h; exact lookup_rp rfl r2 h
theorem ev_fld {C : Addr} {ns : List Str} {ds : List D} {f : Str} (cl : Cls K C) (no : NoAttr K C f) (h : EvD K ta env (.obj C ns ds)) (hf : fieldOf ns ds f = some d) : EvD K (tFld K ta f) env d := fun G0 B G H σ s Q q =>
  h G0 B G H σ s _ fun v G1 H1 f1 r1 => by
    cases r1 with
    | @obj a _ dx fs _ _ h1 h2 h3 =>
      obtain ⟨w, w1, w2⟩ := lookup_rp h2 h3 hf
      exact ⟨a, C, dx, fs, w, rfl, f1.i.o _ _ h1 rfl, cl, no, w1, q w G1 H1 f1 w2⟩
end
end Ly

namespace Ly
open PySem L2
/-! ### targets that are fields -/
def gFld (K : Fg) (to : TE) (f : Str) : TG := fun v σ H Q => to σ H fun x H1 => ∃ a C dx fs, x = .ref a ∧ H1 a = some (.ins C dx fs) ∧ Cls K C ∧ NoAttr K C f ∧ fs.length < 1000 ∧ Q σ (upd H1 a (.ins C dx (putF f v fs)))
section
variable {X : Cx}
theorem pg_fld {o : Expr} {f : Str} {to : TE} {pos : Pos} (ho : PE X o to)
    (ha : ∀ v, assign (.Attribute o f pos) X.env v = (do
      let ov ← holding [v] (eval o X.env)
      standAt pos.atName
      holding [v, ov] (setAttr ov f v)
      release [v, ov] []) := by intro _; rfl) : PG X (.Attribute o f pos) (gFld X.K to f) := by
  refine ⟨fun pins s σ H v u Q I r h => ?_⟩
  rw [ha]
  refine wpAny_bind (wpAny_holding (thn (ho.run pins s σ H _ I h) fun ov s1 ⟨x, H1, I1, r1, a, C, dx, fs, ex, ea, c, n, l, q⟩ => ?_))
  subst ex
  obtain rfl : ov = Value.ref a := r1
  exact wpAny_bind (wpAny_standAt (wpAny_bind (wpAny_holding (setattr_ok I1 ea c n l r fun s2 I2 => wpAny_release ⟨σ, _, I2, q⟩))))
end
section
variable {K : Fg} {env : Evn} {te ta tb tc : TE} {t u : TT} {d a b c : D} {mg : Str → Option Value} {E : XK} {e : En}
/-! ### fields of an object of one's own -/
theorem putF_new {f : Str} {v : V} : ∀ {fs : List (Str × V)}, f ∉ fs.map (·.1) → putF f v fs = fs ++ [(f, v)]
  | [], _ => rfl
  | (g, x) :: r, h => by
    simp only [List.map_cons, List.mem_cons, not_or] at h
    rw [putF, if_neg (fun z => h.1 z.symm), putF_new h.2]; rfl
theorem putF_names {f : Str} {v : V} : ∀ {fs : List (Str × V)}, f ∈ fs.map (·.1) → (putF f v fs).map (·.1) = fs.map (·.1)
  | [], h => by simp at h
  | (g, x) :: r, h => by
    unfold putF
    by_cases z : g = f
    · rw [if_pos z]; rfl
    · rw [if_neg z, List.map_cons, List.map_cons, putF_names (by simpa [Ne.symm z, eq_comm, z] using h)]
theorem putF_vals {f : Str} {v : V} : ∀ {fs : List (Str × V)} {j : Nat}, (fs.map (·.1))[j]? = some f → (fs.map (·.1)).Nodup → (putF f v fs).map (·.2) = (fs.map (·.2)).set j v
  | [], j, h, _ => by simp at h
  | (g, x) :: r, 0, h, _ => by
    simp at h; unfold putF; rw [if_pos h]; rfl
  | (g, x) :: r, j + 1, h, hn => by
    simp only [List.map_cons, List.getElem?_cons_succ, List.nodup_cons] at h hn
    unfold putF
    rw [if_neg (fun z => hn.1 (by rw [z]; exact List.mem_of_getElem? h)), List.map_cons, List.map_cons, List.set_cons_succ, putF_vals h hn.2]
theorem OFs.snoc {G H : Hp} {v : V} {f : OF} (h : OFok K G H v f) : ∀ {vs : List V} {fs : List OF}, OFs K G H vs fs → OFs K G H (vs ++ [v]) (fs ++ [f])
  | _, _, .nil => .cons h .nil
  | _, _, .cons q t => .cons q (OFs.snoc h t)
theorem OFs.set {G H : Hp} {v : V} {f : OF} (h : OFok K G H v f) : ∀ {vs : List V} {fs : List OF} (j : Nat), OFs K G H vs fs → OFs K G H (vs.set j v) (fs.set j f)
  | _, _, _, .nil => .nil
  | _, _, 0, .cons _ t => .cons h t
  | _, _, j + 1, .cons q t => .cons q (OFs.set h j t)
theorem OFs.length {G H : Hp} : ∀ {vs : List V} {fs : List OF}, OFs K G H vs fs → vs.length = fs.length
  | _, _, .nil => rfl
  | _, _, .cons _ t => by simp [OFs.length t]
theorem foots_snoc (f : OF) : ∀ fs : List OF, foots (fs ++ [f]) = foots fs ++ f.foot
  | [] => by simp [foots]
  | g :: fs => by simp [foots, foots_snoc f fs]
theorem foots_set {f g : OF} (hf : f.foot = g.foot) : ∀ {fs : List OF} {j : Nat}, fs[j]? = some g → foots (fs.set j f) = foots fs
  | [], j, h => by simp at h
  | x :: fs, 0, h => by simp at h; subst h; simp [foots, hf]
  | x :: fs, j + 1, h => by simp only [List.getElem?_cons_succ] at h; simp [foots, foots_set hf h]
theorem OFs.get {G H : Hp} : ∀ {vs : List V} {fs : List OF} {j : Nat} {f : OF}, OFs K G H vs fs → fs[j]? = some f → ∃ v, vs[j]? = some v ∧ OFok K G H v f
  | _, _, _, _, .nil, h => by simp at h
  | _, _, 0, _, .cons q _, h => by simp at h; subst h; exact ⟨_, rfl, q⟩
  | _, _, j + 1, f, .cons _ t, h => by
    obtain ⟨v, h1, h2⟩ := OFs.get (j := j) (f := f) t (by simpa using h)
    exact ⟨v, by simpa using h1, h2⟩
theorem lookup_at {f : Str} {v : V} : ∀ {flds : List (Str × V)} {j : Nat}, (flds.map (·.1))[j]? = some f → (flds.map (·.2))[j]? = some v → (flds.map (·.1)).Nodup → flds.lookup f = some v
  | [], j, h, _, _ => by simp at h
  | (g, x) :: r, 0, h, h', _ => by
    simp at h h'; subst h h'; simp
  | (g, x) :: r, j + 1, h, h', hn => by
    simp only [List.map_cons, List.getElem?_cons_succ, List.nodup_cons] at h h' hn
    rw [List.lookup_cons, show (f == g) = false from beq_eq_false_iff_ne.mpr (fun z => hn.1 (by rw [← z]; exact List.mem_of_getElem? h))]
    exact lookup_at h h' hn.2
/-- self.f = data, a new field -/
theorem sd_fldN {i : Nat} {l C dx : Addr} {ns : List Str} {fs : List OF} {f : Str} (cl : Cls K C) (no : NoAttr K C f) (he : env[i]? = some (.obj l C dx ns fs)) (hf : f ∉ ns) (hz : ns.length < 1000) (h : EvD K tb env d) (k : e.nx (env.set i (.obj l C dx (ns ++ [f]) (fs ++ [.dat d])))) :
    SD K mg E (sFld K (tVar i) tb f) env e := fun G0 B G H σ Dd s q =>
  h G0 B G H σ s _ fun y G1 H1 f1 r1 => by
    have s1 := s.fwd f1
    obtain ⟨l, h1, h5, h6⟩ := s1.ownS he rfl
    cases h5 with
    | @obj _ _ flds _ _ a1 a2 a3 a4 a5 =>
      have hn : f ∉ flds.map (·.1) := by rw [a3]; exact hf
      refine ⟨.ref l, h1, l, C, dx, flds, rfl, a1, cl, no, by rw [← List.length_map (f := (·.1)), a3]; exact hz, ?_⟩
      rw [putF_new hn]
      have ft : foot l (.obj l C dx (ns ++ [f]) (fs ++ [.dat d])) = foot l (.obj l C dx ns fs) := by simp [foot, foots_snoc, OF.foot]
      have nd : dx ≠ l := fun z => by subst z; simp at a5
      refine q.nx G1 _ σ _ (s1.mut he rfl h1 (.obj upd_same (by rw [upd_ne nd]; exact a2) (by simp [a3]) ?_ (by rw [foots_snoc]; simpa [OF.foot] using a5)) (fun a ha => upd_ne (fun z => ha (by rw [z]; exact foot_l))) fun a ha => .inl (by rw [ft] at ha; exact ha)) k
      rw [List.map_append]
      refine OFs.snoc (.dat r1) (a4.mono (Ex.refl _) fun a ha => upd_ne (fun z => ?_))
      subst z; simp [ha] at a5
/-- self.f = data, a field that is there and data -/
theorem sd_fldS {i j : Nat} {l C dx : Addr} {ns : List Str} {fs : List OF} {f : Str} {d0 : D} (cl : Cls K C) (no : NoAttr K C f) (he : env[i]? = some (.obj l C dx ns fs)) (hf : ns[j]? = some f) (hn : ns.Nodup) (h0 : fs[j]? = some (.dat d0)) (hz : ns.length < 1000) (h : EvD K tb env d) (k : e.nx (env.set i (.obj l C dx ns (fs.set j (.dat d))))) :
    SD K mg E (sFld K (tVar i) tb f) env e := fun G0 B G H σ Dd s q =>
  h G0 B G H σ s _ fun y G1 H1 f1 r1 => by
    have s1 := s.fwd f1
    obtain ⟨l, h1, h5, h6⟩ := s1.ownS he rfl
    cases h5 with
    | @obj _ _ flds _ _ a1 a2 a3 a4 a5 =>
      refine ⟨.ref l, h1, l, C, dx, flds, rfl, a1, cl, no, by rw [← List.length_map (f := (·.1)), a3]; exact hz, ?_⟩
      have fe : foots (fs.set j (.dat d)) = foots fs := foots_set (f := .dat d) (g := .dat d0) rfl h0
      have ft : foot l (.obj l C dx ns (fs.set j (.dat d))) = foot l (.obj l C dx ns fs) := by simp [foot, fe]
      have nd : dx ≠ l := fun z => by subst z; simp at a5
      refine q.nx G1 _ σ _ (s1.mut he rfl h1 (.obj upd_same (by rw [upd_ne nd]; exact a2) (by rw [putF_names (by rw [a3]; exact List.mem_of_getElem? hf)]; exact a3) ?_ (by rw [fe]; exact a5)) (fun a ha => upd_ne (fun z => ha (by rw [z]; exact foot_l))) fun a ha => .inl (by rw [ft] at ha; exact ha)) k
      rw [putF_vals (by rw [a3]; exact hf) (by rw [a3]; exact hn)]
      refine OFs.set (.dat r1) j (a4.mono (Ex.refl _) fun a ha => upd_ne (fun z => ?_))
      subst z; simp [ha] at a5
/-- self.f = a new dict -/
theorem sd_fldK {i : Nat} {l C dx : Addr} {ns : List Str} {fs : List OF} {f : Str} {al : List (List Int × D)} (cl : Cls K C) (no : NoAttr K C f) (he : env[i]? = some (.obj l C dx ns fs)) (hf : f ∉ ns) (hz : ns.length < 1000) (h : EvK K tb env al) (k : ∀ p, e.nx (env.set i (.obj l C dx (ns ++ [f]) (fs ++ [.dic p al])))) :
    SD K mg E (sFld K (tVar i) tb f) env e := fun G0 B G H σ Dd s q =>
  h G0 B G H σ s _ fun p kvs G1 H1 f1 p1 p2 p3 p4 => by
    have s1 := s.fwd f1
    obtain ⟨l, h1, h5, h6⟩ := s1.ownS he rfl
    have np : ¬ ownAt σ env p := s.own_new p1
    cases h5 with
    | @obj _ _ flds _ _ a1 a2 a3 a4 a5 =>
      have hn : f ∉ flds.map (·.1) := by rw [a3]; exact hf
      refine ⟨.ref l, h1, l, C, dx, flds, rfl, a1, cl, no, by rw [← List.length_map (f := (·.1)), a3]; exact hz, ?_⟩
      rw [putF_new hn]
      have nd : dx ≠ l := fun z => by subst z; simp at a5
      have pin : p ∉ foot l (.obj l C dx ns fs) := fun z => np ⟨i, _, l, he, rfl, h1, z⟩
      have npl : p ≠ l := fun z => pin (by rw [z]; exact foot_l)
      refine q.nx G1 _ σ _ (s1.mut he rfl h1 (.obj upd_same (by rw [upd_ne nd]; exact a2) (by simp [a3]) ?_ ?_) (fun a ha => upd_ne (fun z => ha (by rw [z]; exact foot_l))) fun a ha => ?_) (k p)
      · rw [List.map_append]
        refine OFs.snoc (.dic (by rw [upd_ne npl]; exact p3) p4) (a4.mono (Ex.refl _) fun a ha => upd_ne (fun z => ?_))
        subst z; simp [ha] at a5
      · rw [foots_snoc, show l :: dx :: (foots fs ++ (OF.dic p al).foot) = (l :: dx :: foots fs) ++ [p] from rfl, List.nodup_append]
        exact ⟨a5, by simp, fun a ha b hb => by simp at hb; subst hb; exact fun z => pin (by rw [← z]; exact ha)⟩
      · simp only [foot, foots_snoc, OF.foot, List.mem_cons, List.mem_append, List.mem_singleton, List.not_mem_nil, or_false] at ha
        rcases ha with ha | ha | ha | ha
        · exact .inl (by simp [foot, ha])
        · exact .inl (by simp [foot, ha])
        · exact .inl (by simp [foot, ha])
        · subst ha; exact .inr ⟨s.fm.h.back p1, p2, np, .inr ⟨_, p3, rfl⟩⟩
/-- a dict in a field, written -/
theorem SR.fdic {G0 B G H : Hp} {σ : L2.St} (s : SR K G0 B G H σ env) {i j : Nat} {C dx p l : Addr} {ns : List Str} {fs : List OF} {al al2 : List (List Int × D)} {kvs : List (List Key × V)} (he : env[i]? = some (.obj l C dx ns fs)) (el : σ[i]? = some (some (.ref l))) (hj : fs[j]? = some (.dic p al)) (h : Al K G kvs al2) :
    SR K G0 B G (upd H p (.dT kvs)) σ (env.set i (.obj l C dx ns (fs.set j (.dic p al2)))) := by
  obtain ⟨l', h1, h5, h6⟩ := s.ownS he rfl
  rw [el] at h1; cases h1
  cases h5 with
  | @obj _ _ flds _ _ a1 a2 a3 a4 a5 =>
    have fe : foots (fs.set j (.dic p al2)) = foots fs := foots_set (f := .dic p al2) (g := .dic p al) rfl hj
    obtain ⟨v, v1, v2⟩ := a4.get hj
    have pin : p ∈ foots fs := by
      have : ∀ {fs : List OF} {j : Nat}, fs[j]? = some (.dic p al) → p ∈ foots fs := by
        intro fs
        induction fs with
        | nil => intro j h; simp at h
        | cons x fs ih =>
          intro j h
          cases j with
          | zero => simp at h; subst h; simp [foots, OF.foot]
          | succ j => simp only [List.getElem?_cons_succ] at h; simp [foots, ih h]
      exact this hj
    have npl : l ≠ p := fun z => by subst z; simp [pin] at a5
    have npd : dx ≠ p := fun z => by subst z; simp [pin] at a5
    have key : ∀ {vs : List V} {gs : List OF} {j : Nat}, OFs K G H vs gs → (foots gs).Nodup → gs[j]? = some (.dic p al) → OFs K G (upd H p (.dT kvs)) vs (gs.set j (.dic p al2)) := by
      intro vs gs j o
      induction o generalizing j with
      | nil => intro _ h; simp at h
      | @cons v vs f fs q t ih =>
        intro nd hj
        rw [foots, List.nodup_append] at nd
        cases j with
        | zero =>
          simp at hj; subst hj
          cases q with
          | dic g1 g2 =>
            refine .cons (.dic upd_same h) (t.mono (Ex.refl _) fun a ha => upd_ne (fun z => ?_))
            subst z
            exact nd.2.2 a (by simp [OF.foot]) a ha rfl
        | succ j =>
          simp only [List.getElem?_cons_succ] at hj
          refine .cons (q.mono (Ex.refl _) fun a ha => upd_ne (fun z => ?_)) (ih nd.2.1 hj)
          subst z
          have : a ∈ foots fs := by
            have : ∀ {fs : List OF} {j : Nat}, fs[j]? = some (.dic a al) → a ∈ foots fs := by
              intro fs
              induction fs with
              | nil => intro j h; simp at h
              | cons x fs ih =>
                intro j h
                cases j with
                | zero => simp at h; subst h; simp [foots, OF.foot]
                | succ j => simp only [List.getElem?_cons_succ] at h; simp [foots, ih h]
            exact this hj
          exact nd.2.2 a ha a this rfl
    refine s.mut he rfl el (.obj (by rw [upd_ne npl]; exact a1) (by rw [upd_ne npd]; exact a2) a3 (key a4 (by simp only [List.nodup_cons] at a5; exact a5.2.2) hj) (by rw [fe]; exact a5)) (fun a ha => upd_ne (fun z => ha (by simp [foot, fe, z, pin]))) fun a ha => .inl (by simpa [foot, fe] using ha)
theorem SR.fdicAt {G0 B G H : Hp} {σ : L2.St} (s : SR K G0 B G H σ env) {i j : Nat} {l C dx p : Addr} {ns : List Str} {fs : List OF} {al : List (List Int × D)} {f : Str} (he : env[i]? = some (.obj l C dx ns fs)) (hn : ns.Nodup) (hf : ns[j]? = some f) (hj : fs[j]? = some (.dic p al)) :
    ∃ flds kvs, σ[i]? = some (some (.ref l)) ∧ H l = some (.ins C dx flds) ∧ flds.lookup f = some (.ref p) ∧ H p = some (.dT kvs) ∧ Al K G kvs al := by
  obtain ⟨l, h1, h5, h6⟩ := s.ownS he rfl
  cases h5 with
  | @obj _ _ flds _ _ a1 a2 a3 a4 a5 =>
    obtain ⟨v, v1, v2⟩ := a4.get hj
    cases v2 with
    | @dic _ kvs _ g1 g2 => exact ⟨flds, kvs, h1, a1, lookup_at (by rw [a3]; exact hf) v1 (by rw [a3]; exact hn), g1, g2⟩
/-- self.f[k] = v -/
theorem sd_fdput {i j : Nat} {l C dx p : Addr} {ns : List Str} {fs : List OF} {al : List (List Int × D)} {f : Str} {k : List Int} (cl : Cls K C) (no : NoAttr K C f) (he : env[i]? = some (.obj l C dx ns fs)) (hn : ns.Nodup) (hf : ns[j]? = some f) (hj : fs[j]? = some (.dic p al)) (hz : al.length < sizeLine)
    (hv : EvD K tb env d) (hk : EvD K ta env (itup k)) (kk : e.nx (env.set i (.obj l C dx ns (fs.set j (.dic p (putA al k d)))))) : SD K mg E (sDPut (tFld K (tVar i) f) ta tb) env e := fun G0 B G H σ Dd s q =>
  hv G0 B G H σ s _ fun v G1 H1 f1 r1 => by
    obtain ⟨flds, kvs, h1, h2, h3, h4, h5⟩ := (s.fwd f1).fdicAt he hn hf hj
    refine ⟨.ref l, h1, l, C, dx, flds, .ref p, rfl, h2, cl, no, h3, hk G0 B G1 H1 σ (s.fwd f1) _ fun y G2 H2 f2 r2 => ?_⟩
    cases r2 with
    | @tup b xs _ g1 g2 =>
      have ez := g2.ints
      subst ez
      refine ⟨p, _, rfl, DPut.t (f2.h.o p _ h4 rfl) (by rw [key_ints]; exact f2.i.o _ _ g1 rfl) (by rw [h5.length]; exact hz), ?_⟩
      exact q.nx G2 _ σ _ (((s.fwd f1).fwd f2).fdic he h1 hj ((h5.up f2.g).put (r1.up f2.g))) kk
/-- self.f[k], self.g[k] = v, w -/
theorem sd_fdput2 {i j1 j2 : Nat} {l C dx p1 p2 : Addr} {ns : List Str} {fs : List OF} {al1 al2 : List (List Int × D)} {f g : Str} {k1 k2 : List Int} {d1 d2 : D} {tk1 tk2 t1 t2 : TE} (cl : Cls K C) (no1 : NoAttr K C f) (no2 : NoAttr K C g) (he : env[i]? = some (.obj l C dx ns fs)) (hn : ns.Nodup) (hf1 : ns[j1]? = some f) (hf2 : ns[j2]? = some g) (hj1 : fs[j1]? = some (.dic p1 al1)) (hj2 : fs[j2]? = some (.dic p2 al2)) (hne : j1 ≠ j2) (hz1 : al1.length < sizeLine) (hz2 : al2.length < sizeLine)
    (hv1 : EvD K t1 env d1) (hv2 : EvD K t2 env d2) (hk1 : EvD K tk1 env (itup k1)) (hk2 : EvD K tk2 (env.set i (.obj l C dx ns (fs.set j1 (.dic p1 (putA al1 k1 d1))))) (itup k2))
    (kk : e.nx (env.set i (.obj l C dx ns ((fs.set j1 (.dic p1 (putA al1 k1 d1))).set j2 (.dic p2 (putA al2 k2 d2)))))) : SD K mg E (tAsg (tTup (tCons t1 (tCons t2 tNil))) (gTup K 2 (gCons (gSub (tFld K (tVar i) f) tk1 rSetD) (gCons (gSub (tFld K (tVar i) g) tk2 rSetD) gNil)))) env e := fun G0 B G H σ Dd s q =>
  (show EvD K (tTup (tCons t1 (tCons t2 tNil))) env (.tuple [d1, d2]) from ev_tup (ea_cons hv1 (ea_cons hv2 ea_nil))) G0 B G H σ s _ fun v G1 H1 f1 r1 => by
    cases r1 with
    | @tup a xs _ b1 b2 =>
      cases b2 with
      | @cons x1 _ _ _ r1 b2 => cases b2 with
        | @cons x2 _ _ _ r2 b2 =>
          cases b2
          have s1 := s.fwd f1
          obtain ⟨flds, kvs, h1, h2, h3, h4, h5⟩ := s1.fdicAt he hn hf1 hj1
          refine ⟨a, _, rfl, ex_t f1.i b1, rfl, _, _, rfl, .ref l, h1, l, C, dx, flds, .ref p1, rfl, h2, cl, no1, h3, hk1 G0 B G1 H1 σ s1 _ fun y G2 H2 f2 y2 => ?_⟩
          cases y2 with
          | @tup b ys _ g1 g2 =>
            have ez := g2.ints
            subst ez
            refine ⟨p1, _, rfl, DPut.t (f2.h.o p1 _ h4 rfl) (by rw [key_ints]; exact f2.i.o _ _ g1 rfl) (by rw [h5.length]; exact hz1), ?_⟩
            have s2 := ((s1.fwd f2)).fdic he h1 hj1 ((h5.up f2.g).put (k := k1) (r1.up f2.g))
            have hi : i < env.length := (List.getElem?_eq_some_iff.mp he).1
            have he2 : (env.set i (.obj l C dx ns (fs.set j1 (.dic p1 (putA al1 k1 d1)))))[i]? = some (.obj l C dx ns (fs.set j1 (.dic p1 (putA al1 k1 d1)))) := by rw [List.getElem?_set_self hi]
            have hj2' : (fs.set j1 (.dic p1 (putA al1 k1 d1)))[j2]? = some (.dic p2 al2) := by rw [List.getElem?_set_ne hne]; exact hj2
            obtain ⟨flds', kvs', e1, e2, e3, e4, e5⟩ := s2.fdicAt he2 hn hf2 hj2'
            refine ⟨_, _, rfl, .ref l, h1, l, C, dx, flds', .ref p2, rfl, e2, cl, no2, e3, hk2 G0 B G2 _ σ s2 _ fun y3 G3 H3 f3 z3 => ?_⟩
            cases z3 with
            | @tup b' ys' _ g1' g2' =>
              have ez := g2'.ints
              subst ez
              refine ⟨p2, _, rfl, DPut.t (f3.h.o p2 _ e4 rfl) (by rw [key_ints]; exact f3.i.o _ _ g1' rfl) (by rw [e5.length]; exact hz2), rfl, ?_⟩
              have s3 := ((s2.fwd f3)).fdic he2 h1 hj2' ((e5.up f3.g).put (k := k2) ((r2.up f2.g).up f3.g))
              rw [List.set_set] at s3
              exact q.nx G3 _ σ _ s3 kk
end
end Ly

namespace Ly
open PySem L2
section
variable {K : Fg} {env : Evn} {te ta tb tc : TE} {t u : TT} {d a b c : D} {mg : Str → Option Value} {E : XK} {e : En}
theorem SR.objAt {G0 B G H : Hp} {σ : L2.St} (s : SR K G0 B G H σ env) {i : Nat} {l C dx : Addr} {ns : List Str} {fs : List OF} (he : env[i]? = some (.obj l C dx ns fs)) : ∃ flds, σ[i]? = some (some (.ref l)) ∧ H l = some (.ins C dx flds) ∧ flds.map (·.1) = ns := by
  obtain ⟨l, h1, h5, _⟩ := s.ownS he rfl
  cases h5 with
  | obj a1 a2 a3 a4 a5 => exact ⟨_, h1, a1, a3⟩
/-- a dict that stands aside comes into a new field -/
theorem SR.fldDic {G0 B G H : Hp} {σ : L2.St} (s : SR K G0 B G H σ env) {i : Nat} {l C dx p : Addr} {flds : List (Str × V)} {ns : List Str} {fs : List OF} {f : Str} {kvs : List (List Key × V)} {al : List (List Int × D)} (he : env[i]? = some (.obj l C dx ns fs)) (el : σ[i]? = some (some (.ref l))) (hl : H l = some (.ins C dx flds)) (hf : f ∉ ns)
    (np : ¬ ownAt σ env p) (pb : B p = none) (p2 : G p = none) (p3 : H p = some (.dT kvs)) (p4 : Al K G kvs al) : SR K G0 B G (upd H l (.ins C dx (putF f (.ref p) flds))) σ (env.set i (.obj l C dx (ns ++ [f]) (fs ++ [.dic p al]))) := by
  obtain ⟨l', h1, h5, h6⟩ := s.ownS he rfl
  rw [el] at h1; cases h1
  cases h5 with
  | @obj _ _ flds' _ _ a1 a2 a3 a4 a5 =>
    rw [hl] at a1; cases a1
    rw [putF_new (by rw [a3]; exact hf)]
    have nd : dx ≠ l := fun z => by subst z; simp at a5
    have pin : p ∉ foot l (.obj l C dx ns fs) := fun z => np ⟨i, _, l, he, rfl, el, z⟩
    have npl : p ≠ l := fun z => pin (by rw [z]; exact foot_l)
    refine s.mut he rfl el (.obj upd_same (by rw [upd_ne nd]; exact a2) (by simp [a3]) ?_ ?_) (fun a ha => upd_ne (fun z => ha (by rw [z]; exact foot_l))) fun a ha => ?_
    · rw [List.map_append]
      refine OFs.snoc (.dic (by rw [upd_ne npl]; exact p3) p4) (a4.mono (Ex.refl _) fun a ha => upd_ne (fun z => ?_))
      subst z; simp [ha] at a5
    · rw [foots_snoc, show l :: dx :: (foots fs ++ (OF.dic p al).foot) = (l :: dx :: foots fs) ++ [p] from rfl, List.nodup_append]
      exact ⟨a5, by simp, fun a ha b hb => by simp at hb; subst hb; exact fun z => pin (by rw [← z]; exact ha)⟩
    · simp only [foot, foots_snoc, OF.foot, List.mem_cons, List.mem_append, List.mem_singleton, List.not_mem_nil, or_false] at ha
      rcases ha with ha | ha | ha | ha
      · exact .inl (by simp [foot, ha])
      · exact .inl (by simp [foot, ha])
      · exact .inl (by simp [foot, ha])
      · subst ha; exact .inr ⟨pb, p2, np, .inr ⟨_, p3, rfl⟩⟩
/-- self.f, self.g = {}, {} -/
theorem sd_fld2K {i : Nat} {l C dx : Addr} {ns : List Str} {fs : List OF} {f g : Str} (cl : Cls K C) (no1 : NoAttr K C f) (no2 : NoAttr K C g) (he : env[i]? = some (.obj l C dx ns fs)) (hf : f ∉ ns) (hg : g ∉ ns ++ [f]) (hz : ns.length < 999)
    (k : ∀ p q, e.nx (env.set i (.obj l C dx (ns ++ [f] ++ [g]) (fs ++ [.dic p []] ++ [.dic q []])))) :
    SD K mg E (tAsg (tTup (tCons tDNewT (tCons tDNewT tNil))) (gTup K 2 (gCons (gFld K (tVar i) f) (gCons (gFld K (tVar i) g) gNil)))) env e := fun G0 B G H σ Dd s q => by
  intro p hp p2 hp2
  refine ⟨by show 2 ≤ sizeLine; rw [sizeLine_eq]; omega, fun a ha => ?_⟩
  have f1 := Fm.own (o := .dT []) s.i hp
  have f2 := Fm.own (o := .dT []) f1.i hp2
  have f3 := Fm.own (o := .tup [.ref p, .ref p2]) f2.i ha
  have s3 := ((s.fwd f1).fwd f2).fwd f3
  obtain ⟨flds, h1, h2, h3⟩ := s3.objAt he
  have n1 : p ≠ p2 := fun z => by subst z; rw [upd_same] at hp2; cases hp2
  have hpH : upd (upd (upd H p (.dT [])) p2 (.dT [])) a (.tup [.ref p, .ref p2]) p = some (.dT []) := f3.h.o _ _ (f2.h.o _ _ upd_same rfl) rfl
  have hpH2 : upd (upd (upd H p (.dT [])) p2 (.dT [])) a (.tup [.ref p, .ref p2]) p2 = some (.dT []) := f3.h.o _ _ upd_same rfl
  have np : ¬ ownAt σ env p := s.own_new hp
  have np2 : ¬ ownAt σ env p2 := (s.fwd f1).own_new hp2
  have hpn2 : H p2 = none := f1.h.back hp2
  refine ⟨a, _, rfl, SqT.of upd_same, rfl, _, _, rfl, .ref l, h1, l, C, dx, flds, rfl, h2, cl, no1, by rw [← List.length_map (f := (·.1)), h3]; omega, ?_⟩
  have s4 := s3.fldDic he h1 h2 hf np (s.fm.h.back hp) (s.i.back hp) hpH .nil
  have hi : i < env.length := (List.getElem?_eq_some_iff.mp he).1
  have he4 : (env.set i (.obj l C dx (ns ++ [f]) (fs ++ [.dic p []])))[i]? = some (.obj l C dx (ns ++ [f]) (fs ++ [.dic p []])) := by rw [List.getElem?_set_self hi]
  obtain ⟨flds', e1, e2, e3⟩ := s4.objAt he4
  refine ⟨_, _, rfl, .ref l, h1, l, C, dx, flds', rfl, e2, cl, no2, by rw [← List.length_map (f := (·.1)), e3, List.length_append]; simp; omega, rfl, ?_⟩
  have np4 : ¬ ownAt σ (env.set i (.obj l C dx (ns ++ [f]) (fs ++ [.dic p []]))) p2 := fun ⟨j, x, m, ej, hx, em, hm⟩ => by
    by_cases z : i = j
    · subst z
      rw [he4] at ej; cases ej
      rw [h1] at em; cases em
      simp only [foot, foots_snoc, OF.foot, List.mem_cons, List.mem_append, List.mem_singleton, List.not_mem_nil, or_false] at hm
      rcases hm with hm | hm | hm | hm
      · exact np2 ⟨i, _, l, he, rfl, h1, by simp [foot, hm]⟩
      · exact np2 ⟨i, _, l, he, rfl, h1, by simp [foot, hm]⟩
      · exact np2 ⟨i, _, l, he, rfl, h1, by simp [foot, hm]⟩
      · exact n1 hm.symm
    · rw [List.getElem?_set_ne z] at ej
      exact np2 ⟨j, x, m, ej, hx, em, hm⟩
  have nl : p2 ≠ l := fun z => np2 ⟨i, _, l, he, rfl, h1, by rw [z]; exact foot_l⟩
  have s5 := s4.fldDic he4 h1 e2 hg np4 (s.fm.h.back hpn2) (s.i.back hpn2) (by rw [upd_ne nl]; exact hpH2) .nil
  rw [List.set_set] at s5
  exact q.nx _ _ σ _ s5 (k p p2)
/-! ### methods that change self -/
abbrev COt := SL → List D → Res → (SL → Prop) → Prop
def spO (K : Fg) (mg : Str → Option Value) (P : COt) : Sp := fun vs H Q E => ∃ G0 B G l x ws ds r Y, vs = .ref l :: ws ∧ Fm G0 B G H ∧ TbK K H ∧ OwnAt K G H l x ∧ (∀ a ∈ foot l x, B a = none ∧ G a = none) ∧ RpL K G ws ds ∧ P x ds r Y ∧
  (∀ d, r = .ok d → ∀ v G2 H2 y, Y y → Fm G0 B G2 H2 → OwnAt K G2 H2 l y → (∀ a ∈ foot l y, B a = none ∧ G2 a = none) → TbK K H2 → Rp K G2 v d → Q v H2) ∧
  (∀ x, r = .err x → ∀ C G2 H2, mg x = some (.ref C) → Fm G0 B G2 H2 → E (.ref C) none H2)
def startO (N : List Str) (x : SL) (ds : List D) : Evn := x :: (ds.map SL.dat ++ List.replicate (N.length - (ds.length + 1)) SL.no)
def enO (r : Res) (Y : SL → Prop) : En := { nx := fun env => r = .ok .none ∧ ∃ y, env[0]? = some y ∧ isOwn y = true ∧ Y y, ro := fun env d => r = .ok d ∧ ∃ y, env[0]? = some y ∧ isOwn y = true ∧ Y y, ex := fun x => r = .err x }
theorem sr_startO {G0 B G H : Hp} {N : List Str} {l : Addr} {x : SL} {vs : List V} {ds : List D} (fm : Fm G0 B G H) (tk : TbK K H) (ho : OwnAt K G H l x) (hb : ∀ a ∈ foot l x, B a = none ∧ G a = none) (r : RpL K G vs ds) : SR K G0 B G H (L2.start N (.ref l :: vs)) (startO N x ds) := by
  have hl := r.length
  have ox := ho.own
  have get0 : (L2.start N (.ref l :: vs))[0]? = some (some (.ref l)) := rfl
  have cases_ : ∀ {i : Nat} {z : SL}, (startO N x ds)[i]? = some z → (i = 0 ∧ z = x) ∨ z = .no ∨ ∃ j d, i = j + 1 ∧ ds[j]? = some d ∧ z = .dat d := fun {i z} q => by
    cases i with
    | zero => simp [startO] at q; exact .inl ⟨rfl, q.symm⟩
    | succ j =>
      simp only [startO, List.getElem?_cons_succ] at q
      by_cases hi : j < ds.length
      · rw [List.getElem?_append_left (by simpa using hi), List.getElem?_map] at q
        cases w : ds[j]? with
        | none => rw [w] at q; cases q
        | some dd => rw [w] at q; cases q; exact .inr (.inr ⟨j, dd, rfl, w, rfl⟩)
      · rw [List.getElem?_append_right (by simp; omega), List.getElem?_replicate] at q
        split at q
        · cases q; exact .inr (.inl rfl)
        · cases q
  have own0 : ∀ {i : Nat} {z : SL}, (startO N x ds)[i]? = some z → isOwn z = true → i = 0 ∧ z = x := fun q h => by
    rcases cases_ q with w | w | ⟨_, _, _, _, w⟩
    · exact w
    · subst w; cases h
    · subst w; cases h
  refine ⟨fm, by simp [L2.start, startO, hl], fun i d q => ?_, fun i v q => ?_, fun i z q hz => ?_, fun i j y z l1 m a hij q1 q2 h1 h2 => ?_, tk⟩
  · rcases cases_ q with ⟨_, w⟩ | w | ⟨j, dd, rfl, w1, w2⟩
    · subst w; cases ox
    · cases w
    · cases w2
      obtain ⟨v, h1, h2⟩ := r.get w1
      refine ⟨v, ?_, h2⟩
      have hv : j < vs.length := (List.getElem?_eq_some_iff.mp h1).1
      unfold L2.start
      rw [List.getElem?_append_left (by simp; omega), List.getElem?_map, List.getElem?_cons_succ, h1]; rfl
  · rcases cases_ q with ⟨_, w⟩ | w | ⟨j, dd, rfl, w1, w2⟩
    · subst w; cases ox
    · cases w
    · cases w2
  · obtain ⟨rfl, rfl⟩ := own0 q hz
    exact ⟨l, get0, ho, hb⟩
  · obtain ⟨rfl, _⟩ := own0 q1 h1
    obtain ⟨rfl, _⟩ := own0 q2 h2
    exact absurd rfl hij
theorem run_sdO {P : COt} {ts : TS} {N : List Str} {vs : List V} {H : Hp} {Q : VK} (hb : ∀ x ds r Y, P x ds r Y → SD K mg E ts (startO N x ds) (enO r Y)) (hY : ∀ x ds r Y, P x ds r Y → ∀ l l' G G' H H' y, OwnAt K G H l x → OwnAt K G' H' l' y → Y y → l' = l) (h : spO K mg P vs H Q E) : ts { nx := fun _ H' => Q .non H', rt := Q } (L2.start N vs) H := by
  obtain ⟨G0, B, G, l, x, ws, ds, r, Y, rfl, fm, tk, ho, hf, rp, c, h1, h2⟩ := h
  have fin : ∀ {G2 H2 : Hp} {σ2 : L2.St} {env2 : Evn} {v : V} {d : D}, SR K G0 B G2 H2 σ2 env2 → Rp K G2 v d → r = .ok d → (∃ y, env2[0]? = some y ∧ isOwn y = true ∧ Y y) → Q v H2 := fun {G2 H2 σ2 env2 v d} s2 rv er ⟨y, ey, oy, hy⟩ => by
    obtain ⟨l', e1, e2, e3⟩ := s2.ownS ey oy
    have el := hY x ds r Y c l l' G G2 H H2 y ho e2 hy
    subst el
    exact h1 d er v G2 H2 y hy s2.fm e2 e3 s2.tk rv
  exact hb x ds r Y c G0 B G H _ _ (sr_startO fm tk ho hf rp) ⟨fun G2 H2 σ2 env2 s2 q => fin s2 .non q.1 q.2, fun _ _ _ _ _ _ q => q.elim, fun _ _ _ _ _ q => q.elim, fun _ _ _ _ _ q => q.elim, fun G2 H2 x C m f q => h2 x q C G2 H2 m f, fun G2 H2 σ2 env2 v d s2 rv q => fin s2 rv q.1 q.2, fun _ _ _ _ _ _ _ _ q => q.elim⟩
/-- the caller's slots behind a call that changes the thing at slot i -/
theorem SR.borrow {G0 B G H G2 H2 : Hp} {σ : L2.St} {i : Nat} {x y : SL} {l : Addr} (s : SR K G0 B G H σ env) (he : env[i]? = some x) (hx : isOwn x = true) (el : σ[i]? = some (some (.ref l))) (f : Fm G (Ly.del H (foot l x)) G2 H2) (tk : TbK K H2) (ho : OwnAt K G2 H2 l y) (hf : ∀ a ∈ foot l y, Ly.del H (foot l x) a = none ∧ G2 a = none) :
    SR K G0 B G2 H2 σ (env.set i y) := by
  have hi : i < env.length := (List.getElem?_eq_some_iff.mp he).1
  obtain ⟨l', h1, h2, h3⟩ := s.ownS he hx
  rw [el] at h1; cases h1
  have oy := ho.own
  have bd : ∀ a o, B a = some o → a ∉ foot l x := fun a o e z => by rw [(h3 a z).1] at e; cases e
  have other : ∀ {j : Nat} {z : SL} {m a : Addr}, i ≠ j → env[j]? = some z → isOwn z = true → σ[j]? = some (some (.ref m)) → a ∈ foot m z → a ∉ foot l x := fun hij ej hz em ha w => s.ap i _ x _ l _ _ hij he ej hx hz el em w ha
  have tdel : Tb H (Ly.del H (foot l x)) := fun P ⟨ps, t1, t2, t3⟩ => by
    have keep : ∀ a o, H a = some o → ownO o = false → Ly.del H (foot l x) a = some o := fun a o q t => by
      rw [del_out]; exact q
      intro z; obtain ⟨u, w1, w2, _⟩ := h2.kinds a z
      rw [q] at w1; cases w1; rw [t] at w2; cases w2
    refine ⟨ps, keep _ _ t1 rfl, t2, fun pos cv hc => ?_⟩
    obtain ⟨c, e1, e2⟩ := t3 pos cv hc
    exact ⟨c, e1, keep _ _ e2 rfl⟩
  have bx : Ex B H2 := ⟨fun a o e t => f.h.o a o (by rw [del_out (bd a o e)]; exact s.fm.h.o a o e t) t, fun a o e t => by
    obtain ⟨u, w1, w2⟩ := s.fm.h.t a o e t
    exact f.h.t a u (by rw [del_out (bd a o e)]; exact w1) w2⟩
  refine ⟨⟨s.fm.g.trans f.g, bx, f.i, fun a o e t n => ?_, (s.fm.tb.trans tdel).trans f.tb⟩, by simp [s.len], fun j d ej => ?_, fun j w ej => ?_, fun j z ej hz => ?_, fun j k z w lj lk a hjk ej ek hz hw elj elk ha => ?_, tk⟩
  · exact f.n a o (by rw [del_out (bd a o e)]; exact s.fm.h.o a o e (own_tbl t)) t (s.fm.n a o e t n)
  · by_cases q : i = j
    · subst q
      rw [List.getElem?_set_self hi] at ej
      cases ej; cases oy
    · rw [List.getElem?_set_ne q] at ej
      obtain ⟨v, g1, g2⟩ := s.dt j d ej
      exact ⟨v, g1, g2.up f.g⟩
  · by_cases q : i = j
    · subst q
      rw [List.getElem?_set_self hi] at ej
      cases ej; cases oy
    · rw [List.getElem?_set_ne q] at ej; exact s.rw j w ej
  · by_cases q : i = j
    · subst q
      rw [List.getElem?_set_self hi] at ej
      cases ej
      refine ⟨l, el, ho, fun a ha => ⟨?_, (hf a ha).2⟩⟩
      cases e : B a with
      | none => rfl
      | some o =>
        have w := (hf a ha).1
        rw [del_out (bd a o e)] at w
        cases t : isTbl o with
        | false => rw [s.fm.h.o a o e t] at w; cases w
        | true => obtain ⟨u, w1, _⟩ := s.fm.h.t a o e t; rw [w1] at w; cases w
    · rw [List.getElem?_set_ne q] at ej
      obtain ⟨m, g1, g2, g3⟩ := s.ow j z ej hz
      have same : ∀ a ∈ foot m z, ∃ o, H a = some o ∧ ownO o = true ∧ H2 a = some o ∧ G2 a = none := fun a ha => by
        obtain ⟨o, w1, w2, _⟩ := g2.kinds a ha
        have w3 : Ly.del H (foot l x) a = some o := by rw [del_out (other q ej hz g1 ha)]; exact w1
        exact ⟨o, w1, w2, f.h.o a o w3 (own_tbl w2), f.n a o w3 w2 (g3 a ha).2⟩
      exact ⟨m, g1, g2.mono f.g fun a ha => by obtain ⟨o, w1, _, w3, _⟩ := same a ha; rw [w1, w3], fun a ha => ⟨(g3 a ha).1, (same a ha).choose_spec.2.2.2⟩⟩
  · have sep : ∀ {k : Nat} {w : SL} {lk a : Addr}, i ≠ k → env[k]? = some w → isOwn w = true → σ[k]? = some (some (.ref lk)) → a ∈ foot l y → a ∉ foot lk w := fun hik ek hw elk ha hk => by
      obtain ⟨m, g1, g2, g3⟩ := s.ow _ _ ek hw
      rw [elk] at g1; cases g1
      obtain ⟨o, w1, w2, _⟩ := g2.kinds _ hk
      have w3 := (hf _ ha).1
      rw [del_out (other hik ek hw elk hk), w1] at w3; cases w3
    by_cases q : i = j
    · subst q
      rw [List.getElem?_set_self hi] at ej
      rw [List.getElem?_set_ne hjk] at ek
      cases ej
      rw [el] at elj; cases elj
      exact sep hjk ek hw elk ha
    · rw [List.getElem?_set_ne q] at ej
      by_cases q' : i = k
      · subst q'
        rw [List.getElem?_set_self hi] at ek
        cases ek
        rw [el] at elk; cases elk
        exact fun hm => sep q ej hz elj hm ha
      · rw [List.getElem?_set_ne q'] at ek
        exact s.ap j k z w lj lk a hjk ej ek hz hw elj elk ha
theorem SR.lend {G0 B G H : Hp} {σ : L2.St} {i : Nat} {x : SL} {l : Addr} (s : SR K G0 B G H σ env) (he : env[i]? = some x) (hx : isOwn x = true) (el : σ[i]? = some (some (.ref l))) : Fm G (Ly.del H (foot l x)) G H ∧ OwnAt K G H l x ∧ (∀ a ∈ foot l x, Ly.del H (foot l x) a = none ∧ G a = none) := by
  obtain ⟨l', h1, h2, h3⟩ := s.ownS he hx
  rw [el] at h1; cases h1
  have un : ∀ {a : Addr} {o : HO}, Ly.del H (foot l x) a = some o → H a = some o := fun {a o} e => by
    by_cases z : a ∈ foot l x
    · rw [del_in z] at e; cases e
    · rw [del_out z] at e; exact e
  refine ⟨⟨Ex.refl _, ⟨fun a o e _ => un e, fun a o e t => ⟨o, un e, t⟩⟩, s.i, fun _ _ _ _ n => n, fun P ⟨ps, t1, t2, t3⟩ => ⟨ps, un t1, t2, fun pos cv hc => let ⟨c, e1, e2⟩ := t3 pos cv hc; ⟨c, e1, un e2⟩⟩⟩, h2, fun a ha => ⟨del_in ha, (h3 a ha).2⟩⟩
/-- self.m(e, ..), a statement -/
theorem sd_methO {E2 : XK} {i : Nat} {P : COt} {C : Addr} {m : Str} {l dx : Addr} {ns : List Str} {fs : List OF} {tA : TA} {ds : List D} {Y : SL → Prop} (he : env[i]? = some (.obj l C dx ns fs)) (hm : m ∉ ns) (h : EvA K tA env ds) (hp : P (.obj l C dx ns fs) ds (.ok d) Y) (k : ∀ y, Y y → e.nx (env.set i y)) :
    SD K mg E (tDrop (tMeth C m (spO K mg P) [] E2 (tVar i) tA)) env e := fun G0 B G H σ Dd s q => by
  obtain ⟨flds, h1, h2, h3⟩ := s.objAt he
  have hl : flds.lookup m = none := by
    rw [List.lookup_eq_none_iff]
    intro p hp
    rw [bne_iff_ne]
    exact fun z => hm (by rw [← h3, z]; exact List.mem_map.mpr ⟨p, hp, rfl⟩)
  refine ⟨.ref l, h1, l, dx, flds, rfl, h2, hl, h G0 B G H σ s _ fun vs G1 H1 f1 r1 => ?_⟩
  have s1 := s.fwd f1
  obtain ⟨b1, b2, b3⟩ := s1.lend he rfl h1
  refine ⟨G1, _, G1, l, _, vs, ds, .ok d, Y, by rw [List.append_nil], b1, s1.tk, b2, b3, r1, hp, fun d' z v G2 H2 y hy f2 o2 n2 t2 rv => ?_, fun _ z => nomatch z⟩
  exact q.nx G2 H2 σ _ (s1.borrow he rfl h1 f2 t2 o2 n2) (k y hy)
/-- C(e, ..): a new object, __init__ of which ends as y; as data -/
theorem ev_make {P : COt} {C : Addr} {tA : TA} {ds : List D} (h : EvA K tA env ds) (hp : ∀ l dx, ∃ Y, P (.obj l C dx [] []) ds (.ok .none) Y ∧ ∀ y, Y y → y.data = d) : EvD K (tMake C (spO K mg P) [] E tA) env d := fun G0 B G H σ s Q q =>
  h G0 B G H σ s _ fun vs G1 H1 f1 r1 x dx hx hdx hne => by
    obtain ⟨Y, hY, hyd⟩ := hp x dx
    have e1 : Ex H1 (upd H1 dx (.own x)) := Ex.new hdx
    have hx2 : upd H1 dx (.own x) x = none := by rw [upd_ne (fun z => hne z.symm)]; exact hx
    have f2 : Fm G1 H1 G1 (upd (upd H1 dx (.own x)) x (.ins C dx [])) := (Fm.own f1.i hdx).trans (Fm.own (Fm.own f1.i hdx).i hx2)
    refine ⟨G1, H1, G1, x, .obj x C dx [] [], vs, ds, .ok .none, Y, by rw [List.append_nil], f2, (s.tk.up f1.tb).up f2.tb, .obj upd_same (by rw [upd_ne hne]; exact upd_same) rfl .nil (by simp [foots, Ne.symm hne]), fun a ha => ?_, r1, hY, fun d' z v G2 H2 y hy f3 o3 n3 t3 rv => ?_, fun _ z => nomatch z⟩
    · simp only [foot, foots, List.mem_cons, List.not_mem_nil, or_false] at ha
      rcases ha with z | z
      · subst z; exact ⟨hx, f1.i.back hx⟩
      · subst z; exact ⟨hdx, f1.i.back hdx⟩
    · cases z
      cases rv
      refine ⟨rfl, ?_⟩
      have f4 : Fm G1 H1 (shr G2 H2 (foot x y)) H2 := f3.shares fun a ha => ⟨(n3 a ha).1, (n3 a ha).2, let ⟨o, w1, w2, _⟩ := o3.kinds a ha; ⟨o, w1, w2⟩⟩
      refine q _ _ _ (f1.trans f4) ?_
      rw [← hyd y hy]
      exact o3.rp fun a ha => (n3 a ha).2
end
end Ly

namespace Ly
open PySem PySem.Spec PyProof.Rows L2
/-! ### sorted(xs), xs a list of data that are alike -/
def leP (p q : PyData) : Bool := PySem.W.dataLe false (fun x : PyData => x) p q
def rSortD (K : Fg) : List V → Hp → VK → Prop := fun vs H Q => ∃ (a : Addr) (xs : List V) (ds : List PyData), vs = [.ref a] ∧ SqL K H a xs ∧ xs.length = ds.length ∧ (∀ p ∈ xs.zip ds, Dp K H p.1 p.2) ∧ PySem.W.AllAlike ds ∧ PySem.W.Sortable ds ∧ (∀ d ∈ ds, d.depth ≤ 20) ∧
  ∀ p, H p = none → Q (.ref p) (upd H p (.lst (((xs.zip ds).mergeSort fun p q => leP p.2 q.2).map (·.1))))
section
variable {X : Cx}
theorem each_zip {H : Hp} {s : Shared} : ∀ {xs : List V} {us : List Value} {ds : List PyData}, Vals xs us → xs.length = ds.length → PySem.W.EachIs (fun (u : Value) (b : V × PyData) => RelV b.1 u) us (xs.zip ds)
  | _, _, [], .nil, _ => .nil
  | _, _, [], .cons _ _, h => by simp at h
  | _, _, _ :: _, .nil, h => by simp at h
  | _, _, d :: ds, .cons r t, h => .cons r (each_zip (H := H) (s := s) t (by simpa using h))
theorem each_reads {pins : List (Addr × Obj)} {σ : L2.St} {H : Hp} {s : Shared} (I : Inv X pins σ H s) : ∀ {xs : List V} {us : List Value} {ds : List PyData}, Vals xs us → xs.length = ds.length → (∀ p ∈ xs.zip ds, Dp X.K H p.1 p.2) → PySem.W.EachIs (fun (u : Value) (b : V × PyData) => ∃ as, Reads s.heap u b.2 as) us (xs.zip ds)
  | _, _, [], .nil, _, _ => .nil
  | _, _, [], .cons _ _, h, _ => by simp at h
  | _, _, _ :: _, .nil, h, _ => by simp at h
  | _, _, d :: ds, .cons r t, h, hd => .cons (Dp.reads I d _ _ (hd (_, d) (by simp)) r) (each_reads I t (by simpa using h) fun p hp => hd p (by simp [hp]))
theorem each_back {us : List Value} {bs : List (V × PyData)} (h : PySem.W.EachIs (fun (u : Value) (b : V × PyData) => RelV b.1 u) us bs) : Vals (bs.map (·.1)) us := by
  induction h with
  | nil => exact .nil
  | cons r _ ih => exact .cons r ih
theorem cr_sortD {k : Nat} (hr : Room k X.A) : CallR X (.builtin "sorted") (rSortD X.K) := by
  intro pins s σ H vs us Q I r h
  obtain ⟨a, xs, ds, rfl, hs, hl, hd, h1, h2, h3, q⟩ := h
  obtain ⟨its, rv, pl, hz⟩ := I.list hs
  rw [Vals.ref1 r]
  have m2 : (xs.zip ds).map (·.2) = ds := List.map_snd_zip (by omega)
  refine PySem.W.sorted_data (enc := fun b : V × PyData => b.2) pl.isList (each_zip (H := H) (s := s) rv hl) (each_reads I rv hl hd) (by rw [m2]; exact h1) (by rw [m2]; exact h2) (by rw [List.length_zip]; omega) (fun b hb => ?_) fun out lo ea => ?_
  · have := h3 b.2 (by rw [← m2]; exact List.mem_map.mpr ⟨b, hb, rfl⟩)
    have := hr.un
    omega
  · have ev := each_back ea
    obtain ⟨ep, he'⟩ := PyProof.Rows.sortedAll_at s.heap its (List.toArray out)
    refine ⟨.ref _, upd H (s.heap.objs.size + 1) (.lst (((xs.zip ds).mergeSort fun p q => leP p.2 q.2).map (·.1))), I.laid (t' := s.toks) (fun _ _ => PyProof.Rows.sortedAll_old) (Nat.le_succ _) ⟨?_, out, ep, ev, he'⟩, rfl, q _ (I.hok.fresh (Nat.le_succ _))⟩
    rw [List.length_map, List.length_mergeSort, List.length_zip]
    omega
end
section
variable {K : Fg} {env : Evn} {te ta tb tc : TE} {t u : TT} {d a b c : D} {mg : Str → Option Value} {E : XK} {e : En}
def sortD (ds : List D) : List D := ds.mergeSort fun x y => leP (toPy x) (toPy y)
theorem toPys_map : ∀ ds : List D, toPys ds = ds.map toPy
  | [] => rfl
  | d :: ds => by rw [toPys, toPys_map ds]; rfl
theorem rpl_pairs {H : Hp} : ∀ {ps : List (V × D)}, (∀ p ∈ ps, Rp K H p.1 p.2) → RpL K H (ps.map (·.1)) (ps.map (·.2))
  | [], _ => .nil
  | p :: ps, h => .cons (h p (by simp)) (rpl_pairs fun q hq => h q (by simp [hq]))
theorem rpl_zip {H : Hp} : ∀ {xs : List V} {ds : List D}, RpL K H xs ds → ∀ p ∈ xs.zip ds, Rp K H p.1 p.2
  | _, _, .nil, p, hp => by simp at hp
  | _, _, .cons r t, p, hp => by
    rw [List.zip_cons_cons, List.mem_cons] at hp
    rcases hp with rfl | hp
    · exact r
    · exact rpl_zip t p hp
theorem evn_sortD {ds : List D} (h : EvD K te env (.list ds)) (h1 : PySem.W.AllAlike (ds.map toPy)) (h2 : PySem.W.Sortable (ds.map toPy)) (h3 : ∀ d ∈ ds, (toPy d).canLay0 = true ∧ (toPy d).depth ≤ 20) : EvN K (tCB (rSortD K) (tCons te tNil)) env (sortD ds) := fun G0 B G H σ s Q q =>
  h G0 B G H σ s _ fun v G1 H1 f1 r1 => by
    cases r1 with
    | @lst a xs _ g1 g2 =>
      have gl := g2.length
      have zm : xs.zip (ds.map toPy) = (xs.zip ds).map fun p => (p.1, toPy p.2) := by rw [List.zip_map_right]; rfl
      refine ⟨a, xs, ds.map toPy, rfl, SqL.of (f1.i.o _ _ g1 rfl), by simp [gl], fun p hp => ?_, h1, h2, fun d hd => ?_, fun p hp => ?_⟩
      · rw [zm] at hp
        obtain ⟨b, hb, rfl⟩ := List.mem_map.mp hp
        have hd2 : b.2 ∈ ds := (List.of_mem_zip hb).2
        exact Rp.dp _ _ (h3 _ hd2).1 ((rpl_zip g2 b hb).up f1.i)
      · obtain ⟨x, hx, rfl⟩ := List.mem_map.mp hd
        exact (h3 x hx).2
      · refine q p _ G1 _ (f1.trans (Fm.own f1.i hp)) (f1.h.back hp) (f1.i.back hp) upd_same ?_
        have e1 : ((xs.zip (ds.map toPy)).mergeSort fun p q => leP p.2 q.2) = ((xs.zip ds).mergeSort fun p q => leP (toPy p.2) (toPy q.2)).map fun p => (p.1, toPy p.2) := by
          rw [zm]
          exact (List.map_mergeSort (r := fun p q : V × D => leP (toPy p.2) (toPy q.2)) (s := fun p q : V × PyData => leP p.2 q.2) (f := fun p => (p.1, toPy p.2)) (fun _ _ _ _ => rfl)).symm
        rw [e1, List.map_map]
        have e2 : sortD ds = ((xs.zip ds).mergeSort fun p q => leP (toPy p.2) (toPy q.2)).map (·.2) := by
          unfold sortD
          rw [List.map_mergeSort (r := fun p q : V × D => leP (toPy p.2) (toPy q.2)) (s := fun x y : D => leP (toPy x) (toPy y)) (f := fun p => p.2) (fun _ _ _ _ => rfl), List.map_snd_zip (by omega)]
        rw [e2]
        exact rpl_pairs fun b hb => rpl_zip g2 b ((List.mergeSort_perm _ _).mem_iff.mp hb)
/-! ### xs[::-1] -/
theorem evn_rev {ds : List D} (h : EvD K te env (.list ds)) : EvN K (tRevL K te) env ds.reverse := fun G0 B G H σ s Q q =>
  h G0 B G H σ s _ fun v G1 H1 f1 r1 => by
    cases r1 with
    | @lst a xs _ g1 g2 => exact ⟨a, xs, rfl, SqL.of (f1.i.o _ _ g1 rfl), fun p hp => q p _ G1 _ (f1.trans (Fm.own f1.i hp)) (f1.h.back hp) (f1.i.back hp) upd_same g2.rev⟩
end
end Ly

namespace Ly
open PySem L2
theorem PI.eqv {X : Cx} {tg e : Expr} {t t' : TI} (h : PI X tg e t) (q : t = t') : PI X tg e t' := q ▸ h
/-- a class's j-th statement -/
def clsB (st : Stmt) (j : Nat) : Stmt := match st with
  | .ClassDef _ _ _ b _ _ _ _ _ _ _ => b.getD j (.Pass ⟨0, 0, 0, 0⟩)
  | _ => .Pass ⟨0, 0, 0, 0⟩
theorem own_l {K : Fg} {G H : Hp} {l m C dx : Addr} {ns : List Str} {fs : List OF} (h : OwnAt K G H l (.obj m C dx ns fs)) : l = m := by cases h; rfl
/-- a def whose code object stands at c -/
def DefAtT (K : Fg) (mg : Str → Option Value) (x qual : Str) (st : Stmt) (ps : List Str) (c : Addr) : Prop :=
  ∃ f fd, FunD K x qual (defArgs st) (defBody st) (defScope st) [] [] f fd ∧ mg x = some (.ref f) ∧ Binds K fd ps [] ∧ fd.code = .ref c
section
variable {P : Program} {w : World} {K : Fg} {mg : Str → Option Value} {base : Heap} {x qual : Str} {st : Stmt} {N ps : List Str} {k : Nat} {C : Ct} {cc : Addr}
theorem fnhT (h : DefAtT K mg x qual st ps cc) (S : FnScope N ps (defScope st)) (len : ∀ ds r, C ds r → ds.length = ps.length)
    (hbody : ∀ (f : Addr) (A : Around) (outer : List PySem.Env) (s : Shared) (H : Hp) (E : XK), Room k (A.deeper (PyProof.Rows.envOfC qual (defScope st) s.heap.objs.size f (.ref cc))) →
      ∃ t, PSs (cxOf CX0 P w K mg base N qual (defScope st) f (.ref cc) A outer s H E).nox (defBody st) t ∧ ∀ ds r, C ds r → SD K mg E t (startE N ds) (enOf r)) : FnH P w K mg base x CX0 (k + 1) ps C := by
  obtain ⟨f, fd, F, m, b, ec⟩ := h
  refine ⟨f, fd, ?_, m, F.kp, b⟩
  obtain ⟨oc, od, dV, kV, doc, pm, an, cdv, ct, osl, e, lk, hcd, _, _⟩ := F.ex
  rw [e] at ec lk ⊢
  have ec' : cdv = .ref cc := ec
  subst ec'
  refine fn_of lk hcd S (fun vs H Q E h => ?_) fun A outer s H vs Q E hr h => ?_
  · obtain ⟨G, ds, r, e1, _, rp, c, _⟩ := h
    rw [rp.length]; exact len ds r c
  · obtain ⟨t, h1, h2⟩ := hbody f A outer s H E hr
    exact ⟨t, h1.nox, run_sd h2 h⟩
/-- a def that changes its first parameter -/
theorem fnO {f : Addr} {fd : FuncData} {CO : COt} (F : FunD K x qual (defArgs st) (defBody st) (defScope st) [] [] f fd) (S : FnScope N ps (defScope st)) (len : ∀ x ds r Y, CO x ds r Y → ds.length + 1 = ps.length)
    (hY : ∀ x ds r Y, CO x ds r Y → ∀ l l' G G' H H' y, OwnAt K G H l x → OwnAt K G' H' l' y → Y y → l' = l)
    (hbody : ∀ (f : Addr) (cdv : Value) (A : Around) (outer : List PySem.Env) (s : Shared) (H : Hp) (E : XK), Room k (A.deeper (PyProof.Rows.envOfC qual (defScope st) s.heap.objs.size f cdv)) →
      ∃ t, PSs (cxOf CX0 P w K mg base N qual (defScope st) f cdv A outer s H E).nox (defBody st) t ∧ ∀ x ds r Y, CO x ds r Y → SD K mg E t (startO N x ds) (enO r Y)) : FnOk P w K mg base CX0 (k + 1) f fd ps (spO K mg CO) := by
  refine F.ok S (fun vs H Q E h => ?_) (fun cdv A outer s H vs Q E hr h => ?_)
  · obtain ⟨G0, B, G, l, x, ws, ds, r, Y, rfl, _, _, _, _, rp, c, _⟩ := h
    rw [List.length_cons, rp.length]; exact len x ds r Y c
  · obtain ⟨t, h1, h2⟩ := hbody f cdv A outer s H E hr
    exact ⟨t, h1.nox, run_sdO h2 hY h⟩
end
end Ly

namespace Ly
open PySem L2
/-! ### small facts -/
theorem truD_bool (b : Bool) : truD (.bool b) = b := rfl
theorem eqD_int (i j : Int) : eqD (.int i) (.int j) = decide (i = j) := by simp [eqD, toPy, PyData.eqv]; rfl
theorem eqD_str (i j : Str) : eqD (.str i) (.str j) = decide (i = j) := by simp [eqD, toPy, PyData.eqv]; rfl
theorem shp_int (i : Int) : shp (.int i) = true := by simp [shp, toPy, SeqAt.shaped, PyData.canLay0, PyData.depth]
theorem shp_str (x : Str) : shp (.str x) = PyData.strOk x := by simp [shp, toPy, SeqAt.shaped, PyData.canLay0, PyData.depth]
def wordsD : D := .kst [.str "cut", .str "near", .str "up"]
def kindsD : D := .kst [.str "one", .str "some"]
/-- the program's own errors: all under ShareError -/
def subOf (x y : Str) : Bool := decide (x = y) || decide (y = "ShareError")
structure ExcAll (K : Fg) (mg : Str → Option Value) (xs : List Str) : Prop where
  m : ∀ x, x ∈ xs → ∃ C, mg x = some (.ref C)
  ec : ∀ x, x ∈ xs → ∀ C, mg x = some (.ref C) → ExcC K C
  exm : ∀ x y, x ∈ xs → y ∈ xs → ∀ C E, mg x = some (.ref C) → mg y = some (.ref E) → PySem.W.exmOne K (.ref C) (.ref E) = some (subOf x y)
  kit : ∀ x y, x ∈ xs → y ∈ xs → ∀ C E, mg x = some (.ref C) → mg y = some (.ref E) → PySem.W.kitOne K (.ref C) (.ref E) = some (subOf x y)
/-! ### contracts: numbers -/
def within (x : D) (lo hi : Int) : Bool := match x with
  | .int i => decide (lo ≤ i) && decide (i ≤ hi)
  | _ => false
def c_is_within : Ct := fun ds r => ∃ x lo hi, ds = [x, .int lo, .int hi] ∧ noObj x = true ∧ r = .ok (.bool (within x lo hi))
def c_up_over : Ct := fun ds r => ∃ t b, ds = [.int t, .int b] ∧ 0 < b ∧ b < 1073741824 ∧ r = .ok (.int (-(-t / b)))
def c_look_number : Ct := fun ds r => ∃ x, ds = [x] ∧ noObj x = true ∧ r = if within x 1 100000 = true then .ok .none else .err "BadNumber"
def upOver (t b : Int) : Int := -(-t / b)
def shareOf (c n u : Int) (w : Str) : Int := if w = "cut" then u * c / n else if w = "up" then upOver (u * c) n else (2 * u * c + n) / (2 * n)
def c_share_of : Ct := fun ds r => ∃ c n u w, ds = [.int c, .int n, .int u, .str w] ∧ (0 < n ∧ n ≤ 100000) ∧ (0 ≤ u ∧ u ≤ 1000) ∧ PyData.strOk w = true ∧ r = .ok (.int (shareOf c n u w))
def isWord (x : D) : Bool := match x with
  | .str w => decide (w = "cut") || (decide (w = "near") || decide (w = "up"))
  | _ => false
def intOf : D → Int
  | .int i => i
  | _ => 0
def strOf : D → Str
  | .str x => x
  | _ => ""
def shareR (c n u w : D) : Res := if within n 1 100000 = true then if within c 0 (intOf n) = true then if (within u 2 100 && isWord w) = true then .ok (.int (shareOf (intOf c) (intOf n) (intOf u) (strOf w))) else .err "BadShowing" else .err "BadCounts" else .err "BadNumber"
def c_share : Ct := fun ds r => ∃ c n u w, ds = [c, n, u, w] ∧ (noObj c = true ∧ noObj n = true ∧ noObj u = true ∧ noObj w = true) ∧ (isS w = true → shp w = true) ∧ r = shareR c n u w
/-! ### the law's own row -/
def cellAt (ns : List Int) (k : Nat) : Int := ns.getD k 0
def c__law_cell : Ct := fun ds r => ∃ ns k, ds = [.scr ns, .int k] ∧ 0 ≤ k ∧ r = .ok (.int (cellAt ns k.toNat))
def rowStep (ns : List Int) (at_ : Int) (s : Int × List Int) (i : Nat) : Int × List Int :=
  if cellAt ns at_.toNat < 10 ^ 18 then
    let c := (s.1 * 48271 + 131 * (i : Int) + 7 + cellAt ns ((at_ + 1 + (i : Int)) % 20).toNat) % 2147483647
    (c, s.2 ++ [c / 11 % 1000])
  else (s.1 / 1000, s.2 ++ [s.1 % 1000])
def rowState (ns : List Int) (at_ : Int) (n : Nat) : Int × List Int := (List.range n).foldl (rowStep ns at_) (cellAt ns at_.toNat, [])
def lawRow (ns : List Int) (at_ : Int) : List Int := (rowState ns at_ 60).2
theorem rowState_succ (ns : List Int) (at_ : Int) (n : Nat) : rowState ns at_ (n + 1) = rowStep ns at_ (rowState ns at_ n) n := by
  unfold rowState; rw [List.range_succ, List.foldl_append]; rfl
theorem rowState_ok (ns : List Int) (at_ : Int) : ∀ n, (rowState ns at_ n).2.length = n ∧ ∀ x ∈ (rowState ns at_ n).2, 0 ≤ x ∧ x < 1000
  | 0 => ⟨rfl, fun x h => nomatch h⟩
  | n + 1 => by
    obtain ⟨h1, h2⟩ := rowState_ok ns at_ n
    rw [rowState_succ]
    unfold rowStep
    split
    · refine ⟨by simp [h1], fun x h => ?_⟩
      rcases List.mem_append.mp h with h | h
      · exact h2 x h
      · have e := List.mem_singleton.mp h
        omega
    · refine ⟨by simp [h1], fun x h => ?_⟩
      rcases List.mem_append.mp h with h | h
      · exact h2 x h
      · have e := List.mem_singleton.mp h
        omega
theorem lawRow_len (ns : List Int) (at_ : Int) : (lawRow ns at_).length = 60 := (rowState_ok ns at_ 60).1
theorem lawRow_mem (ns : List Int) (at_ : Int) {x : Int} (h : x ∈ lawRow ns at_) : 0 ≤ x ∧ x < 1000 := (rowState_ok ns at_ 60).2 x h
def lst (ns : List Int) : D := .list (ns.map .int)
def c__law_row : Ct := fun ds r => ∃ ns at_, ds = [.scr ns, .int at_] ∧ 0 ≤ at_ ∧ r = .ok (lst (lawRow ns at_))
/-- a row of sixty -/
def Row (row : List Int) : Prop := row.length = 60 ∧ ∀ x ∈ row, 0 ≤ x ∧ x < 1000
theorem lawRow_row (ns : List Int) (at_ : Int) : Row (lawRow ns at_) := ⟨lawRow_len ns at_, fun _ h => lawRow_mem ns at_ h⟩
def rw_ (row : List Int) (i : Nat) : Int := row.getD i 0
theorem Row.bd {row : List Int} (h : Row row) (i : Nat) : 0 ≤ rw_ row i ∧ rw_ row i < 1000 := by
  unfold rw_
  rw [List.getD_eq_getElem?_getD]
  cases e : row[i]? with
  | none => exact ⟨by decide, by decide⟩
  | some x => exact h.2 x (List.mem_of_getElem? e)
theorem atI_ints {row : List Int} {i : Int} (h0 : 0 ≤ i) (h1 : i < row.length) : atI (row.map D.int) i = some (.int (rw_ row i.toNat)) := by
  obtain ⟨j, rfl⟩ := Int.eq_ofNat_of_zero_le h0
  have hl : j < row.length := by omega
  apply atI_nat
  rw [List.getElem?_map, List.getElem?_eq_getElem hl]
  unfold rw_
  rw [List.getD_eq_getElem?_getD, Int.toNat_natCast, List.getElem?_eq_getElem hl]
  rfl
theorem item_row {row : List Int} (h : Row row) {i : Int} (h0 : 0 ≤ i) (h1 : i < 60) : itemD (lst row) i = some (.int (rw_ row i.toNat)) := atI_ints h0 (by rw [h.1]; exact h1)
def lawAsked (row : List Int) (at_ most : Int) : Int := 1 + rw_ row (at_ % 60).toNat % (rw_ [6, 30, most] (rw_ row ((at_ + 1) % 60).toNat % 3).toNat)
def c__law_asked : Ct := fun ds r => ∃ row at_ most, ds = [lst row, .int at_, .int most] ∧ Row row ∧ 0 < most ∧ r = .ok (.int (lawAsked row at_ most))
/-! ### contracts of k02's own -/
def wordOf : Res → D
  | .ok d => d
  | .dic _ => .none
  | .err x => if x = "BadNumber" then .str "number" else if x = "BadCounts" then .str "counts" else .str "showing"
def c__law_share_word : Ct := fun ds r => ∃ c n u w, ds = [c, n, u, w] ∧ (noObj c = true ∧ noObj n = true ∧ noObj u = true ∧ noObj w = true) ∧ (isS w = true → shp w = true) ∧ r = .ok (wordOf (shareR c n u w))
def c_law : Ct := fun ds r => ∃ ns, ds = [.scr ns] ∧ r = .ok (.bool true)
end Ly
namespace Ly
open PySem L2
/-! ### k02's law: the mathematics -/
theorem item_list {ds : List D} {z : Int} (h0 : 0 ≤ z) (h1 : z < ds.length) : itemD (.list ds) z = some (ds.getD z.toNat .none) := by
  obtain ⟨j, rfl⟩ := Int.eq_ofNat_of_zero_le h0
  have hl : j < ds.length := by omega
  show atI ds (j : Int) = _
  rw [atI_nat (List.getElem?_eq_getElem hl), List.getD_eq_getElem?_getD, Int.toNat_natCast, List.getElem?_eq_getElem hl]; rfl
theorem lawAsked_bd {row : List Int} (h : Row row) {at_ most : Int} (hm : 30 ≤ most) : 1 ≤ lawAsked row at_ most ∧ lawAsked row at_ most ≤ most ∧ lawAsked row at_ most ≤ 1000 := by
  unfold lawAsked
  have b5 := h.bd ((at_ + 1) % 60).toNat
  have b1 := h.bd (at_ % 60).toNat
  generalize rw_ row (at_ % 60).toNat = x at *
  generalize rw_ row ((at_ + 1) % 60).toNat = y at *
  have hz : y % 3 = 0 ∨ y % 3 = 1 ∨ y % 3 = 2 := by omega
  rcases hz with hz | hz | hz <;> rw [hz]
  · show 1 ≤ 1 + x % 6 ∧ 1 + x % 6 ≤ most ∧ 1 + x % 6 ≤ 1000; omega
  · show 1 ≤ 1 + x % 30 ∧ 1 + x % 30 ≤ most ∧ 1 + x % 30 ≤ 1000; omega
  · show 1 ≤ 1 + x % most ∧ 1 + x % most ≤ most ∧ 1 + x % most ≤ 1000
    have h1 := Int.emod_nonneg x (show most ≠ 0 by omega)
    have h2 := Int.emod_lt_of_pos x (show 0 < most by omega)
    by_cases h4 : most ≤ 1000
    · omega
    · rw [Int.emod_eq_of_lt b1.1 (by omega)]; omega
theorem share_cut {c n u : Int} (hn : 0 < n) : shareOf c n u "cut" * n ≤ u * c ∧ u * c < (shareOf c n u "cut" + 1) * n := by
  have e : shareOf c n u "cut" = u * c / n := by simp [shareOf]
  rw [e]
  generalize u * c = z
  have h1 := Int.emod_add_mul_ediv z n
  have h2 := Int.emod_nonneg z (show n ≠ 0 by omega)
  have h3 := Int.emod_lt_of_pos z hn
  rw [Int.add_mul, Int.one_mul]
  have h4 : z / n * n = n * (z / n) := Int.mul_comm _ _
  omega
theorem str_ne {a b : Str} (h : (decide (a = b)) = false) : a ≠ b := of_decide_eq_false h
theorem share_near {c n u : Int} (hn : 0 < n) : (2 * shareOf c n u "near" - 1) * n ≤ 2 * u * c ∧ 2 * u * c < (2 * shareOf c n u "near" + 1) * n := by
  have e : shareOf c n u "near" = (2 * u * c + n) / (2 * n) := by
    rw [shareOf, if_neg (by decide +kernel), if_neg (by decide +kernel)]
  rw [e]
  generalize 2 * u * c = z
  have h1 := Int.emod_add_mul_ediv (z + n) (2 * n)
  have h2 := Int.emod_nonneg (z + n) (show 2 * n ≠ 0 by omega)
  have h3 := Int.emod_lt_of_pos (z + n) (show 0 < 2 * n by omega)
  generalize (z + n) / (2 * n) = q at *
  generalize (z + n) % (2 * n) = r at *
  rw [Int.sub_mul, Int.add_mul, Int.one_mul]
  have h4 : 2 * q * n = 2 * n * q := by rw [Int.mul_assoc, Int.mul_comm q n, ← Int.mul_assoc]
  omega
theorem upOver_bd {z n : Int} (hn : 0 < n) : (upOver z n - 1) * n < z ∧ z ≤ upOver z n * n := by
  unfold upOver
  have h1 := Int.emod_add_mul_ediv (-z) n
  have h2 := Int.emod_nonneg (-z) (show n ≠ 0 by omega)
  have h3 := Int.emod_lt_of_pos (-z) hn
  generalize (-z) / n = q at *
  generalize (-z) % n = r at *
  rw [Int.sub_mul, Int.one_mul, Int.neg_mul]
  have h4 : q * n = n * q := Int.mul_comm _ _
  omega
theorem share_up {c n u : Int} (hn : 0 < n) : (shareOf c n u "up" - 1) * n < u * c ∧ u * c ≤ shareOf c n u "up" * n := by
  have e : shareOf c n u "up" = upOver (u * c) n := by
    rw [shareOf, if_neg (by decide +kernel), if_pos rfl]
  rw [e]; exact upOver_bd hn
end Ly

namespace Ly
open PySem L2
/-! ### plain data -/
mutual
def gd : D → Bool
  | .none => true
  | .bool _ => true
  | .int _ => true
  | .str x => PyData.strOk x
  | .list ds => decide (ds.length < 1000000) && gds ds
  | .tuple ds => decide (ds.length < 1000000) && gds ds
  | _ => false
def gds : List D → Bool
  | [] => true
  | d :: ds => gd d && gds ds
end
theorem gds_mem : ∀ {ds : List D}, gds ds = true → ∀ d ∈ ds, gd d = true
  | d :: ds, h, x, hx => by
    have h' : gd d = true ∧ gds ds = true := by simpa [gds] using h
    rcases List.mem_cons.mp hx with rfl | hx
    · exact h'.1
    · exact gds_mem h'.2 x hx
theorem gd_noObj {d : D} (h : gd d = true) : noObj d = true := by cases d <;> first | rfl | (simp [gd] at h)
theorem gd_tup {ds : List D} (h : gd (.tuple ds) = true) : ds.length < 1000000 ∧ gds ds = true := by simpa [gd] using h
theorem million : 1000000 < sizeLine := by rw [sizeLine_eq]; decide
theorem cut_tail (xs : List D) : cutD xs (some 1) none = xs.tail := by
  cases xs with
  | nil => rfl
  | cons x xs =>
    simp only [cutD, HT.sIx, List.length_cons]
    rw [if_neg (by decide), show min (Int.toNat 1) (xs.length + 1) = 1 by simp]
    simp
/-! ### lots -/
def risesI (ns : List Int) : Bool := ((ns.zip ns.tail).filter fun p => decide (p.2 ≤ p.1)).isEmpty
def risesT (ks : List (List Int)) : Bool := ((ks.zip ks.tail).filter fun p => lexGe p.1 p.2).isEmpty
def c_rises : Ct := fun ds r => ∃ d xs, ds = [d] ∧ seqD d = some xs ∧ xs.length < 1000000 ∧ ((∃ ns : List Int, xs = ns.map .int ∧ r = .ok (.bool (risesI ns))) ∨ ∃ ks : List (List Int), xs = ks.map itup ∧ r = .ok (.bool (risesT ks)))
def isLotD (n : Int) : D → Bool
  | .tuple ds => !ds.isEmpty && (ds.all (fun x => within x 0 (n - 1)) && risesI (ds.map intOf))
  | _ => false
def c_is_lot : Ct := fun ds r => ∃ n d, ds = [.int n, d] ∧ gd d = true ∧ r = .ok (.bool (isLotD n d))
def isPartD (n u : Int) : D → Bool
  | .tuple [a, b] => isLotD n a && within b 0 u
  | _ => false
def c_is_part : Ct := fun ds r => ∃ n u d, ds = [.int n, .int u, d] ∧ gd d = true ∧ r = .ok (.bool (isPartD n u d))
/-- a lot as numbers -/
def lotOf : D → List Int
  | .tuple ds => ds.map intOf
  | _ => []
theorem lotOf_itup (k : List Int) : lotOf (itup k) = k := by
  simp only [itup, lotOf, List.map_map]
  conv => rhs; rw [← List.map_id k]
  rfl
def headOf : D → D
  | .tuple (a :: _) => a
  | _ => .none
def isShwD (n : Int) : D → Bool
  | .tuple [u, w, p] => within u 2 100 && (isWord w && match p with
    | .tuple ps => !ps.isEmpty && (ps.all (isPartD n (intOf u)) && risesT (ps.map fun q => lotOf (headOf q)))
    | _ => false)
  | _ => false
def c_is_showing_of : Ct := fun ds r => ∃ n d, ds = [.int n, d] ∧ gd d = true ∧ r = .ok (.bool (isShwD n d))
/-! ### turns -/
def gcdI (a b : Int) : Int := (Int.gcd a b : Nat)
theorem gcd_step {x y : Int} (hx : 0 ≤ x) (hy : 0 ≤ y) : Int.gcd y (x % y) = Int.gcd x y := by
  obtain ⟨a, rfl⟩ := Int.eq_ofNat_of_zero_le hx
  obtain ⟨b, rfl⟩ := Int.eq_ofNat_of_zero_le hy
  rw [← Int.natCast_emod, Int.gcd_natCast_natCast, Int.gcd_natCast_natCast, Nat.gcd_comm a b, Nat.gcd_comm b (a % b), ← Nat.gcd_rec]
def c_common : Ct := fun ds r => ∃ a b : Int, ds = [.int a, .int b] ∧ 0 ≤ a ∧ 0 ≤ b ∧ a < 1073741824 ∧ b < 1073741824 ∧ r = .ok (.int (gcdI a b))
structure Shw where
  units : Int
  word : Str
  parts : List (List Int × Int)
def partD (p : List Int × Int) : D := .tuple [itup p.1, .int p.2]
def Shw.d (s : Shw) : D := .tuple [.int s.units, .str s.word, .tuple (s.parts.map partD)]
structure Pol where
  n : Int
  kind : Str
  shs : List Shw
def shsD (ss : List Shw) : D := .tuple (ss.map Shw.d)
def Pol.d (p : Pol) : D := .tuple [.int p.n, .str p.kind, shsD p.shs]
def turnStep (found : Int) (s : Shw) : Int := let one := if s.word = "near" then 2 * s.units else s.units; found / gcdI found one * one
def turnOf (ss : List Shw) : Int := ss.foldl turnStep 1
def c_turn_of : Ct := fun ds r => ∃ ss, ds = [shsD ss] ∧ (ss.length ≤ 3 ∧ ∀ s ∈ ss, 2 ≤ s.units ∧ s.units ≤ 100 ∧ PyData.strOk s.word = true) ∧ r = .ok (.int (turnOf ss))
theorem gcd_pos {a b : Int} (ha : 1 ≤ a) (hb : 1 ≤ b) : 0 < gcdI a b ∧ gcdI a b ≤ a ∧ gcdI a b ≤ b := by
  unfold gcdI
  have h1 : 0 < Int.gcd a b := Int.gcd_pos_of_ne_zero_left _ (by omega)
  have h2 := Int.le_of_dvd (by omega) (Int.gcd_dvd_left a b)
  have h3 := Int.le_of_dvd (by omega) (Int.gcd_dvd_right a b)
  omega
theorem turn_take {ss : List Shw} {i : Nat} {s : Shw} (h : ss[i]? = some s) : turnOf (ss.take (i + 1)) = turnStep (turnOf (ss.take i)) s := by
  unfold turnOf
  rw [List.take_add_one, h, List.foldl_append]; rfl
theorem turn_bd {ss : List Shw} (h : ∀ s ∈ ss, 2 ≤ s.units ∧ s.units ≤ 100 ∧ PyData.strOk s.word = true) : ∀ n, n ≤ ss.length → 1 ≤ turnOf (ss.take n) ∧ turnOf (ss.take n) ≤ 200 ^ n
  | 0, _ => ⟨by simp [turnOf], by simp [turnOf]⟩
  | n + 1, hn => by
    obtain ⟨h1, h2⟩ := turn_bd h n (by omega)
    have hq : ss[n]? = some ss[n] := List.getElem?_eq_getElem (by omega)
    have hm := h _ (List.mem_of_getElem? hq)
    rw [turn_take hq, turnStep]
    have ho : 1 ≤ (if ss[n].word = "near" then 2 * ss[n].units else ss[n].units) ∧ (if ss[n].word = "near" then 2 * ss[n].units else ss[n].units) ≤ 200 := by split <;> omega
    generalize (if ss[n].word = "near" then 2 * ss[n].units else ss[n].units) = one at *
    obtain ⟨g1, g2, g3⟩ := gcd_pos h1 ho.1
    generalize turnOf (ss.take n) = x at *
    have q1 : 1 ≤ x / gcdI x one := by
      rw [Int.le_ediv_iff_mul_le g1]; omega
    have q2 : x / gcdI x one ≤ x := by
      refine Int.ediv_le_of_le_mul g1 ?_
      have := Int.mul_le_mul_of_nonneg_left (show 1 ≤ gcdI x one by omega) (show 0 ≤ x by omega)
      omega
    refine ⟨?_, ?_⟩
    · show 1 ≤ x / gcdI x one * one
      have := Int.mul_le_mul q1 ho.1 (by omega) (by omega)
      omega
    · show x / gcdI x one * one ≤ 200 ^ (n + 1)
      rw [Int.pow_succ]
      exact Int.mul_le_mul (by omega) ho.2 (by omega) (by omega)
/-! ### all lots -/
def addK (ks : List (List Int)) (k : List Int) : List (List Int) := if k ∈ ks then ks else ks ++ [k]
def yesD (ks : List (List Int)) : List (List Int × D) := ks.map fun k => (k, D.bool true)
theorem putA_yes (ks : List (List Int)) (k : List Int) : putA (yesD ks) k (.bool true) = yesD (addK ks k) := by
  have e : ((yesD ks).any fun p => decide (p.1 = k)) = decide (k ∈ ks) := by
    rw [yesD, List.any_map, Bool.eq_iff_iff]
    simp only [List.any_eq_true, decide_eq_true_eq, Function.comp]
    exact ⟨fun ⟨x, hx, z⟩ => z ▸ hx, fun h => ⟨k, h, rfl⟩⟩
  unfold putA addK
  rw [e]
  by_cases h : k ∈ ks
  · rw [if_pos (decide_eq_true h), if_pos h]
    unfold yesD
    rw [List.map_map]
    refine List.map_congr_left fun x _ => ?_
    simp only [Function.comp]
    split <;> rfl
  · rw [if_neg (by simpa using h), if_neg h]
    simp [yesD]
theorem length_addK (ks : List (List Int)) (k : List Int) : (addK ks k).length ≤ ks.length + 1 := by
  unfold addK; split <;> simp
def singles (n : Nat) : List (List Int) := (List.range n).map fun (i : Nat) => [(i : Int)]
def keys0 (p : Pol) : List (List Int) := if p.kind = "one" then [rgI p.n] else []
def shLots (s : Shw) : List (List Int) := s.parts.map (·.1)
def allKeys (p : Pol) : List (List Int) := (singles p.n.toNat ++ p.shs.flatMap shLots).foldl addK (keys0 p)
def allLots (p : Pol) : List (List Int) := sortLots (allKeys p)
theorem length_fold (l ks : List (List Int)) : (l.foldl addK ks).length ≤ ks.length + l.length := by
  induction l generalizing ks with
  | nil => simp
  | cons x l ih =>
    have h1 := ih (addK ks x)
    have h2 := length_addK ks x
    simp only [List.foldl_cons, List.length_cons]
    omega
structure PolOk (p : Pol) : Prop where
  n0 : 0 ≤ p.n
  n1 : p.n ≤ 1000
  kd : PyData.strOk p.kind = true
  ln : (p.shs.flatMap shLots).length < 4000000
  ls : p.shs.length < 1000000
def c_all_lots : Ct := fun ds r => ∃ p, ds = [Pol.d p] ∧ PolOk p ∧ r = .ok (.list ((allLots p).map itup))
theorem toPys_ints : ∀ ns : List Int, toPys (ns.map .int) = ns.map PyData.int
  | [] => rfl
  | n :: ns => by rw [List.map_cons, toPys, toPys_ints ns, toPy]; rfl
theorem lay_ints : ∀ ns : List Int, PyData.canLayAll0 (ns.map PyData.int) = true
  | [] => by simp [PyData.canLayAll0]
  | n :: ns => by simp [PyData.canLayAll0, PyData.canLay0, lay_ints ns]
theorem shp_itup (k : List Int) : shp (itup k) = true := by
  unfold shp itup
  rw [toPy, toPys_ints]
  simp [SeqAt.shaped, PyData.canLay0, lay_ints, PyData.depth, depth_ints]
/-! ### nesting -/
def bothOf (a b : List Int) : List Int := a.filter fun x => decide (x ∈ b)
def okPair (a b : List Int) : Bool := (bothOf a b).isEmpty || decide ((bothOf a b).length = a.length)
def doNest : List (List Int) → Bool
  | [] => true
  | k :: ks => ks.all (okPair k) && doNest ks
def c_do_nest : Ct := fun ds r => ∃ ks : List (List Int), ds = [.list (ks.map itup)] ∧ ks.length < 8000000 ∧ (∀ k ∈ ks, k.length < 1000000) ∧ r = .ok (.bool (doNest ks))
theorem cut_drop (xs : List D) (i : Nat) : cutD xs (some ((i : Int) + 1)) none = xs.drop (i + 1) := by
  simp only [cutD, HT.sIx]
  rw [if_neg (by omega), show ((i : Int) + 1).toNat = i + 1 by omega, List.take_of_length_le (by rw [List.length_drop]; exact Nat.le_refl _)]
  by_cases h : i + 1 ≤ xs.length
  · rw [Nat.min_eq_left h]
  · rw [Nat.min_eq_right (by omega), List.drop_of_length_le (Nat.le_refl _), List.drop_of_length_le (by omega)]
theorem in_ints (x : Int) (ns : List Int) : inD (.int x) (ns.map .int) = decide (x ∈ ns) := by
  rw [inD, List.any_map, Bool.eq_iff_iff]
  simp only [List.any_eq_true, Function.comp, eqD_int, decide_eq_true_eq]
  exact ⟨fun ⟨y, hy, z⟩ => z ▸ hy, fun h => ⟨x, h, rfl⟩⟩
theorem doNest_drop {ks : List (List Int)} {i : Nat} {k : List Int} (h : ks[i]? = some k) : doNest (ks.drop i) = ((ks.drop (i + 1)).all (okPair k) && doNest (ks.drop (i + 1))) := by
  obtain ⟨h1, h2⟩ := List.getElem?_eq_some_iff.mp h
  rw [List.drop_eq_getElem_cons h1, h2]; rfl
/-! ### polls -/
def isKind : D → Bool
  | .str w => decide (w = "one") || decide (w = "some")
  | _ => false
def tailOf : D → D
  | .tuple [_, b] => b
  | _ => .none
def shwOf : D → Shw
  | .tuple [u, w, .tuple ps] => ⟨intOf u, strOf w, ps.map fun q => (lotOf (headOf q), intOf (tailOf q))⟩
  | _ => ⟨0, "", []⟩
def polOf (n k : D) (ss : List D) : Pol := ⟨intOf n, strOf k, ss.map shwOf⟩
def pollEnd (p : Pol) : Bool := decide (turnOf p.shs ≤ 1000) && if p.kind = "some" then p.shs.all fun s => s.parts.all fun q => decide (q.1.length ≤ 1) else doNest (allLots p)
def isPollD : D → Bool
  | .tuple [n, k, .tuple ss] => within n 1 6 && (isKind k && (decide (1 ≤ ss.length ∧ ss.length ≤ 3) && (ss.all (isShwD (intOf n)) && pollEnd (polOf n k ss))))
  | _ => false
def c_is_poll : Ct := fun ds r => ∃ d, ds = [d] ∧ gd d = true ∧ r = .ok (.bool (isPollD d))
def c_look : Ct := fun ds r => ∃ d, ds = [d] ∧ gd d = true ∧ r = if isPollD d = true then .ok .none else .err "BadPoll"
theorem lot_itup {n : Int} {a : D} (h : isLotD n a = true) : a = itup (lotOf a) ∧ ∀ x ∈ lotOf a, 0 ≤ x ∧ x ≤ n - 1 := by
  cases a with
  | tuple zs =>
    have q : (zs.all fun x => within x 0 (n - 1)) = true := by
      simp only [isLotD, Bool.and_eq_true] at h; exact h.2.1
    refine ⟨?_, fun x hx => ?_⟩
    · simp only [itup, lotOf, List.map_map]
      congr 1
      conv => lhs; rw [← List.map_id zs]
      refine List.map_congr_left fun y hy => ?_
      have := List.all_eq_true.mp q y hy
      cases y <;> first | rfl | (simp [within] at this)
    · obtain ⟨y, hy, rfl⟩ := List.mem_map.mp hx
      have := List.all_eq_true.mp q y hy
      cases y <;> simp_all [within, intOf]
  | _ => simp [isLotD] at h
theorem part_d {n u : Int} {q : D} (h : isPartD n u q = true) : q = partD (lotOf (headOf q), intOf (tailOf q)) ∧ (∀ x ∈ lotOf (headOf q), 0 ≤ x ∧ x ≤ n - 1) ∧ isLotD n (headOf q) = true ∧ 0 ≤ intOf (tailOf q) ∧ intOf (tailOf q) ≤ u := by
  match q, h with
  | .tuple [a, b], h =>
    have h' : isLotD n a = true ∧ within b 0 u = true := by simpa [isPartD] using h
    obtain ⟨e1, e2⟩ := lot_itup h'.1
    cases b with
    | int i =>
      have hb : 0 ≤ i ∧ i ≤ u := by simpa [within] using h'.2
      refine ⟨?_, e2, h'.1, hb.1, hb.2⟩
      show D.tuple [a, .int i] = .tuple [itup (lotOf a), .int i]
      rw [← e1]
    | _ => simp [within] at h'
theorem word_ok {w : Str} (h : isWord (.str w) = true) : PyData.strOk w = true := by
  simp only [isWord, Bool.or_eq_true, decide_eq_true_eq] at h
  rcases h with h | h | h <;> subst h <;> decide +kernel
theorem kind_ok {w : Str} (h : isKind (.str w) = true) : PyData.strOk w = true := by
  simp only [isKind, Bool.or_eq_true, decide_eq_true_eq] at h
  rcases h with h | h <;> subst h <;> decide +kernel
structure ShwOk (n : Int) (s : Shw) : Prop where
  u0 : 2 ≤ s.units
  u1 : s.units ≤ 100
  w : isWord (.str s.word) = true
  ne : s.parts ≠ []
  lots : ∀ q ∈ s.parts, isLotD n (itup q.1) = true ∧ 0 ≤ q.2 ∧ q.2 ≤ s.units
  up : risesT (s.parts.map (·.1)) = true
theorem shw_d {n : Int} {d : D} (h : isShwD n d = true) : d = (shwOf d).d ∧ ShwOk n (shwOf d) := by
  obtain ⟨u, w, ps, rfl⟩ : ∃ u w ps, d = .tuple [u, w, .tuple ps] := by
    cases d with
    | tuple ds =>
      match ds, h with
      | [u, w, p], h =>
        cases p with
        | tuple ps => exact ⟨u, w, ps, rfl⟩
        | _ => simp [isShwD] at h
    | _ => simp [isShwD] at h
  · simp only [isShwD, Bool.and_eq_true] at h
    obtain ⟨h1, h2, h3, h4, h5⟩ := h
    cases u with
    | int i => cases w with
      | str x =>
        have hi : 2 ≤ i ∧ i ≤ 100 := by simpa [within] using h1
        have hp : ∀ q ∈ ps, q = partD (lotOf (headOf q), intOf (tailOf q)) := fun q hq => (part_d (List.all_eq_true.mp h4 q hq)).1
        refine ⟨?_, hi.1, hi.2, h2, ?_, fun q hq => ?_, ?_⟩
        · show D.tuple [.int i, .str x, .tuple ps] = .tuple [.int i, .str x, .tuple ((ps.map fun q => (lotOf (headOf q), intOf (tailOf q))).map partD)]
          rw [List.map_map]
          refine congrArg (fun z => D.tuple [.int i, .str x, .tuple z]) ?_
          conv => lhs; rw [← List.map_id ps]
          exact List.map_congr_left fun q hq => hp q hq
        · show (ps.map fun q => (lotOf (headOf q), intOf (tailOf q))) ≠ []
          intro z; rw [List.map_eq_nil_iff] at z; subst z; simp at h3
        · obtain ⟨y, hy, rfl⟩ := List.mem_map.mp hq
          obtain ⟨g1, g2, g3, g4, g5⟩ := part_d (List.all_eq_true.mp h4 y hy)
          refine ⟨?_, g4, g5⟩
          show isLotD n (itup (lotOf (headOf y))) = true
          rw [← (lot_itup g3).1]; exact g3
        · show risesT ((ps.map fun q => (lotOf (headOf q), intOf (tailOf q))).map (·.1)) = true
          rw [List.map_map]; exact h5
      | _ => simp [isWord] at h2
    | _ => simp [within] at h1
theorem shs_d {n : Int} {ss : List D} (h : ss.all (isShwD n) = true) : ss = (ss.map shwOf).map Shw.d ∧ ∀ s ∈ ss.map shwOf, ShwOk n s := by
  refine ⟨?_, fun s hs => ?_⟩
  · rw [List.map_map]
    conv => lhs; rw [← List.map_id ss]
    exact List.map_congr_left fun q hq => (shw_d (List.all_eq_true.mp h q hq)).1
  · obtain ⟨d, hd, rfl⟩ := List.mem_map.mp hs
    exact (shw_d (List.all_eq_true.mp h d hd)).2
theorem gd_lots {s : Shw} (h : gd s.d = true) : s.parts.length < 1000000 ∧ ∀ q ∈ s.parts, q.1.length < 1000000 := by
  obtain ⟨_, h1⟩ := gd_tup h
  have h2 := gds_mem h1 (.tuple (s.parts.map partD)) (by simp)
  obtain ⟨h3, h4⟩ := gd_tup h2
  refine ⟨by simpa using h3, fun q hq => ?_⟩
  have h5 := gds_mem h4 (partD q) (List.mem_map.mpr ⟨q, hq, rfl⟩)
  obtain ⟨_, h6⟩ := gd_tup h5
  have h7 := gds_mem h6 (itup q.1) (by simp)
  have h8 := (gd_tup (show gd (.tuple (q.1.map .int)) = true from h7)).1
  simpa using h8
theorem flat_len {ss : List Shw} (h : ∀ s ∈ ss, s.parts.length < 1000000) (hl : ss.length ≤ 3) : (ss.flatMap shLots).length < 4000000 := by
  have : ∀ l : List Shw, (∀ s ∈ l, s.parts.length < 1000000) → (l.flatMap shLots).length ≤ 1000000 * l.length := by
    intro l
    induction l with
    | nil => intro _; simp
    | cons s l ih =>
      intro hs
      have h1 := ih fun t ht => hs t (List.mem_cons_of_mem _ ht)
      have h2 := hs s List.mem_cons_self
      rw [List.flatMap_cons, List.length_append, List.length_cons]
      simp only [shLots, List.length_map] at h1 ⊢
      omega
  have := this ss h
  omega
theorem mem_fold {l ks : List (List Int)} {k : List Int} : k ∈ l.foldl addK ks ↔ k ∈ ks ∨ k ∈ l := by
  induction l generalizing ks with
  | nil => simp
  | cons x l ih =>
    rw [List.foldl_cons, ih]
    have : k ∈ addK ks x ↔ k ∈ ks ∨ k = x := by
      unfold addK
      split
      · constructor
        · exact .inl
        · rintro (h | rfl)
          · exact h
          · assumption
      · simp
    rw [this, List.mem_cons]
    constructor
    · rintro ((h | h) | h)
      · exact .inl h
      · exact .inr (.inl h)
      · exact .inr (.inr h)
    · rintro (h | h | h)
      · exact .inl (.inl h)
      · exact .inl (.inr h)
      · exact .inr h
theorem mem_allLots {p : Pol} {k : List Int} : k ∈ allLots p ↔ (p.kind = "one" ∧ k = rgI p.n) ∨ (∃ i : Nat, i < p.n.toNat ∧ k = [(i : Int)]) ∨ ∃ s ∈ p.shs, ∃ q ∈ s.parts, k = q.1 := by
  unfold allLots sortLots allKeys
  rw [(List.mergeSort_perm _ _).mem_iff, mem_fold, List.mem_append]
  have e1 : k ∈ keys0 p ↔ p.kind = "one" ∧ k = rgI p.n := by
    unfold keys0; split <;> simp_all
  have e2 : k ∈ singles p.n.toNat ↔ ∃ i : Nat, i < p.n.toNat ∧ k = [(i : Int)] := by
    simp [singles, eq_comm]
  have e3 : k ∈ p.shs.flatMap shLots ↔ ∃ s ∈ p.shs, ∃ q ∈ s.parts, k = q.1 := by
    simp only [List.mem_flatMap, shLots, List.mem_map, eq_comm]
  rw [e1, e2, e3]
theorem length_allLots (p : Pol) : (allLots p).length ≤ 1 + p.n.toNat + (p.shs.flatMap shLots).length := by
  unfold allLots sortLots allKeys
  rw [List.length_mergeSort]
  have h1 := length_fold (singles p.n.toNat ++ p.shs.flatMap shLots) (keys0 p)
  have h2 : (keys0 p).length ≤ 1 := by unfold keys0; split <;> simp
  rw [List.length_append] at h1
  simp only [singles, List.length_map, List.length_range] at h1
  unfold singles
  omega
end Ly

namespace Ly
open PySem L2
theorem evk_is {K : Fg} {env : Evn} {te : TE} {x y : List (List Int × D)} (h : EvK K te env x) (e : x = y) : EvK K te env y := e ▸ h
/-! ### stretches -/
def lowOf (n u : Int) (w : Str) (p : Int) : Int := if w = "cut" then upOver (p * n) u else if w = "up" then (p - 1) * n / u + 1 else upOver ((2 * p - 1) * n) (2 * u)
def highOf (n u : Int) (w : Str) (p : Int) : Int := if w = "cut" then upOver ((p + 1) * n) u - 1 else if w = "up" then p * n / u else upOver ((2 * p + 1) * n) (2 * u) - 1
def stLow (n u : Int) (w : Str) (p : Int) : Int := max (lowOf n u w p) 0
def stHigh (n u : Int) (w : Str) (p : Int) : Int := min (highOf n u w p) n
def pairD (a b : Int) : D := .tuple [.int a, .int b]
def c_stretch : Ct := fun ds r => ∃ n u w p, ds = [.int n, .int u, .str w, .int p] ∧ (1 ≤ n ∧ n ≤ 100000) ∧ (2 ≤ u ∧ u ≤ 100) ∧ PyData.strOk w = true ∧ (0 ≤ p ∧ p ≤ 100) ∧ r = .ok (pairD (stLow n u w p) (stHigh n u w p))
/-! ### tables: dicts by their keys -/
def tabD (ks : List (List Int)) (f : List Int → D) : List (List Int × D) := ks.map fun k => (k, f k)
theorem putA_tab {ks : List (List Int)} {f : List Int → D} {k : List Int} {d : D} (h : k ∈ ks) : putA (tabD ks f) k d = tabD ks fun x => if x = k then d else f x := by
  unfold putA
  rw [if_pos]
  · unfold tabD
    rw [List.map_map]
    refine List.map_congr_left fun x _ => ?_
    simp only [Function.comp]
    split <;> rfl
  · rw [tabD, List.any_map]
    simp only [List.any_eq_true, Function.comp, decide_eq_true_eq]
    exact ⟨k, h, rfl⟩
theorem putA_new {ks : List (List Int)} {f : List Int → D} {k : List Int} (h : k ∉ ks) : putA (tabD ks f) k (f k) = tabD (ks ++ [k]) f := by
  unfold putA
  rw [if_neg]
  · simp [tabD]
  · rw [tabD, List.any_map]
    simp only [List.any_eq_true, Function.comp, decide_eq_true_eq]
    rintro ⟨x, hx, rfl⟩
    exact h hx
theorem getA_tab {f : List Int → D} {k : List Int} : ∀ {ks : List (List Int)}, k ∈ ks → getA (tabD ks f) k = some (f k)
  | [], h => by simp at h
  | x :: ks, h => by
    by_cases z : x = k
    · subst z; simp [tabD, getA, List.find?_cons]
    · have hk : k ∈ ks := by
        rcases List.mem_cons.mp h with h | h
        · exact absurd h.symm z
        · exact h
      have ih := getA_tab (f := f) hk
      simp only [tabD, getA, List.map_cons, List.find?_cons] at ih ⊢
      rw [show decide (x = k) = false from decide_eq_false z]
      exact ih
theorem zip_tab (ks : List (List Int)) (f : List Int → D) : ((tabD ks f).map (·.1)).zip ((tabD ks f).map (·.2)) = tabD ks f := by
  induction ks with
  | nil => rfl
  | cons k ks ih => simp only [tabD, List.map_cons, List.zip_cons_cons] at ih ⊢; rw [ih]
theorem putAll_tab {f : List Int → D} : ∀ (ks done : List (List Int)), (done ++ ks).Nodup → putAll (tabD done f) (ks.map fun k => (k, f k)) = tabD (done ++ ks) f
  | [], done, _ => by simp [putAll]
  | k :: ks, done, h => by
    have hk : k ∉ done := fun z => by
      rw [List.nodup_append] at h
      exact h.2.2 k z k (by simp) rfl
    have h2 : (done ++ [k] ++ ks).Nodup := by simpa using h
    have ih := putAll_tab (f := f) ks (done ++ [k]) h2
    simp only [putAll, List.map_cons, List.foldl_cons] at ih ⊢
    rw [putA_new hk, ih]
    simp
theorem nodup_addK {ks : List (List Int)} (k : List Int) (h : ks.Nodup) : (addK ks k).Nodup := by
  unfold addK
  split
  · exact h
  · rename_i hk
    rw [List.nodup_append]
    exact ⟨h, by simp, fun a ha b hb => by simp at hb; subst hb; exact fun z => hk (z ▸ ha)⟩
theorem nodup_fold : ∀ (l ks : List (List Int)), ks.Nodup → (l.foldl addK ks).Nodup
  | [], _, h => h
  | k :: l, ks, h => nodup_fold l _ (nodup_addK k h)
theorem nodup_allLots (p : Pol) : (allLots p).Nodup := by
  unfold allLots sortLots allKeys
  rw [(List.mergeSort_perm _ _).nodup_iff]
  refine nodup_fold _ _ ?_
  unfold keys0; split <;> simp
/-! ### ends -/
/-- one share told: units, word, lot, share -/
structure Tld where
  u : Int
  w : Str
  k : List Int
  q : Int
def tolds (p : Pol) : List Tld := p.shs.flatMap fun s => s.parts.map fun q => ⟨s.units, s.word, q.1, q.2⟩
def endStep (n : Int) (k : List Int) (e : Int × Int) (t : Tld) : Int × Int := if t.k = k then (max (stLow n t.u t.w t.q) e.1, min (stHigh n t.u t.w t.q) e.2) else e
def end0 (p : Pol) (n : Int) (k : List Int) : Int × Int := if p.kind = "one" ∧ k = rgI p.n then (n, n) else (0, n)
def endsAt (p : Pol) (n : Int) (k : List Int) : Int × Int := (tolds p).foldl (endStep n k) (end0 p n k)
def endD (e : Int × Int) : D := pairD e.1 e.2
def endsD (p : Pol) (n : Int) : List (List Int × D) := tabD (allLots p) fun k => endD (endsAt p n k)
/-- a good poll -/
def Good (p : Pol) : Prop := isPollD p.d = true
def c_ends_of : Ct := fun ds r => ∃ p n, ds = [Pol.d p, .int n] ∧ PolOk p ∧ (∀ s ∈ p.shs, ShwOk p.n s) ∧ 1 ≤ p.n ∧ (1 ≤ n ∧ n ≤ 100000) ∧ r = .dic (endsD p n)
/-! ### lots within a lot -/
def hd0 (k : List Int) : Int := k.headD 0
def inStep (lot : List Int) (found : List (List Int)) (o : List Int) : List (List Int) := if (decide (o.length < lot.length) && (decide (hd0 o ∈ lot) && !(found.any fun f => decide (hd0 o ∈ f)))) = true then found ++ [o] else found
def insOf (ks : List (List Int)) (lot : List Int) : List (List Int) := ks.reverse.foldl (inStep lot) []
def sortT (ks : List (List Int)) : List (List Int) := ks.mergeSort fun a b => leP (toPy (itup a)) (toPy (itup b))
def partsOf (ks : List (List Int)) (lot : List Int) : List (List Int) := sortT (insOf ks lot)
def c_within : Ct := fun ds r => ∃ ks lot, ds = [.list (ks.map itup), itup lot] ∧ ks.length < 8000000 ∧ (∀ k ∈ ks, k ≠ [] ∧ k.length < 1000000) ∧ lot.length < 1000000 ∧ r = .ok (.list ((partsOf ks lot).map itup))
theorem item0 {k : List Int} (h : k ≠ []) : itemD (itup k) 0 = some (.int (hd0 k)) := by
  cases k with
  | nil => exact absurd rfl h
  | cons x k => simp [itemD, itup, atI, ixN, hd0]
theorem sortD_itup (ks : List (List Int)) : sortD (ks.map itup) = (sortT ks).map itup := by
  unfold sortD sortT
  rw [List.map_mergeSort (r := fun a b => leP (toPy (itup a)) (toPy (itup b))) (s := fun x y => leP (toPy x) (toPy y)) (f := itup) (fun _ _ _ _ => rfl)]
theorem toPy_itup (k : List Int) : toPy (itup k) = .tuple (k.map .int) := by rw [itup, toPy, toPys_ints]
theorem alike_tups (ks : List (List Int)) : PySem.W.AllAlike ((ks.map itup).map toPy) := by
  intro x hx y hy
  rw [List.map_map] at hx hy
  obtain ⟨a, _, rfl⟩ := List.mem_map.mp hx
  obtain ⟨b, _, rfl⟩ := List.mem_map.mp hy
  simp only [Function.comp, toPy_itup, PySem.W.alike, alike_ints]
theorem sortable_tups {ks : List (List Int)} (h : ∀ k ∈ ks, k ≠ []) : PySem.W.Sortable ((ks.map itup).map toPy) := by
  refine .inl fun x hx => ?_
  rw [List.map_map] at hx
  obtain ⟨a, ha, rfl⟩ := List.mem_map.mp hx
  simp only [Function.comp, toPy_itup]
  cases a with
  | nil => exact absurd rfl (h _ ha)
  | cons z a => exact ⟨_, _, rfl⟩
theorem lay_tup (k : List Int) : (toPy (itup k)).canLay0 = true ∧ (toPy (itup k)).depth ≤ 20 := by
  rw [toPy_itup]
  simp [PyData.canLay0, lay_ints, PyData.depth, depth_ints]
theorem ins_sub (lot : List Int) : ∀ (ks found : List (List Int)), ∀ k ∈ ks.foldl (inStep lot) found, k ∈ found ∨ k ∈ ks
  | [], _, k, h => .inl h
  | x :: ks, found, k, h => by
    rw [List.foldl_cons] at h
    rcases ins_sub lot ks _ k h with h | h
    · unfold inStep at h
      split at h
      · rcases List.mem_append.mp h with h | h
        · exact .inl h
        · simp at h; exact .inr (by simp [h])
      · exact .inl h
    · exact .inr (List.mem_cons_of_mem _ h)
theorem ins_len (lot : List Int) : ∀ (ks found : List (List Int)), (ks.foldl (inStep lot) found).length ≤ found.length + ks.length
  | [], _ => Nat.le_refl _
  | x :: ks, found => by
    have h1 := ins_len lot ks (inStep lot found x)
    have h2 : (inStep lot found x).length ≤ found.length + 1 := by unfold inStep; split <;> simp
    rw [List.foldl_cons, List.length_cons]
    omega
end Ly

namespace Ly
open PySem L2
/-! ### trees -/
structure Tr where
  need : List Int → Int
  lt : List Int → Int
  wrong : Option (List Int)
def sumOf (f : List Int → Int) (ks : List (List Int)) : Int := (ks.map f).sum
def trLow (en : List Int → Int × Int) (pa : List Int → List (List Int)) (T : Tr) (k : List Int) : Int := if (pa k).isEmpty = true then (en k).1 else max (en k).1 (sumOf T.need (pa k))
def trHigh (en : List Int → Int × Int) (pa : List Int → List (List Int)) (T : Tr) (k : List Int) : Int := if (pa k).isEmpty = true then (en k).2 else min (en k).2 (sumOf T.lt (pa k))
def trStep (en : List Int → Int × Int) (pa : List Int → List (List Int)) (T : Tr) (k : List Int) : Tr :=
  ⟨fun x => if x = k then trLow en pa T k else T.need x, fun x => if x = k then trHigh en pa T k else T.lt x, if trHigh en pa T k < trLow en pa T k ∧ T.wrong = none then some k else T.wrong⟩
def tr0 : Tr := ⟨fun _ => 0, fun _ => 0, none⟩
def treeOf (ks : List (List Int)) (en : List Int → Int × Int) (pa : List Int → List (List Int)) : Tr := ks.foldl (trStep en pa) tr0
def wrongD : Option (List Int) → D
  | none => .none
  | some k => itup k
def NSt : List Str := ["lots", "ends", "parts", "need", "let", "wrong"]
def lotsD (ks : List (List Int)) : D := .list (ks.map itup)
def enTab (ks : List (List Int)) (en : List Int → Int × Int) : List (List Int × D) := tabD ks fun k => endD (en k)
def paTab (ks : List (List Int)) (pa : List Int → List (List Int)) : List (List Int × D) := tabD ks fun k => lotsD (pa k)
def inTab (ks : List (List Int)) (f : List Int → Int) : List (List Int × D) := tabD ks fun k => .int (f k)
/-- a tree in the making: done, the lots that are filled -/
def trSL (l C dx a b c e : Addr) (ks : List (List Int)) (en : List Int → Int × Int) (pa : List Int → List (List Int)) (done : List (List Int)) (T : Tr) : SL :=
  .obj l C dx NSt [.dat (lotsD ks), .dic a (enTab ks en), .dic b (paTab ks pa), .dic c (inTab done T.need), .dic e (inTab done T.lt), .dat (wrongD T.wrong)]
def c_Tree_fill (C : Addr) : COt := fun x ds r Y => ∃ l dx a b c e ks en pa done T k, x = trSL l C dx a b c e ks en pa done T ∧ ds = [itup k] ∧ k ∈ ks ∧ k ∉ done ∧ (∀ q ∈ pa k, q ∈ done) ∧ (pa k).length < 8000000 ∧ done.length < 8000000 ∧ r = .ok .none ∧ Y = fun y => y = trSL l C dx a b c e ks en pa (done ++ [k]) (trStep en pa T k)
/-- counts that are fixed -/
def fixStep (k : List Int) (e : Int × Int) (q : List Int × Int) : Int × Int := if q.1 = k then (max e.1 q.2, min e.2 q.2) else e
def enF (p : Pol) (n : Int) (fx : List (List Int × Int)) (k : List Int) : Int × Int := fx.foldl (fixStep k) (endsAt p n k)
def fixD (fx : List (List Int × Int)) : D := .dct (fx.map (·.1)) (fx.map fun q => .int q.2)
structure FxOk (p : Pol) (fx : List (List Int × Int)) : Prop where
  mem : ∀ q ∈ fx, q.1 ∈ allLots p
  few : fx.length < 1000
  nd : (fx.map (·.1)).Nodup
theorem fx_nil (p : Pol) : FxOk p [] := ⟨fun q hq => by simp at hq, by simp, by simp⟩
def treeF (p : Pol) (n : Int) (fx : List (List Int × Int)) : Tr := treeOf (allLots p) (enF p n fx) (partsOf (allLots p))
def c_Tree_init (C : Addr) : COt := fun x ds r Y => ∃ l dx p n fx, x = .obj l C dx [] [] ∧ ds = [Pol.d p, .int n, fixD fx] ∧ PolOk p ∧ (∀ s ∈ p.shs, ShwOk p.n s) ∧ (1 ≤ p.n ∧ p.n ≤ 6) ∧ (1 ≤ n ∧ n ≤ 100000) ∧ (∀ k ∈ allLots p, k.length < 1000000) ∧ FxOk p fx ∧ r = .ok .none ∧
  Y = fun y => ∃ a b c e, y = trSL l C dx a b c e (allLots p) (enF p n fx) (partsOf (allLots p)) (allLots p) (treeF p n fx)
def treeD (C : Addr) (p : Pol) (n : Int) (fx : List (List Int × Int)) : D := (trSL 0 C 0 0 0 0 0 (allLots p) (enF p n fx) (partsOf (allLots p)) (allLots p) (treeF p n fx)).data
structure ClsT (K : Fg) (C : Addr) : Prop where
  cl : Cls K C
  lots : NoAttr K C "lots"
  ends : NoAttr K C "ends"
  parts : NoAttr K C "parts"
  need : NoAttr K C "need"
  let_ : NoAttr K C "let"
  wrong : NoAttr K C "wrong"
theorem cln_lots {k : Kd} (h : k.kl = false) (ks : List (List Int)) : cln k (lotsD ks) = true := by
  have ci : ∀ ns : List Int, clns k (ns.map .int) = true := fun ns => by
    induction ns with
    | nil => rfl
    | cons n ns ih => simp [clns, cln, ih]
  have : clns k (ks.map itup) = true := by
    induction ks with
    | nil => rfl
    | cons x ks ih => simp [clns, cln, itup, ci, ih]
  simp [lotsD, cln, h, this]
theorem y_Tree_fill {K : Fg} {G G' H H' : Hp} {l l' m C dx a b c e : Addr} {ks : List (List Int)} {en : List Int → Int × Int} {pa : List Int → List (List Int)} {done : List (List Int)} {T : Tr} {k : List Int} {y : SL} (o1 : OwnAt K G H l (trSL m C dx a b c e ks en pa done T)) (o2 : OwnAt K G' H' l' y) (hy : y = trSL m C dx a b c e ks en pa (done ++ [k]) (trStep en pa T k)) : l' = l := by
  subst hy; exact (own_l o2).trans (own_l o1).symm
theorem y_Tree_init {K : Fg} {G G' H H' : Hp} {l l' m C dx : Addr} {p : Pol} {n : Int} {fx : List (List Int × Int)} {y : SL} (o1 : OwnAt K G H l (.obj m C dx [] [])) (o2 : OwnAt K G' H' l' y) (hy : ∃ a b c e, y = trSL m C dx a b c e (allLots p) (enF p n fx) (partsOf (allLots p)) (allLots p) (treeF p n fx)) : l' = l := by
  obtain ⟨a, b, c, e, rfl⟩ := hy; exact (own_l o2).trans (own_l o1).symm
theorem inTab_put {done : List (List Int)} {f : List Int → Int} {k : List Int} {v : Int} (h : k ∉ done) : putA (inTab done f) k (.int v) = inTab (done ++ [k]) fun x => if x = k then v else f x := by
  have e : inTab done f = inTab done fun x => if x = k then v else f x := by
    unfold inTab tabD
    refine List.map_congr_left fun x hx => ?_
    have hn : x ≠ k := fun z => h (by rw [← z]; exact hx)
    simp only [if_neg hn]
  rw [e]
  have q := putA_new (ks := done) (f := fun x => D.int (if x = k then v else f x)) h
  simp only [if_true] at q
  exact q
theorem nst_nodup : NSt.Nodup := by decide +kernel
theorem get_tab {ks : List (List Int)} {f : List Int → D} {k : List Int} (h : k ∈ ks) : getA (((tabD ks f).map (·.1)).zip ((tabD ks f).map (·.2))) k = some (f k) := by rw [zip_tab]; exact getA_tab h
theorem isNone_wrong (o : Option (List Int)) : isNone (wrongD o) = decide (o = none) := by cases o <;> rfl
/-! ### from small to great -/
theorem lot_lt (a b : List Int) (h : a.length < b.length) : PySem.W.dataLt (lotKey a) (lotKey b) = true := by
  unfold lotKey
  rw [PySem.W.dataLt_pair (by simp [PySem.W.alike]) (by simp [PySem.W.alike, alike_ints]), if_neg, PySem.W.dataLt_int]
  · exact decide_eq_true (by omega)
  · simp only [PyData.eqv]
    intro z
    have : ((a.length : Nat) : Int) = ((b.length : Nat) : Int) := by simpa using z
    omega
theorem le_len {a b : List Int} (h : PySem.W.dataLe false lotKey a b = true) : a.length ≤ b.length := by
  rw [PySem.W.dataLe_eq] at h
  have h' : PySem.W.dataLt (lotKey b) (lotKey a) = false := by simpa using h
  refine Classical.byContradiction fun z => ?_
  rw [lot_lt b a (by omega)] at h'
  cases h'
theorem lots_up (p : Pol) : (allLots p).Pairwise fun a b => a.length ≤ b.length := by
  have t := PySem.W.sortLe_total (PyProof.Rows.listOrd PyProof.Rows.itemOrd) false fun b : List Int => PySem.W.keyToks (lotKey b)
  have q : (allLots p).Pairwise fun a b => PySem.W.dataLe false lotKey a b = true := List.pairwise_mergeSort (fun a b c h1 h2 => t.trans a b c h1 h2) (fun a b => by have := t.total a b; simpa using this) (allKeys p)
  exact q.imp le_len
theorem ins_small (lot : List Int) : ∀ (ks found : List (List Int)), (∀ k ∈ found, k.length < lot.length) → ∀ k ∈ ks.foldl (inStep lot) found, k.length < lot.length
  | [], _, h, k, hk => h k hk
  | x :: ks, found, h, k, hk => by
    rw [List.foldl_cons] at hk
    refine ins_small lot ks _ (fun y hy => ?_) k hk
    unfold inStep at hy
    split at hy
    · rename_i hc
      rcases List.mem_append.mp hy with hy | hy
      · exact h y hy
      · simp at hy; subst hy
        simp only [Bool.and_eq_true, decide_eq_true_eq] at hc
        exact hc.1
    · exact h y hy
theorem parts_mem {ks : List (List Int)} {lot q : List Int} (h : q ∈ partsOf ks lot) : q ∈ ks ∧ q.length < lot.length := by
  unfold partsOf sortT at h
  rw [(List.mergeSort_perm _ _).mem_iff] at h
  unfold insOf at h
  refine ⟨?_, ins_small lot _ _ (fun k hk => by simp at hk) q h⟩
  rcases ins_sub lot _ _ q h with z | z
  · simp at z
  · exact List.mem_reverse.mp z
theorem parts_len (ks : List (List Int)) (lot : List Int) : (partsOf ks lot).length ≤ ks.length := by
  unfold partsOf sortT insOf
  rw [List.length_mergeSort]
  have := ins_len lot ks.reverse []
  simpa using this
theorem parts_before {p : Pol} {i : Nat} {k q : List Int} (h : (allLots p)[i]? = some k) (hq : q ∈ partsOf (allLots p) k) : q ∈ (allLots p).take i := by
  obtain ⟨h1, h2⟩ := parts_mem hq
  obtain ⟨j, hj⟩ := List.mem_iff_getElem?.mp h1
  obtain ⟨hi', ei⟩ := List.getElem?_eq_some_iff.mp h
  obtain ⟨hj', ej⟩ := List.getElem?_eq_some_iff.mp hj
  have lt : j < i := by
    refine Classical.byContradiction fun z => ?_
    have up := List.pairwise_iff_getElem.mp (lots_up p)
    rcases Nat.lt_or_ge i j with w | w
    · have := up i j hi' hj' w
      rw [ei, ej] at this; omega
    · have e : i = j := by omega
      subst e
      rw [ei] at ej; subst ej; omega
  rw [List.mem_take_iff_getElem]
  exact ⟨j, by omega, ej⟩
theorem lots_ne {p : Pol} (hp : 1 ≤ p.n) (hs : ∀ s ∈ p.shs, ShwOk p.n s) : ∀ k ∈ allLots p, k ≠ [] := by
  intro k hk
  rcases mem_allLots.mp hk with ⟨_, rfl⟩ | ⟨i, _, rfl⟩ | ⟨s, h1, q, h2, rfl⟩
  · unfold rgI
    intro z
    rw [List.map_eq_nil_iff, List.range_eq_nil] at z
    omega
  · simp
  · have := ((hs s h1).lots q h2).1
    intro z
    rw [z] at this
    simp [isLotD, itup] at this
end Ly
namespace Ly
open PySem L2
theorem clns_int (fx : List (List Int × Int)) : clns ⟨false, true, false⟩ (fx.map fun q => .int q.2) = true := by
  induction fx with
  | nil => rfl
  | cons q fx ih => simp [clns, cln, ih]
theorem clns_ints {kk : Kd} (k : List Int) : clns kk (k.map .int) = true := by
  induction k with
  | nil => rfl
  | cons q fx ih => simp [clns, cln, ih]
theorem cln_itupK {kk : Kd} (k : List Int) : cln kk (itup k) = true := by simp [itup, cln, clns_ints]
theorem cln_part {kk : Kd} (q : List Int × Int) : cln kk (partD q) = true := by simp [partD, cln, clns, cln_itupK]
theorem cln_shw {kk : Kd} (s : Shw) : cln kk s.d = true := by
  have : clns kk (s.parts.map partD) = true := by
    induction s.parts with
    | nil => rfl
    | cons q l ih => simp [clns, cln_part, ih]
  simp [Shw.d, cln, clns, this]
theorem cln_pol {kk : Kd} (p : Pol) : cln kk (Pol.d p) = true := by
  have : clns kk (p.shs.map Shw.d) = true := by
    induction p.shs with
    | nil => rfl
    | cons q l ih => simp [clns, cln_shw, ih]
  simp [Pol.d, shsD, cln, clns, this]
theorem fix_get {fx : List (List Int × Int)} {i : Nat} {q : List Int × Int} (nd : (fx.map (·.1)).Nodup) (h : fx[i]? = some q) : getA ((fx.map (·.1)).zip (fx.map fun q => D.int q.2)) q.1 = some (.int q.2) := by
  have e : (fx.map (·.1)).zip (fx.map fun q => D.int q.2) = fx.map fun q => (q.1, D.int q.2) := by
    rw [List.zip_map']
  rw [e]
  have go : ∀ {fx : List (List Int × Int)} {i : Nat}, (fx.map (·.1)).Nodup → fx[i]? = some q → getA (fx.map fun q => (q.1, D.int q.2)) q.1 = some (.int q.2) := by
    intro fx
    induction fx with
    | nil => intro i _ h; simp at h
    | cons x fx ih =>
      intro i nd h
      rw [List.map_cons, List.nodup_cons] at nd
      cases i with
      | zero => simp at h; subst h; simp [getA]
      | succ i =>
        have h' : fx[i]? = some q := by simpa using h
        have hne : x.1 ≠ q.1 := fun z => nd.1 (by rw [z]; exact List.mem_map.mpr ⟨q, List.mem_of_getElem? h', rfl⟩)
        have := ih nd.2 h'
        simp only [getA, List.map_cons, List.find?_cons, decide_eq_false hne] at this ⊢
        exact this
  exact go nd h
end Ly

namespace Ly
open PySem L2
/-! ### what can have been asked -/
structure TreeH (P : Program) (w : World) (K : Fg) (mg : Str → Option Value) (base : Heap) (k : Nat) (C fi : Addr) (fdi : FuncData) : Prop where
  ok : FnOk P w K mg base CX0 k fi fdi ["self", "poll", "number", "fixed"] (spO K mg (c_Tree_init C))
  mkr : Mk K C fi
  b : Binds K fdi ["self", "poll", "number", "fixed"] []
  m : mg "Tree" = some (.ref C)
  tc : ClsT K C
/-- a good poll -/
structure GP (p : Pol) : Prop where
  ok : PolOk p
  sh : ∀ s ∈ p.shs, ShwOk p.n s
  n : 1 ≤ p.n ∧ p.n ≤ 6
  len : ∀ k ∈ allLots p, k.length < 1000000
  few : (allLots p).length ≤ 90
  shs : 1 ≤ p.shs.length ∧ p.shs.length ≤ 3
  turn : turnOf p.shs ≤ 1000
  is : isPollD p.d = true
  gd : gd p.d = true
def treeAt (p : Pol) (n : Int) : Tr := treeOf (allLots p) (endsAt p n) (partsOf (allLots p))
def canOf (p : Pol) (n : Int) : Bool := decide ((treeAt p n).wrong = none)
def c_can_of : Ct := fun ds r => ∃ p n, ds = [Pol.d p, .int n] ∧ GP p ∧ (1 ≤ n ∧ n ≤ 100000) ∧ r = .ok (.bool (canOf p n))
def c_can : Ct := fun ds r => ∃ p x, ds = [Pol.d p, x] ∧ GP p ∧ noObj x = true ∧ r = if within x 1 100000 = true then .ok (.bool (canOf p (intOf x))) else .err "BadNumber"
theorem ev_treeF {K : Fg} {env : Evn} {mg : Str → Option Value} {E : XK} {C : Addr} {tA : TA} {p : Pol} {n : Int} {fx : List (List Int × Int)} (hp : GP p) (hn : 1 ≤ n ∧ n ≤ 100000) (hf : FxOk p fx) (h : EvA K tA env [Pol.d p, .int n, fixD fx]) : EvD K (tMake C (spO K mg (c_Tree_init C)) [] E tA) env (treeD C p n fx) :=
  ev_make h fun l dx => ⟨_, ⟨l, dx, p, n, fx, rfl, rfl, hp.ok, hp.sh, hp.n, hn, hp.len, hf, rfl, rfl⟩, fun y ⟨a, b, c, e, hy⟩ => by subst hy; rfl⟩
theorem ev_tree {K : Fg} {env : Evn} {mg : Str → Option Value} {E : XK} {C : Addr} {tA : TA} {p : Pol} {n : Int} (hp : GP p) (hn : 1 ≤ n ∧ n ≤ 100000) (h : EvA K tA env [Pol.d p, .int n, .dct [] []]) : EvD K (tMake C (spO K mg (c_Tree_init C)) [] E tA) env (treeD C p n []) := ev_treeF hp hn (fx_nil p) h
/-! ### firsts -/
def firstOf (p : Pol) (rest whole : Int) : Option Int := ((List.range ((allLots p).length + 3)).map fun (t : Nat) => rest + (t : Int) * whole).find? fun n => decide (0 < n) && canOf p n
def optD : Option Int → D
  | none => .none
  | some n => .int n
def c_first_of : Ct := fun ds r => ∃ p rest whole, ds = [Pol.d p, .int rest, .int whole] ∧ GP p ∧ (0 ≤ rest ∧ rest < whole ∧ whole ≤ 1000) ∧ r = .ok (optD (firstOf p rest whole))
def firstsOf (p : Pol) : List (Option Int) := (List.range (turnOf p.shs).toNat).map fun (i : Nat) => firstOf p (i : Int) (turnOf p.shs)
def c_firsts_of : Ct := fun ds r => ∃ p, ds = [Pol.d p] ∧ GP p ∧ r = .ok (.list ((firstsOf p).map optD))
def c_firsts : Ct := fun ds r => ∃ p, ds = [Pol.d p] ∧ GP p ∧ r = .ok (.list ((firstsOf p).map optD))
/-! ### least, from_on -/
def minL (ns : List Int) : Int := ns.min?.getD 0
def maxL (ns : List Int) : Int := ns.max?.getD 0
theorem minL_is {ns : List Int} {m : Int} (h1 : m ∈ ns) (h2 : ∀ y ∈ ns, m ≤ y) : minL ns = m := by
  unfold minL
  rw [(List.min?_eq_some_iff (xs := ns) (a := m)).mpr ⟨h1, fun b hb => h2 b hb⟩]; rfl
theorem maxL_is {ns : List Int} {m : Int} (h1 : m ∈ ns) (h2 : ∀ y ∈ ns, y ≤ m) : maxL ns = m := by
  unfold maxL
  rw [(List.max?_eq_some_iff (xs := ns) (a := m)).mpr ⟨h1, fun b hb => h2 b hb⟩]; rfl
section
variable {K : Fg} {env : Evn} {te : TE}
theorem ev_minL {ns : List Int} (h : EvD K te env (.list (ns.map .int))) (hne : 0 < ns.length) : EvD K (tCB (rMin K) (tCons te tNil)) env (.int (minL ns)) := ev_cb (ea_cons h ea_nil) fun G H xs ex hx Q q => by
  cases hx with
  | cons r1 r2 =>
    cases r2
    cases r1 with
    | lst h1 h2 =>
      have z := h2.ints
      subst z
      exact ⟨_, ns, rfl, SqL.of (ex.o _ _ h1 rfl), hne, fun m m1 m2 => by rw [← minL_is m1 m2]; exact q _ G H (Fm.refl ex) (.int _)⟩
theorem ev_maxL {ns : List Int} (h : EvD K te env (.list (ns.map .int))) (hne : 0 < ns.length) : EvD K (tCB (rMax K) (tCons te tNil)) env (.int (maxL ns)) := ev_cb (ea_cons h ea_nil) fun G H xs ex hx Q q => by
  cases hx with
  | cons r1 r2 =>
    cases r2
    cases r1 with
    | lst h1 h2 =>
      have z := h2.ints
      subst z
      exact ⟨_, ns, rfl, SqL.of (ex.o _ _ h1 rfl), hne, fun m m1 m2 => by rw [← maxL_is m1 m2]; exact q _ G H (Fm.refl ex) (.int _)⟩
end
def somes (os : List (Option Int)) : List Int := os.filterMap id
def leastOf (p : Pol) : Option Int := if (somes (firstsOf p)).isEmpty = true then none else some (minL (somes (firstsOf p)))
def fromOn (p : Pol) : Option Int := if none ∈ firstsOf p then none else some (max (maxL (somes (firstsOf p)) - ((firstsOf p).length : Int) + 1) 1)
def c_least : Ct := fun ds r => ∃ p, ds = [Pol.d p] ∧ GP p ∧ r = .ok (optD (leastOf p))
def c_from_on : Ct := fun ds r => ∃ p, ds = [Pol.d p] ∧ GP p ∧ r = .ok (optD (fromOn p))
theorem somes_map : ∀ os : List (Option Int), (((os.map optD).filter fun x => !isNone x).map fun x => x) = (somes os).map .int
  | [] => rfl
  | none :: os => by
    have := somes_map os
    simp only [List.map_cons, optD, somes, List.filterMap_cons, id] at this ⊢
    rw [List.filter_cons_of_neg (by simp [isNone])]
    exact this
  | some n :: os => by
    have := somes_map os
    simp only [List.map_cons, optD, somes, List.filterMap_cons, id] at this ⊢
    rw [List.filter_cons_of_pos (by simp [isNone]), List.map_cons, this]
theorem somes_all : ∀ {os : List (Option Int)}, none ∉ os → os.map optD = (somes os).map .int
  | [], _ => rfl
  | none :: os, h => absurd (List.mem_cons_self ..) h
  | some n :: os, h => by
    have := somes_all (os := os) fun z => h (List.mem_cons_of_mem _ z)
    simp only [List.map_cons, optD, somes, List.filterMap_cons, id] at this ⊢
    rw [this]
theorem none_in (os : List (Option Int)) : inD .none (os.map optD) = decide (none ∈ os) := by
  rw [inD, List.any_map, Bool.eq_iff_iff]
  simp only [List.any_eq_true, Function.comp, decide_eq_true_eq]
  constructor
  · rintro ⟨o, ho, h⟩
    cases o with
    | none => exact ho
    | some n => simp [eqD, optD, toPy, PyData.eqv] at h
  · exact fun h => ⟨none, h, by simp [eqD, optD, toPy, PyData.eqv]⟩
theorem shp_opts (os : List (Option Int)) : shp (.list (os.map optD)) = true := by
  have h : ∀ os : List (Option Int), PyData.canLayAll0 (toPys (os.map optD)) = true ∧ PyData.depthAll (toPys (os.map optD)) = 0 := fun os => by
    induction os with
    | nil => exact ⟨by simp [toPys, PyData.canLayAll0], by simp [toPys, PyData.depthAll]⟩
    | cons o os ih => cases o <;> simp [toPys, toPy, optD, PyData.canLayAll0, PyData.canLay0, PyData.depthAll, PyData.depth, ih]
  unfold shp
  rw [toPy]
  simp [SeqAt.shaped, PyData.canLay0, PyData.depth, h]
end Ly

namespace Ly
open PySem L2
/-! ### what is sorted is one list -/
theorem perm_one {α : Type} {r : α → α → Prop} (anti : ∀ a b, r a b → r b a → a = b) : ∀ {l m : List α}, l.Perm m → l.Pairwise r → m.Pairwise r → l = m
  | [], m, h, _, _ => (List.Perm.nil_eq h)
  | a :: l, [], h, _, _ => by have := h.length_eq; simp at this
  | a :: l, b :: m, h, h1, h2 => by
    rw [List.pairwise_cons] at h1 h2
    have e : a = b := by
      have ha : a ∈ b :: m := h.mem_iff.mp List.mem_cons_self
      have hb : b ∈ a :: l := h.mem_iff.mpr List.mem_cons_self
      rcases List.mem_cons.mp ha with z | z
      · exact z
      · rcases List.mem_cons.mp hb with w | w
        · exact w.symm
        · exact anti a b (h1.1 b w) (h2.1 a z)
    subst e
    rw [perm_one anti (List.Perm.cons_inv h) h1.2 h2.2]
theorem toks_inj : ∀ a b : List Int, PySem.W.keyToksAll (a.map .int) = PySem.W.keyToksAll (b.map .int) → a = b
  | [], [], _ => rfl
  | [], _ :: _, h => by simp [PySem.W.keyToksAll] at h
  | _ :: _, [], h => by simp [PySem.W.keyToksAll] at h
  | x :: a, y :: b, h => by
    simp only [List.map_cons, PySem.W.keyToksAll, PySem.W.keyToks, List.cons_append, List.nil_append, List.cons.injEq, true_and, Sum.inl.injEq] at h
    rw [h.1, toks_inj a b h.2]
theorem leP_anti {a b : List Int} (h1 : leP (toPy (itup a)) (toPy (itup b)) = true) (h2 : leP (toPy (itup b)) (toPy (itup a)) = true) : a = b := by
  rw [toPy_itup, toPy_itup] at h1 h2
  have g1 : PySem.W.dataLt (.tuple (b.map .int)) (.tuple (a.map .int)) = false := by simpa [leP, PySem.W.dataLe_eq] using h1
  have g2 : PySem.W.dataLt (.tuple (a.map .int)) (.tuple (b.map .int)) = false := by simpa [leP, PySem.W.dataLe_eq] using h2
  have e := (PyProof.Rows.listOrd PyProof.Rows.itemOrd).total _ _ g1 g2
  simp only [PySem.W.keyToks] at e
  exact (toks_inj b a e).symm
theorem lotKey_anti {a b : List Int} (h1 : PySem.W.dataLe false lotKey a b = true) (h2 : PySem.W.dataLe false lotKey b a = true) : a = b := by
  have g1 : PySem.W.dataLt (lotKey b) (lotKey a) = false := by simpa [PySem.W.dataLe_eq] using h1
  have g2 : PySem.W.dataLt (lotKey a) (lotKey b) = false := by simpa [PySem.W.dataLe_eq] using h2
  have e' : PySem.W.keyToks (lotKey b) = PySem.W.keyToks (lotKey a) := (PyProof.Rows.listOrd PyProof.Rows.itemOrd).total (PySem.W.keyToks (lotKey b)) (PySem.W.keyToks (lotKey a)) g1 g2
  simp only [lotKey, PySem.W.keyToks, PySem.W.keyToksAll, List.cons_append, List.nil_append, List.cons.injEq, true_and] at e'
  exact (toks_inj b a (List.append_cancel_right e'.2)).symm
theorem sortLots_is {ks l : List (List Int)} (h : l.Perm ks) (hs : l.Pairwise fun a b => PySem.W.dataLe false lotKey a b = true) : sortLots ks = l := by
  have t := PySem.W.sortLe_total (PyProof.Rows.listOrd PyProof.Rows.itemOrd) false fun b : List Int => PySem.W.keyToks (lotKey b)
  refine perm_one (r := fun a b => PySem.W.dataLe false lotKey a b = true) (fun a b => lotKey_anti) ((List.mergeSort_perm _ _).trans h.symm) (List.pairwise_mergeSort (fun a b c h1 h2 => t.trans a b c h1 h2) (fun a b => by have := t.total a b; simpa using this) ks) hs
theorem sortT_is {ks l : List (List Int)} (h : l.Perm ks) (hs : l.Pairwise fun a b => leP (toPy (itup a)) (toPy (itup b)) = true) : sortT ks = l := by
  have t := PySem.W.sortLe_total (PyProof.Rows.listOrd PyProof.Rows.itemOrd) false fun b : List Int => PySem.W.keyToks (toPy (itup b))
  refine perm_one (r := fun a b => leP (toPy (itup a)) (toPy (itup b)) = true) (fun a b => leP_anti) ((List.mergeSort_perm _ _).trans h.symm) (List.pairwise_mergeSort (fun a b c h1 h2 => t.trans a b c h1 h2) (fun a b => by have := t.total a b; simpa using this) ks) hs
/-! ### k16: the two polls -/
def onePol (w : Str) (t : Int) : Pol := ⟨2, "one", [⟨100, w, [([0], t)]⟩]⟩
def somePol (w : Str) (t : Int) : Pol := ⟨1, "some", [⟨100, w, [([0], t)]⟩]⟩
theorem lots_one (w : Str) (t : Int) : allLots (onePol w t) = [[0], [1], [0, 1]] := by
  have e : allKeys (onePol w t) = [[0, 1], [0], [1]] := rfl
  unfold allLots
  rw [e]
  exact sortLots_is (by decide) (by decide +kernel)
theorem lots_some (w : Str) (t : Int) : allLots (somePol w t) = [[0]] := by
  have e : allKeys (somePol w t) = [[0]] := rfl
  unfold allLots
  rw [e]
  exact sortLots_is (by decide) (by decide +kernel)
theorem parts_1 : partsOf [[0], [1], [0, 1]] [0] = [] := by decide +kernel
theorem parts_2 : partsOf [[0], [1], [0, 1]] [1] = [] := by decide +kernel
theorem parts_3 : partsOf [[0], [1], [0, 1]] [0, 1] = [[0], [1]] := sortT_is (by decide +kernel) (by decide +kernel)
theorem parts_4 : partsOf [[0]] [0] = [] := by decide +kernel
def okAt (n : Int) (w : Str) (t : Int) : Bool := decide (stLow n 100 w t ≤ stHigh n 100 w t)
theorem rg2 : rgI 2 = [0, 1] := by decide
theorem can_one {w : Str} {t n : Int} (hn : 1 ≤ n) : canOf (onePol w t) n = okAt n w t := by
  have L0 : 0 ≤ stLow n 100 w t := by unfold stLow; omega
  have H0 : stHigh n 100 w t ≤ n := by unfold stHigh; omega
  have e1 : endsAt (onePol w t) n [0] = (stLow n 100 w t, stHigh n 100 w t) := by
    simp [endsAt, tolds, onePol, endStep, end0, rg2]
    omega
  have e2 : endsAt (onePol w t) n [1] = (0, n) := by
    simp [endsAt, tolds, onePol, endStep, end0, rg2]
  have e3 : endsAt (onePol w t) n [0, 1] = (n, n) := by
    simp [endsAt, tolds, onePol, endStep, end0, rg2]
  unfold canOf treeAt okAt
  rw [lots_one]
  generalize stLow n 100 w t = L at *
  generalize stHigh n 100 w t = H at *
  simp only [treeOf, List.foldl_cons, List.foldl_nil, trStep, trLow, trHigh, tr0, parts_1, parts_2, parts_3, e1, e2, e3, List.isEmpty_nil, if_true, List.isEmpty_cons, Bool.false_eq_true, if_false, sumOf, List.map_cons, List.map_nil, List.sum_cons, List.sum_nil]
  by_cases h : H < L
  · rw [decide_eq_false (show ¬ L ≤ H by omega)]
    simp [h]
  · rw [decide_eq_true (show L ≤ H by omega)]
    have h0 : ¬ n < 0 := by omega
    have h3 : ¬ min n (H + (n + 0)) < max n (L + (0 + 0)) := by omega
    simp [h, h0]
    omega
theorem can_some {w : Str} {t n : Int} (hn : 1 ≤ n) : canOf (somePol w t) n = okAt n w t := by
  have L0 : 0 ≤ stLow n 100 w t := by unfold stLow; omega
  have H0 : stHigh n 100 w t ≤ n := by unfold stHigh; omega
  have e1 : endsAt (somePol w t) n [0] = (stLow n 100 w t, stHigh n 100 w t) := by
    have k0 : ¬ (("some" : Str) = "one") := by decide +kernel
    simp [endsAt, tolds, somePol, endStep, end0, k0]
    omega
  unfold canOf treeAt okAt
  rw [lots_some]
  generalize stLow n 100 w t = L at *
  generalize stHigh n 100 w t = H at *
  simp only [treeOf, List.foldl_cons, List.foldl_nil, trStep, trLow, trHigh, tr0, parts_4, e1, List.isEmpty_nil, if_true]
  by_cases h : H < L
  · rw [decide_eq_false (show ¬ L ≤ H by omega)]
    simp [h]
  · rw [decide_eq_true (show L ≤ H by omega)]
    simp [h]
/-! ### shares and stretches -/
/-- the law's own share -/
def lawShare (c n u : Int) (w : Str) : Int := if w = "cut" then u * c / n else if w = "up" then (u * c + n - 1) / n else (2 * u * c + n) / (2 * n)
theorem div_is {a n t : Int} (hn : 0 < n) : a / n = t ↔ t * n ≤ a ∧ a < t * n + n := by
  constructor
  · rintro rfl
    have h1 := Int.emod_add_mul_ediv a n
    have h2 := Int.emod_nonneg a (show n ≠ 0 by omega)
    have h3 := Int.emod_lt_of_pos a hn
    rw [Int.mul_comm] at h1
    omega
  · rintro ⟨h1, h2⟩
    have g1 : t ≤ a / n := (Int.le_ediv_iff_mul_le hn).mpr h1
    have g2 : a / n < t + 1 := (Int.ediv_lt_iff_lt_mul hn).mpr (by rw [Int.add_mul, Int.one_mul]; exact h2)
    omega
theorem share_in {c n t : Int} {w : Str} (hn : 1 ≤ n) (hc : 0 ≤ c ∧ c ≤ n) : lawShare c n 100 w = t ↔ stLow n 100 w t ≤ c ∧ c ≤ stHigh n 100 w t := by
  unfold lawShare stLow stHigh lowOf highOf
  by_cases h1 : w = "cut"
  · simp only [if_pos h1]
    rw [div_is (by omega)]
    have b1 := upOver_bd (z := t * n) (n := 100) (by omega)
    have b2 := upOver_bd (z := (t + 1) * n) (n := 100) (by omega)
    rw [Int.add_mul, Int.one_mul] at b2 ⊢
    generalize t * n = A at *
    generalize upOver A 100 = x at *
    generalize upOver (A + n) 100 = y at *
    omega
  · simp only [if_neg h1]
    by_cases h2 : w = "up"
    · simp only [if_pos h2]
      rw [div_is (by omega), Int.sub_mul, Int.one_mul]
      generalize t * n = A at *
      omega
    · simp only [if_neg h2]
      rw [div_is (by omega)]
      have b1 := upOver_bd (z := (2 * t - 1) * n) (n := 2 * 100) (by omega)
      have b2 := upOver_bd (z := (2 * t + 1) * n) (n := 2 * 100) (by omega)
      have e1 : (2 * t - 1) * n = 2 * (t * n) - n := by rw [Int.sub_mul, Int.one_mul, Int.mul_assoc]
      have e2 : (2 * t + 1) * n = 2 * (t * n) + n := by rw [Int.add_mul, Int.one_mul, Int.mul_assoc]
      have e3 : t * (2 * n) = 2 * (t * n) := by rw [Int.mul_left_comm]
      rw [e1] at b1 ⊢
      rw [e2] at b2 ⊢
      rw [e3]
      generalize t * n = A at *
      generalize upOver (2 * A - n) (2 * 100) = x at *
      generalize upOver (2 * A + n) (2 * 100) = y at *
      omega
theorem ok_far {n t : Int} {w : Str} (hn : 100 ≤ n) (ht : 0 ≤ t ∧ t ≤ 100) : okAt n w t = true := by
  have a1 : 0 ≤ t * n := Int.mul_nonneg ht.1 (by omega)
  have a2 : t * n ≤ 100 * n := Int.mul_le_mul_of_nonneg_right ht.2 (by omega)
  unfold okAt stLow stHigh lowOf highOf
  refine decide_eq_true ?_
  by_cases h1 : w = "cut"
  · simp only [if_pos h1]
    have b1 := upOver_bd (z := t * n) (n := 100) (by omega)
    have b2 := upOver_bd (z := (t + 1) * n) (n := 100) (by omega)
    rw [Int.add_mul, Int.one_mul] at b2 ⊢
    generalize t * n = A at *
    generalize upOver A 100 = x at *
    generalize upOver (A + n) 100 = y at *
    omega
  · simp only [if_neg h1]
    by_cases h2 : w = "up"
    · simp only [if_pos h2]
      rw [Int.sub_mul, Int.one_mul]
      generalize t * n = A at *
      omega
    · simp only [if_neg h2]
      have b1 := upOver_bd (z := (2 * t - 1) * n) (n := 2 * 100) (by omega)
      have b2 := upOver_bd (z := (2 * t + 1) * n) (n := 2 * 100) (by omega)
      have e1 : (2 * t - 1) * n = 2 * (t * n) - n := by rw [Int.sub_mul, Int.one_mul, Int.mul_assoc]
      have e2 : (2 * t + 1) * n = 2 * (t * n) + n := by rw [Int.add_mul, Int.one_mul, Int.mul_assoc]
      rw [e1] at b1 ⊢
      rw [e2] at b2 ⊢
      generalize t * n = A at *
      generalize upOver (2 * A - n) (2 * 100) = x at *
      generalize upOver (2 * A + n) (2 * 100) = y at *
      omega
/-- some count has the share just if the stretch is not empty -/
theorem some_ok {n t : Int} {w : Str} (hn : 1 ≤ n) : (((List.range (n + 1).toNat).filter fun (c : Nat) => decide (lawShare (c : Int) n 100 w = t)).isEmpty) = !okAt n w t := by
  rw [Bool.eq_iff_iff]
  simp only [List.isEmpty_iff, List.filter_eq_nil_iff, List.mem_range, decide_eq_true_eq, Bool.not_eq_true']
  unfold okAt
  rw [decide_eq_false_iff_not]
  constructor
  · intro h z
    have l0 : 0 ≤ stLow n 100 w t := by unfold stLow; omega
    have h0 : stHigh n 100 w t ≤ n := by unfold stHigh; omega
    obtain ⟨c, hc⟩ := Int.eq_ofNat_of_zero_le l0
    refine h c (by omega) ?_
    rw [share_in hn ⟨by omega, by omega⟩]
    omega
  · intro h c hc z
    rw [share_in hn ⟨by omega, by omega⟩] at z
    omega
end Ly

namespace Ly
open PySem L2
def wholeW (w : Str) : Int := if w = "near" then 200 else 100
theorem turn_one (w : Str) (t : Int) : turnOf [⟨100, w, [([0], t)]⟩] = wholeW w := by
  unfold wholeW
  simp only [turnOf, List.foldl_cons, List.foldl_nil, turnStep]
  split
  · decide
  · decide
theorem wholeW_bd (w : Str) : wholeW w = 100 ∨ wholeW w = 200 := by unfold wholeW; split <;> simp
theorem shw_one {k : Int} (hk : 1 ≤ k ∧ k ≤ 6) {w : Str} {t : Int} (hw : isWord (.str w) = true) (ht : 0 ≤ t ∧ t ≤ 100) : ShwOk k ⟨100, w, [([0], t)]⟩ := by
  refine ⟨by simp, by simp, hw, by simp, fun q hq => ?_, (show risesT [[0]] = true by decide)⟩
  simp at hq; subst hq
  refine ⟨?_, ht.1, ht.2⟩
  have : within (.int 0) 0 (k - 1) = true := by simp [within]; omega
  simp [isLotD, itup, this]
  decide
theorem shwD_one {k : Int} (hk : 1 ≤ k ∧ k ≤ 6) {w : Str} {t : Int} (hw : isWord (.str w) = true) (ht : 0 ≤ t ∧ t ≤ 100) : isShwD k (Shw.d ⟨100, w, [([0], t)]⟩) = true := by
  have h1 : within (.int 0) 0 (k - 1) = true := by simp [within]; omega
  have h2 : within (.int t) 0 100 = true := by simp [within]; omega
  have h3 : risesI [0] = true := by decide
  have h4 : risesT [[0]] = true := by decide
  simp [Shw.d, isShwD, hw, partD, isPartD, isLotD, itup, h1, h2, h3, intOf, headOf, lotOf, h4, within]
  all_goals (first | done | omega)
theorem gd_one {k : Int} {kd w : Str} {t : Int} (hk : PyData.strOk kd = true) (hw : isWord (.str w) = true) : gd (Pol.d ⟨k, kd, [⟨100, w, [([0], t)]⟩]⟩) = true := by
  simp [Pol.d, shsD, Shw.d, partD, itup, gd, gds, hk, word_ok hw]
theorem gp_one {w : Str} {t : Int} (hw : isWord (.str w) = true) (ht : 0 ≤ t ∧ t ≤ 100) : GP (onePol w t) := by
  refine ⟨⟨by simp [onePol], by simp [onePol], by show PyData.strOk "one" = true; decide +kernel, by simp [onePol, shLots], by simp [onePol]⟩, fun s hs => ?_, by simp [onePol], fun k hk => ?_, by rw [lots_one]; decide, by simp [onePol], ?_, ?_, ?_⟩
  · simp [onePol] at hs; subst hs
    exact shw_one (by simp [onePol]) hw ht
  · rw [lots_one] at hk
    simp at hk
    rcases hk with rfl | rfl | rfl <;> simp
  · show turnOf [⟨100, w, [([0], t)]⟩] ≤ 1000
    rw [turn_one]; rcases wholeW_bd w with h | h <;> omega
  · have h1 := shwD_one (k := 2) (by omega) hw ht
    have h2 : pollEnd (onePol w t) = true := by
      have e1 : turnOf (onePol w t).shs ≤ 1000 := by
        show turnOf [⟨100, w, [([0], t)]⟩] ≤ 1000
        rw [turn_one]; rcases wholeW_bd w with h | h <;> omega
      unfold pollEnd
      rw [decide_eq_true e1, if_neg (show ¬ (onePol w t).kind = "some" from by show ¬ (("one" : Str) = "some"); decide +kernel), lots_one]
      decide
    show (within (.int 2) 1 6 && (isKind (.str "one") && (decide (1 ≤ ([Shw.d ⟨100, w, [([0], t)]⟩] : List D).length ∧ ([Shw.d ⟨100, w, [([0], t)]⟩] : List D).length ≤ 3) && (([Shw.d ⟨100, w, [([0], t)]⟩] : List D).all (isShwD 2) && pollEnd (onePol w t))))) = true
    rw [h2]
    have hkk : isKind (.str "one") = true := by decide +kernel
    simp [List.all_cons, List.all_nil, h1, hkk, within]
  · exact gd_one (by decide +kernel) hw
theorem gp_some {w : Str} {t : Int} (hw : isWord (.str w) = true) (ht : 0 ≤ t ∧ t ≤ 100) : GP (somePol w t) := by
  refine ⟨⟨by simp [somePol], by simp [somePol], by show PyData.strOk "some" = true; decide +kernel, by simp [somePol, shLots], by simp [somePol]⟩, fun s hs => ?_, by simp [somePol], fun k hk => ?_, by rw [lots_some]; decide, by simp [somePol], ?_, ?_, ?_⟩
  · simp [somePol] at hs; subst hs
    exact shw_one (by simp [somePol]) hw ht
  · rw [lots_some] at hk
    simp at hk
    subst hk; simp
  · show turnOf [⟨100, w, [([0], t)]⟩] ≤ 1000
    rw [turn_one]; rcases wholeW_bd w with h | h <;> omega
  · have h1 := shwD_one (k := 1) (by omega) hw ht
    have h2 : pollEnd (somePol w t) = true := by
      have e1 : turnOf (somePol w t).shs ≤ 1000 := by
        show turnOf [⟨100, w, [([0], t)]⟩] ≤ 1000
        rw [turn_one]; rcases wholeW_bd w with h | h <;> omega
      unfold pollEnd
      rw [decide_eq_true e1, if_pos (show (somePol w t).kind = "some" from rfl)]
      simp [somePol]
    show (within (.int 1) 1 6 && (isKind (.str "some") && (decide (1 ≤ ([Shw.d ⟨100, w, [([0], t)]⟩] : List D).length ∧ ([Shw.d ⟨100, w, [([0], t)]⟩] : List D).length ≤ 3) && (([Shw.d ⟨100, w, [([0], t)]⟩] : List D).all (isShwD 1) && pollEnd (somePol w t))))) = true
    rw [h2]
    have hkk : isKind (.str "some") = true := by decide +kernel
    simp [List.all_cons, List.all_nil, h1, hkk, within]
  · exact gd_one (by decide +kernel) hw
/-! ### firsts -/
def frst (w : Str) (t : Int) (rest : Int) : Int := if 0 < rest ∧ okAt rest w t = true then rest else rest + wholeW w
theorem first_is {p : Pol} {w : Str} {t : Int} (hc : ∀ n, 1 ≤ n → canOf p n = okAt n w t) (ht : 0 ≤ t ∧ t ≤ 100) {rest : Int} (h0 : 0 ≤ rest) : firstOf p rest (wholeW w) = some (frst w t rest) := by
  have hW := wholeW_bd w
  unfold firstOf
  rw [List.find?_eq_some_iff_getElem]
  unfold frst
  by_cases h : 0 < rest ∧ okAt rest w t = true
  · rw [if_pos h]
    refine ⟨by rw [hc rest (by omega), h.2]; simpa using h.1, 0, by simp, by simp, fun j hj => absurd hj (by omega)⟩
  · rw [if_neg h]
    refine ⟨?_, 1, by simp, by simp, fun j hj => ?_⟩
    · rw [hc _ (by omega), ok_far (by omega) ht]
      simp; omega
    · have e : j = 0 := by omega
      subst e
      simp only [List.getElem_map, List.getElem_range]
      by_cases hr : 0 < rest
      · have : okAt rest w t = false := by
          cases q : okAt rest w t with
          | false => rfl
          | true => exact absurd ⟨hr, q⟩ h
        have e2 : rest + ((0 : Nat) : Int) * wholeW w = rest := by simp
        rw [e2, hc rest (by omega), this]; simp
      · have e2 : rest + ((0 : Nat) : Int) * wholeW w = rest := by simp
        rw [e2]; simp; omega
def frsts (w : Str) (t : Int) : List Int := (List.range (wholeW w).toNat).map fun (i : Nat) => frst w t (i : Int)
theorem firsts_is {p : Pol} {w : Str} {t : Int} (hc : ∀ n, 1 ≤ n → canOf p n = okAt n w t) (ht : 0 ≤ t ∧ t ≤ 100) (hT : turnOf p.shs = wholeW w) : firstsOf p = (frsts w t).map some := by
  unfold firstsOf frsts
  rw [hT, List.map_map]
  refine List.map_congr_left fun i _ => ?_
  rw [first_is hc ht (by omega)]; rfl
theorem somes_some (ns : List Int) : somes (ns.map some) = ns := by
  unfold somes
  rw [List.filterMap_map]
  simp
end Ly

namespace Ly
open PySem L2
theorem maxL_mem {ns : List Int} (h : ns ≠ []) : maxL ns ∈ ns ∧ ∀ y ∈ ns, y ≤ maxL ns := by
  cases e : ns.max? with
  | none => exact absurd (List.max?_eq_none_iff.1 e) h
  | some m =>
    have := List.max?_eq_some_iff.1 e
    rw [show maxL ns = m by rw [maxL, e]; rfl]
    exact this
/-- the least of 1 .. i with a count -/
def due (w : Str) (t : Int) (i : Nat) : Option Int := ((List.range i).map fun (k : Nat) => (k : Int) + 1).find? fun n => okAt n w t
theorem due_zero (w : Str) (t : Int) : due w t 0 = none := rfl
theorem due_succ (w : Str) (t : Int) (i : Nat) : due w t (i + 1) = match due w t i with | some d => some d | none => if okAt ((i : Int) + 1) w t = true then some ((i : Int) + 1) else none := by
  unfold due
  rw [List.range_succ, List.map_append, List.find?_append]
  cases List.find? (fun n => okAt n w t) ((List.range i).map fun (k : Nat) => (k : Int) + 1) with
  | some d => rfl
  | none =>
    simp only [Option.none_or, List.map_cons, List.map_nil, List.find?_cons, List.find?_nil]
    cases okAt ((i : Int) + 1) w t <;> rfl
theorem due_is {w : Str} {t : Int} (ht : 0 ≤ t ∧ t ≤ 100) : ∃ d, due w t 201 = some d ∧ 1 ≤ d ∧ d ≤ 100 ∧ okAt d w t = true ∧ ∀ n, 1 ≤ n → n < d → okAt n w t = false := by
  cases e : due w t 201 with
  | none =>
    have := List.find?_eq_none.1 e 100 (by simp only [List.mem_map, List.mem_range]; exact ⟨99, by omega, by omega⟩)
    rw [ok_far (by omega) ht] at this
    simp at this
  | some d =>
    obtain ⟨h1, i, hi, h2, h3⟩ := List.find?_eq_some_iff_getElem.1 e
    simp only [List.getElem_map, List.getElem_range] at h2 h3
    have hmin : ∀ n : Int, 1 ≤ n → n < d → okAt n w t = false := fun n n1 n2 => by
      have hj : (n - 1).toNat < i := by omega
      have := h3 (n - 1).toNat hj
      rw [show (((n - 1).toNat : Nat) : Int) + 1 = n by omega] at this
      simpa using this
    refine ⟨d, rfl, by omega, ?_, h1, hmin⟩
    by_cases h : d ≤ 100
    · exact h
    · have := hmin 100 (by omega) (by omega)
      rw [ok_far (by omega) ht] at this
      cases this
theorem frst_in {w : Str} {t : Int} {rest : Int} (h0 : 0 ≤ rest) (h1 : rest < wholeW w) : frst w t rest ∈ frsts w t := by
  unfold frsts
  refine List.mem_map.2 ⟨rest.toNat, List.mem_range.2 (by omega), ?_⟩
  rw [show ((rest.toNat : Nat) : Int) = rest by omega]
theorem frsts_bd {w : Str} {t : Int} (ht : 0 ≤ t ∧ t ≤ 100) {y : Int} (h : y ∈ frsts w t) : 1 ≤ y ∧ okAt y w t = true ∧ y ≤ wholeW w + 99 := by
  have hW := wholeW_bd w
  obtain ⟨i, hi, rfl⟩ := List.mem_map.1 h
  have hi' := List.mem_range.1 hi
  unfold frst
  by_cases q : 0 < (i : Int) ∧ okAt (i : Int) w t = true
  · rw [if_pos q]; exact ⟨by omega, q.2, by omega⟩
  · rw [if_neg q]
    refine ⟨by omega, ok_far (by omega) ht, ?_⟩
    by_cases z : (i : Int) ≤ 99
    · omega
    · exact absurd ⟨by omega, ok_far (by omega) ht⟩ q
theorem least_is {p : Pol} {w : Str} {t : Int} (hf : firstsOf p = (frsts w t).map some) (ht : 0 ≤ t ∧ t ≤ 100) {d : Int} (h1 : 1 ≤ d) (h2 : d ≤ 100) (h3 : okAt d w t = true) (h4 : ∀ n, 1 ≤ n → n < d → okAt n w t = false) : leastOf p = some d := by
  have hW := wholeW_bd w
  have hm : d ∈ frsts w t := by
    by_cases z : d < wholeW w
    · have := frst_in (w := w) (t := t) (rest := d) (by omega) z
      rwa [frst, if_pos ⟨by omega, h3⟩] at this
    · have := frst_in (w := w) (t := t) (rest := 0) (by omega) (by omega)
      rw [frst, if_neg (by omega)] at this
      rwa [show d = 0 + wholeW w by omega]
  unfold leastOf
  rw [hf, somes_some]
  rw [if_neg (by cases h : frsts w t with
    | nil => rw [h] at hm; cases hm
    | cons _ _ => simp)]
  rw [minL_is hm fun y hy => ?_]
  obtain ⟨y1, y2, _⟩ := frsts_bd ht hy
  by_cases z : d ≤ y
  · exact z
  · rw [h4 y y1 (by omega)] at y2; cases y2
theorem from_is {p : Pol} {w : Str} {t : Int} (hf : firstsOf p = (frsts w t).map some) (ht : 0 ≤ t ∧ t ≤ 100) {d : Int} (h1 : 1 ≤ d) (h2 : d ≤ 100) (h4 : ∀ n, 1 ≤ n → n < d → okAt n w t = false) : ∃ f, fromOn p = some f ∧ f ≤ 100 ∧ d ≤ f := by
  have hW := wholeW_bd w
  have h0 := frst_in (w := w) (t := t) (rest := 0) (by omega) (by omega)
  have hne : frsts w t ≠ [] := fun e => by rw [e] at h0; cases h0
  obtain ⟨m1, m2⟩ := maxL_mem hne
  obtain ⟨_, _, b⟩ := frsts_bd ht m1
  have hl : (((frsts w t).map some).length : Int) = wholeW w := by
    rw [List.length_map, frsts, List.length_map, List.length_range]; omega
  unfold fromOn
  rw [hf, if_neg (by simp), somes_some, hl]
  refine ⟨_, rfl, by omega, ?_⟩
  by_cases z : d = 1
  · omega
  · have := m2 _ (frst_in (w := w) (t := t) (rest := d - 1) (by omega) (by omega))
    rw [frst, if_neg (fun q => by rw [h4 (d - 1) (by omega) (by omega)] at q; cases q.2)] at this
    omega
def c__law_share : Ct := fun ds r => ∃ c n u w, ds = [.int c, .int n, .int u, .str w] ∧ (0 ≤ c ∧ c ≤ 100000) ∧ (1 ≤ n ∧ n ≤ 100000) ∧ (1 ≤ u ∧ u ≤ 100) ∧ PyData.strOk w = true ∧ r = .ok (.int (lawShare c n u w))
theorem eqD_none (o : Option Int) (d : Int) : eqD (optD (some d)) (optD o) = decide (o = some d) := by
  cases o with
  | none => simp [optD, eqD, toPy, PyData.eqv]
  | some e => rw [show optD (some e) = .int e from rfl, show optD (some d) = .int d from rfl, eqD_int]; simp [eq_comm]
theorem eqD_bool (a b : Bool) : eqD (.bool a) (.bool b) = (a == b) := by cases a <;> cases b <;> decide +kernel
theorem shp_bool (a : Bool) : shp (.bool a) = true := by cases a <;> decide +kernel
theorem shp_opt (o : Option Int) : shp (optD o) = true := by cases o with
  | none => decide +kernel
  | some _ => exact shp_int _
theorem shp_ints (ns : List Int) : shp (.list (ns.map .int)) = true := by
  have := shp_opts (ns.map some)
  rwa [List.map_map, show (optD ∘ some : Int → D) = .int from rfl] at this
theorem eqD_nil (ds : List D) : eqD (.list ds) (.list []) = ds.isEmpty := by
  cases ds <;> simp [eqD, toPy, toPys, PyData.eqv, PyData.eqvAll]
theorem eqD_same_opts (os : List (Option Int)) : eqD (.list (os.map optD)) (.list (os.map optD)) = true := by
  simp only [eqD, toPy, PyData.eqv]
  induction os with
  | nil => simp [toPys, PyData.eqvAll]
  | cons o os ih => cases o <;> simp_all [toPys, toPy, optD, PyData.eqv, PyData.eqvAll]
end Ly

namespace Ly
open PySem PySem.Spec PyProof.Rows L2
/-! ### sorted(set(xs)), xs a list of tuples of ints, none of them empty -/
def tP (k : List Int) : PyData := .tuple (k.map .int)
section
variable {P : Program} {w : World} {A : Around} {E : Value → Shared → Prop} {s : Shared}
theorem reads_tup {h : Heap} {k : List Int} {b : Addr} (x : IsT P w h k b) : Reads h (.ref b) (tP k) [] := by
  obtain ⟨o, items, n, ho, hc, hd, hi⟩ := x
  exact .tuple ho hc hd (reads_ints (ints_of_items hi))
theorem each_pairs {R : Value → (Addr × List Int) → Prop} : ∀ {L : List (Addr × List Int)}, (∀ q ∈ L, R (.ref q.1) q) → PySem.W.EachIs R (L.map fun q => Value.ref q.1) L
  | [], _ => .nil
  | q :: L, h => .cons (h q List.mem_cons_self) (each_pairs fun r hr => h r (List.mem_cons_of_mem _ hr))
theorem pairs_each : ∀ {L : List (Addr × List Int)} {vs : List Value}, PySem.W.EachIs (fun v (q : Addr × List Int) => v = Value.ref q.1) vs L → vs = L.map fun q => Value.ref q.1
  | [], _, .nil => rfl
  | q :: L, _, .cons e t => by rw [e, pairs_each t]; rfl
theorem alike_tP (L : List (Addr × List Int)) : PySem.W.AllAlike (L.map fun q => tP q.2) := by
  intro x hx y hy
  obtain ⟨a, _, rfl⟩ := List.mem_map.mp hx
  obtain ⟨b, _, rfl⟩ := List.mem_map.mp hy
  simp only [tP, PySem.W.alike, alike_ints]
theorem sortable_tP {L : List (Addr × List Int)} (h : ∀ q ∈ L, q.2 ≠ []) : PySem.W.Sortable (L.map fun q => tP q.2) := by
  refine .inl fun x hx => ?_
  obtain ⟨a, ha, rfl⟩ := List.mem_map.mp hx
  cases e : a.2 with
  | nil => exact absurd e (h _ ha)
  | cons z t => exact ⟨.int z, t.map .int, by simp [tP, e]⟩
theorem sorted_setA {a : Addr} {L : List (Addr × List Int)} {es : Array (Int × Value)} {ep : Nat} {t : SetTable} {Q : Value → Shared → Prop} (R : SetTR P w s.heap a L es ep t) (hh : A.handled = none) (hu : A.units + 24 < cLine) (hne : ∀ q ∈ L, q.2 ≠ [])
    (hQ : ∀ s' p (out : Array Value) (c : Nat) (L' : List (Addr × List Int)), (∀ b o, s.heap.get? b = some o → s'.heap.get? b = some o) → s'.gens = s.gens → s'.os = s.os → s.heap.objs.size ≤ p →
      s'.heap.get? p = some (seqObj "list" out c) → out.toList = L'.map (fun q => Value.ref q.1) → L'.Perm L → L'.Pairwise (fun q r => leP (tP q.2) (tP r.2) = true) → Q (.ref p) s') :
    wpAny (model P w) A (call (.builtin "sorted") [.ref a]) Q E s := by
  obtain ⟨o, ho, hex, hd⟩ := R.ob
  have hsz := R.size
  have hfew := R.few
  refine Calls.call_function_entry kind_sorted plain_sorted entry_sorted (args_sorted1 _) ?_
  unfold Builtin.«sorted»
  refine wpAny_bind (m := checkCount "sorted" 1 1 _) (wpAny_pure ?_)
  refine wpAny_bind (collect_set (A := A.in1) hh ⟨o, ho, hex.1, hd⟩ R.fits (by unfold scanBound; omega) R.tab.ris R.led fun s1 vs k1 hz g1 o1 pm => ?_)
  have hes : es.toList.map (·.2) = L.map fun q => Value.ref q.1 := by
    rw [R.rows]
    unfold rowsOf
    rw [List.map_map] <;> rfl
  rw [hes] at pm
  have ord : ∀ vs : List Value, (∀ v ∈ vs, ∃ q ∈ L, v = Value.ref q.1) → ∃ L1 : List (Addr × List Int), vs = L1.map (fun q => Value.ref q.1) ∧ ∀ q ∈ L1, q ∈ L := by
    intro vs
    induction vs with
    | nil => intro _; exact ⟨[], rfl, fun q hq => (by cases hq)⟩
    | cons v vs ih =>
      intro hv
      obtain ⟨q, hq, e⟩ := hv v List.mem_cons_self
      obtain ⟨L1, e1, hs⟩ := ih fun u hu => hv u (List.mem_cons_of_mem _ hu)
      refine ⟨q :: L1, by rw [List.map_cons, e, e1], fun r hr => ?_⟩
      rcases List.mem_cons.mp hr with z | z
      · rw [z]; exact hq
      · exact hs r z
  have one : ∀ q ∈ L, ∀ r ∈ L, q.1 = r.1 → q = r := fun q hq r hr e => by
    have a1 := R.tup q hq
    have a2 := R.tup r hr
    rw [e] at a1
    have e2 : q.2 = r.2 := a1.inj a2
    exact Prod.ext e e2
  have perm_of : ∀ L1 : List (Addr × List Int), (∀ q ∈ L1, q ∈ L) → (L1.map (fun q => Value.ref q.1)).Perm (L.map fun q => Value.ref q.1) → L1.Perm L := by
    intro L1 hs pm1
    have nL : L.Nodup := nodup_of_map R.nd
    have nref : (L.map fun q => Value.ref q.1).Nodup := by
      refine List.pairwise_map.mpr (List.Pairwise.imp_of_mem (fun {q r} hq hr hne e => ?_) nL)
      injection e with e
      exact hne (one q hq r hr e)
    have n1 : L1.Nodup := nodup_of_map (pm1.nodup_iff.mpr nref)
    refine (List.perm_ext_iff_of_nodup n1 nL).mpr fun q => ⟨hs q, fun hq => ?_⟩
    have hm : Value.ref q.1 ∈ L1.map (fun q => Value.ref q.1) := pm1.mem_iff.mpr (List.mem_map.mpr ⟨q, hq, rfl⟩)
    obtain ⟨r, hr, e⟩ := List.mem_map.mp hm
    injection e with e
    rw [← one r (hs r hr) q hq e]
    exact hr
  have hvl : vs.length < 64 := by rw [pm.length_eq, List.length_map]; exact hfew
  refine wpAny_bind (wpAny_newList ?_ (by rw [sizeLine_eq]; omega))
  have hoL : (s1.heap.push (seqObj "list" vs.toArray 0)).get? s1.heap.objs.size = some (seqObj "list" vs.toArray 0) := Heap.get?_push_size _ rfl
  obtain ⟨L1, e1, hs1⟩ := ord vs fun v hv => by
    obtain ⟨q, hq, e⟩ := List.mem_map.mp (pm.mem_iff.mp hv)
    exact ⟨q, hq, e.symm⟩
  have p1 : L1.Perm L := perm_of L1 hs1 (by rw [← e1]; exact pm)
  have rd : ∀ q ∈ L1, Reads (s1.heap.push (seqObj "list" vs.toArray 0)) (.ref q.1) (tP q.2) [] := fun q hq => reads_tup (P := P) (w := w) (isT_keep (R.tup q (hs1 q hq)) fun b u e => Heap.get?_push_of_some _ (k1 b u e))
  have l1 : L1.length < 64 := by rw [p1.length_eq]; exact hfew
  refine wpAny_bind (wpAny_holding (PySem.W.list_sort_data (s := { s1 with heap := s1.heap.push (seqObj "list" vs.toArray 0) }) (bs := L1) (enc := fun q => tP q.2) (R := fun v (q : Addr × List Int) => v = Value.ref q.1) hoL (by rw [e1]; exact each_pairs fun _ _ => rfl) (by rw [e1]; exact each_pairs fun q hq => ⟨[], by rw [← e1]; exact rd q hq, by simp⟩) (alike_tP _) (sortable_tP fun q hq => hne q (hs1 q hq)) (by rw [sizeLine_eq]; omega) (fun b _ => ?_) fun out lo ea => ?_))
  · have : (tP b.2).depth ≤ 20 := by simp [tP, PyData.depth, depth_ints]
    show A.units + 1 + 1 + _ < _ 
    omega
  · have eo := pairs_each ea
    obtain ⟨c, hc⟩ := sortedHeap_at (vs := vs) (out := out.toArray) hoL
    have tt := PySem.W.sortLe_total (PyProof.Rows.listOrd PyProof.Rows.itemOrd) false fun q : Addr × List Int => PySem.W.keyToks (tP q.2)
    refine wpAny_pure ⟨_, rfl, hQ _ s1.heap.objs.size out.toArray c (L1.mergeSort (PySem.W.dataLe false fun q => tP q.2)) (fun b u e => ?_) g1 o1 hz hc (by simpa using eo) ((List.mergeSort_perm _ _).trans p1) (List.pairwise_mergeSort (fun a b c h1 h2 => tt.trans a b c h1 h2) (fun a b => by have := tt.total a b; simpa using this) L1)⟩
    have q := k1 b u e
    have hlt := Heap.lt_size q
    show (sortedHeap (s1.heap.push (seqObj "list" vs.toArray 0)) s1.heap.objs.size vs out.toArray).get? b = some u
    rw [sortedHeap_old (Nat.ne_of_lt hlt) (by rw [size_push']; exact Nat.lt_succ_of_lt hlt)]
    exact Heap.get?_push_of_some _ q
end
section
variable {X : Cx}
def rSortSet (K : Fg) (P : Program) (w : World) : List V → Hp → VK → Prop := fun vs H Q => ∃ (a : Addr) (L : List (Addr × List Int)), vs = [V.ref a] ∧ H a = some (SetTO P w a L) ∧ (∀ p ∈ L, SqT K H p.1 (p.2.map V.int)) ∧ (∀ p ∈ L, p.2 ≠ []) ∧
  ∀ (L' : List (Addr × List Int)) (p : Addr), L'.Perm L → (L'.map (·.2)).Nodup → L'.length < 64 → L'.Pairwise (fun q r => leP (tP q.2) (tP r.2) = true) → H p = none → Q (.ref p) (upd H p (.lst (L'.map fun q => V.ref q.1)))
theorem cr_sortSet {k : Nat} (hr : Room k X.A) (hc : X.calm = true) : CallR X (.builtin "sorted") (rSortSet X.K X.prog X.w) := by
  intro pins s σ H vs us Q I r h
  obtain ⟨a, L, rfl, ha, hk, hne, q⟩ := h
  have R0 : SetT0 X.prog X.w s.heap a L := (I.hok a _ ha).1
  obtain ⟨es, ep, t, R⟩ := R0.full fun p hp => I.isT (hk p hp)
  rw [Vals.ref1 r]
  refine sorted_setA R (I.ok.hd hc) (by have := hr.un; omega) hne fun s' p out c L' k g o hp hg hout pm pw => ?_
  have hfew : L'.length < 64 := by rw [pm.length_eq]; exact R.few
  have hlen : (L'.map fun q => V.ref q.1).length ≤ sizeLine := by rw [List.length_map, sizeLine_eq]; omega
  have hn : H p = none := I.hok.fresh hp
  have hv : Vals (L'.map fun q => V.ref q.1) out.toList := by rw [hout]; exact vals_of_refs L'
  have J : Inv X pins σ (upd H p (.lst (L'.map fun q => V.ref q.1))) { s with heap := s'.heap, gens := s'.gens, drawn := s'.drawn, toks := s'.toks } :=
    I.call (ch := []) (Un.laid k hp hn) (I.hok.laid k hp ⟨hlen, out.toList, c, hv, hg⟩) (by rw [g]; exact I.bare) (fun _ z => nomatch z)
  have e : s' = { s with heap := s'.heap, gens := s'.gens, drawn := s'.drawn, toks := s'.toks } := by
    cases s'
    cases s
    cases o
    rfl
  rw [e]
  exact ⟨.ref p, _, J, rfl, q L' p pm ((pm.map (·.2)).nodup_iff.mpr R.nd) hfew pw hn⟩
end
/-! ### as data -/
section
variable {K : Fg} {env : Evn} {te : TE}
/-- what sorted(set(..)) tells: the tuples, each once, rising -/
structure SrtSet (ks out : List (List Int)) : Prop where
  mem : ∀ k, k ∈ out ↔ k ∈ ks
  nd : out.Nodup
  up : out.Pairwise fun a b => leP (tP a) (tP b) = true
  few : out.length < 64
theorem rpl_itups {G : Hp} : ∀ {xs : List V} {ks : List (List Int)}, RpL K G xs (ks.map itup) → ∃ L : List (Addr × List Int), xs = L.map (fun q => V.ref q.1) ∧ L.map (·.2) = ks ∧ ∀ q ∈ L, G q.1 = some (.tup (q.2.map V.int))
  | _, [], h => by cases h; exact ⟨[], rfl, rfl, fun q hq => by cases hq⟩
  | _, k :: ks, h => by
    cases h with
    | cons h1 h2 =>
      obtain ⟨L, e1, e2, e3⟩ := rpl_itups h2
      cases h1 with
      | @tup a vs _ g1 g2 =>
        have z := g2.ints
        subst z
        refine ⟨(a, k) :: L, by rw [e1]; rfl, by rw [List.map_cons, e2], fun q hq => ?_⟩
        rcases List.mem_cons.mp hq with rfl | hq
        · exact g1
        · exact e3 q hq
theorem rpl_ofPairs {G : Hp} : ∀ {L : List (Addr × List Int)}, (∀ q ∈ L, G q.1 = some (.tup (q.2.map V.int))) → RpL K G (L.map fun q => V.ref q.1) ((L.map (·.2)).map itup)
  | [], _ => .nil
  | q :: L, h => .cons (.tup (h q List.mem_cons_self) (RpL.ofInts _)) (rpl_ofPairs fun r hr => h r (List.mem_cons_of_mem _ hr))
/-- a new list of one's own, told by a property -/
def EvNP (K : Fg) (te : TE) (env : Evn) (Z : List D → Prop) : Prop := ∀ G0 B G H σ, SR K G0 B G H σ env → ∀ Q : VK, (∀ ds p xs G2 H2, Z ds → Fm G H G2 H2 → H p = none → G2 p = none → H2 p = some (.lst xs) → RpL K G2 xs ds → Q (.ref p) H2) → te σ H Q
theorem evp_sortSet {P : Program} {w : World} {ks : List (List Int)} (h : EvD K te env (.list (ks.map itup))) (hl : ks.length < 64) (hne : ∀ k ∈ ks, k ≠ []) : EvNP K (tCB (rSortSet K P w) (tCons (tCB (rSetOfT K P w) (tCons te tNil)) tNil)) env (fun ds => ∃ out, SrtSet ks out ∧ ds = out.map itup) := fun G0 B G H σ s Q q =>
  h G0 B G H σ s _ fun v G1 H1 f1 r1 => by
    cases r1 with
    | @lst a xs _ g1 g2 =>
      obtain ⟨L, rfl, rfl, e3⟩ := rpl_itups g2
      refine ⟨a, L, rfl, SqL.of (f1.i.o _ _ g1 rfl), fun p hp => ex_t f1.i (e3 p hp), by simpa using hl, fun b M hb m1 m2 => ?_⟩
      have f2 : Fm G1 H1 G1 (upd H1 b (SetTO P w b M)) := Fm.own f1.i hb
      refine ⟨b, M, rfl, upd_same, fun p hp => ex_t f2.i (e3 p (m1 p hp)), fun p hp => hne _ (List.mem_map.mpr ⟨p, m1 p hp, rfl⟩), fun L' p pm nd few up hp => ?_⟩
      have f3 : Fm G1 (upd H1 b (SetTO P w b M)) G1 (upd (upd H1 b (SetTO P w b M)) p (.lst (L'.map fun q => V.ref q.1))) := Fm.own f2.i hp
      refine q ((L'.map (·.2)).map itup) p _ G1 _ ⟨L'.map (·.2), ⟨fun k => ?_, nd, ?_, by simpa using few⟩, rfl⟩ ((f1.trans f2).trans f3) ((f1.trans f2).h.back hp) (f2.i.back hp) upd_same (rpl_ofPairs fun r hr => e3 r (m1 r (pm.mem_iff.mp hr)))
      · constructor
        · intro hk
          obtain ⟨r, hr, rfl⟩ := List.mem_map.mp hk
          exact List.mem_map.mpr ⟨r, m1 r (pm.mem_iff.mp hr), rfl⟩
        · intro hk
          obtain ⟨r, hr, rfl⟩ := List.mem_map.mp hk
          obtain ⟨t, ht, e⟩ := List.mem_map.mp (m2 r hr)
          exact List.mem_map.mpr ⟨t, pm.mem_iff.mpr ht, e⟩
      · rw [List.pairwise_map]; exact up
end
end Ly
namespace Ly
theorem u64 {k : Nat} {A : PySem.Around} (hr : L2.Room k A) : A.units + 64 < PySem.cLine := by have := hr.un; omega
end Ly
namespace Ly
open PySem L2
/-- a statement, then the rest from what stands behind it -/
theorem sd_cut {K : Fg} {env : Evn} {mg : Str → Option Value} {E : XK} {e : En} {ts tz : TS} (M : Evn → Prop) (h : SD K mg E ts env { e with nx := M }) (k : ∀ v, M v → SD K mg E tz v e) : SD K mg E (tSeq ts tz) env e :=
  sd_seq (sd_mono (e := { e with nx := M }) h k (fun _ q => q) (fun _ q => q) (fun _ q => q) (fun _ q => q))
end Ly

namespace Ly
open PySem L2
/-! ### a dict that is data, walked by its keys; all else has no dict -/
def noD : Kd := ⟨false, true, false⟩
def clnF : OF → Bool
  | .dat d => cln noD d
  | .dic _ al => clns noD (al.map (·.2))
  | .lst _ ds => clns noD ds
def clnS : SL → Bool
  | .dat d => cln noD d
  | .lst ds => clns noD ds
  | .dic al => clns noD (al.map (·.2))
  | .obj _ _ _ _ fs => fs.all clnF
  | _ => true
section
variable {K : Fg} {G G1 : Hp} {a : Addr} {kvs : List (List Key × V)}
theorem rd_ne' {b : Addr} {u : HO} (h0 : Rd G a (.dT kvs)) (h : Rd G b u) (hu : ∀ z, u ≠ .dT z) (hf : ∀ o z, u ≠ .frz o z) : b ≠ a := fun e => by
  subst e
  rcases h0 with h0 | ⟨o, h0⟩ <;> rcases h with h | ⟨o', h⟩ <;> rw [h] at h0
  · cases h0; exact hu _ rfl
  · cases h0
  · cases h0; exact hf _ _ rfl
  · cases h0; exact hu _ rfl
theorem rd_sw {b : Addr} {u : HO} (hs : ∀ b, b ≠ a → G1 b = G b) (hb : b ≠ a) (h : Rd G b u) : Rd G1 b u := by
  rcases h with h | ⟨o, h⟩
  · exact .inl (by rw [hs b hb]; exact h)
  · exact .inr ⟨o, by rw [hs b hb]; exact h⟩
mutual
theorem Rp.swap (hs : ∀ b, b ≠ a → G1 b = G b) (h0 : Rd G a (.dT kvs)) : ∀ (d : D) (v : V), cln noD d = true → Rp K G v d → Rp K G1 v d
  | .none, _, _, h => by cases h; exact .non
  | .bool b, _, _, h => by cases h; exact .bl b
  | .int i, _, _, h => by cases h; exact .int i
  | .str x, _, _, h => by cases h; exact .str x
  | .list ds, _, n, h => by
    have n' : clns noD ds = true := by simpa [cln, noD] using n
    cases h with
    | lst h1 h2 => exact .lst (by rw [hs _ (rd_ne' h0 (.inl h1) (fun _ z => nomatch z) (fun _ _ z => nomatch z))]; exact h1) (RpL.swap hs h0 ds _ n' h2)
  | .tuple ds, _, n, h => by
    cases h with
    | tup h1 h2 => exact .tup (by rw [hs _ (rd_ne' h0 (.inl h1) (fun _ z => nomatch z) (fun _ _ z => nomatch z))]; exact h1) (RpL.swap hs h0 ds _ (by simpa [cln] using n) h2)
  | .scr ns, _, n, h => by
    cases h with
    | scr h1 =>
      refine .scr ?_
      rcases h1 with h1 | h1
      · exact .inl (rd_sw hs (rd_ne' h0 h1 (fun _ z => nomatch z) (fun _ _ z => nomatch z)) h1)
      · exact .inr h1
  | .dct _ ds, _, n, h => by simp [cln, noD] at n
  | .dfz _ ds, _, n, h => by simp [cln, noD] at n
  | .obj _ _ ds, _, n, h => by
    have n' : clns noD ds = true := by simpa [cln, noD] using n
    cases h with
    | obj h1 h2 h3 => exact .obj (by rw [hs _ (rd_ne' h0 (.inl h1) (fun _ z => nomatch z) (fun _ _ z => nomatch z))]; exact h1) h2 (RpL.swap hs h0 ds _ n' h3)
  | .kst _, _, n, h => by simp [cln] at n
theorem RpL.swap (hs : ∀ b, b ≠ a → G1 b = G b) (h0 : Rd G a (.dT kvs)) : ∀ (ds : List D) (vs : List V), clns noD ds = true → RpL K G vs ds → RpL K G1 vs ds
  | [], _, _, h => by cases h; exact .nil
  | d :: ds, _, n, h => by
    cases h with
    | cons h1 h2 =>
      have n' : cln noD d = true ∧ clns noD ds = true := by simpa [clns] using n
      exact .cons (Rp.swap hs h0 d _ n'.1 h1) (RpL.swap hs h0 ds _ n'.2 h2)
end
theorem Al.swap (hs : ∀ b, b ≠ a → G1 b = G b) (h0 : Rd G a (.dT kvs)) : ∀ {l : List (List Key × V)} {al : List (List Int × D)}, clns noD (al.map (·.2)) = true → Al K G l al → Al K G1 l al
  | _, _, _, .nil => .nil
  | _, _, n, .cons r t => by
    simp only [List.map_cons, clns, Bool.and_eq_true] at n
    exact .cons (Rp.swap hs h0 _ _ n.1 r) (Al.swap hs h0 n.2 t)
theorem OFs.swap {H H1 : Hp} (hs : ∀ b, b ≠ a → G1 b = G b) (h0 : Rd G a (.dT kvs)) : ∀ {vs : List V} {fs : List OF}, (∀ b ∈ foots fs, H1 b = H b) → fs.all clnF = true → OFs K G H vs fs → OFs K G1 H1 vs fs
  | _, _, _, _, .nil => .nil
  | _, _, hf, n, .cons r t => by
    rw [List.all_cons, Bool.and_eq_true] at n
    refine .cons ?_ (OFs.swap hs h0 (fun b hb => hf b (by simp [foots, hb])) n.2 t)
    cases r with
    | dat r => exact .dat (Rp.swap hs h0 _ _ n.1 r)
    | dic h1 h2 => exact .dic (by rw [hf _ (by simp [foots, OF.foot])]; exact h1) (Al.swap hs h0 n.1 h2)
    | lst h1 h2 => exact .lst (by rw [hf _ (by simp [foots, OF.foot])]; exact h1) (RpL.swap hs h0 _ _ n.1 h2)
theorem OwnAt.swap {H H1 : Hp} {l : Addr} {x : SL} (hs : ∀ b, b ≠ a → G1 b = G b) (h0 : Rd G a (.dT kvs)) (hf : ∀ b ∈ foot l x, H1 b = H b) (n : clnS x = true) (h : OwnAt K G H l x) : OwnAt K G1 H1 l x := by
  cases h with
  | lst h1 h2 => exact .lst (by rw [hf _ foot_l]; exact h1) (RpL.swap hs h0 _ _ n h2)
  | dic h1 h2 => exact .dic (by rw [hf _ foot_l]; exact h1) (Al.swap hs h0 n h2)
  | obj h1 h2 h3 h4 h5 => exact .obj (by rw [hf _ foot_l]; exact h1) (by rw [hf _ (by simp [foot])]; exact h2) h3 (OFs.swap hs h0 (fun b hb => hf b (by simp [foot, hb])) n h4) h5
/-- the table of code objects, where a dict is locked or not -/
theorem tab_sw {H H1 : Hp} {P : Addr} (hs : ∀ b, b ≠ a → H b ≠ none → H1 b = H b) (h0 : H a = none ∨ Rd H a (.dT kvs)) (h : LamX.TabS H P q0) : LamX.TabS H1 P q0 := by
  obtain ⟨ps, t1, t2, t3⟩ := h
  have ne : ∀ b o, H b = some o → ownO o = false → (∀ od z, o ≠ .frz od z) → H1 b = some o := fun b o e hu hz => by
    rw [hs b ?_ (by rw [e]; exact fun z => nomatch z)]
    · exact e
    intro z; subst z
    rcases h0 with h0 | h0 | ⟨od, h0⟩
    · rw [h0] at e; cases e
    · rw [h0] at e; cases e; cases hu
    · rw [h0] at e; cases e; exact hz _ _ rfl
  refine ⟨ps, ne _ _ t1 rfl (fun _ _ z => nomatch z), t2, fun pos cv hc => ?_⟩
  obtain ⟨c, e1, e2⟩ := t3 pos cv hc
  exact ⟨c, e1, ne _ _ e2 rfl (fun _ _ z => nomatch z)⟩
end
section
variable {K : Fg} {env : Evn} {mg : Str → Option Value} {E : XK} {e : En}
def clnE (env : Evn) (i : Nat) : Prop := ∀ j x, j ≠ i → env[j]? = some x → clnS x = true
theorem sd_forK {i : Nat} {g : TG} {tb : TS} {ks : List (List Int)} {vs : List D} (he : env[i]? = some (.dat (.dct ks vs))) (hv : clns noD vs = true) (hc : clnE env i) (Pv : Nat → Evn → Prop) (h0 : Pv 0 (env.set i (.dat (.dfz ks vs))))
    (hs : ∀ j k env', ks[j]? = some k → Pv j env' → ∃ env2 js, TGt K g (itup k) env' env2 js ∧ SD K mg E tb env2 { nx := Pv (j + 1), ct := Pv (j + 1) }) (hd : ∀ env', Pv ks.length env' → clnE env' i ∧ e.nx (env'.set i .no)) :
    SD K mg E (tLock (tFor (iKeys (tVar i)) g tb)) env e := fun G0 B G H σ Dd s q => by
  obtain ⟨v, h1, r⟩ := s.datAt he
  have hi : i < env.length := (List.getElem?_eq_some_iff.mp he).1
  cases r with
  | @dct a kvs _ _ g1 g2 g3 =>
    have hH := s.i.o _ _ g1 rfl
    obtain ⟨fb, s1⟩ := s.rebase
    have na : ¬ ownAt σ env a := fun z => by rw [(s.own_ z).2.1] at g1; cases g1
    refine ⟨a, .dT kvs, hH, True.intro, fun od => ⟨.ref a, h1, a, od, rfl, .inr ⟨kvs, upd_same, ?_⟩⟩⟩
    have sG : ∀ b, b ≠ a → upd G a (.frz od (.dT kvs)) b = G b := fun b hb => upd_ne hb
    have bB : ∀ b, b ≠ a → del (bare H σ env) [a] b = bare H σ env b := fun b hb => del_out (by simpa using hb)
    have bA : del (bare H σ env) [a] a = none := del_in (by simp)
    have unB : ∀ b o, del (bare H σ env) [a] b = some o → bare H σ env b = some o ∧ b ≠ a := fun b o e => by
      have hb : b ≠ a := fun z => by subst z; rw [bA] at e; cases e
      rw [bB b hb] at e; exact ⟨e, hb⟩
    have hne : ∀ b ∈ ([a] : List Addr), b = a := by simp
    -- the locked world
    have s2 : SR K (upd G a (.frz od (.dT kvs))) (del (bare H σ env) [a]) (upd G a (.frz od (.dT kvs))) (upd H a (.frz od (.dT kvs))) σ (env.set i (.dat (.dfz ks vs))) := by
      refine ⟨⟨Ex.refl _, ⟨fun b o e t => ?_, fun b o e t => ?_⟩, ⟨fun b o e t => ?_, fun b o e t => ?_⟩, fun _ _ _ _ n => n, fun P hP => ?_⟩, by simp [s.len], fun j d ej => ?_, fun j w ej => ?_, fun j x ej hx => ?_, fun j k x y l m b hjk ej ek hx hy el em => ?_, s.tk.up (Tb.upd (.inr ⟨_, hH, rfl⟩))⟩
      · obtain ⟨e2, hb⟩ := unB b o e
        rw [upd_ne hb]; exact s1.fm.h.o b o e2 t
      · obtain ⟨e2, hb⟩ := unB b o e
        rw [upd_ne hb]; exact s1.fm.h.t b o e2 t
      · by_cases hb : b = a
        · subst hb; rw [upd_same] at e ⊢; exact e
        · rw [upd_ne hb] at e ⊢; exact s.i.o b o e t
      · by_cases hb : b = a
        · subst hb; rw [upd_same] at e; cases e; cases t
        · rw [upd_ne hb] at e ⊢; exact s.i.t b o e t
      · have h2 : LamX.TabS (bare H σ env) P q0 := by
          obtain ⟨ps, t1, t2, t3⟩ := hP
          exact ⟨ps, (unB _ _ t1).1, t2, fun pos cv hcv => let ⟨c, e1, e2⟩ := t3 pos cv hcv; ⟨c, e1, (unB _ _ e2).1⟩⟩
        exact tab_upd (.inr ⟨_, hH, rfl⟩) (s1.fm.tb P h2)
      · by_cases z : i = j
        · subst z
          rw [List.getElem?_set_self hi] at ej
          cases ej
          exact ⟨.ref a, h1, .dfz (.inr ⟨od, upd_same⟩) g2 (RpL.swap sG (.inl g1) _ _ hv g3)⟩
        · rw [List.getElem?_set_ne z] at ej
          obtain ⟨v2, z1, z2⟩ := s.dt j d ej
          exact ⟨v2, z1, Rp.swap sG (.inl g1) _ _ (hc j _ (fun w => z w.symm) ej) z2⟩
      · by_cases z : i = j
        · subst z
          rw [List.getElem?_set_self hi] at ej
          cases ej
        · rw [List.getElem?_set_ne z] at ej; exact s.rw j w ej
      · by_cases z : i = j
        · subst z
          rw [List.getElem?_set_self hi] at ej
          cases ej; cases hx
        · rw [List.getElem?_set_ne z] at ej
          obtain ⟨l, z1, z2, z3⟩ := s1.ow j x ej hx
          have nf : ∀ b ∈ foot l x, b ≠ a := fun b hb w => by subst w; rw [(z3 b hb).2] at g1; cases g1
          refine ⟨l, z1, OwnAt.swap sG (.inl g1) (fun b hb => upd_ne (nf b hb)) (hc j _ (fun w => z w.symm) ej) z2, fun b hb => ⟨?_, ?_⟩⟩
          · rw [bB b (nf b hb)]; exact (z3 b hb).1
          · rw [upd_ne (nf b hb)]; exact (z3 b hb).2
      · by_cases z : i = j
        · subst z
          rw [List.getElem?_set_self hi] at ej
          cases ej; cases hx
        · by_cases z2 : i = k
          · subst z2
            rw [List.getElem?_set_self hi] at ek
            cases ek; cases hy
          · rw [List.getElem?_set_ne z] at ej
            rw [List.getElem?_set_ne z2] at ek
            exact s.ap j k x y l m b hjk ej ek hx hy el em
    have kl : kvs.length = ks.length := by simpa using congrArg List.length g2
    have fz : ∀ {G2 H2 : Hp}, Ex (upd G a (.frz od (.dT kvs))) G2 → Ex G2 H2 → H2 a = some (.frz od (.dT kvs)) := fun e1 e2 => e2.o _ _ (e1.o _ _ upd_same rfl) rfl
    refine for_core (mg := mg) (E := E) (wi := iKeys (tVar i)) (J := Itkt a od kvs) (n := ks.length) (e := { nx := fun env' => Pv ks.length env' }) Pv s2 ⟨fun G' H' σ' env' s' p' => ?_, fun _ _ _ _ _ _ z => z.elim, fun _ _ _ _ _ z => z.elim, fun _ _ _ _ _ z => z.elim, fun _ _ _ _ _ _ z => z.elim, fun _ _ _ _ _ _ _ _ z => z.elim, fun _ _ _ _ _ _ _ _ z => z.elim⟩ h0 (fun j G2 H2 hj e1 e2 => ⟨fz e1 e2, by omega⟩) (fun G2 H2 e1 e2 => ⟨fz e1 e2, by omega⟩) (fun j G2 H2 x H' hj e1 e2 y => ?_) (fun env' p' => p')
    · -- the end: unlocked
      obtain ⟨hc', k'⟩ := hd env' p'
      have eg := s'.fm.g
      have hGa : G' a = some (.frz od (.dT kvs)) := eg.o _ _ upd_same rfl
      have hHa : H' a = some (.frz od (.dT kvs)) := s'.i.o _ _ hGa rfl
      refine ⟨hHa, q.nx (upd G' a (.dT kvs)) _ σ' _ ?_ k'⟩
      have sG2 : ∀ b, b ≠ a → upd G' a (.dT kvs) b = G' b := fun b hb => upd_ne hb
      have baA : bare H σ env a = some (.dT kvs) := by rw [bare_not na]; exact hH
      have tbH : Tb (bare H σ env) (upd H' a (.dT kvs)) := fun P hP => by
        have t1 : LamX.TabS (del (bare H σ env) [a]) P q0 := tab_sw (a := a) (kvs := kvs) (fun b hb _ => bB b hb) (.inr (.inl baA)) hP
        exact tab_sw (a := a) (kvs := kvs) (fun b hb _ => upd_ne hb) (.inr (.inr ⟨od, hHa⟩)) (s'.fm.tb P t1)
      have exGG : Ex G (upd G' a (.dT kvs)) := ⟨fun b o ex t => by
        by_cases hb : b = a
        · subst hb; rw [upd_same]; rw [g1] at ex; exact ex
        · rw [upd_ne hb]; exact eg.o b o (by rw [upd_ne hb]; exact ex) t, fun b o ex t => by
        by_cases hb : b = a
        · subst hb; rw [g1] at ex; cases ex; cases t
        · rw [upd_ne hb]; exact eg.t b o (by rw [upd_ne hb]; exact ex) t⟩
      have exBH : Ex (bare H σ env) (upd H' a (.dT kvs)) := ⟨fun b o ex t => by
        by_cases hb : b = a
        · subst hb; rw [upd_same]; rw [baA] at ex; exact ex
        · rw [upd_ne hb]; exact s'.fm.h.o b o (by rw [bB b hb]; exact ex) t, fun b o ex t => by
        by_cases hb : b = a
        · subst hb; rw [baA] at ex; cases ex; cases t
        · rw [upd_ne hb]; exact s'.fm.h.t b o (by rw [bB b hb]; exact ex) t⟩
      have exi : Ex (upd G' a (.dT kvs)) (upd H' a (.dT kvs)) := ⟨fun b o ex t => by
        by_cases hb : b = a
        · subst hb; rw [upd_same] at ex ⊢; exact ex
        · rw [upd_ne hb] at ex ⊢; exact s'.i.o b o ex t, fun b o ex t => by
        by_cases hb : b = a
        · subst hb; rw [upd_same] at ex; cases ex; cases t
        · rw [upd_ne hb] at ex ⊢; exact s'.i.t b o ex t⟩
      have li : env'.length = σ'.length := s'.len.symm
      have nfo : ∀ {j : Nat} {x : SL} {l : Addr}, env'[j]? = some x → isOwn x = true → σ'[j]? = some (some (.ref l)) → ∀ b ∈ foot l x, b ≠ a := fun {j x l} ej hx el b hb w => by
        obtain ⟨m, z1, z2, z3⟩ := s'.ow j x ej hx
        rw [el] at z1; cases z1
        subst w; rw [(z3 b hb).2] at hGa; cases hGa
      refine ⟨⟨fb.g.trans exGG, fb.h.trans exBH, exi, fun b o ex t n => ?_, fb.tb.trans tbH⟩, by simp [s'.len], fun j d ej => ?_, fun j w ej => ?_, fun j x ej hx => ?_, fun j k x y l m b hjk ej ek hx hy el em => ?_, fun c P ec => tab_sw (a := a) (kvs := kvs) (fun b hb _ => upd_ne hb) (.inr (.inr ⟨od, hHa⟩)) (s'.tk c P ec)⟩
      · have nG := fb.n b o ex t n
        have hb : b ≠ a := fun z => by subst z; rw [nG] at g1; cases g1
        rw [upd_ne hb]
        refine s'.fm.n b o ?_ t (by rw [upd_ne hb]; exact nG)
        rw [bB b hb]; exact fb.h.o b o ex (own_tbl t)
      · by_cases z : i = j
        · subst z
          by_cases hl : i < env'.length
          · rw [List.getElem?_set_self hl] at ej; cases ej
          · rw [List.getElem?_eq_none (by rw [List.length_set]; omega)] at ej; cases ej
        · rw [List.getElem?_set_ne z] at ej
          obtain ⟨v2, z1, z2⟩ := s'.dt j d ej
          exact ⟨v2, z1, Rp.swap sG2 (.inr ⟨od, hGa⟩) _ _ (hc' j _ (fun w => z w.symm) ej) z2⟩
      · by_cases z : i = j
        · subst z
          by_cases hl : i < env'.length
          · rw [List.getElem?_set_self hl] at ej; cases ej
          · rw [List.getElem?_eq_none (by rw [List.length_set]; omega)] at ej; cases ej
        · rw [List.getElem?_set_ne z] at ej; exact s'.rw j w ej
      · by_cases z : i = j
        · subst z
          by_cases hl : i < env'.length
          · rw [List.getElem?_set_self hl] at ej; cases ej; cases hx
          · rw [List.getElem?_eq_none (by rw [List.length_set]; omega)] at ej; cases ej
        · rw [List.getElem?_set_ne z] at ej
          obtain ⟨l, z1, z2, z3⟩ := s'.ow j x ej hx
          have nf := nfo ej hx z1
          refine ⟨l, z1, OwnAt.swap sG2 (.inr ⟨od, hGa⟩) (fun b hb => upd_ne (nf b hb)) (hc' j _ (fun w => z w.symm) ej) z2, fun b hb => ⟨?_, ?_⟩⟩
          · have := (z3 b hb).1
            rw [bB b (nf b hb)] at this
            exact fb.h.back this
          · rw [upd_ne (nf b hb)]; exact (z3 b hb).2
      · have nz : ∀ {j : Nat} {x : SL}, (env'.set i .no)[j]? = some x → isOwn x = true → env'[j]? = some x := fun {j x} ej hx => by
          by_cases z : i = j
          · subst z
            by_cases hl : i < env'.length
            · rw [List.getElem?_set_self hl] at ej; cases ej; cases hx
            · rw [List.getElem?_eq_none (by rw [List.length_set]; omega)] at ej; cases ej
          · rw [List.getElem?_set_ne z] at ej; exact ej
        exact s'.ap j k x y l m b hjk (nz ej hx) (nz ek hy) hx hy el em
    · -- a key
      obtain ⟨rfl, k, w, qa, ek, rfl, hq⟩ := y
      have ekk : ks[j]? = some ks[j] := List.getElem?_eq_getElem hj
      have e3 : k = keyT ks[j] := by
        have := congrArg (fun l => l[j]?) g2
        simp only [List.getElem?_map, ek, ekk, Option.map_some] at this
        exact Option.some.inj this
      subst e3
      rw [key_ints] at hq
      have f2 : Fm G2 H' (tupG G2 H') H' := Fm.tups (Fm.refl e2)
      refine ⟨_, itup ks[j], f2, .tup (tupG_tup hq) (RpL.ofInts _), fun env' p => ?_⟩
      obtain ⟨env2, js, z1, z2⟩ := hs j _ env' ekk p
      exact ⟨env2, js, z1, sd_mono z2 (fun _ z => z) (fun _ z => z.elim) (fun _ z => z.elim) (fun _ z => z) (fun _ z => z.elim) (fun _ _ z => z.elim) (fun _ _ z => z.elim)⟩
end
end Ly
namespace Ly
open PySem L2
section
variable {K : Fg} {env : Evn} {ta : TE} {mg : Str → Option Value} {E : XK} {d : D}
theorem no_lookup {m : Str} {ns : List Str} {flds : List (Str × V)} (h3 : flds.map (·.1) = ns) (hm : m ∉ ns) : flds.lookup m = none := by
  rw [List.lookup_eq_none_iff]
  intro p hp
  rw [bne_iff_ne]
  exact fun z => hm (by rw [← h3, z]; exact List.mem_map.mpr ⟨p, hp, rfl⟩)
/-- o.m(), a new dict; o data, nothing changed -/
theorem evk_meth0 {P : Ct} {C : Addr} {m : Str} {ns : List Str} {ds : List D} {al : List (List Int × D)} (h : EvD K ta env (.obj C ns ds)) (hm : m ∉ ns) (hp : P [.obj C ns ds] (.dic al)) : EvK K (tMeth C m (spD K mg P) [] E ta tNil) env al := fun G0 B G H σ s Q q =>
  h G0 B G H σ s _ fun v G1 H1 f1 r1 => by
    have r2 := r1
    cases r1 with
    | @obj a _ dx fs _ _ h1 h2 h3 =>
      refine ⟨a, dx, fs, rfl, f1.i.o _ _ h1 rfl, no_lookup h2 hm, ⟨G1, [.obj C ns ds], .dic al, f1.i, s.tk.up f1.tb, .cons r2 .nil, hp, (fun _ z => nomatch z), (fun _ z => nomatch z), fun al' z p kvs G2 H2 f2 p1 p2 p3 p4 => ?_⟩⟩
      cases z
      exact q p kvs G2 H2 (f1.trans f2) (f1.h.back p1) p2 p3 p4
end
end Ly

namespace Ly
open PySem L2
theorem rg_size {a c : Int} {t : Nat} (hc : 1 ≤ c) : Builtin.Range.rangeSize a (a + (t : Int) * c) c = (t : Int) := by
  unfold Builtin.Range.rangeSize
  rw [if_pos (by omega)]
  have h0 : 0 ≤ (t : Int) * c := Int.mul_nonneg (by omega) (by omega)
  split
  · have t0 : t ≠ 0 := fun z => by subst z; simp at *
    have e : a + (t : Int) * c - a - 1 = (c - 1) + ((t : Int) - 1) * c := by rw [Int.sub_mul, Int.one_mul]; omega
    have e2 : a + (t : Int) * c - 1 - a = (c - 1) + ((t : Int) - 1) * c := by rw [Int.sub_mul, Int.one_mul]; omega
    first
      | rw [e, Int.add_mul_ediv_right _ _ (by omega), Int.ediv_eq_zero_of_lt (by omega) (by omega)]; omega
      | rw [e2, Int.add_mul_ediv_right _ _ (by omega), Int.ediv_eq_zero_of_lt (by omega) (by omega)]; omega
  · rename_i hn
    have : (t : Int) * c ≤ 0 := by omega
    have t0 : t = 0 := by
      refine Classical.byContradiction fun z => ?_
      have := Int.mul_pos (show 0 < (t : Int) by omega) (show 0 < c by omega)
      omega
    subst t0; rfl
theorem rgc_step {a c : Int} {t : Nat} (hc : 1 ≤ c ∧ c < 1000000) (ha : 0 ≤ a ∧ a < 1000000000) (hb : (t : Int) * c < 1000000000) : RgC a (a + (t : Int) * c) c t := by
  have h0 : 0 ≤ (t : Int) * c := Int.mul_nonneg (by omega) (by omega)
  have ht : (t : Int) ≤ (t : Int) * c := by
    have := Int.mul_le_mul_of_nonneg_left hc.1 (show 0 ≤ (t : Int) by omega)
    omega
  refine ⟨by omega, by omega, ?_, rg_size hc.1⟩
  unfold Builtin.Range.small
  rw [rg_size hc.1]
  simp only [Builtin.Range.rangeFitsLong, Bool.and_eq_true, Bool.or_eq_true, decide_eq_true_eq, beq_iff_eq, show c > 0 by omega, if_true]
  omega
section
variable {K : Fg} {env : Evn} {te : TE} {t : TT} {mg : Str → Option Value} {E : XK} {e : En}
theorem evn_lcR3 {ta : TA} {g : TG} {vs : List Nat} {lo c : Int} {n : Nat} (f : Int → Bool) (h : Int → D) (hl : EvA K ta env [.int lo, .int (lo + (n : Int) * c), .int c]) (hc : 1 ≤ c ∧ c < 1000000) (ha : 0 ≤ lo ∧ lo < 1000000000) (hb : (n : Int) * c < 1000000000) (hz : n < 16777216)
    (hs : ∀ i : Nat, i < n → ∃ env2 js, TGt K g (.int (lo + (i : Int) * c)) (wipeE env vs) env2 js ∧ (∀ j ∈ js, j ∈ vs) ∧ EvT K t env2 (f (lo + (i : Int) * c)) ∧ (f (lo + (i : Int) * c) = true → EvD K te env2 (h (lo + (i : Int) * c)))) :
    EvN K (tLc (iRng3 ta) g t te vs) env (((List.range n).filter fun (i : Nat) => f (lo + (i : Int) * c)).map fun (i : Nat) => h (lo + (i : Int) * c)) := fun G0 B G H σ s Q q =>
  hl G0 B G H σ s _ fun ws G2 H2 fm r => by
    cases r with
    | cons r1 r2 => cases r2 with
      | cons r2 r3 => cases r3 with
        | cons r3 r4 =>
          cases r1; cases r2; cases r3; cases r4
          have hsz := sizeLine_eq
          refine ⟨lo, _, c, n, rfl, rgc_step hc ha hb, lc_core' (n := n) (fun i => f (lo + (i : Int) * c)) (fun i => h (lo + (i : Int) * c)) (by omega) (s.fwd fm) (fun i G1 H1 hi e1 e2 => hi) (fun G1 H1 e1 e2 => Nat.le_refl _) (fun i G1 H1 x H' hi e1 e2 y => ?_) (fun p ys G3 H3 f3 g1 g2 g3 g4 => q p ys G3 H3 (fm.trans f3) (fm.h.back g1) g2 g3 g4)⟩
          obtain ⟨rfl, rfl⟩ := y
          obtain ⟨env2, js, k1, k2, k3, k4⟩ := hs i hi
          exact ⟨G1, _, Fm.refl e2, .int _, env2, js, k1, k2, k3, k4⟩
/-- for i in range(a, b, -1) -/
theorem sd_forR3 {ta : TA} {g : TG} {tb : TS} {lo hi : Int} (h : EvA K ta env [.int lo, .int hi, .int (-1)]) (hn : -(2 ^ 62) ≤ lo ∧ lo < 2 ^ 62 ∧ -(2 ^ 62) ≤ hi ∧ hi < 2 ^ 62) (Pv : Nat → Evn → Prop) (h0 : Pv 0 env)
    (hs : ∀ i env', i < (lo - hi).toNat → Pv i env' → ∃ env2 js, TGt K g (.int (lo - (i : Int))) env' env2 js ∧ SD K mg E tb env2 { e with nx := Pv (i + 1), ct := Pv (i + 1), bk := e.nx }) (hd : ∀ env', Pv (lo - hi).toNat env' → e.nx env') :
    SD K mg E (tFor (iRng3 ta) g tb) env e := fun G0 B G H σ Dd s q =>
  h G0 B G H σ s _ fun vs G2 H2 f r => by
    cases r with
    | cons r1 r2 => cases r2 with
      | cons r2 r3 => cases r3 with
        | cons r3 r4 =>
          cases r1; cases r2; cases r3; cases r4
          exact ⟨lo, hi, -1, (lo - hi).toNat, rfl, RgC.neg hn.1 hn.2.1 hn.2.2.1 hn.2.2.2, for_core (wi := fun _ _ _ => True) (J := Itc lo (-1) (lo - hi).toNat) (n := (lo - hi).toNat) Pv (s.fwd f) q h0 (fun i G1 H1 hi _ _ => hi) (fun G1 H1 _ _ => Nat.le_refl _) (fun i G1 H1 x H' hi e1 e2 y => by
            obtain ⟨rfl, rfl⟩ := y
            refine ⟨G1, _, Fm.refl e2, .int _, fun env' p => ?_⟩
            rw [show lo + (i : Nat) * (-1) = lo - (i : Int) by omega]
            exact hs i env' hi p) hd⟩
end
end Ly

namespace Ly
open PySem PySem.Spec PyProof.Rows L2
/-! ### l.count(x), l.index(x), by == of data -/
def rCountD (K : Fg) : V → List V → Hp → VK → Prop := fun x xs H Q => ∃ (a : Addr) (y : V) (d : PyData) (ds : List PyData), x = V.ref a ∧ xs = [y] ∧ Dp K H (V.ref a) (.list ds) ∧ Dp K H y d ∧
  SeqAt.shaped (.list ds) = true ∧ SeqAt.shaped d = true ∧ Q (.int ((ds.countP fun z => PyData.eqv z d : Nat) : Int)) H
section
variable {X : Cx}
theorem mt_countD (hu : X.A.units + 65 < cLine) : MtR X "list.count" (rCountD X.K) := by
  intro pins s σ H x xs v us Q I rx rxs h
  obtain ⟨a, y, d, ds, rfl, rfl, hl, hy, sl, sd, q⟩ := h
  cases rx
  cases rxs with
  | cons ry rt =>
    rename_i uy ut
    cases rt
    obtain ⟨bs, r1⟩ := Dp.reads I d y uy hy ry
    cases hl with
    | lst hs ha =>
      obtain ⟨its, rv, ⟨⟨cls, dd, data, sls⟩, n, ho, hc, hdn, hdt⟩, hlen⟩ := I.list hs
      simp only at hc hdt
      subst hc hdt
      obtain ⟨as, h4⟩ := Dp.readsAll I ds _ its ha rv
      have lay : PyData.canLayAll0 ds = true := SeqAt.canLay_of_shaped sl
      have hmap : its.map (SeqAt.readOf s.heap) = ds := SeqAt.readsAll_map ds its as lay h4
      refine call_meets PySem.F.slot_list_count ⟨_, ho, rfl⟩ PySem.F.entry_list_count (PySem.F.args_list_count_2 _ _)
        (SeqAt.list_countAt a its.toArray n dd sls uy (fun u => PyData.eqv (SeqAt.readOf s.heap u) d)) ⟨ho, SeqAt.items_eqAt (vs := its.toArray) (show ReadsAll s.heap its.toArray.toList ds as from h4) r1 lay (SeqAt.canLay_of_shaped sd) (room_in_shaped sd hu), ?_⟩
      have ec : its.toArray.toList.countP (fun u => PyData.eqv (SeqAt.readOf s.heap u) d) = ds.countP fun z => PyData.eqv z d := by
        rw [← hmap, List.countP_map]; rfl
      refine ⟨.int ((ds.countP fun z => PyData.eqv z d : Nat) : Int), H, I.tok _, ⟨s.toks, ?_⟩, q⟩
      show Value.int ((its.toArray.toList.countP (fun u => PyData.eqv (SeqAt.readOf s.heap u) d) : Nat) : Int) s.toks = _
      rw [ec]
end
section
variable {K : Fg} {env : Evn} {ta tb : TE} {d : D}
theorem dp_list {G H : Hp} {x : V} {ds : List D} (e : Ex G H) (hb : shp (.list ds) = true) (h : Rp K G x (.list ds)) : Dp K H x (.list (toPys ds)) := by
  have z := Rp.dp _ _ (SeqAt.canLay_of_shaped hb) (h.up e)
  rw [toPy] at z; exact z
theorem ev_count {ds : List D} (h : EvD K ta env (.list ds)) (hx : EvD K tb env d) (h1 : shp (.list ds) = true) (h2 : shp d = true) : EvD K (tBM K "list" (rCountD K) ta (tCons tb tNil)) env (.int ((ds.countP fun z => eqD z d : Nat) : Int)) := fun G0 B G H σ s Q q =>
  h G0 B G H σ s _ fun x G1 H1 f1 r1 => by
    have r1' := r1
    cases r1 with
    | @lst a xs _ g1 g2 =>
      refine ⟨.inl ⟨rfl, _, SqL.of (f1.i.o _ _ g1 rfl)⟩, hx G0 B G1 H1 σ (s.fwd f1) _ fun y G2 H2 f2 r2 => ⟨a, y, toPy d, toPys ds, rfl, rfl, dp_list (f1.trans f2).i h1 (r1'.up f2.g), Rp.dp _ _ (SeqAt.canLay_of_shaped h2) (r2.up f2.i), by rw [shp, toPy] at h1; exact h1, h2, ?_⟩⟩
      have e : ((toPys ds).countP fun z => PyData.eqv z (toPy d)) = ds.countP fun z => eqD z d := by
        rw [toPys_map, List.countP_map]; rfl
      rw [e]
      exact q _ G2 H2 (f1.trans f2) (.int _)
theorem ev_index {ds : List D} {j : Nat} {z : D} (h : EvD K ta env (.list ds)) (hx : EvD K tb env d) (h1 : shp (.list ds) = true) (h2 : shp d = true) (hj : ds[j]? = some z) (hz : eqD z d = true) (hn : ∀ m z', m < j → ds[m]? = some z' → eqD z' d = false) : EvD K (tBM K "list" (rIndexD K) ta (tCons tb tNil)) env (.int (j : Int)) := fun G0 B G H σ s Q q =>
  h G0 B G H σ s _ fun x G1 H1 f1 r1 => by
    have r1' := r1
    cases r1 with
    | @lst a xs _ g1 g2 =>
      refine ⟨.inl ⟨rfl, _, SqL.of (f1.i.o _ _ g1 rfl)⟩, hx G0 B G1 H1 σ (s.fwd f1) _ fun y G2 H2 f2 r2 => ⟨a, y, toPy d, toPys ds, j, toPy z, rfl, rfl, dp_list (f1.trans f2).i h1 (r1'.up f2.g), Rp.dp _ _ (SeqAt.canLay_of_shaped h2) (r2.up f2.i), by rw [shp, toPy] at h1; exact h1, h2, by rw [toPys_map, List.getElem?_map, hj]; rfl, hz, fun m z' hm hz' => ?_, q _ G2 H2 (f1.trans f2) (.int _)⟩⟩
      rw [toPys_map, List.getElem?_map] at hz'
      cases e : ds[m]? with
      | none => rw [e] at hz'; cases hz'
      | some w => rw [e] at hz'; cases hz'; exact hn m w hm e
end
end Ly
namespace Ly
open PySem L2
section
variable {K : Fg} {env : Evn} {te ta : TE} {t : TT} {d : D}
/-- [e for i, x in enumerate(xs) if t] -/
theorem evn_lcE {tA : TA} {g : TG} {vs : List Nat} {ds : List D} (f : Nat → D → Bool) (h : Nat → D → D) (hl : EvA K tA env [.list ds]) (hz : ds.length < sizeLine)
    (hs : ∀ (i : Nat) x, ds[i]? = some x → ∃ env2 js, TGt K g (.tuple [.int (i : Nat), x]) (wipeE env vs) env2 js ∧ (∀ j ∈ js, j ∈ vs) ∧ EvT K t env2 (f i x) ∧ (f i x = true → EvD K te env2 (h i x))) :
    EvN K (tLc (iEnum K tA) g t te vs) env (((List.range ds.length).filter fun i => f i (ds.getD i .none)).map fun i => h i (ds.getD i .none)) := fun G0 B G H σ s Q q =>
  hl G0 B G H σ s _ fun ws G2 H2 fm r => by
    cases r with
    | cons r1 r2 =>
      cases r2
      cases r1 with
      | @lst a xs _ h1 h2 =>
        refine ⟨a, xs, rfl, SqL.of (fm.i.o _ _ h1 rfl), lc_core' (n := ds.length) (fun i => f i (ds.getD i .none)) (fun i => h i (ds.getD i .none)) hz (s.fwd fm) (fun i G1 H1 hi e1 e2 => ?_) (fun G1 H1 e1 e2 => ⟨xs, SqL.of (e2.o _ _ (e1.o _ _ h1 rfl) rfl), by rw [h2.length]; exact Nat.le_refl _⟩) (fun i G1 H1 x H' hi e1 e2 y => ?_) (fun p ys G3 H3 f3 g1 g2 g3 g4 => q p ys G3 H3 (fm.trans f3) (fm.h.back g1) g2 g3 g4)⟩
        · obtain ⟨v, g1, _⟩ := h2.get (List.getElem?_eq_getElem hi)
          exact ⟨xs, v, SqL.of (e2.o _ _ (e1.o _ _ h1 rfl) rfl), g1⟩
        · obtain ⟨T, v, rfl, hT, rfl, y⟩ := y
          obtain ⟨d, g1, g2⟩ := h2.getV (y xs (SqL.of (e2.o _ _ (e1.o _ _ h1 rfl) rfl)))
          have ed : ds.getD i .none = d := by rw [List.getD_eq_getElem?_getD, g1]; rfl
          have fn := Fm.new (o := .tup [.int (i : Nat), v]) e2 hT
          obtain ⟨env2, js, k1, k2, k3, k4⟩ := hs i d g1
          exact ⟨_, _, fn, .tup upd_same (.cons (.int _) (.cons ((g2.up e1).up fn.g) .nil)), env2, js, k1, k2, by rw [ed]; exact k3, by rw [ed]; exact k4⟩
/-- list(t) -/
theorem evn_listT {ds : List D} (h : EvD K te env (.tuple ds)) : EvN K (tCB (fun xs H Q => ∃ p ys, xs = [.ref p] ∧ (SqL K H p ys ∨ SqT K H p ys) ∧ ∀ l, H l = none → Q (.ref l) (upd H l (.lst ys))) (tCons te tNil)) env ds := evn_cb (ea_cons h ea_nil) fun G H xs ex hx Q q => by
  cases hx with
  | cons r1 r2 =>
    cases r2
    cases r1 with
    | @tup a vs _ h1 h2 => exact ⟨a, vs, rfl, .inr (ex_t ex h1), fun l hl => q l vs G _ (Fm.own ex hl) hl (ex.back hl) upd_same h2⟩
end
end Ly

namespace Ly
open PySem PySem.Spec PyProof.Rows L2
/-! ### sorted(t), t a tuple of ints -/
def rSortIT (K : Fg) : List V → Hp → VK → Prop := fun vs H Q => ∃ (a : Addr) (ks : List Int), vs = [.ref a] ∧ SqT K H a (ks.map V.int) ∧ ks.length < 1000000 ∧
  ∀ p, H p = none → Q (.ref p) (upd H p (.lst ((ks.mergeSort (PySem.W.dataLe false fun k : Int => PyData.int k)).map V.int)))
section
variable {X : Cx}
theorem each_ints : ∀ {ks : List Int} {us : List Value}, Vals (ks.map V.int) us → PySem.W.EachIs (fun (u : Value) (k : Int) => RelV (V.int k) u) us ks
  | [], _, .nil => .nil
  | _ :: _, _, .cons r t => .cons r (each_ints t)
theorem each_ireads {h : Heap} {a : Addr} : ∀ {ks : List Int} {us : List Value}, Vals (ks.map V.int) us → PySem.W.EachIs (fun (u : Value) (k : Int) => ∃ as, Reads h u (.int k) as ∧ a ∉ as) us ks
  | [], _, .nil => .nil
  | k :: _, _, .cons r t => .cons (by obtain ⟨t', rfl⟩ := r; exact ⟨[], .int _ _, by simp⟩) (each_ireads t)
theorem ieach_back {us : List Value} {ks : List Int} (h : PySem.W.EachIs (fun (u : Value) (k : Int) => RelV (V.int k) u) us ks) : Vals (ks.map V.int) us := by
  induction h with
  | nil => exact .nil
  | cons r _ ih => exact .cons r ih
theorem cr_sortIT {k : Nat} (hr : Room k X.A) : CallR X (.builtin "sorted") (rSortIT X.K) := by
  intro pins s σ H vs us Q I r h
  obtain ⟨a, ks, rfl, hs, hz, q⟩ := h
  obtain ⟨its, rv, pl, hz'⟩ := I.tuple hs
  rw [Vals.ref1 r]
  obtain ⟨o, ho, hc, n, hd'⟩ := pl
  have sz := sizeLine_eq
  have il : its.length = ks.length := by rw [← rv.length, List.length_map]
  refine Calls.call_function_entry kind_sorted plain_sorted entry_sorted (args_sorted1 _) ?_
  unfold Builtin.«sorted»
  refine wpAny_bind (m := checkCount "sorted" 1 1 _) (wpAny_pure ?_)
  refine wpAny_bind (wpAny_collect_seq a (.inr rfl) ho hc hd' (fun h' k1 => ?_) (by rw [List.size_toArray, il]; omega))
  refine wpAny_bind (wpAny_newList ?_ (by simp; omega))
  have hoL : (h'.push (seqObj "list" its.toArray 0)).get? h'.objs.size = some (seqObj "list" its.toArray 0) := Heap.get?_push_size _ rfl
  refine wpAny_bind (wpAny_holding (PySem.W.list_sort_data (s := { s with heap := h'.push (seqObj "list" its.toArray 0) }) (bs := ks) (enc := fun k : Int => PyData.int k) (R := fun (u : Value) (k : Int) => RelV (V.int k) u) hoL (each_ints rv) (each_ireads rv) ?_ ?_ (by omega) (fun b hb => ?_) fun out lo ea => ?_))
  · intro x hx y hy
    obtain ⟨i, _, rfl⟩ := List.mem_map.mp hx
    obtain ⟨j, _, rfl⟩ := List.mem_map.mp hy
    rfl
  · refine .inr fun x hx => ?_
    obtain ⟨i, _, rfl⟩ := List.mem_map.mp hx
    simp
  · have := hr.un
    have e : (PyData.int b).depth = 0 := rfl
    rw [e]
    show X.A.units + 1 + 1 + 0 < _
    omega
  · have ev := ieach_back ea
    obtain ⟨c, hc2⟩ := sortedHeap_at (vs := its) (out := out.toArray) hoL
    have hn : H h'.objs.size = none := (I.hok.kept k1).fresh (Nat.le_refl _)
    have hp : s.heap.get? h'.objs.size = none := by
      cases z : s.heap.get? h'.objs.size with
      | none => rfl
      | some u => exact absurd (Heap.lt_size (k1 _ _ z)) (Nat.lt_irrefl _)
    have kk : ∀ b u, s.heap.get? b = some u → (sortedHeap (h'.push (seqObj "list" its.toArray 0)) h'.objs.size its out.toArray).get? b = some u := fun b u e => by
      have q := k1 b u e
      have hlt := Heap.lt_size q
      rw [sortedHeap_old (Nat.ne_of_lt hlt) (by rw [size_push']; exact Nat.lt_succ_of_lt hlt)]
      exact Heap.get?_push_of_some _ q
    refine wpAny_pure ⟨_, rfl, .ref _, upd H h'.objs.size (.lst ((ks.mergeSort (PySem.W.dataLe false fun k : Int => PyData.int k)).map V.int)), I.laidN (t' := s.toks) kk hp hn ⟨?_, out, c, ev, hc2⟩, rfl, q _ hn⟩
    rw [List.length_map, List.length_mergeSort]
    omega
end
end Ly

set_option maxHeartbeats 2000000
namespace Ly
open PySem PySem.Spec PyProof.Rows L2
/-! ### sets of keys of any kind that are told apart by == and hash -/
structure SKey (P : Program) (w : World) (κ : Type) [DecidableEq κ] where
  is : Heap → κ → Addr → Prop
  hf : κ → Int
  dr : κ → Nat
  stay : ∀ {h h' : Heap} {k : κ} {b : Addr}, is h k b → (∀ c o vs n, h.get? c = some o → o.data = .seq vs n → h'.get? c = some o) → is h' k b
  hsh : ∀ {A : Around} {E : Value → Shared → Prop} {s : Shared} {k : κ} {b : Addr} {Q : Int → Shared → Prop}, A.units + 8 < cLine → is s.heap k b → Q (hf k) { s with toks := s.toks + dr k } → wpAny (model P w) A (pyHash (.ref b)) Q E s
  eqb : ∀ {A : Around} {E : Value → Shared → Prop} {s : Shared} {k k' : κ} {b b' : Addr} {Q : Bool → Shared → Prop}, A.units + 8 < cLine → is s.heap k b → is s.heap k' b' → Q (decide (k = k')) s → wpAny (model P w) A (eqBool (.ref b) (.ref b')) Q E s
  qt : ∀ {A : Around} {E : Value → Shared → Prop} {s : Shared} {k : κ} {b : Addr} {Q : Bool → Shared → Prop}, is s.heap k b → Q true s → wpAny (model P w) A (eqIsQuiet 8 (.ref b)) Q E s
  nocl : ∀ {A : Around} {E : Value → Shared → Prop} {s : Shared} {k : κ} {b : Addr} {Q : Bool → Shared → Prop}, is s.heap k b → Q false s → wpAny (model P w) A (ofAClassStatement 8 (.ref b)) Q E s
  byv : ∀ {A : Around} {E : Value → Shared → Prop} {s : Shared} {k : κ} {b : Addr} {Q : Bool → Shared → Prop}, is s.heap k b → Q true s → wpAny (model P w) A (hashByValue 8 (.ref b)) Q E s
abbrev prb (m : Nat) (h : Int) (c : Nat) : SetTable.Probe := nth m (runAt m (SetTable.bits h % (m + 1)) (SetTable.bits h)) c
section
variable {P : Program} {w : World} {κ : Type} [DecidableEq κ] (Y : SKey P w κ) {A : Around} {E : Value → Shared → Prop} {s : Shared}
theorem SKey.seen {k : κ} {b : Addr} {Q : Bool → Shared → Prop} (hk : Y.is s.heap k b) {ys : List Value} (hy : ∀ y ∈ ys, ∃ k' c, y = Value.ref c ∧ Y.is s.heap k' c) (q : Q false s) : wpAny (model P w) A (searchCouldBeSeen (.ref b) ys) Q E s := by
  unfold searchCouldBeSeen
  refine wpAny_bind ?_
  refine wpAny_forIn_list _ (fun left r s' => r.1 = none ∧ s' = s ∧ ∀ y ∈ left, ∃ k' c, y = Value.ref c ∧ Y.is s.heap k' c) _ ?_ ?_ _ _ ⟨rfl, rfl, hy⟩
  · rintro v left r s' ⟨_, rfl, all⟩
    obtain ⟨k', c, rfl, hc⟩ := all v (by simp)
    have left' : ∀ y ∈ left, ∃ k' c, y = Value.ref c ∧ Y.is s'.heap k' c := fun u hu => all u (by simp [hu])
    dsimp only
    by_cases same : (b == c || (carriedByValue (.ref b) && carriedByValue (.ref c))) = true
    · exact wp_if_pos same (wpAny_pure ⟨rfl, rfl, left'⟩)
    · refine wp_if_neg same (wpAny_bind (Y.qt hk ?_))
      simp only [Bool.not_true, if_false, Bool.false_eq_true]
      refine wpAny_bind (Y.qt hc ?_)
      simp only [Bool.not_true, if_false, Bool.false_eq_true]
      refine wpAny_bind (Y.nocl hk ?_)
      simp only [if_false, Bool.false_eq_true]
      refine wpAny_bind (Y.nocl hc ?_)
      simp only [if_false, Bool.false_eq_true]
      exact wpAny_pure ⟨rfl, rfl, left'⟩
  · rintro ⟨r1, r2⟩ s' ⟨e, rfl, _⟩
    simp only at e
    subst e
    exact wpAny_pure q
/-- what the set's rows tell of it -/
def rowsQ (L : List (Addr × κ)) : List (Int × Value) := L.map fun q => (Y.hf q.2, Value.ref q.1)
structure QSet (h : Heap) (a : Addr) (L : List (Addr × κ)) (es : Array (Int × Value)) (ep : Nat) (t : SetTable) : Prop where
  obj : ∃ o, h.get? a = some o ∧ o.ExactSet ∧ o.data = .set es ep t
  row : es.toList = rowsQ Y L
  tb : TabOk t (L.map fun q => Y.hf q.2)
  nod : (L.map (·.2)).Nodup
  key : ∀ q ∈ L, Y.is h q.2 q.1
  pln : t.plain = true
  ldd : w.params.followText "set-order" = true ∨ t.led = true
  rom : L.length * 5 < t.mask * 3
  fw : L.length < 64
variable {Y}
variable {a : Addr} {L : List (Addr × κ)} {es : Array (Int × Value)} {ep : Nat} {t : SetTable}
theorem rows_len {es : Array (Int × Value)} {L : List (Addr × κ)} (r : es.toList = rowsQ Y L) : es.size = L.length := by
  have := congrArg List.length r
  simpa [rowsQ] using this
theorem fits_of (hs : t.place.size = es.size) (hd : t.dummies = #[]) (hl : es.size ≤ t.mask) : t.fits es.size = true := by
  unfold SetTable.fits SetTable.fill
  rw [hd, Bool.and_eq_true, beq_iff_eq, decide_eq_true_eq]
  exact ⟨hs, by show t.place.size + 0 ≤ _; omega⟩
theorem QSet.place (R : QSet Y s.heap a L es ep t) : t.place.size = L.length := by
  have := R.tb.sz
  simpa using this
theorem QSet.fits (R : QSet Y s.heap a L es ep t) : t.fits es.size = true := by
  have h1 := R.place
  have h2 := rows_len R.row
  have h3 := R.rom
  exact fits_of (by omega) R.tb.dm (by omega)
theorem QSet.at (R : QSet Y s.heap a L es ep t) {i : Nat} {q : Addr × κ} (h : L[i]? = some q) : es[i]? = some (Y.hf q.2, Value.ref q.1) := by
  rw [← Array.getElem?_toList, R.row, rowsQ, List.getElem?_map, h]; rfl
theorem prb_clean (m : Nat) : ∀ (n : Nat) (p : SetTable.Probe), p.dummy = none → (nth m p n).dummy = none
  | 0, _, h => h
  | n + 1, p, h => prb_clean m n (adv m p) (by unfold adv; split <;> exact h)
/-- the search, from the c-th step on -/
theorem QSet.seek (R : QSet Y s.heap a L es ep t) {x : Addr} {k : κ} (hx : Y.is s.heap k x) (hu : A.units + 8 < cLine) {m : Nat} (mf : m < 10 * SetTable.turns t.mask)
    (mo : way t.mask (Y.hf k) m ∉ t.place.toList) (mb : ∀ c, c < m → way t.mask (Y.hf k) c ∈ t.place.toList) {Q : SetFound → Shared → Prop}
    (yes : k ∈ L.map (·.2) → Q (.there none) s) (no : k ∉ L.map (·.2) → Q (.free (way t.mask (Y.hf k) m) false) s) :
    ∀ (f c : Nat) (st : Option SetTable.Probe), st.getD (t.probeStart (Y.hf k)) = prb t.mask (Y.hf k) c → c ≤ m → m - c < f →
      (∀ (i : Nat) q, L[i]? = some q → q.2 = k → ∃ c', c ≤ c' ∧ c' < m ∧ t.place.toList[i]? = some (way t.mask (Y.hf k) c')) →
      wpAny (model P w) A (setSearchFrom a (.ref x) (Y.hf k) true f st) Q E s
  | 0, c, st, _, _, hf, _ => absurd hf (by omega)
  | f + 1, c, st, hst, hc, hf, ahead => by
    obtain ⟨o, ho, hex, hd⟩ := R.obj
    have odd : ¬ t.gaveWay = true := by
      unfold SetTable.gaveWay
      rw [mask_odd R.tb.mok]; decide
    rw [setSearchFrom_succ]
    refine wpAny_bind (wpAny_setState_of ho hd R.fits ?_)
    dsimp only
    refine wp_if_neg odd ?_
    try refine wpAny_bind (wpAny_pure ?_)
    have go_on : ∀ q, nth t.mask (prb t.mask (Y.hf k) c) q = prb t.mask (Y.hf k) (c + q) := fun q => (nth_add t.mask c _ q).symm
    have jj : ∀ q, (nth t.mask (prb t.mask (Y.hf k) c) q).j = way t.mask (Y.hf k) (c + q) := fun q => congrArg SetTable.Probe.j (go_on q)
    have sp := go_spec t R.tb.ris R.tb.dm (fun i => (es[i]?.map (·.1)).getD 0) (Y.hf k) (10 * SetTable.turns t.mask) (m - c) (prb t.mask (Y.hf k) c) (prb_clean _ _ _ rfl) (by omega)
      (fun q hq => by rw [jj]; exact mb (c + q) (by omega)) (by rw [jj, show c + (m - c) = m by omega]; exact mo)
    have hat : ∀ (i : Nat) q, L[i]? = some q → (fun i => (es[i]?.map (·.1)).getD 0) i = Y.hf q.2 := fun i q hq => by
      show (es[i]?.map (·.1)).getD 0 = _
      rw [R.at hq]; rfl
    rcases sp with ⟨q, i, hq, hi, hh, hno, hpr⟩ | ⟨hno, hpr⟩
    · have e1 : t.probe (fun i => (es[i]?.map (·.1)).getD 0) (Y.hf k) (st.getD (t.probeStart (Y.hf k))) = some (.candidate (way t.mask (Y.hf k) (c + q)) i (prb t.mask (Y.hf k) (c + (q + 1)))) := by
        rw [hst, ← jj, ← go_on]; exact hpr
      rw [e1]
      dsimp only
      rw [jj] at hi
      have il : i < L.length := by
        have h1 := (List.getElem?_eq_some_iff.mp hi).1
        have h2 := R.place
        rw [Array.length_toList] at h1
        omega
      obtain ⟨y, hy⟩ : ∃ y, L[i]? = some y := ⟨_, List.getElem?_eq_getElem il⟩
      have ym := List.mem_of_getElem? hy
      have live : t.slot (way t.mask (Y.hf k) (c + q)) = .live i := slot_live R.tb.ris hi
      have rest : wpAny (model P w) A (searchRest a (.ref x) (Y.hf k) true f es t (way t.mask (Y.hf k) (c + q)) i (prb t.mask (Y.hf k) (c + (q + 1)))) Q E s := by
        unfold searchRest
        rw [R.at hy]
        dsimp only
        refine wpAny_bind (wpAny_holding (Y.eqb hu (R.key y ym) hx ?_))
        refine wpAny_bind (wpAny_setState_of ho hd R.fits ?_)
        dsimp only
        by_cases same : y.2 = k
        · exact wp_if_pos (by simp [same]) (wpAny_pure (yes (List.mem_map.mpr ⟨y, ym, same⟩)))
        · refine wp_if_neg (by simp [same]) ?_
          try refine wpAny_bind (wpAny_pure ?_)
          rw [sameMem]
          dsimp only
          simp only [live, R.at hy, if_true]
          refine wpAny_bind (wpAny_isSame_ref_self (wpAny_bind (wpAny_pure ?_)))
          simp only [if_true]
          refine wp_if_neg (by simp [same]) ?_
          refine QSet.seek R hx hu mf mo mb yes no f (c + (q + 1)) _ rfl (by omega) (by omega) fun i0 y0 h0 ek => ?_
          obtain ⟨c', z1, z2, z3⟩ := ahead i0 y0 h0 ek
          refine ⟨c', ?_, z2, z3⟩
          rcases Nat.lt_trichotomy c' (c + q) with u | u | u
          · exact (hno (c' - c) i0 (by omega) (by rw [jj, show c + (c' - c) = c' by omega]; exact z3) ((hat i0 y0 h0).trans (by rw [ek]))).elim
          · rw [u] at z3
            have s0 := slot_live R.tb.ris z3
            rw [live] at s0
            injection s0 with s0
            rw [← s0, hy] at h0
            cases h0
            exact absurd ek same
          · omega
      by_cases ll : t.led = true
      · refine wp_if_neg (by simp [ll]) ?_
        try refine wpAny_bind (wpAny_pure ?_)
        exact rest
      · refine wp_if_pos (by simp [ll]) (wpAny_bind (Y.seen hx (fun v hv => ?_) ?_))
        · obtain ⟨e, he, ee⟩ := List.mem_map.mp hv
          have h1 : e ∈ es := by have : e ∈ es ∧ e.1 = Y.hf k := by simpa using he
                                 exact this.1
          have h2 : e ∈ es.toList := by simpa using h1
          rw [R.row] at h2
          obtain ⟨y2, m2, e2⟩ := List.mem_map.mp h2
          exact ⟨y2.2, y2.1, by rw [← ee, ← e2], R.key y2 m2⟩
        · refine wp_if_neg (by decide) ?_
          try refine wpAny_bind (wpAny_pure ?_)
          exact rest
    · have e1 : t.probe (fun i => (es[i]?.map (·.1)).getD 0) (Y.hf k) (st.getD (t.probeStart (Y.hf k))) = some (.empty (way t.mask (Y.hf k) m) none) := by
        have e2 : way t.mask (Y.hf k) m = (nth t.mask (prb t.mask (Y.hf k) c) (m - c)).j := by rw [jj, show c + (m - c) = m by omega]
        rw [hst, e2]; exact hpr
      rw [e1]
      dsimp only
      refine wpAny_pure (no fun mem => ?_)
      obtain ⟨y0, m0, ek⟩ := List.mem_map.mp mem
      obtain ⟨i0, h0⟩ := List.mem_iff_getElem?.mp m0
      obtain ⟨c', z1, z2, z3⟩ := ahead i0 y0 h0 ek
      exact hno (c' - c) i0 (by omega) (by rw [jj, show c + (c' - c) = c' by omega]; exact z3) ((hat i0 y0 h0).trans (by rw [ek]))
theorem QSet.find (R : QSet Y s.heap a L es ep t) {x : Addr} {k : κ} (hx : Y.is s.heap k x) (hu : A.units + 8 < cLine) {Q : SetFound → Shared → Prop} (yes : k ∈ L.map (·.2) → Q (.there none) s)
    (no : ∀ m, k ∉ L.map (·.2) → way t.mask (Y.hf k) m ∉ t.place.toList → (∀ c, c < m → way t.mask (Y.hf k) c ∈ t.place.toList) → Q (.free (way t.mask (Y.hf k) m) false) s) :
    wpAny (model P w) A (setSearch a (.ref x) (Y.hf k) true) Q E s := by
  have rm := R.rom
  obtain ⟨m, mf, mo, mb⟩ := R.tb.first (by rw [List.length_map]; omega) (Y.hf k)
  have small : m < 100000 := by
    have : 10 * SetTable.turns t.mask ≤ 1420 := by
      unfold SetTable.turns
      rcases R.tb.mok with e | e | e <;> omega
    omega
  unfold setSearch
  refine R.seek hx hu mf mo mb yes (fun z => no m z mo mb) 100000 0 none rfl (by omega) (by omega) fun i q hq ek => ?_
  have h1 : (L.map fun q => Y.hf q.2)[i]? = some (Y.hf k) := by rw [List.getElem?_map, hq, ← ek]; rfl
  have h2 : i < t.place.toList.length := by
    have := (List.getElem?_eq_some_iff.mp hq).1
    have := R.place
    rw [Array.length_toList]; omega
  have h3 := List.getElem?_eq_getElem h2
  obtain ⟨c, hc, e⟩ := R.tb.before mo h1 h3
  exact ⟨c, by omega, hc, by rw [h3, e]⟩
/-! ### a key put in -/
theorem SKey.same {h h' : Heap} {k : κ} {b : Addr} {o : Obj} (hb : Y.is h k b) (ho : h.get? a = some o) (hd : o.data = .set es ep t) (sb : Heap.SameBut a h h') : Y.is h' k b :=
  Y.stay hb fun c o' vs n hc e => (sb.2 c fun z => by subst z; rw [ho] at hc; cases hc; rw [hd] at e; cases e).trans hc
theorem ins_perm {α : Type} (L : List α) (p : Nat) (x : α) : (L.take p ++ x :: L.drop p).Perm (x :: L) := by
  have := List.perm_middle (a := x) (l₁ := L.take p) (l₂ := L.drop p)
  rwa [List.take_append_drop] at this
/-- rows taken in another order -/
theorem rows_order {es : Array (Int × Value)} (order : Array Nat) (r : es.toList = rowsQ Y L) (hp : order.toList.Perm (List.range L.length)) :
    ∃ M : List (Addr × κ), (order.filterMap (es[·]?)).toList = rowsQ Y M ∧ M.Perm L ∧ (M.map fun q => Y.hf q.2) = order.toList.map fun i => (es.map (·.1)).getD i 0 := by
  have ent : ∀ (i : Nat) (q : Addr × κ), L[i]? = some q → es[i]? = some (Y.hf q.2, Value.ref q.1) := fun i q h => by
    rw [← Array.getElem?_toList, r, rowsQ, List.getElem?_map, h]; rfl
  have one : ∀ l : List Nat, (∀ i ∈ l, i < L.length) → l.filterMap (fun i => es[i]?) = rowsQ Y (l.filterMap fun i => L[i]?) ∧ ((l.filterMap fun i => L[i]?).map fun q => Y.hf q.2) = l.map fun i => (es.map (·.1)).getD i 0 := fun l => by
    induction l with
    | nil => exact fun _ => ⟨rfl, rfl⟩
    | cons i l ih =>
      intro hl
      have hi := hl i (by simp)
      obtain ⟨h1, h2⟩ := ih fun j hj => hl j (by simp [hj])
      have hL := List.getElem?_eq_getElem hi
      have hE := ent i _ hL
      rw [List.filterMap_cons_some hE, List.filterMap_cons_some hL, h1, List.map_cons, List.map_cons, h2]
      refine ⟨rfl, ?_⟩
      congr 1
      have : (es.map (·.1))[i]? = some (Y.hf (L[i]).2) := by rw [Array.getElem?_map, hE]; rfl
      simp [Array.getD_eq_getD_getElem?, this]
  obtain ⟨h1, h2⟩ := one order.toList fun i hi => List.mem_range.mp (hp.mem_iff.mp hi)
  refine ⟨order.toList.filterMap fun i => L[i]?, by first | (rw [Array.toList_filterMap]; exact h1) | simpa using h1, ?_, h2⟩
  have all : (List.range L.length).filterMap (fun i => L[i]?) = L := by
    have go : ∀ n, n ≤ L.length → (List.range n).filterMap (fun i => L[i]?) = L.take n := fun n => by
      induction n with
      | zero => exact fun _ => by simp
      | succ n ih =>
        intro hn
        have hL := List.getElem?_eq_getElem (show n < L.length by omega)
        rw [List.range_succ, List.filterMap_append, ih (by omega), List.take_add_one, hL, List.filterMap_cons_some hL]; rfl
    rw [go _ (Nat.le_refl _), List.take_length]
  have := hp.filterMap fun i => L[i]?
  rwa [all] at this
/-- the table made larger -/
theorem grow_at {o : Obj} (ho : s.heap.get? a = some o) (hex : o.ExactSet) (hd : o.data = .set es ep t) (r : es.toList = rowsQ Y L) (hsz : t.place.size = es.size) (dm : t.dummies = #[]) (hm : es.size ≤ t.mask) (nd : (L.map (·.2)).Nodup)
    (ks : ∀ q ∈ L, Y.is s.heap q.2 q.1) (pl : t.plain = true) (ld : w.params.followText "set-order" = true ∨ t.led = true) (few : L.length < 64) {wanted M : Nat} (hw : SetTable.sizeAbove wanted - 1 = M) (hM : MaskOk M) (h128 : SetTable.sizeAbove wanted ≤ 128) (hr : L.length * 5 < M * 3)
    {Q : Unit → Shared → Prop} (q : ∀ h' L' es' ep' t', Heap.SameBut a s.heap h' → QSet Y h' a L' es' ep' t' → L'.Perm L → Q () { s with heap := h' }) : wpAny (model P w) A (setRelay a wanted) Q E s := by
  have sl := rows_len r
  obtain ⟨t', order, e, hp, T, em, el, epl, ed⟩ := relaid_ok t (hs := es.map (·.1)) (wanted := wanted) hw hM (by rw [Array.size_map]; omega)
  rw [Array.size_map, sl] at hp
  obtain ⟨L2, r1, r2, r3⟩ := rows_order order r hp
  rw [← r3] at T
  have sz2 : (order.filterMap (es[·]?)).size = es.size := by rw [rows_len r1, r2.length_eq, sl]
  rw [setRelay_eq]
  refine wpAny_bind (wpAny_setState_of ho hd (fits_of hsz dm hm) ?_)
  dsimp only
  refine wp_if_neg (by rw [sizeLine_eq]; omega) ?_
  try refine wpAny_bind (wpAny_pure ?_)
  rw [e]
  dsimp only
  refine wpAny_bind ?_
  refine wp_if_neg (by rw [sz2]; simp) ?_
  try refine wpAny_bind (wpAny_pure ?_)
  refine wpAny_pure ?_
  dsimp only
  refine wpAny_storeSet_of ho hd ?_ (by rw [sz2, sl, sizeLine_eq]; omega)
  have sb : Heap.SameBut a s.heap (s.heap.update a (Obj.putSet (order.filterMap (es[·]?)) t')) := Heap.SameBut.update ..
  exact q _ L2 _ (ep + 1) t' sb ⟨⟨_, store_at ho hd, ⟨hex.1, hex.2.1, hex.2.2⟩, rfl⟩, r1, T, (r2.map (·.2)).nodup_iff.mpr nd, fun y hy => SKey.same (ks y (r2.mem_iff.mp hy)) ho hd sb, by rw [epl]; exact pl, by rw [el]; exact ld, by rw [r2.length_eq, em]; exact hr, by rw [r2.length_eq]; exact few⟩ r2
theorem QSet.add (R : QSet Y s.heap a L es ep t) {x : Addr} {k : κ} (hx : Y.is s.heap k x) (hu : A.units + 8 < cLine) (few : L.length + 1 < 64) {Q : Bool → Shared → Prop}
    (q : ∀ b h' L' es' ep' t', Heap.SameBut a s.heap h' → QSet Y h' a L' es' ep' t' → (k ∈ L.map (·.2) → L' = L) → (k ∉ L.map (·.2) → L'.Perm ((x, k) :: L)) → Q b { s with heap := h' }) :
    wpAny (model P w) A (setAddHashed a (.ref x) (Y.hf k)) Q E s := by
  obtain ⟨o, ho, hex, hd⟩ := R.obj
  have sl := rows_len R.row
  have rm := R.rom
  unfold setAddHashed
  refine wpAny_holding ?_
  rw [show (100000 : Nat) = 99999 + 1 from rfl, setAddHashedIn_succ]
  refine wpAny_bind (wpAny_setState_of ho hd R.fits ?_)
  dsimp only
  refine wp_if_neg (by simp [byScan, Value.scannable]) ?_
  try refine wpAny_bind (wpAny_pure ?_)
  refine wpAny_bind (R.find hx hu (fun mem => ?_) fun m mem mo mb => ?_)
  · dsimp only
    exact wpAny_pure (q false s.heap L es ep t (Heap.SameBut.refl a s.heap) R (fun _ => rfl) fun z => absurd mem z)
  dsimp only
  refine wpAny_bind (wpAny_setState_of ho hd R.fits ?_)
  dsimp only
  obtain ⟨q1, q2, q3, q4, q5, q6, q7, q8, q9⟩ := R.tb.put mo mb
  have pl1 : (t.put (way t.mask (Y.hf k) m)).1.plain = true := by rw [q6]; exact R.pln
  generalize hpt : t.put (way t.mask (Y.hf k) m) = pt at q1 q3 q4 q5 q6 q7 q8 q9 pl1 ⊢
  obtain ⟨t1, p⟩ := pt
  dsimp only at q1 q3 q4 q5 q6 q7 q8 q9 pl1 ⊢
  subst q1
  first
    | (refine wpAny_bind ?_; refine wp_if_pos pl1 ?_; refine Y.byv hx ?_)
    | refine wp_if_pos pl1 (wpAny_bind (Y.byv hx ?_))
  simp only [if_true]
  generalize SetTable.below t.place (way t.mask (Y.hf k) m) = p at q2 q3 ⊢
  have r1 : (SetTable.insertAt es p (Y.hf k, Value.ref x)).toList = rowsQ Y (L.take p ++ (x, k) :: L.drop p) := by
    rw [SetTable.toList_insertAt, R.row]
    simp only [rowsQ, List.map_append, List.map_cons, List.map_take, List.map_drop]
  have pm := ins_perm L p (x, k)
  have hs1 : (L.take p ++ (x, k) :: L.drop p).map (fun q => Y.hf q.2) = (L.map fun q => Y.hf q.2).take p ++ Y.hf k :: (L.map fun q => Y.hf q.2).drop p := by
    simp only [List.map_append, List.map_cons, List.map_take, List.map_drop]
  rw [← hs1] at q3
  have nd1 : ((L.take p ++ (x, k) :: L.drop p).map (·.2)).Nodup := (pm.map (·.2)).nodup_iff.mpr (List.nodup_cons.mpr ⟨mem, R.nod⟩)
  generalize SetTable.insertAt es p (Y.hf k, Value.ref x) = es1 at r1 ⊢
  generalize L.take p ++ (x, k) :: L.drop p = L1 at pm q3 nd1 r1
  have l1 : L1.length = L.length + 1 := by rw [pm.length_eq]; rfl
  have z1 := rows_len r1
  refine wpAny_bind (wpAny_storeSet_of ho hd ?_ (by rw [z1, sizeLine_eq]; omega))
  have sb : Heap.SameBut a s.heap (s.heap.update a (Obj.putSet es1 t1)) := Heap.SameBut.update ..
  have ho1 := store_at (es' := es1) (t' := t1) ho hd
  generalize s.heap.update a (Obj.putSet es1 t1) = h1 at sb ho1 ⊢
  have ks1 : ∀ y ∈ L1, Y.is h1 y.2 y.1 := fun y hy => by
    rcases List.mem_cons.mp (pm.mem_iff.mp hy) with e | hy
    · rw [e]; exact SKey.same hx ho hd sb
    · exact SKey.same (R.key y hy) ho hd sb
  have ld1 : w.params.followText "set-order" = true ∨ t1.led = true := by rw [q5]; exact R.ldd
  have p1 : t1.place.size = es1.size := by
    have := q3.sz
    rw [List.length_map] at this
    omega
  have fe : t1.tooFull = decide ((L.length + 1) * 5 ≥ t1.mask * 3) := by
    unfold SetTable.tooFull
    rw [q9, List.length_map]
  by_cases hf : t1.tooFull = true
  · first
      | (refine wpAny_bind ?_; refine wp_if_pos (by simp [hf]) ?_)
      | (refine wp_if_pos (by simp [hf]) ?_; refine wpAny_bind ?_)
    have full : (L.length + 1) * 5 ≥ t1.mask * 3 := by rw [fe] at hf; exact of_decide_eq_true hf
    rw [sl]
    have two : (t.mask = 7 ∧ L.length = 4) ∨ (t.mask = 31 ∧ L.length = 18) := by
      rcases R.tb.mok with e | e | e <;> rw [q4, e] at full <;> rw [e] at rm <;> omega
    have go : ∀ M, SetTable.sizeAbove (SetTable.grown (L.length + 1)) - 1 = M → MaskOk M → SetTable.sizeAbove (SetTable.grown (L.length + 1)) ≤ 128 → (L.length + 1) * 5 < M * 3 →
        wpAny (model P w) A (setRelay a (SetTable.grown (L.length + 1))) (fun _ s' => wpAny (model P w) A (pure true) Q E s') E { s with heap := h1 } := fun M g1 g2 g3 g4 =>
      grow_at (s := { s with heap := h1 }) ho1 ⟨hex.1, hex.2.1, hex.2.2⟩ rfl r1 p1 q3.dm (by rw [q4]; omega) nd1 ks1 pl1 ld1 (by omega) g1 g2 g3 (by omega) fun h2 L2 es2 ep2 t2 sb2 R2 pm2 =>
        wpAny_pure (q true h2 L2 es2 ep2 t2 (sb.trans sb2) R2 (fun z => absurd z mem) fun _ => pm2.trans pm)
    rcases two with ⟨_, e⟩ | ⟨_, e⟩
    · exact go 31 (by rw [e, size_20]) (.inr (.inl rfl)) (by rw [e, size_20]; decide) (by omega)
    · exact go 127 (by rw [e, size_76]) (.inr (.inr rfl)) (by rw [e, size_76]; decide) (by omega)
  · first
      | refine wp_if_neg (by simp [hf]) ?_
      | (refine wpAny_bind ?_; refine wp_if_neg (by simp [hf]) ?_; refine wpAny_pure ?_)
    refine wpAny_pure (q true h1 L1 es1 (ep + 1) t1 sb ⟨⟨_, ho1, ⟨hex.1, hex.2.1, hex.2.2⟩, rfl⟩, r1, q3, nd1, ks1, pl1, ld1, ?_, by omega⟩ (fun z => absurd z mem) fun _ => pm)
    have : ¬ (L.length + 1) * 5 ≥ t1.mask * 3 := by rw [fe] at hf; exact fun z => hf (decide_eq_true z)
    omega
end
end Ly

set_option maxHeartbeats 3200000
namespace Ly
open PySem PySem.Spec PyProof.Rows L2
/-! ### set(xs) -/
/-- what the set holds of the first i keys -/
structure Took {κ : Type} (ks : List (Addr × κ)) (i : Nat) (L : List (Addr × κ)) : Prop where
  from_ : ∀ q ∈ L, q ∈ ks.take i
  each : ∀ q ∈ ks.take i, q.2 ∈ L.map (·.2)
  le : L.length ≤ i
section
variable {κ : Type} {ks L L' : List (Addr × κ)} {i : Nat} {x : Addr × κ}
theorem Took.old (g : Took ks i L) (h : ks[i]? = some x) (hm : x.2 ∈ L.map (·.2)) : Took ks (i + 1) L := by
  have e : ks.take (i + 1) = ks.take i ++ [x] := by rw [List.take_add_one, h]; rfl
  refine ⟨fun q hq => by rw [e]; exact List.mem_append_left _ (g.from_ q hq), fun q hq => ?_, by have := g.le; omega⟩
  rw [e] at hq
  rcases List.mem_append.mp hq with z | z
  · exact g.each q z
  · have : q = x := by simpa using z
    rw [this]; exact hm
theorem Took.new (g : Took ks i L) (h : ks[i]? = some x) (pm : L'.Perm (x :: L)) : Took ks (i + 1) L' := by
  have e : ks.take (i + 1) = ks.take i ++ [x] := by rw [List.take_add_one, h]; rfl
  refine ⟨fun q hq => ?_, fun q hq => ?_, by rw [pm.length_eq]; have := g.le; simp; omega⟩
  · rw [e]
    rcases List.mem_cons.mp (pm.mem_iff.mp hq) with z | z
    · rw [z]; simp
    · exact List.mem_append_left _ (g.from_ q z)
  · rw [(pm.map (·.2)).mem_iff, List.map_cons]
    rw [e] at hq
    rcases List.mem_append.mp hq with z | z
    · exact List.mem_cons_of_mem _ (g.each q z)
    · have : q = x := by simpa using z
      rw [this]; exact List.mem_cons_self
end
section
variable {P : Program} {w : World} {κ : Type} [DecidableEq κ] {Y : SKey P w κ} {A : Around} {E : Value → Shared → Prop} {s : Shared}
abbrev newSet (w : World) : Obj := { cls := .type "set", dict := none, data := .set #[] 0 (.fresh 0 0 (!w.params.followText "set-order")) }
theorem SKey.kept {h h' : Heap} {k : κ} {b : Addr} (x : Y.is h k b) (e : ∀ c o, h.get? c = some o → h'.get? c = some o) : Y.is h' k b := Y.stay x fun c o _ _ q _ => e c o q
theorem QSet.moved {h h' : Heap} {a : Addr} {L : List (Addr × κ)} {es : Array (Int × Value)} {ep : Nat} {t : SetTable} (R : QSet Y h a L es ep t) (ha : ∀ o, h.get? a = some o → h'.get? a = some o) (hk : ∀ q ∈ L, Y.is h' q.2 q.1) : QSet Y h' a L es ep t := by
  obtain ⟨o, ho, r⟩ := R.obj
  exact ⟨⟨o, ha o ho, r⟩, R.row, R.tb, R.nod, hk, R.pln, R.ldd, R.rom, R.fw⟩
theorem QSet.empty {h : Heap} {a : Addr} (ho : h.get? a = some (newSet w)) : QSet Y h a [] #[] 0 (.fresh 0 0 (!w.params.followText "set-order")) where
  obj := ⟨_, ho, ⟨rfl, rfl, rfl⟩, rfl⟩
  row := rfl
  tb := (setTR_fresh (P := P) ho).tab
  nod := .nil
  key := fun _ hq => nomatch hq
  pln := rfl
  ldd := (setTR_fresh (P := P) ho).led
  rom := by show 0 * 5 < 7 * 3; decide
  fw := by show 0 < 64; decide
/-- the loop of set.update -/
theorem update_loop {J : Addr} {fp wr : List Addr} {G : Array GenState → Array GenState → Prop} {n : Nat} {Pv : Nat → Value → Prop} {St : Nat → Shared → Prop} {R : Result → Shared → Prop}
    (W : WalksS P w A.in1 J fp wr G n Pv St) (S : Addr) (Sf : S ∉ fp) (ks : List (Addr × κ)) (en : n = ks.length) (few : ks.length < 64) (val : ∀ i v, Pv i v → ∃ q, ks[i]? = some q ∧ v = .ref q.1)
    (g0 : Heap) (hk : ∀ q ∈ ks, Y.is g0 q.2 q.1) (S0 : g0.get? S = none) (w0 : ∀ b ∈ wr, g0.get? b = none) (hu : A.in1.units + 8 < cLine) :
    ∀ (d i : Nat) (s : Shared), n - i = d → i ≤ n → St i s → (∀ b o, g0.get? b = some o → s.heap.get? b = some o) → (∃ L es ep t, QSet Y s.heap S L es ep t ∧ Took ks i L) →
      (∀ s' L es ep t, Moved (S :: wr) G s s' → QSet Y s'.heap S L es ep t → Took ks n L → (∀ b o, g0.get? b = some o → s'.heap.get? b = some o) → R (.ok (.ret .none)) s') →
      codeAny (model P w) A (.builtin "set.update.loop" ⟨[.ref S, .ref J], []⟩) R s := by
  have Sw : S ∉ wr := fun z => Sf (W.sub _ z)
  have wider : ∀ b ∈ wr, b ∈ S :: wr := fun b hb => List.mem_cons_of_mem _ hb
  have old : ∀ {s s' : Shared}, Moved wr G s s' → (∀ b o, g0.get? b = some o → s.heap.get? b = some o) → ∀ b o, g0.get? b = some o → s'.heap.get? b = some o := fun mv kp b o e =>
    mv.heap b o (fun hb => by rw [w0 b hb] at e; cases e) (kp b o e)
  intro d
  induction d with
  | zero =>
    rintro i s hd hi hst kp ⟨L, es, ep, t, RS, g⟩ hR
    have ei : i = n := by omega
    subst ei
    refine codeAny_builtin F.entry_set_update_loop ?_
    rw [Around.under_plainId F.plain_set_update_loop _]
    show wpAny _ A.in1 (pyNext (.ref J) >>= _) _ _ s
    refine wpAny_bind (W.done s _ _ hst fun s' mv => ?_)
    have kp' := old mv kp
    exact wpAny_pure (hR s' L es ep t (mv.mono wider) (RS.moved (fun o e => mv.heap S o Sw e) fun q hq => SKey.kept (hk q (List.mem_of_mem_take (g.from_ q hq))) kp') g kp')
  | succ d ih =>
    rintro i s hd hi hst kp ⟨L, es, ep, t, RS, g⟩ hR
    have lt : i < n := by omega
    refine codeAny_builtin F.entry_set_update_loop ?_
    rw [Around.under_plainId F.plain_set_update_loop _]
    show wpAny _ A.in1 (pyNext (.ref J) >>= _) _ _ s
    refine wpAny_bind (W.item i s _ _ lt hst fun v s' hv hst' mv => ?_)
    obtain ⟨q, hq, rfl⟩ := val i v hv
    have kp' := old mv kp
    have RS' : QSet Y s'.heap S L es ep t := RS.moved (fun o e => mv.heap S o Sw e) fun y hy => SKey.kept (hk y (List.mem_of_mem_take (g.from_ y hy))) kp'
    have hx : Y.is s'.heap q.2 q.1 := SKey.kept (hk q (List.mem_of_getElem? hq)) kp'
    show wpAny _ A.in1 (holding [Value.ref q.1] (setAdd S (.ref q.1)) >>= _) _ _ s'
    refine wpAny_bind (wpAny_holding ?_)
    unfold setAdd
    refine wpAny_holding (wpAny_bind (Y.hsh hu hx ?_))
    refine QSet.add (s := { s' with toks := s'.toks + Y.dr q.2 }) RS' hx hu (by have := g.le; omega) fun b h' L' es' ep' t' sb R2 c1 c2 => ?_
    have g' : Took ks (i + 1) L' := by
      rcases Classical.em (q.2 ∈ L.map (·.2)) with c | c
      · rw [c1 c]; exact g.old hq c
      · exact g.new hq (c2 c)
    have kp2 : ∀ b o, g0.get? b = some o → h'.get? b = some o := fun b o e => (sb.2 b (fun z => by rw [z, S0] at e; cases e)).trans (kp' b o e)
    refine wpAny_pure ⟨plainId_quiet F.plain_set_update_loop _, ih (i + 1) _ (by omega) lt (W.frame _ s' _ _ hst' (Nat.le_add_right _ _) fun b hb o e => ?_) kp2 ⟨L', es', ep', t', R2, g'⟩ fun s2 L2 es2 ep2 t2 mv2 R3 g2 kp3 => ?_⟩
    · rw [sb.2 b (fun z : b = S => Sf (z ▸ hb))]; exact e
    · refine hR s2 L2 es2 ep2 t2 (Moved.trans W.gtrans ((mv.mono wider).then_heap (Nat.le_add_right _ _) fun b o hb e => ?_) mv2) R3 g2 kp3
      rw [sb.2 b (fun z : b = S => hb (z ▸ List.mem_cons_self))]; exact e
theorem call_setQ {l : Addr} {items : Array Value} (ks : List (Addr × κ)) {Q : Value → Shared → Prop} (hh : A.handled = none) (hl : s.heap.IsList l items) (hit : items.toList = ks.map fun q => Value.ref q.1) (hk : ∀ q ∈ ks, Y.is s.heap q.2 q.1) (few : ks.length < 64) (hu : A.units + 16 < cLine)
    (fin : ∀ (h' : Heap) (tk : Nat) L es ep t, QSet Y h' s.heap.objs.size L es ep t → Took ks ks.length L → (∀ b o, s.heap.get? b = some o → h'.get? b = some o) → Q (.ref s.heap.objs.size) { s with heap := h', toks := tk }) :
    wpAny (model P w) A (call (.type "set") [.ref l]) Q E s := by
  have isz : items.size = ks.length := by
    have := congrArg List.length hit
    simpa using this
  obtain ⟨c, tl, hmro⟩ := F.called_set.mro
  have hmade := F.called_set.made
  have hsub := F.called_set.sub
  refine wpAny_call (codeAny_of_tree ?_)
  show wpAny _ _ (callAny (.type "set") _) _ _ _
  refine wpAny_pure ⟨Code.quiet_builtin _ (by decide +kernel), codeAny_builtin F.entry_type_call ?_⟩
  rw [Around.under_plain (weight_type_call_type "set" [.ref l] []) rfl]
  have f1 := F.called_set.notType
  have f2 := F.called_set.canCreate
  have f3 := F.typeCall_set_1 (.ref l)
  repeat (any_goals (first | assumption | wp_step))
  refine codeAny_mono (code_set_led1 (.ref l) (E := E) (Q₁ := fun obj s₁ => obj = .ref s.heap.objs.size ∧ s₁ = { s with heap := s.heap.push (newSet w) }) ⟨rfl, rfl⟩) fun r s₁ hr => ?_
  cases r with
  | error e => exact hr
  | ok fl =>
    cases fl with
    | ret obj =>
      obtain ⟨rfl, rfl⟩ := hr
      have hS : (s.heap.push (newSet w)).get? s.heap.objs.size = some (newSet w) := Heap.get?_push_size _ rfl
      have hT : Shared.TypeIs { s with heap := s.heap.push (newSet w) } (.ref s.heap.objs.size) "set" := ⟨_, hS, rfl⟩
      have f4 := F.called_set.init.lookup
      have f5 := F.called_set.init.bind (.ref s.heap.objs.size)
      repeat (any_goals (first | assumption | wp_step))
      refine codeAny_mono (codeAny_call_builtin (R := wants (fun r s₂ => r = .none ∧ ∃ h' tk L es ep t, s₂ = { s with heap := h', toks := tk } ∧ QSet Y h' s.heap.objs.size L es ep t ∧ Took ks ks.length L ∧ (∀ b o, s.heap.get? b = some o → h'.get? b = some o)) E) F.called_set.init.plain F.entry_set_init (check_set_init_1 hT ?_)) fun r₂ s₂ hr₂ => ?_
      · obtain ⟨ol, hol, hcl, nl, hdl⟩ := hl
        obtain ⟨ocls, odict, odata, oslots⟩ := ol
        simp only at hcl hdl
        subst hcl; subst hdl
        have hol' : (s.heap.push (newSet w)).get? l = some { cls := .type "list", dict := odict, data := .seq items nl, slots := oslots } := Heap.get?_push_of_some _ hol
        have f6 := F.sub_list_set
        have f7 := F.sub_list_frozenset
        have f8 : (Value.type "list" == Value.type "dict") = false := by decide
        have hl1 : (s.heap.push (newSet w)).IsList l items := ⟨_, hol', rfl, nl, rfl⟩
        unfold Builtin.«set.__init__» noKeywords Builtin.Frozenset.updateFrom
        generalize hPI : pyIter = PI
        wp_walk
        subst hPI
        refine wpAny_pyIter_list hl1 ?_
        refine wpAny_bind (wpAny_runValue ?_)
        have lS : l < s.heap.objs.size := Heap.lt_size hol
        have hh3 : A.in1.in1.in1.handled = none := by simp [hh]
        have lJ : l ≠ (s.heap.push (newSet w)).objs.size := by
          rw [Heap.size_push]
          exact Nat.ne_of_lt (Nat.lt_add_one_of_lt lS)
        have Sf : s.heap.objs.size ∉ [(s.heap.push (newSet w)).objs.size, l] := by
          rw [Heap.size_push]
          simp only [List.mem_cons, List.not_mem_nil, or_false, not_or]
          exact ⟨fun z => Nat.lt_irrefl _ (Nat.lt_of_lt_of_eq (Nat.lt_succ_self _) z.symm), fun z => Nat.lt_irrefl _ (z ▸ lS)⟩
        have val : ∀ (i : Nat) (v : Value), items[i]? = some v → ∃ q, ks[i]? = some q ∧ v = .ref q.1 := fun i v hv => by
          have z : items.toList[i]? = some v := by rw [Array.getElem?_toList]; exact hv
          rw [hit, List.getElem?_map] at z
          cases hq : ks[i]? with
          | none => rw [hq] at z; cases z
          | some q => rw [hq] at z; exact ⟨q, rfl, (Option.some.inj z).symm⟩
        have fresh : ∀ b, s.heap.objs.size ≤ b → s.heap.get? b = none := fun b hb => by
          cases z : s.heap.get? b with
          | none => rfl
          | some o => exact (Nat.lt_irrefl _ (Nat.lt_of_lt_of_le (Heap.lt_size z) hb)).elim
        refine update_loop (Y := Y) ((Walks.list hh3 _ l lJ items).toS) s.heap.objs.size Sf ks isz few val s.heap hk (fresh _ (Nat.le_refl _)) (fun b hb => fresh b (by
            rw [List.mem_singleton.mp hb, Heap.size_push]; omega)) (by show A.units + 1 + 1 + 1 + 8 < _; omega) (items.size - 0) 0 _ (by omega) (Nat.zero_le _) ⟨⟨_, Heap.get?_push_size _ rfl, rfl, rfl⟩, (hl1.push _)⟩ (fun b o e => Heap.get?_push_of_some _ (Heap.get?_push_of_some _ e)) ?start ?done
        case start => exact ⟨[], #[], 0, _, QSet.empty (Heap.get?_push_of_some _ hS), fun q h => (nomatch h), fun q h => (by simp at h), Nat.le_refl _⟩
        case done =>
          intro s' L es ep t mv RS g kp
          obtain ⟨h', g2, d', tk', os'⟩ := s'
          have z1 : g2 = s.gens := mv.gens
          have z2 : d' = s.drawn := mv.drawn
          have z3 : os' = s.os := mv.os
          subst z1; subst z2; subst z3
          show wpAny _ _ _ _ _ _
          refine wpAny_pure ?_
          show wpAny _ _ (ret Value.none) _ _ _
          rw [isz] at g
          exact wpAny_pure ⟨rfl, h', tk', L, es, ep, t, rfl, RS, g, kp⟩
      · cases r₂ with
        | error e => exact hr₂
        | ok fl₂ =>
          cases fl₂ with
          | ret r =>
            obtain ⟨rfl, h', tk, L, es, ep, t, rfl, RS, g, kp⟩ := hr₂
            repeat (any_goals (first | assumption | wp_step))
            exact fin _ _ _ _ _ _ RS g kp
          | _ => exact hr₂.elim
    | _ => exact hr.elim
end
end Ly

namespace Ly
open PySem PySem.Spec PyProof.Rows L2
/-! ### pairs of an int and a tuple of ints, as keys -/
def NoCl (P : Program) (w : World) (n : Nat) (s : Shared) (v : Value) : Prop := ∀ (A : Around) (E : Value → Shared → Prop) (Q : Bool → Shared → Prop), Q false s → wpAny (model P w) A (ofAClassStatement n v) Q E s
def ByV (P : Program) (w : World) (n : Nat) (s : Shared) (v : Value) : Prop := ∀ (A : Around) (E : Value → Shared → Prop) (Q : Bool → Shared → Prop), Q true s → wpAny (model P w) A (hashByValue n v) Q E s
section
variable {P : Program} {w : World} {s : Shared}
theorem nocl_num {n : Nat} {v : Value} {i : Int} (h : NestedIs s.heap (.num i) v) : NoCl P w n s v ∧ ByV P w n s v := by
  cases h with
  | bool _ => exact ⟨fun A E Q q => by have e : ∀ b, ofAClassStatement n (.bool b) = pure false := fun b => by cases n <;> rfl
                                       rw [e]; exact wpAny_pure q, fun A E Q q => by
                                       have e : ∀ b, hashByValue n (.bool b) = pure true := fun b => by cases n <;> rfl
                                       rw [e]; exact wpAny_pure q⟩
  | int i t => exact ⟨fun A E Q q => by rw [ofAClass_int]; exact wpAny_pure q, fun A E Q q => by rw [hashBy_int]; exact wpAny_pure q⟩
theorem nocl_tup {n : Nat} {b : Addr} {o : Obj} {vs : Array Value} {m : Nat} (ho : s.heap.get? b = some o) (hc : o.cls = .type "tuple") (hd : o.data = .seq vs m) (h : ∀ v ∈ vs.toList, NoCl P w n s v) : NoCl P w (n + 1) s (.ref b) := fun A E Q q => by
  have hT : s.TypeIs (.ref b) "tuple" := ⟨o, ho, hc⟩
  unfold ofAClassStatement
  refine wpAny_bind (wpAny_typeOf hT ?_)
  dsimp only
  have e : (("tuple" : String) == "tuple") = true := by decide
  simp only [e, if_true, Bool.not_true, Bool.false_eq_true, if_false]
  try refine wpAny_bind (wpAny_pure ?_)
  try simp only [Bool.not_true, Bool.false_eq_true, if_false]
  show wpAny _ _ (seqItems? (.ref b) >>= _) _ _ s
  refine wpAny_bind (wpAny_seqItems ho hd ?_)
  dsimp only
  refine wpAny_bind ?_
  show wpAny _ _ (forIn vs _ _) _ _ s
  rw [← Array.forIn_toList]
  refine wpAny_forIn_list _ (fun left r s' => r.1 = none ∧ s' = s ∧ ∀ v ∈ left, NoCl P w n s v) _ ?_ ?_ _ _ ⟨rfl, rfl, h⟩
  · rintro v left r s' ⟨_, rfl, all⟩
    refine wpAny_bind (all v (by simp) _ _ _ ?_)
    simp only [Bool.false_eq_true, if_false]
    exact wpAny_pure ⟨rfl, rfl, fun u hu => all u (by simp [hu])⟩
  · rintro ⟨r1, r2⟩ s' ⟨hr, rfl, _⟩
    simp only at hr
    subst hr
    exact wpAny_pure q
theorem byv_tup {n : Nat} {b : Addr} {o : Obj} {vs : Array Value} {m : Nat} (ho : s.heap.get? b = some o) (hc : o.cls = .type "tuple") (hd : o.data = .seq vs m) (h : ∀ v ∈ vs.toList, ByV P w n s v) : ByV P w (n + 1) s (.ref b) := fun A E Q q => by
  have hT : s.TypeIs (.ref b) "tuple" := ⟨o, ho, hc⟩
  unfold hashByValue
  refine wpAny_bind (wpAny_specialOf hT F.slot_tuple_hash.lookup ?_)
  show wpAny _ _ (seqItems? (.ref b) >>= _) _ _ s
  refine wpAny_bind (wpAny_seqItems ho hd ?_)
  refine wpAny_bind ?_
  show wpAny _ _ (forIn vs _ _) _ _ s
  rw [← Array.forIn_toList]
  refine wpAny_forIn_list _ (fun left r s' => r.1 = none ∧ s' = s ∧ ∀ v ∈ left, ByV P w n s v) _ ?_ ?_ _ _ ⟨rfl, rfl, h⟩
  · rintro v left r s' ⟨_, rfl, all⟩
    refine wpAny_bind (all v (by simp) _ _ _ ?_)
    simp only [Bool.not_true, Bool.false_eq_true, if_false]
    exact wpAny_pure ⟨rfl, rfl, fun u hu => all u (by simp [hu])⟩
  · rintro ⟨r1, r2⟩ s' ⟨hr, rfl, _⟩
    simp only at hr
    subst hr
    exact wpAny_pure q
theorem nested_nums {h : Heap} : ∀ {k : List Int} {vs : List Value}, NestedAll h (k.map .num) vs → ∀ v ∈ vs, ∃ i, NestedIs h (.num i) v
  | [], _, .nil, v, hv => by cases hv
  | i :: k, _, .cons h1 h2, v, hv => by
    rcases List.mem_cons.mp hv with e | hv
    · exact ⟨i, e ▸ h1⟩
    · exact nested_nums h2 v hv
def pk (q : Int × List Int) : NestedKey := .tup [.num q.1, .tup (q.2.map .num)]
theorem pk_depth (q : Int × List Int) : (pk q).depth ≤ 8 := by
  have h : ∀ k : List Int, NestedKey.depthAll (k.map .num) = 0 := fun k => by
    induction k with
    | nil => rfl
    | cons i k ih => simp [NestedKey.depthAll, NestedKey.depth, ih]
  simp [pk, NestedKey.depth, NestedKey.depthAll, h]
theorem pk_inj {q r : Int × List Int} (h : pk q = pk r) : q = r := by
  simp only [pk, NestedKey.tup.injEq, List.cons.injEq, NestedKey.num.injEq, and_true] at h
  refine Prod.ext h.1 ?_
  have : ∀ {a b : List Int}, a.map NestedKey.num = b.map NestedKey.num → a = b := fun {a b} e => List.map_inj_right (fun x y z => by injection z) |>.mp e
  exact this h.2
theorem pk_both {q : Int × List Int} {b : Addr} (h : NestedIs s.heap (pk q) (.ref b)) : NoCl P w 8 s (.ref b) ∧ ByV P w 8 s (.ref b) := by
  cases h with
  | @tup _ o vs n _ ho hc hd hk =>
    generalize e : vs.toList = us at hk
    cases hk with
    | @cons _ v1 _ r1 h1 h2 =>
      cases h2 with
      | @cons _ v2 _ r2 h3 h4 =>
        cases h4
        cases h3 with
        | @tup c o2 vs2 n2 _ ho2 hc2 hd2 hk2 =>
          have i2 := nested_nums hk2
          refine ⟨nocl_tup ho hc hd fun v hv => ?_, byv_tup ho hc hd fun v hv => ?_⟩
          · rw [e] at hv
            rcases List.mem_cons.mp hv with z | hv
            · rw [z]; exact (nocl_num h1).1
            · have : v = .ref c := by simpa using hv
              rw [this]
              exact nocl_tup ho2 hc2 hd2 fun u hu => let ⟨i, hi⟩ := i2 u hu; (nocl_num hi).1
          · rw [e] at hv
            rcases List.mem_cons.mp hv with z | hv
            · rw [z]; exact (nocl_num h1).2
            · have : v = .ref c := by simpa using hv
              rw [this]
              exact byv_tup ho2 hc2 hd2 fun u hu => let ⟨i, hi⟩ := i2 u hu; (nocl_num hi).2
def pairKey (P : Program) (w : World) : SKey P w (Int × List Int) where
  is := fun h q b => NestedIs h (pk q) (.ref b)
  hf := fun q => (pk q).hash w
  dr := fun q => (pk q).draws
  stay := fun x e => NestedIs.at (fun c o vs n h1 h2 => e c o vs n h1 h2) _ _ x
  hsh := fun hu x q => pyHash_key _ _ _ _ _ x (by have := pk_depth; rename_i k _ _; have := this k; omega) q
  eqb := fun {A E s k k' b b' Q} hu x y q => (nestedKind P w).eqBool hu ⟨x, pk_depth k⟩ ⟨y, pk_depth k'⟩ (by
    have e : decide (pk k = pk k') = decide (k = k') := decide_eq_decide.mpr ⟨pk_inj, fun z => by rw [z]⟩
    rw [e]; exact q)
  qt := fun {A E s k b Q} x q => (nestedKind P w).quiet ⟨x, pk_depth k⟩ q
  nocl := fun x q => (pk_both x).1 _ _ _ q
  byv := fun x q => (pk_both x).2 _ _ _ q
end
/-! ### sorted(set) -/
section
variable {P : Program} {w : World} {κ : Type} [DecidableEq κ] {Y : SKey P w κ} {A : Around} {E : Value → Shared → Prop} {s : Shared}
theorem qeach_keys {R : Value → (Addr × κ) → Prop} : ∀ {L : List (Addr × κ)}, (∀ q ∈ L, R (.ref q.1) q) → PySem.W.EachIs R (L.map fun q => Value.ref q.1) L
  | [], _ => .nil
  | q :: L, h => .cons (h q (by simp)) (qeach_keys fun r hr => h r (by simp [hr]))
theorem qkeys_each : ∀ {L : List (Addr × κ)} {vs : List Value}, PySem.W.EachIs (fun v (q : Addr × κ) => v = Value.ref q.1) vs L → vs = L.map fun q => Value.ref q.1
  | [], _, .nil => rfl
  | q :: L, _, .cons e t => by rw [e, qkeys_each t]; rfl
theorem pick_keys {L : List (Addr × κ)} : ∀ vs : List Value, (∀ v ∈ vs, ∃ q ∈ L, v = Value.ref q.1) → ∃ M : List (Addr × κ), vs = M.map (fun q => Value.ref q.1) ∧ ∀ q ∈ M, q ∈ L
  | [], _ => ⟨[], rfl, fun q hq => by cases hq⟩
  | v :: vs, h => by
    obtain ⟨q, hq, e⟩ := h v (by simp)
    obtain ⟨M, e1, hs⟩ := pick_keys vs fun u hu => h u (by simp [hu])
    refine ⟨q :: M, by rw [List.map_cons, e, e1], fun r hr => ?_⟩
    rcases List.mem_cons.mp hr with z | z
    · rw [z]; exact hq
    · exact hs r z
theorem sorted_setQ {a : Addr} {L : List (Addr × κ)} {es : Array (Int × Value)} {ep : Nat} {t : SetTable} {Q : Value → Shared → Prop} (enc : κ → PyData) (R : QSet Y s.heap a L es ep t) (hh : A.handled = none) (hu : A.units + 24 < cLine)
    (inj : ∀ q ∈ L, ∀ r ∈ L, q.1 = r.1 → q = r) (rd : ∀ h', (∀ b o, s.heap.get? b = some o → h'.get? b = some o) → ∀ q ∈ L, Reads h' (.ref q.1) (enc q.2) []) (al : ∀ M : List (Addr × κ), PySem.W.AllAlike (M.map fun q => enc q.2)) (so : ∀ M : List (Addr × κ), PySem.W.Sortable (M.map fun q => enc q.2)) (dp : ∀ k, (enc k).depth ≤ 20)
    (fin : ∀ s' p (out : Array Value) (c : Nat) (L' : List (Addr × κ)), (∀ b o, s.heap.get? b = some o → s'.heap.get? b = some o) → s'.gens = s.gens → s'.os = s.os → s.heap.objs.size ≤ p → s'.heap.get? p = some (seqObj "list" out c) → out.toList = L'.map (fun q => Value.ref q.1) → L'.Perm L →
      L'.Pairwise (fun q r => leP (enc q.2) (enc r.2) = true) → Q (.ref p) s') : wpAny (model P w) A (call (.builtin "sorted") [.ref a]) Q E s := by
  obtain ⟨o, ho, hex, hd⟩ := R.obj
  have sl := rows_len R.row
  have few := R.fw
  refine Calls.call_function_entry kind_sorted plain_sorted entry_sorted (args_sorted1 _) ?_
  unfold Builtin.«sorted»
  refine wpAny_bind (m := checkCount "sorted" 1 1 _) (wpAny_pure ?_)
  refine wpAny_bind (collect_set (A := A.in1) hh ⟨o, ho, hex.1, hd⟩ R.fits (by unfold scanBound; omega) R.tb.ris R.ldd fun s1 vs k1 hz g1 o1 pm => ?_)
  have er : es.toList.map (·.2) = L.map fun q => Value.ref q.1 := by
    rw [R.row, rowsQ, List.map_map]; rfl
  rw [er] at pm
  obtain ⟨L1, e1, s1'⟩ := pick_keys (L := L) vs fun v hv => by
    obtain ⟨q, hq, e⟩ := List.mem_map.mp (pm.mem_iff.mp hv)
    exact ⟨q, hq, e.symm⟩
  have ndL : L.Nodup := nodup_of_map R.nod
  have p1 : L1.Perm L := by
    have nref : (L.map fun q => Value.ref q.1).Nodup := List.pairwise_map.mpr (List.Pairwise.imp_of_mem (fun {q r} hq hr hne e => hne (inj q hq r hr (by injection e))) ndL)
    rw [e1] at pm
    refine (List.perm_ext_iff_of_nodup (nodup_of_map (pm.nodup_iff.mpr nref)) ndL).mpr fun q => ⟨s1' q, fun hq => ?_⟩
    obtain ⟨r, hr, e⟩ := List.mem_map.mp (pm.mem_iff.mpr (List.mem_map.mpr ⟨q, hq, rfl⟩))
    have : r = q := inj r (s1' r hr) q hq (by injection e)
    rw [← this]; exact hr
  have l1 : L1.length < 64 := by rw [p1.length_eq]; exact few
  have vl : vs.length < 64 := by rw [e1, List.length_map]; exact l1
  refine wpAny_bind (wpAny_newList ?_ (by rw [sizeLine_eq]; omega))
  have hoL : (s1.heap.push (seqObj "list" vs.toArray 0)).get? s1.heap.objs.size = some (seqObj "list" vs.toArray 0) := Heap.get?_push_size _ rfl
  have rd1 : ∀ q ∈ L1, Reads (s1.heap.push (seqObj "list" vs.toArray 0)) (.ref q.1) (enc q.2) [] := fun q hq => rd _ (fun b u e => Heap.get?_push_of_some _ (k1 b u e)) q (s1' q hq)
  refine wpAny_bind (wpAny_holding (PySem.W.list_sort_data (s := { s1 with heap := s1.heap.push (seqObj "list" vs.toArray 0) }) (bs := L1) (enc := fun q => enc q.2) (R := fun v (q : Addr × κ) => v = Value.ref q.1) hoL (by rw [e1]; exact qeach_keys fun _ _ => rfl) (by rw [e1]; exact qeach_keys fun q hq => ⟨[], by rw [← e1]; exact rd1 q hq, by simp⟩) (al L1) (so L1) (by rw [sizeLine_eq]; omega) (fun b _ => ?_) fun out lo ea => ?_))
  · have := dp b.2
    show A.units + 1 + 1 + _ < _
    omega
  · obtain ⟨c, hc⟩ := sortedHeap_at (vs := vs) (out := out.toArray) hoL
    have tt := PySem.W.sortLe_total (PyProof.Rows.listOrd PyProof.Rows.itemOrd) false fun q : Addr × κ => PySem.W.keyToks (enc q.2)
    refine wpAny_pure ⟨_, rfl, fin _ s1.heap.objs.size out.toArray c (L1.mergeSort (PySem.W.dataLe false fun q => enc q.2)) (fun b u e => ?_) g1 o1 hz hc (by simpa using qkeys_each ea) ((List.mergeSort_perm _ _).trans p1) (List.pairwise_mergeSort (fun a b c h1 h2 => tt.trans a b c h1 h2) (fun a b => by have := tt.total a b; simpa using this) L1)⟩
    have q := k1 b u e
    have lt := Heap.lt_size q
    show (sortedHeap (s1.heap.push (seqObj "list" vs.toArray 0)) s1.heap.objs.size vs out.toArray).get? b = some u
    rw [sortedHeap_old (Nat.ne_of_lt lt) (by rw [size_push']; exact Nat.lt_succ_of_lt lt)]
    exact Heap.get?_push_of_some _ q
end
/-! ### as calls -/
def pE (q : Int × List Int) : PyData := .tuple [.int q.1, tP q.2]
structure QSet0 (P : Program) (w : World) (h : Heap) (a : Addr) (L : List (Addr × (Int × List Int))) : Prop where
  ex : ∃ (es : Array (Int × Value)) (ep : Nat) (t : SetTable), (∃ o, h.get? a = some o ∧ o.ExactSet ∧ o.data = .set es ep t) ∧ es.toList = rowsQ (pairKey P w) L ∧ TabOk t (L.map fun q => (pairKey P w).hf q.2) ∧ (L.map (·.2)).Nodup ∧ t.plain = true ∧
    (w.params.followText "set-order" = true ∨ t.led = true) ∧ L.length * 5 < t.mask * 3 ∧ L.length < 64
def QSetO (P : Program) (w : World) (a : Addr) (L : List (Addr × (Int × List Int))) : HO := .ext fun h => QSet0 P w h a L
/-- the pair of an int and a tuple of ints that stands at b -/
def PairAt (K : Fg) (H : Hp) (b : Addr) (q : Int × List Int) : Prop := ∃ c, SqT K H b [.int q.1, .ref c] ∧ SqT K H c (q.2.map V.int)
section
variable {X : Cx}
theorem nested_ints {h : Heap} : ∀ {k : List Int} {us : List Value}, Vals (k.map V.int) us → NestedAll h (k.map .num) us
  | [], _, .nil => .nil
  | i :: k, _, .cons r t => by
    obtain ⟨tk, rfl⟩ := r
    exact .cons (.int i tk) (nested_ints t)
theorem Inv.pairAt {pins : List (Addr × Obj)} {σ : L2.St} {H : Hp} {s : Shared} {b : Addr} {q : Int × List Int} (I : Inv X pins σ H s) (h : PairAt X.K H b q) : NestedIs s.heap (pk q) (.ref b) := by
  obtain ⟨c, h1, h2⟩ := h
  obtain ⟨its, r, ⟨o, ho, hc, n, hd⟩, _⟩ := I.tuple h1
  obtain ⟨its2, r2, ⟨o2, ho2, hc2, n2, hd2⟩, _⟩ := I.tuple h2
  refine .tup ho hc hd ?_
  cases r with
  | cons a1 a2 =>
    cases a2 with
    | cons a3 a4 =>
      cases a4
      obtain ⟨tk, rfl⟩ := a1
      cases a3
      exact .cons (.int _ _) (.cons (.tup ho2 hc2 hd2 (nested_ints r2)) .nil)
theorem Inv.pairRd {pins : List (Addr × Obj)} {σ : L2.St} {H : Hp} {s : Shared} {b : Addr} {q : Int × List Int} (I : Inv X pins σ H s) (h : PairAt X.K H b q) {h' : Heap} (kp : ∀ c o, s.heap.get? c = some o → h'.get? c = some o) : Reads h' (.ref b) (pE q) [] := by
  obtain ⟨c, h1, h2⟩ := h
  obtain ⟨its, r, ⟨o, ho, hc, n, hd⟩, _⟩ := I.tuple h1
  have t2 := reads_tup (isT_keep (I.isT h2) kp)
  cases r with
  | cons a1 a2 =>
    cases a2 with
    | cons a3 a4 =>
      cases a4
      obtain ⟨tk, rfl⟩ := a1
      cases a3
      exact .tuple (kp _ _ ho) hc hd (.cons (as := []) (bs := []) (.int _ _) (.cons (as := []) (bs := []) t2 .nil))
def rSetOfQ (K : Fg) (P : Program) (w : World) : List V → Hp → VK → Prop := fun xs H Q => ∃ (l : Addr) (ks : List (Addr × (Int × List Int))), xs = [V.ref l] ∧ SqL K H l (ks.map fun p => V.ref p.1) ∧ (∀ p ∈ ks, PairAt K H p.1 p.2) ∧ ks.length < 64 ∧
  ∀ a L, H a = none → (∀ p ∈ L, p ∈ ks) → (∀ p ∈ ks, p.2 ∈ L.map (·.2)) → Q (.ref a) (upd H a (QSetO P w a L))
theorem qrefs_of_vals {κ : Type} : ∀ {ks : List (Addr × κ)} {us : List Value}, Vals (ks.map fun p => V.ref p.1) us → us = ks.map fun p => Value.ref p.1
  | [], _, .nil => rfl
  | _ :: _, _, .cons r t => by cases r; rw [qrefs_of_vals t]; rfl
theorem vals_of_qrefs {κ : Type} : ∀ (ks : List (Addr × κ)), Vals (ks.map fun p => V.ref p.1) (ks.map fun p => Value.ref p.1)
  | [] => .nil
  | _ :: ks => .cons rfl (vals_of_qrefs ks)
theorem cr_setOfQ (hc : X.calm = true) (hu : X.A.units + 64 < cLine) : CallR X (.type "set") (rSetOfQ X.K X.prog X.w) := by
  intro pins s σ H xs us Q I r h
  obtain ⟨l, ks, rfl, hl, hk, hf, q⟩ := h
  rw [Vals.ref1 r]
  obtain ⟨its, rv, pl, hz⟩ := I.list hl
  have hn : H s.heap.objs.size = none := I.hok.fresh (Nat.le_refl _)
  refine call_setQ (Y := pairKey X.prog X.w) ks (I.ok.hd hc) pl.isList (by simpa using qrefs_of_vals rv) (fun p hp => Inv.pairAt I (hk p hp)) hf (by omega) fun h' tk L es ep t R g k => ?_
  have O : ObjOk X.prog X.w (upd H s.heap.objs.size (QSetO X.prog X.w s.heap.objs.size L)) h' s.heap.objs.size (QSetO X.prog X.w s.heap.objs.size L) := by
    have R0 : QSet0 X.prog X.w h' s.heap.objs.size L := ⟨es, ep, t, R.obj, R.row, R.tb, R.nod, R.pln, R.ldd, R.rom, R.fw⟩
    obtain ⟨o, ho, _⟩ := R.obj
    refine ⟨R0, ⟨o, ho⟩, fun h1 h2 p k => ?_⟩
    have ⟨es', ep', t', ⟨o', ho', r'⟩, q'⟩ := QSet0.ex p
    exact ⟨es', ep', t', ⟨o', k o' ho', r'⟩, q'⟩
  refine ⟨.ref s.heap.objs.size, _, I.laid (t' := tk) k (Nat.le_refl _) O, rfl, q _ L hn (fun p hp => List.mem_of_mem_take (g.from_ p hp)) fun p hp => g.each p (by rw [List.take_length]; exact hp)⟩
def rSortSetQ (K : Fg) (P : Program) (w : World) : List V → Hp → VK → Prop := fun vs H Q => ∃ (a : Addr) (L : List (Addr × (Int × List Int))), vs = [V.ref a] ∧ H a = some (QSetO P w a L) ∧ (∀ p ∈ L, PairAt K H p.1 p.2) ∧
  ∀ (L' : List (Addr × (Int × List Int))) (p : Addr), L'.Perm L → (L'.map (·.2)).Nodup → L'.length < 64 → L'.Pairwise (fun q r => leP (pE q.2) (pE r.2) = true) → H p = none → Q (.ref p) (upd H p (.lst (L'.map fun q => V.ref q.1)))
theorem cr_sortSetQ {k : Nat} (hr : Room k X.A) (hc : X.calm = true) : CallR X (.builtin "sorted") (rSortSetQ X.K X.prog X.w) := by
  intro pins s σ H vs us Q I r h
  obtain ⟨a, L, rfl, ha, hk, q⟩ := h
  have R0 : QSet0 X.prog X.w s.heap a L := (I.hok a _ ha).1
  obtain ⟨es, ep, t, h1, h2, h3, h4, h5, h6, h7, h8⟩ := R0.ex
  have R : QSet (pairKey X.prog X.w) s.heap a L es ep t := ⟨h1, h2, h3, h4, fun p hp => Inv.pairAt I (hk p hp), h5, h6, h7, h8⟩
  rw [Vals.ref1 r]
  refine sorted_setQ pE R (I.ok.hd hc) (by have := hr.un; omega) (fun x hx y hy e => ?_) (fun h' kp x hx => Inv.pairRd I (hk x hx) kp) (fun M x hx y hy => ?_) (fun M => .inl fun x hx => ?_) (fun k => ?_) fun s' p out c L' kp g o hp hg hout pm pw => ?_
  · have a1 := R.key x hx
    have a2 := R.key y hy
    rw [e] at a1
    exact Prod.ext e (pk_inj (NestedIs.inj _ _ _ a1 a2))
  · obtain ⟨u, _, rfl⟩ := List.mem_map.mp hx
    obtain ⟨v, _, rfl⟩ := List.mem_map.mp hy
    simp [pE, tP, PySem.W.alike, alike_ints, PySem.W.alikeAll]
  · obtain ⟨u, _, rfl⟩ := List.mem_map.mp hx
    exact ⟨_, _, rfl⟩
  · simp [pE, tP, PyData.depth, PyData.depthAll, PySem.W.depth_ints]
  · have few : L'.length < 64 := by rw [pm.length_eq]; exact R.fw
    have ln : (L'.map fun q => V.ref q.1).length ≤ sizeLine := by rw [List.length_map, sizeLine_eq]; omega
    have hn : H p = none := I.hok.fresh hp
    have hv : Vals (L'.map fun q => V.ref q.1) out.toList := by rw [hout]; exact vals_of_qrefs L'
    have J : Inv X pins σ (upd H p (.lst (L'.map fun q => V.ref q.1))) s' := I.call' (ch := []) o (Un.laid kp hp hn) (I.hok.laid kp hp ⟨ln, out.toList, c, hv, hg⟩) (by rw [g]; exact I.bare) (fun _ z => nomatch z)
    exact ⟨.ref p, _, J, rfl, q L' p pm ((pm.map (·.2)).nodup_iff.mpr R.nod) few pw hn⟩
end
/-! ### as data -/
def pD (q : Int × List Int) : D := .tuple [.int q.1, itup q.2]
section
variable {K : Fg} {env : Evn} {te : TE}
/-- what sorted(set(..)) tells: the pairs, each once, rising -/
structure SrtQ (ks out : List (Int × List Int)) : Prop where
  mem : ∀ k, k ∈ out ↔ k ∈ ks
  nd : out.Nodup
  up : out.Pairwise fun a b => leP (pE a) (pE b) = true
  few : out.length < 64
def PairG (G : Hp) (b : Addr) (q : Int × List Int) : Prop := ∃ c, G b = some (.tup [.int q.1, .ref c]) ∧ G c = some (.tup (q.2.map V.int))
theorem rpl_pD {G : Hp} : ∀ {xs : List V} {ks : List (Int × List Int)}, RpL K G xs (ks.map pD) → ∃ L : List (Addr × (Int × List Int)), xs = L.map (fun q => V.ref q.1) ∧ L.map (·.2) = ks ∧ ∀ q ∈ L, PairG G q.1 q.2
  | _, [], h => by cases h; exact ⟨[], rfl, rfl, fun q hq => by cases hq⟩
  | _, k :: ks, h => by
    cases h with
    | cons h1 h2 =>
      obtain ⟨L, e1, e2, e3⟩ := rpl_pD h2
      cases h1 with
      | @tup a vs _ g1 g2 =>
        cases g2 with
        | cons u1 u2 =>
          cases u2 with
          | cons u3 u4 =>
            cases u4
            cases u1
            cases u3 with
            | @tup c ws _ g3 g4 =>
              have z := g4.ints
              subst z
              refine ⟨(a, k) :: L, by rw [e1]; rfl, by rw [List.map_cons, e2], fun q hq => ?_⟩
              rcases List.mem_cons.mp hq with rfl | hq
              · exact ⟨c, g1, g3⟩
              · exact e3 q hq
theorem rpl_toD {G : Hp} : ∀ {L : List (Addr × (Int × List Int))}, (∀ q ∈ L, PairG G q.1 q.2) → RpL K G (L.map fun q => V.ref q.1) ((L.map (·.2)).map pD)
  | [], _ => .nil
  | q :: L, h => by
    obtain ⟨c, g1, g2⟩ := h q List.mem_cons_self
    exact .cons (.tup g1 (.cons (.int _) (.cons (.tup g2 (RpL.ofInts _)) .nil))) (rpl_toD fun r hr => h r (List.mem_cons_of_mem _ hr))
theorem pairG_at {G H : Hp} {b : Addr} {q : Int × List Int} (e : Ex G H) (h : PairG G b q) : PairAt K H b q := by
  obtain ⟨c, g1, g2⟩ := h
  exact ⟨c, ex_t e g1, ex_t e g2⟩
theorem evp_sortSetQ {P : Program} {w : World} {ks : List (Int × List Int)} (h : EvD K te env (.list (ks.map pD))) (hl : ks.length < 64) : EvNP K (tCB (rSortSetQ K P w) (tCons (tCB (rSetOfQ K P w) (tCons te tNil)) tNil)) env (fun ds => ∃ out, SrtQ ks out ∧ ds = out.map pD) := fun G0 B G H σ s Q q =>
  h G0 B G H σ s _ fun v G1 H1 f1 r1 => by
    cases r1 with
    | @lst a xs _ g1 g2 =>
      obtain ⟨L, rfl, rfl, e3⟩ := rpl_pD g2
      refine ⟨a, L, rfl, SqL.of (f1.i.o _ _ g1 rfl), fun p hp => pairG_at f1.i (e3 p hp), by simpa using hl, fun b M hb m1 m2 => ?_⟩
      have f2 : Fm G1 H1 G1 (upd H1 b (QSetO P w b M)) := Fm.own f1.i hb
      refine ⟨b, M, rfl, upd_same, fun p hp => pairG_at f2.i (e3 p (m1 p hp)), fun L' p pm nd few up hp => ?_⟩
      have f3 : Fm G1 (upd H1 b (QSetO P w b M)) G1 (upd (upd H1 b (QSetO P w b M)) p (.lst (L'.map fun q => V.ref q.1))) := Fm.own f2.i hp
      refine q ((L'.map (·.2)).map pD) p _ G1 _ ⟨L'.map (·.2), ⟨fun k => ?_, nd, ?_, by simpa using few⟩, rfl⟩ ((f1.trans f2).trans f3) ((f1.trans f2).h.back hp) (f2.i.back hp) upd_same (rpl_toD fun r hr => e3 r (m1 r (pm.mem_iff.mp hr)))
      · constructor
        · intro hk
          obtain ⟨r, hr, rfl⟩ := List.mem_map.mp hk
          exact List.mem_map.mpr ⟨r, m1 r (pm.mem_iff.mp hr), rfl⟩
        · intro hk
          obtain ⟨r, hr, rfl⟩ := List.mem_map.mp hk
          obtain ⟨u, hu, e⟩ := List.mem_map.mp (m2 r hr)
          exact List.mem_map.mpr ⟨u, pm.mem_iff.mpr hu, e⟩
      · rw [List.pairwise_map]; exact up
end
end Ly

namespace Ly
open PySem L2
/-! ### ints sorted -/
def insI (x : Int) : List Int → List Int
  | [] => [x]
  | y :: ys => if x ≤ y then x :: y :: ys else y :: insI x ys
def isort : List Int → List Int
  | [] => []
  | x :: xs => insI x (isort xs)
theorem insI_perm (x : Int) : ∀ ys, (insI x ys).Perm (x :: ys)
  | [] => .refl _
  | y :: ys => by
    unfold insI
    split
    · exact .refl _
    · exact ((insI_perm x ys).cons y).trans (.swap x y ys)
theorem isort_perm : ∀ xs, (isort xs).Perm xs
  | [] => .refl _
  | x :: xs => (insI_perm x _).trans ((isort_perm xs).cons x)
theorem insI_up (x : Int) : ∀ ys : List Int, ys.Pairwise (· ≤ ·) → (insI x ys).Pairwise (· ≤ ·)
  | [], _ => by simp [insI]
  | y :: ys, h => by
    rw [List.pairwise_cons] at h
    unfold insI
    split
    · rename_i hxy
      rw [List.pairwise_cons]
      refine ⟨fun z hz => ?_, List.pairwise_cons.mpr h⟩
      rcases List.mem_cons.mp hz with rfl | hz
      · exact hxy
      · have := h.1 z hz; omega
    · rw [List.pairwise_cons]
      refine ⟨fun z hz => ?_, insI_up x ys h.2⟩
      rcases List.mem_cons.mp ((insI_perm x ys).mem_iff.mp hz) with rfl | hz
      · omega
      · exact h.1 z hz
theorem isort_up : ∀ xs, (isort xs).Pairwise (· ≤ ·)
  | [] => .nil
  | x :: xs => insI_up x _ (isort_up xs)
theorem leP_int (a b : Int) : leP (.int a) (.int b) = decide (a ≤ b) := by
  unfold leP
  rw [PySem.W.dataLe_eq]
  show (!PySem.W.dataLt (.int b) (.int a)) = _
  rw [PySem.W.dataLt_int, PySem.W.not_lt_int]
theorem sortD_ints (ns : List Int) : sortD (ns.map .int) = (isort ns).map .int := by
  unfold sortD
  rw [← List.map_mergeSort (r := fun a b : Int => decide (a ≤ b)) (s := fun x y : D => leP (toPy x) (toPy y)) (f := D.int) (fun a _ b _ => by rw [toPy, toPy, leP_int])]
  congr 1
  refine perm_one (r := fun a b : Int => a ≤ b) (fun a b h1 h2 => by omega) ((List.mergeSort_perm _ _).trans (isort_perm ns).symm) ?_ (isort_up ns)
  have := List.pairwise_mergeSort (le := fun a b : Int => decide (a ≤ b)) (fun a b c h1 h2 => by simp at *; omega) (fun a b => by simp; omega) ns
  exact this.imp fun h => of_decide_eq_true h
theorem isort_len (ns : List Int) : (isort ns).length = ns.length := (isort_perm ns).length_eq
theorem alike_intsD (ns : List Int) : PySem.W.AllAlike ((ns.map D.int).map toPy) := by
  intro x hx y hy
  rw [List.map_map] at hx hy
  obtain ⟨a, _, rfl⟩ := List.mem_map.mp hx
  obtain ⟨b, _, rfl⟩ := List.mem_map.mp hy
  simp [Function.comp, toPy, PySem.W.alike]
theorem sortable_intsD (ns : List Int) : PySem.W.Sortable ((ns.map D.int).map toPy) := by
  refine .inr fun x hx => ?_
  rw [List.map_map] at hx
  obtain ⟨a, _, rfl⟩ := List.mem_map.mp hx
  simp [Function.comp, toPy]
theorem evn_sortI {K : Fg} {env : Evn} {te : TE} {ns : List Int} (h : EvD K te env (.list (ns.map .int))) : EvN K (tCB (rSortD K) (tCons te tNil)) env ((isort ns).map .int) :=
  evn_is (evn_sortD h (alike_intsD ns) (sortable_intsD ns) fun d hd => by
    obtain ⟨n, _, rfl⟩ := List.mem_map.mp hd
    simp [toPy, PyData.canLay0, PyData.depth]) (sortD_ints ns)
/-! ### sorted(set(..)) -/
def nub (ks : List (List Int)) : List (List Int) := ks.foldl addK []
theorem mem_nub {ks : List (List Int)} {k : List Int} : k ∈ nub ks ↔ k ∈ ks := by
  unfold nub; rw [mem_fold]; simp
theorem nodup_nub (ks : List (List Int)) : (nub ks).Nodup := nodup_fold _ _ (by simp)
theorem srt_is {ks out : List (List Int)} (h : SrtSet ks out) : out = sortT (nub ks) := by
  refine (sortT_is ((List.perm_ext_iff_of_nodup h.nd (nodup_nub ks)).mpr fun k => by rw [h.mem, mem_nub]) ?_).symm
  exact h.up.imp fun q => by rw [toPy_itup, toPy_itup]; exact q
theorem evn_sortSet {K : Fg} {env : Evn} {te : TE} {P : Program} {w : World} {ks : List (List Int)} (h : EvD K te env (.list (ks.map itup))) (hl : ks.length < 64) (hne : ∀ k ∈ ks, k ≠ []) : EvN K (tCB (rSortSet K P w) (tCons (tCB (rSetOfT K P w) (tCons te tNil)) tNil)) env ((sortT (nub ks)).map itup) := fun G0 B G H σ s Q q =>
  evp_sortSet h hl hne G0 B G H σ s Q fun ds p xs G2 H2 ⟨out, ho, e⟩ => by
    subst e
    rw [srt_is ho]
    exact q p xs G2 H2
theorem mem_sortT {ks : List (List Int)} {k : List Int} : k ∈ sortT ks ↔ k ∈ ks := by unfold sortT; rw [(List.mergeSort_perm _ _).mem_iff]
theorem sortT_up (ks : List (List Int)) : (sortT ks).Pairwise fun a b => leP (toPy (itup a)) (toPy (itup b)) = true := by
  have t := PySem.W.sortLe_total (PyProof.Rows.listOrd PyProof.Rows.itemOrd) false fun b : List Int => PySem.W.keyToks (toPy (itup b))
  exact List.pairwise_mergeSort (fun a b c h1 h2 => t.trans a b c h1 h2) (fun a b => by have := t.total a b; simpa using this) ks
theorem sortT_nodup {ks : List (List Int)} (h : ks.Nodup) : (sortT ks).Nodup := by unfold sortT; rw [(List.mergeSort_perm _ _).nodup_iff]; exact h
/-! ### counts drawn -/
def spStep (row : List Int) (at_ things : Int) (f : List Int) (t : Nat) : List Int :=
  f.set (rw_ row ((at_ + (t : Int) * (1 + rw_ row (at_ % 60).toNat % 3)) % 60).toNat % things).toNat (rw_ f (rw_ row ((at_ + (t : Int) * (1 + rw_ row (at_ % 60).toNat % 3)) % 60).toNat % things).toNat + 1)
def spRun (row : List Int) (at_ things : Int) (n : Nat) : List Int := (List.range n).foldl (spStep row at_ things) (List.replicate things.toNat 0)
def spreadOf (row : List Int) (at_ asked things : Int) (kind : Str) : List Int :=
  if kind = "some" then (List.range things.toNat).map fun (i : Nat) => rw_ row ((at_ + (i : Int)) % 60).toNat % (asked + 1) else spRun row at_ things asked.toNat
def c__law_spread : Ct := fun ds r => ∃ row at_ asked things kind, ds = [lst row, .int at_, .int asked, .int things, .str kind] ∧ Row row ∧ (0 ≤ at_ ∧ at_ ≤ 60) ∧ (1 ≤ asked ∧ asked ≤ 1000) ∧ (1 ≤ things ∧ things ≤ 6) ∧ PyData.strOk kind = true ∧ r = .ok (lst (spreadOf row at_ asked things kind))
theorem spRun_succ (row : List Int) (at_ things : Int) (n : Nat) : spRun row at_ things (n + 1) = spStep row at_ things (spRun row at_ things n) n := by
  unfold spRun; rw [List.range_succ, List.foldl_append]; rfl
theorem spRun_len (row : List Int) (at_ things : Int) : ∀ n, (spRun row at_ things n).length = things.toNat
  | 0 => by simp [spRun]
  | n + 1 => by rw [spRun_succ, spStep, List.length_set, spRun_len row at_ things n]
theorem rw_get {l : List Int} {i : Nat} (h : i < l.length) : l[i]? = some (rw_ l i) := by
  unfold rw_; rw [List.getD_eq_getElem?_getD, List.getElem?_eq_getElem h]; rfl
theorem sum_set {l : List Int} : ∀ {i : Nat} (x : Int), i < l.length → (l.set i x).sum = l.sum - rw_ l i + x := by
  induction l with
  | nil => intro i x h; simp at h
  | cons y l ih =>
    intro i x h
    cases i with
    | zero => simp [rw_]; omega
    | succ i =>
      have := ih (i := i) x (by simpa using h)
      simp only [List.set_cons_succ, List.sum_cons, this]
      have e : rw_ (y :: l) (i + 1) = rw_ l i := by simp [rw_]
      rw [e]; omega
theorem rw_set {l : List Int} {i j : Nat} {x : Int} (h : i < l.length) : rw_ (l.set i x) j = if j = i then x else rw_ l j := by
  unfold rw_
  rw [List.getD_eq_getElem?_getD, List.getD_eq_getElem?_getD]
  by_cases e : j = i
  · subst e; rw [if_pos rfl, List.getElem?_set_self h]; rfl
  · rw [if_neg e, List.getElem?_set_ne (fun z => e z.symm)]
theorem sum_rep (n : Nat) : (List.replicate n (0 : Int)).sum = 0 := by induction n with
  | zero => rfl
  | succ n ih => rw [List.replicate_succ, List.sum_cons, ih]; rfl
theorem spRun_ok (row : List Int) (at_ : Int) {things : Int} (ht : 1 ≤ things) : ∀ n, (spRun row at_ things n).sum = (n : Int) ∧ ∀ i, 0 ≤ rw_ (spRun row at_ things n) i
  | 0 => by
    refine ⟨by simp [spRun, sum_rep], fun i => ?_⟩
    simp only [spRun, List.range_zero, List.foldl_nil, rw_, List.getD_eq_getElem?_getD, List.getElem?_replicate]
    split <;> simp
  | n + 1 => by
    obtain ⟨h1, h2⟩ := spRun_ok row at_ ht n
    have hl := spRun_len row at_ things n
    rw [spRun_succ, spStep]
    have b := Int.emod_nonneg (rw_ row ((at_ + (n : Int) * (1 + rw_ row (at_ % 60).toNat % 3)) % 60).toNat) (show things ≠ 0 by omega)
    have b2 := Int.emod_lt_of_pos (rw_ row ((at_ + (n : Int) * (1 + rw_ row (at_ % 60).toNat % 3)) % 60).toNat) (show 0 < things by omega)
    generalize rw_ row ((at_ + (n : Int) * (1 + rw_ row (at_ % 60).toNat % 3)) % 60).toNat % things = j at *
    have hj : j.toNat < (spRun row at_ things n).length := by rw [hl]; omega
    refine ⟨by rw [sum_set _ hj, h1]; omega, fun i => ?_⟩
    rw [rw_set hj]
    split
    · have := h2 j.toNat; omega
    · exact h2 i
theorem spread_len (row : List Int) (at_ asked things : Int) (kind : Str) : (spreadOf row at_ asked things kind).length = things.toNat := by
  unfold spreadOf; split
  · simp
  · exact spRun_len _ _ _ _
/-! ### lots that nest -/
def orderOf (R things : Int) : List Int := (List.range things.toNat).map fun (i : Nat) => ((i : Int) + R) % things
def chainOf (order : List Int) (things : Int) (even : Bool) : List (List Int) :=
  if even = true then (List.range (things + 1 - 2).toNat).map fun (i : Nat) => isort (order.take (2 + i))
  else [isort (order.take ((things + 1) / 2).toNat), isort (order.drop ((things + 1) / 2).toNat), rgI things]
def nestAll (R things : Int) (even : Bool) : List (List Int) := singles things.toNat ++ chainOf (orderOf R things) things even
def nestOf (row : List Int) (at_ things : Int) (kind : Str) : List (List Int) :=
  if kind = "some" then singles things.toNat else sortT (nub ((nestAll (rw_ row (at_ % 60).toNat) things (decide (rw_ row ((at_ + 1) % 60).toNat % 2 = 0))).filter fun k => !k.isEmpty))
def c__law_nest : Ct := fun ds r => ∃ row at_ things kind, ds = [lst row, .int at_, .int things, .str kind] ∧ Row row ∧ (0 ≤ at_ ∧ at_ ≤ 60) ∧ (1 ≤ things ∧ things ≤ 6) ∧ PyData.strOk kind = true ∧ r = .ok (.list ((nestOf row at_ things kind).map itup))
theorem cut_take (xs : List D) {i : Int} (h : 0 ≤ i) : cutD xs none (some i) = xs.take i.toNat := by
  simp only [cutD, HT.sIx]
  rw [if_neg (by omega), List.drop_zero, Nat.sub_zero]
  rcases Nat.le_total i.toNat xs.length with q | q
  · rw [Nat.min_eq_left q]
  · rw [Nat.min_eq_right q, List.take_of_length_le (Nat.le_refl _), List.take_of_length_le q]
theorem cut_drop' (xs : List D) {i : Int} (h : 0 ≤ i) : cutD xs (some i) none = xs.drop i.toNat := by
  simp only [cutD, HT.sIx]
  rw [if_neg (by omega), List.take_of_length_le (by rw [List.length_drop]; exact Nat.le_refl _)]
  rcases Nat.le_total i.toNat xs.length with q | q
  · rw [Nat.min_eq_left q]
  · rw [Nat.min_eq_right q, List.drop_of_length_le (Nat.le_refl _), List.drop_of_length_le q]
theorem eqD_empty (k : List Int) : eqD (itup k) (.tuple []) = k.isEmpty := by
  cases k <;> simp [eqD, itup, toPy, toPys, PyData.eqv, PyData.eqvAll]
end Ly
namespace Ly
open PySem L2
theorem cln_itup (k : List Int) : clnS (.dat (itup k)) = true := cln_itupK k
theorem cln_tree7 {l C dx a : Addr} {ks : List (List Int)} {f : List Int → Int × Int} {p : Pol} {n : Int} {y3 x4 x5 x6 : SL} (hz : (3 : Nat) = 3) (q4 : clnS x4 = true) (q5 : clnS x5 = true) (q6 : clnS x6 = true) :
    clnE [.obj l C dx ["lots", "ends"] [.dat (lotsD ks), .dic a (enTab ks f)], .dat (Pol.d p), .dat (.int n), y3, x4, x5, x6] 3 := by
  intro j x hj e
  have c1 : clns noD ((enTab ks f).map (·.2)) = true := by
    have : ∀ ks : List (List Int), clns noD ((enTab ks f).map (·.2)) = true := fun ks => by
      induction ks with
      | nil => rfl
      | cons k ks ih =>
        have e : (enTab (k :: ks) f).map (·.2) = endD (f k) :: (enTab ks f).map (·.2) := rfl
        rw [e, clns, ih]; rfl
    exact this ks
  have c2 : cln noD (lotsD ks) = true := cln_lots rfl ks
  match j, hj, e with
  | 0, _, e => cases e; simp [clnS, clnF, c1, c2]
  | 1, _, e => cases e; exact cln_pol p
  | 2, _, e => cases e; rfl
  | 3, hj, _ => exact absurd rfl hj
  | 4, _, e => cases e; exact q4
  | 5, _, e => cases e; exact q5
  | 6, _, e => cases e; exact q6
  | j + 7, _, e => simp at e
end Ly

namespace Ly
open PySem L2
/-! ### the poll drawn -/
def cnt (some_ : List Int) (k : List Int) : Int := (k.map fun i => rw_ some_ i.toNat).sum
def pThings (row : List Int) (most : Int) : Int := 1 + rw_ row 0 % most
def pKind (row : List Int) : Str := if rw_ row 1 % 4 = 0 then "some" else "one"
def pAsked (row : List Int) : Int := 1 + rw_ row 2 % rw_ [8, 30, 60] (rw_ row 3 % 3).toNat
def pSome (row : List Int) (most : Int) : List Int := spreadOf row 4 (pAsked row) (pThings row most) (pKind row)
def pUnits (row : List Int) (t : Nat) : Int := rw_ [2, 3, 4, 5, 7, 10, 20, 100] (rw_ row (6 + t) % (if t = 0 ∧ rw_ row 5 % 2 = 0 then 8 else 6)).toNat
def pWords : List Str := ["cut", "near", "up", "near"]
def pWord (row : List Int) (t : Nat) : Str := pWords.getD (rw_ row (8 + t) % 4).toNat ""
def pTold (row sm : List Int) (asked u : Int) (w : Str) (t spot : Nat) (k : List Int) : Int :=
  if rw_ row ((20 + 7 * (t : Int) + (spot : Int)) % 60).toNat % 17 = 0 then (lawShare (cnt sm k) asked u w + 1) % (u + 1) else lawShare (cnt sm k) asked u w
def pStep (row sm : List Int) (asked u : Int) (w : Str) (t : Nat) (ps : List (List Int × Int)) (x : List Int × Nat) : List (List Int × Int) :=
  if 0 < rw_ row ((40 + 7 * (t : Int) + (x.2 : Int)) % 60).toNat % 4 then ps ++ [(x.1, pTold row sm asked u w t x.2 x.1)] else ps
def pRun (row sm : List Int) (asked u : Int) (w : Str) (t : Nat) (ks : List (List Int)) (n : Nat) : List (List Int × Int) := ((ks.zipIdx).take n).foldl (pStep row sm asked u w t) []
def pParts (row sm : List Int) (asked u : Int) (w : Str) (t : Nat) (ks : List (List Int)) : List (List Int × Int) :=
  if (pRun row sm asked u w t ks ks.length).isEmpty = true then [([0], lawShare (rw_ sm 0) asked u w)] else pRun row sm asked u w t ks ks.length
def pShw (row : List Int) (most : Int) (t : Nat) : Shw := ⟨pUnits row t, pWord row t, pParts row (pSome row most) (pAsked row) (pUnits row t) (pWord row t) t (nestOf row 10 (pThings row most) (pKind row))⟩
def pPol (row : List Int) (most : Int) : Pol := ⟨pThings row most, pKind row, (List.range (1 + rw_ row 5 % 2).toNat).map (pShw row most)⟩
def c__law_poll : Ct := fun ds r => ∃ ns at_ most, ds = [.scr ns, .int at_, .int most] ∧ 0 ≤ at_ ∧ (1 ≤ most ∧ most ≤ 6) ∧ r = .ok (Pol.d (pPol (lawRow ns at_) most))
theorem pThings_bd {row : List Int} {most : Int} (hm : 1 ≤ most) : 1 ≤ pThings row most ∧ pThings row most ≤ most := by
  unfold pThings
  have h1 := Int.emod_nonneg (rw_ row 0) (show most ≠ 0 by omega)
  have h2 := Int.emod_lt_of_pos (rw_ row 0) (show 0 < most by omega)
  omega
theorem pKind_is (row : List Int) : pKind row = "some" ∨ pKind row = "one" := by unfold pKind; split <;> simp
theorem pKind_ok (row : List Int) : PyData.strOk (pKind row) = true := by
  rcases pKind_is row with h | h <;> rw [h] <;> decide +kernel
theorem three {z : Int} : z % 3 = 0 ∨ z % 3 = 1 ∨ z % 3 = 2 := by omega
theorem pAsked_bd {row : List Int} (hR : Row row) : 1 ≤ pAsked row ∧ pAsked row ≤ 60 := by
  unfold pAsked
  have b := hR.bd 2
  generalize rw_ row 2 = x at *
  generalize rw_ row 3 = y at *
  rcases three (z := y) with h | h | h <;> rw [h]
  · show 1 ≤ 1 + x % 8 ∧ 1 + x % 8 ≤ 60; omega
  · show 1 ≤ 1 + x % 30 ∧ 1 + x % 30 ≤ 60; omega
  · show 1 ≤ 1 + x % 60 ∧ 1 + x % 60 ≤ 60; omega
theorem askIx {row : List Int} : rw_ [8, 30, 60] (rw_ row 3 % 3).toNat ≠ 0 ∧ 0 < rw_ [8, 30, 60] (rw_ row 3 % 3).toNat := by
  generalize rw_ row 3 = y at *
  rcases three (z := y) with h | h | h <;> rw [h] <;> decide
theorem four {z : Int} : z % 4 = 0 ∨ z % 4 = 1 ∨ z % 4 = 2 ∨ z % 4 = 3 := by omega
theorem pWord_is (row : List Int) (t : Nat) : isWord (.str (pWord row t)) = true := by
  unfold pWord
  generalize rw_ row (8 + t) = y at *
  rcases four (z := y) with h | h | h | h <;> rw [h] <;> decide +kernel
theorem pUnits_bd (row : List Int) (t : Nat) : 2 ≤ pUnits row t ∧ pUnits row t ≤ 100 ∧ (¬ (t = 0 ∧ rw_ row 5 % 2 = 0) → pUnits row t ≤ 10) := by
  unfold pUnits
  generalize rw_ row (6 + t) = y at *
  by_cases h : t = 0 ∧ rw_ row 5 % 2 = 0
  · rw [if_pos h]
    have : y % 8 = 0 ∨ y % 8 = 1 ∨ y % 8 = 2 ∨ y % 8 = 3 ∨ y % 8 = 4 ∨ y % 8 = 5 ∨ y % 8 = 6 ∨ y % 8 = 7 := by omega
    refine ⟨?_, ?_, fun z => absurd h z⟩
    · rcases this with h | h | h | h | h | h | h | h <;> rw [h] <;> decide
    · rcases this with h | h | h | h | h | h | h | h <;> rw [h] <;> decide
  · rw [if_neg h]
    have : y % 6 = 0 ∨ y % 6 = 1 ∨ y % 6 = 2 ∨ y % 6 = 3 ∨ y % 6 = 4 ∨ y % 6 = 5 := by omega
    refine ⟨?_, ?_, fun _ => ?_⟩
    · rcases this with h | h | h | h | h | h <;> rw [h] <;> decide
    · rcases this with h | h | h | h | h | h <;> rw [h] <;> decide
    · rcases this with h | h | h | h | h | h <;> rw [h] <;> decide
/-! ### the lots of the poll drawn -/
theorem nest_few {row : List Int} {at_ things : Int} {kind : Str} (ht : 1 ≤ things ∧ things ≤ 6) : (nestOf row at_ things kind).length ≤ 12 := by
  have hs : (singles things.toNat).length ≤ 6 := by simp [singles]; omega
  unfold nestOf
  split
  · omega
  · unfold sortT nub
    rw [List.length_mergeSort]
    refine Nat.le_trans (length_fold _ _) ?_
    have h1 := List.length_filter_le (fun k : List Int => !k.isEmpty) (nestAll (rw_ row (at_ % 60).toNat) things (decide (rw_ row ((at_ + 1) % 60).toNat % 2 = 0)))
    have h2 : (chainOf (orderOf (rw_ row (at_ % 60).toNat) things) things (decide (rw_ row ((at_ + 1) % 60).toNat % 2 = 0))).length ≤ 6 := by
      unfold chainOf; split
      · simp; omega
      · simp
    unfold nestAll at h1
    rw [List.length_append] at h1
    unfold nestAll
    simp only [List.length_nil]
    omega
theorem orderOf_mod (R things : Int) : orderOf R things = orderOf (R % things) things := by
  unfold orderOf
  refine List.map_congr_left fun i _ => ?_
  rw [Int.add_emod_emod]
/-- all lots that may be shown, the single things and that of all -/
def uni (R things : Int) (even : Bool) : List (List Int) := rgI things :: ((nestAll R things even).filter fun k => !k.isEmpty)
def lotB (n : Int) (k : List Int) : Bool := !k.isEmpty && (k.all (fun x => decide (0 ≤ x) && decide (x ≤ n - 1)) && risesI k)
def uniOk (R things : Int) (even : Bool) : Bool := (uni R things even).all (lotB things) && ((uni R things even).all fun a => (uni R things even).all fun b => !decide (a.length ≤ b.length) || okPair a b)
theorem uni_all : ((List.range 6).all fun t => (List.range 6).all fun r => uniOk (r : Int) ((t : Int) + 1) true && uniOk (r : Int) ((t : Int) + 1) false) = true := by decide +kernel
theorem uni_ok {R things : Int} {even : Bool} (hR : 0 ≤ R) (ht : 1 ≤ things ∧ things ≤ 6) : uniOk R things even = true := by
  have e : uniOk R things even = uniOk (R % things) things even := by
    unfold uniOk uni nestAll
    rw [orderOf_mod]
  rw [e]
  have h1 := Int.emod_nonneg R (show things ≠ 0 by omega)
  have h2 := Int.emod_lt_of_pos R (show 0 < things by omega)
  generalize R % things = r at *
  have q := List.all_eq_true.mp (List.all_eq_true.mp uni_all (things - 1).toNat (List.mem_range.mpr (by omega))) r.toNat (List.mem_range.mpr (by omega))
  rw [show (((things - 1).toNat : Nat) : Int) + 1 = things by omega, show ((r.toNat : Nat) : Int) = r by omega] at q
  rw [Bool.and_eq_true] at q
  cases even
  · exact q.2
  · exact q.1
theorem lotB_is {n : Int} {k : List Int} (h : lotB n k = true) : isLotD n (itup k) = true := by
  unfold lotB at h
  have e : (k.map D.int).map intOf = k := by
    rw [List.map_map]; conv => rhs; rw [← List.map_id k]
    rfl
  simp only [isLotD, itup, List.isEmpty_map, List.all_map, e]
  simp only [Bool.and_eq_true] at h ⊢
  refine ⟨h.1, ?_, h.2.2⟩
  rw [List.all_eq_true] at h ⊢
  intro x hx
  have := h.2.1 x hx
  simpa [within, Function.comp] using this
/-- what each lot of a poll drawn is -/
def evenOf (row : List Int) : Bool := decide (rw_ row 11 % 2 = 0)
theorem nest_uni {row : List Int} {things : Int} {kind : Str} (ht : 1 ≤ things ∧ things ≤ 6) {k : List Int} (h : k ∈ nestOf row 10 things kind) : k ∈ uni (rw_ row 10) things (evenOf row) := by
  unfold nestOf at h
  split at h
  · unfold uni nestAll
    refine List.mem_cons_of_mem _ (List.mem_filter.mpr ⟨List.mem_append_left _ h, ?_⟩)
    unfold singles at h
    obtain ⟨i, _, rfl⟩ := List.mem_map.mp h
    rfl
  · rw [mem_sortT, mem_nub] at h
    exact List.mem_cons_of_mem _ h
theorem single_uni {R things : Int} {even : Bool} {i : Nat} (h : i < things.toNat) : [(i : Int)] ∈ uni R things even := by
  unfold uni nestAll
  refine List.mem_cons_of_mem _ (List.mem_filter.mpr ⟨List.mem_append_left _ ?_, rfl⟩)
  unfold singles
  exact List.mem_map.mpr ⟨i, List.mem_range.mpr h, rfl⟩
end Ly

namespace Ly
open PySem L2
/-! ### tuples in order -/
theorem leP_tup (a b : List Int) : leP (toPy (itup a)) (toPy (itup b)) = decide (a ≤ b) := by
  rw [toPy_itup, toPy_itup]
  unfold leP
  show (!PySem.W.dataLt (.tuple (b.map .int)) (.tuple (a.map .int))) = _
  rw [PySem.W.dataLt_tuple]
  show (!PySem.W.rowLt (b.map .int) (a.map .int)) = _
  rw [PySem.W.dataLt_ints]
  by_cases h : b < a
  · have h' : ¬ a ≤ b := fun r => List.not_lt.mpr r h
    simp [h, h']
  · have h' : a ≤ b := List.not_lt.mp h
    simp [h, h']
theorem lexGe_is : ∀ a b : List Int, lexGe a b = decide (b ≤ a)
  | [], [] => by simp [lexC]
  | [], y :: b => by simp [lexC]
  | x :: a, [] => by simp [lexC]
  | x :: a, y :: b => by
    have e : lexGe (x :: a) (y :: b) = if x = y then lexGe a b else decide (y ≤ x) := rfl
    have ih := lexGe_is a b
    rw [e, Bool.eq_iff_iff, decide_eq_true_eq, List.cons_le_cons_iff]
    by_cases h : x = y
    · subst h; rw [if_pos rfl, ih, decide_eq_true_eq]; exact ⟨fun q => .inr ⟨rfl, q⟩, fun q => by rcases q with q | ⟨_, q⟩; omega; exact q⟩
    · rw [if_neg h, decide_eq_true_eq]; omega
theorem le_anti {a b : List Int} (h1 : a ≤ b) (h2 : b ≤ a) : a = b := leP_anti (by rw [leP_tup]; exact decide_eq_true h1) (by rw [leP_tup]; exact decide_eq_true h2)
/-- strictly rising -/
def Up (ks : List (List Int)) : Prop := ks.Pairwise fun a b => a ≤ b ∧ a ≠ b
theorem up_sortT {ks : List (List Int)} (h : ks.Nodup) : Up (sortT ks) := by
  have h1 := sortT_up ks
  have h2 := sortT_nodup h
  unfold Up
  rw [List.pairwise_and_iff]
  exact ⟨h1.imp fun q => by rw [leP_tup] at q; exact of_decide_eq_true q, h2⟩
theorem up_rises : ∀ {ks : List (List Int)}, Up ks → risesT ks = true
  | [], _ => rfl
  | [a], _ => rfl
  | a :: b :: ks, h => by
    unfold Up at h
    rw [List.pairwise_cons] at h
    have ih := up_rises (ks := b :: ks) h.2
    unfold risesT at ih ⊢
    simp only [List.tail_cons, List.zip_cons_cons] at ih ⊢
    rw [List.filter_cons_of_neg]
    · exact ih
    · rw [lexGe_is]
      have := h.1 b (by simp)
      intro z
      exact this.2 (le_anti this.1 (of_decide_eq_true z))
theorem up_sub {ks ls : List (List Int)} (h : Up ks) (s : ls.Sublist ks) : Up ls := List.Pairwise.sublist s h
theorem up_singles : ∀ n, Up (singles n)
  | 0 => .nil
  | n + 1 => by
    have ih := up_singles n
    unfold Up singles at ih ⊢
    rw [List.range_succ, List.map_append, List.pairwise_append]
    refine ⟨ih, by simp, fun a ha b hb => ?_⟩
    obtain ⟨i, hi, rfl⟩ := List.mem_map.mp ha
    simp at hb; subst hb
    have := List.mem_range.mp hi
    refine ⟨?_, by simp; omega⟩
    rw [List.cons_le_cons_iff]
    left; omega
/-! ### good polls -/
theorem shwD_of {n : Int} {s : Shw} (h : ShwOk n s) : isShwD n s.d = true := by
  have h1 : within (.int s.units) 2 100 = true := by have := h.u0; have := h.u1; simp [within]; omega
  have e : (s.parts.map partD).map (fun q => lotOf (headOf q)) = s.parts.map (·.1) := by
    rw [List.map_map]
    refine List.map_congr_left fun q _ => ?_
    simp only [Function.comp, partD, headOf, lotOf_itup]
  have h2 : (s.parts.map partD).all (isPartD n (intOf (.int s.units))) = true := by
    rw [List.all_eq_true]
    intro d hd
    obtain ⟨q, hq, rfl⟩ := List.mem_map.mp hd
    obtain ⟨a, b, c⟩ := h.lots q hq
    simp only [partD, isPartD, a, Bool.true_and, intOf]
    simp [within]; omega
  have h3 : (s.parts.map partD).isEmpty = false := by
    have := h.ne
    cases q : s.parts with
    | nil => exact absurd q this
    | cons _ _ => rfl
  simp only [Shw.d, isShwD, h1, h.w, h2, h3, e, h.up]
  rfl
theorem gd_itup {k : List Int} (h : k.length < 1000000) : gd (itup k) = true := by
  have : ∀ l : List Int, gds (l.map .int) = true := fun l => by
    induction l with
    | nil => rfl
    | cons x l ih => simp [gds, gd, ih]
  simp [itup, gd, this, h]
theorem gds_of : ∀ {ds : List D}, (∀ d ∈ ds, gd d = true) → gds ds = true
  | [], _ => rfl
  | d :: ds, h => by simp [gds, h d (by simp), gds_of fun x hx => h x (List.mem_cons_of_mem _ hx)]
theorem gd_shw {s : Shw} (hw : isWord (.str s.word) = true) (h1 : s.parts.length < 1000000) (h2 : ∀ q ∈ s.parts, q.1.length < 1000000) : gd s.d = true := by
  have : gds (s.parts.map partD) = true := gds_of fun d hd => by
    obtain ⟨q, hq, rfl⟩ := List.mem_map.mp hd
    simp [partD, gd, gds, gd_itup (h2 q hq)]
  simp [Shw.d, gd, gds, word_ok hw, this, h1]
theorem shwOf_d (s : Shw) : shwOf s.d = s := by
  cases s with
  | mk u w ps =>
    simp only [Shw.d, shwOf, intOf, strOf, List.map_map]
    congr 1
    conv => rhs; rw [← List.map_id ps]
    refine List.map_congr_left fun q _ => ?_
    simp [partD, headOf, tailOf, lotOf_itup, intOf]
theorem polOf_d (p : Pol) : polOf (.int p.n) (.str p.kind) (p.shs.map Shw.d) = p := by
  cases p with
  | mk n k ss =>
    simp only [polOf, intOf, strOf, List.map_map]
    congr 1
    conv => rhs; rw [← List.map_id ss]
    refine List.map_congr_left fun q _ => ?_
    simp [shwOf_d]
theorem isPoll_of {p : Pol} (hn : 1 ≤ p.n ∧ p.n ≤ 6) (hk : isKind (.str p.kind) = true) (h3 : 1 ≤ p.shs.length ∧ p.shs.length ≤ 3) (hs : ∀ s ∈ p.shs, ShwOk p.n s) (he : pollEnd p = true) : isPollD p.d = true := by
  have h1 : within (.int p.n) 1 6 = true := by simp [within]; omega
  have h2 : (p.shs.map Shw.d).all (isShwD (intOf (.int p.n))) = true := by
    rw [List.all_eq_true]
    intro d hd
    obtain ⟨s, hs', rfl⟩ := List.mem_map.mp hd
    exact shwD_of (hs s hs')
  show (within (.int p.n) 1 6 && (isKind (.str p.kind) && (decide (1 ≤ (p.shs.map Shw.d).length ∧ (p.shs.map Shw.d).length ≤ 3) && ((p.shs.map Shw.d).all (isShwD (intOf (.int p.n))) && pollEnd (polOf (.int p.n) (.str p.kind) (p.shs.map Shw.d)))))) = true
  rw [polOf_d, he, h2, h1, hk, List.length_map, decide_eq_true h3]
  rfl
theorem gp_of {p : Pol} (hn : 1 ≤ p.n ∧ p.n ≤ 6) (hk : isKind (.str p.kind) = true) (h3 : 1 ≤ p.shs.length ∧ p.shs.length ≤ 3) (hs : ∀ s ∈ p.shs, ShwOk p.n s) (hl : ∀ s ∈ p.shs, s.parts.length ≤ 20 ∧ ∀ q ∈ s.parts, q.1.length ≤ 1000) (he : pollEnd p = true) : GP p := by
  have fl : (p.shs.flatMap shLots).length ≤ 60 := by
    have : ∀ l : List Shw, (∀ s ∈ l, s.parts.length ≤ 20) → (l.flatMap shLots).length ≤ 20 * l.length := by
      intro l
      induction l with
      | nil => intro _; simp
      | cons s l ih =>
        intro hs
        have h1 := ih fun t ht => hs t (List.mem_cons_of_mem _ ht)
        have h2 := hs s List.mem_cons_self
        rw [List.flatMap_cons, List.length_append, List.length_cons]
        simp only [shLots, List.length_map] at h1 ⊢
        omega
    have := this p.shs fun s hs => (hl s hs).1
    omega
  have ln : ∀ k ∈ allLots p, k.length < 1000000 := by
    intro k hk
    rcases mem_allLots.mp hk with ⟨_, rfl⟩ | ⟨i, _, rfl⟩ | ⟨s, h1, q, h2, rfl⟩
    · simp [rgI]; omega
    · simp
    · have := (hl s h1).2 q h2; omega
  refine ⟨⟨by omega, by omega, kind_ok hk, by omega, by omega⟩, hs, hn, ln, ?_, h3, ?_, isPoll_of hn hk h3 hs he, ?_⟩
  · have := length_allLots p; omega
  · unfold pollEnd at he
    rw [Bool.and_eq_true] at he
    exact of_decide_eq_true he.1
  · have : gds (p.shs.map Shw.d) = true := gds_of fun d hd => by
      obtain ⟨s, hs', rfl⟩ := List.mem_map.mp hd
      exact gd_shw (hs s hs').w (by have := (hl s hs').1; omega) fun q hq => by have := (hl s hs').2 q hq; omega
    simp [Pol.d, shsD, gd, gds, kind_ok hk, this]; omega
theorem nest_of {ks : List (List Int)} (h : ks.Pairwise fun a b => okPair a b = true) : doNest ks = true := by
  induction h with
  | nil => rfl
  | cons h1 _ ih =>
    rw [doNest, ih, Bool.and_true, List.all_eq_true]
    exact h1
/-! ### the poll drawn is good -/
theorem rw_mem {l : List Int} {i : Nat} (P : Int → Prop) (h0 : P 0) (h : ∀ x ∈ l, P x) : P (rw_ l i) := by
  unfold rw_
  rw [List.getD_eq_getElem?_getD]
  cases e : l[i]? with
  | none => exact h0
  | some x => exact h x (List.mem_of_getElem? e)
theorem sum_nonneg : ∀ {l : List Int}, (∀ x ∈ l, 0 ≤ x) → 0 ≤ l.sum
  | [], _ => by simp
  | x :: l, h => by
    have h1 := h x (by simp)
    have h2 := sum_nonneg fun y hy => h y (List.mem_cons_of_mem _ hy)
    rw [List.sum_cons]; omega
/-- some of a list's places, each once, come to no more than all -/
theorem sum_places : ∀ {l : List Int} {ks : List Nat}, (∀ x ∈ l, 0 ≤ x) → ks.Nodup → (ks.map fun i => rw_ l i).sum ≤ l.sum
  | [], ks, _, _ => by
    have : ∀ ks : List Nat, (ks.map fun i => rw_ [] i).sum = 0 := fun ks => by
      induction ks with
      | nil => rfl
      | cons k ks ih => rw [List.map_cons, List.sum_cons, ih]; simp [rw_]
    rw [this]; simp
  | x :: l, ks, h, hn => by
    have hx := h x (by simp)
    have hl : ∀ y ∈ l, 0 ≤ y := fun y hy => h y (List.mem_cons_of_mem _ hy)
    have key : ∀ ks : List Nat, ks.Nodup → (ks.map fun i => rw_ (x :: l) i).sum = (if 0 ∈ ks then x else 0) + (((ks.filter fun i => decide (0 < i)).map fun i => i - 1).map fun i => rw_ l i).sum := by
      intro ks
      induction ks with
      | nil => intro _; simp
      | cons k ks ih =>
        intro hk
        rw [List.nodup_cons] at hk
        have ih := ih hk.2
        rw [List.map_cons, List.sum_cons, ih]
        cases k with
        | zero =>
          rw [if_neg hk.1, if_pos (by simp), List.filter_cons_of_neg (by simp)]
          simp [rw_]
        | succ k =>
          rw [List.filter_cons_of_pos (by simp), List.map_cons, List.map_cons, List.sum_cons]
          have e : (0 ∈ (k + 1) :: ks) ↔ 0 ∈ ks := by simp
          simp only [e, Nat.add_sub_cancel]
          have e2 : rw_ (x :: l) (k + 1) = rw_ l k := by simp [rw_]
          rw [e2]; omega
    rw [key ks hn]
    have nd : ((ks.filter fun i => decide (0 < i)).map fun i => i - 1).Nodup := by
      unfold List.Nodup
      rw [List.pairwise_map]
      have := hn.filter (p := fun i => decide (0 < i))
      refine List.Pairwise.imp_of_mem (fun {a b} ha hb hne => ?_) this
      have h1 := of_decide_eq_true (List.mem_filter.mp ha).2
      have h2 := of_decide_eq_true (List.mem_filter.mp hb).2
      omega
    have ih := sum_places (ks := (ks.filter fun i => decide (0 < i)).map fun i => i - 1) hl nd
    rw [List.sum_cons]
    split <;> omega
theorem risesI_pair : ∀ {k : List Int}, risesI k = true → k.Pairwise (· < ·)
  | [], _ => .nil
  | [a], _ => by simp
  | a :: b :: k, h => by
    unfold risesI at h
    simp only [List.tail_cons, List.zip_cons_cons] at h
    by_cases q : b ≤ a
    · rw [List.filter_cons_of_pos (by simpa using q)] at h
      simp at h
    · rw [List.filter_cons_of_neg (by simpa using q)] at h
      have ih := risesI_pair (k := b :: k) (by unfold risesI; exact h)
      rw [List.pairwise_cons]
      refine ⟨fun y hy => ?_, ih⟩
      rcases List.mem_cons.mp hy with rfl | hy
      · omega
      · have := (List.pairwise_cons.mp ih).1 y hy; omega
theorem cnt_le {l k : List Int} {n : Int} (hl : ∀ x ∈ l, 0 ≤ x) (h : lotB n k = true) : 0 ≤ cnt l k ∧ cnt l k ≤ l.sum := by
  unfold lotB at h
  simp only [Bool.and_eq_true, List.all_eq_true, decide_eq_true_eq] at h
  have pw := risesI_pair h.2.2
  refine ⟨?_, ?_⟩
  · refine sum_nonneg fun x hx => ?_
    obtain ⟨i, _, rfl⟩ := List.mem_map.mp hx
    exact rw_mem (fun z => 0 ≤ z) (by decide) hl
  · have e : (k.map fun i => rw_ l i.toNat) = (k.map Int.toNat).map fun i => rw_ l i := by rw [List.map_map]; rfl
    unfold cnt
    rw [e]
    refine sum_places hl ?_
    unfold List.Nodup
    rw [List.pairwise_map]
    refine List.Pairwise.imp_of_mem (fun {a b} ha hb hlt => ?_) pw
    have h1 := (h.2.1 a ha).1
    have h2 := (h.2.1 b hb).1
    omega
theorem lawShare_bd {c n u : Int} {w : Str} (hn : 1 ≤ n) (hc : 0 ≤ c ∧ c ≤ n) (hu : 2 ≤ u ∧ u ≤ 100) : 0 ≤ lawShare c n u w ∧ lawShare c n u w ≤ u := by
  have m0 : 0 ≤ u * c := Int.mul_nonneg (by omega) hc.1
  have m1 : u * c ≤ u * n := Int.mul_le_mul_of_nonneg_left hc.2 (by omega)
  unfold lawShare
  split
  · refine ⟨Int.ediv_nonneg m0 (by omega), ?_⟩
    exact Int.ediv_le_of_le_mul (by omega) m1
  · split
    · refine ⟨Int.ediv_nonneg (by omega) (by omega), ?_⟩
      have : (u * c + n - 1) / n < u + 1 := (Int.ediv_lt_iff_lt_mul (by omega)).mpr (by rw [Int.add_mul, Int.one_mul]; omega)
      omega
    · rw [Int.mul_assoc]
      refine ⟨Int.ediv_nonneg (by omega) (by omega), ?_⟩
      have : (2 * (u * c) + n) / (2 * n) < u + 1 := (Int.ediv_lt_iff_lt_mul (by omega)).mpr (by rw [Int.add_mul, Int.one_mul, Int.mul_left_comm u 2 n]; omega)
      omega
end Ly

namespace Ly
open PySem L2
section
variable {row sm : List Int} {asked u : Int} {w : Str} {t : Nat} {ks : List (List Int)}
theorem pRun_succ {n : Nat} {k : List Int} (h : ks[n]? = some k) : pRun row sm asked u w t ks (n + 1) = pStep row sm asked u w t (pRun row sm asked u w t ks n) (k, n) := by
  unfold pRun
  have e : ks.zipIdx[n]? = some (k, n) := by rw [List.getElem?_zipIdx, h]; simp
  rw [List.take_add_one, e, List.foldl_append]; rfl
theorem pTold_bd {spot : Nat} {k : List Int} {n : Int} (hs : ∀ x ∈ sm, 0 ≤ x) (ha : 1 ≤ asked) (hu : 2 ≤ u ∧ u ≤ 100) (hc : cnt sm k ≤ asked) (hk : lotB n k = true) : 0 ≤ pTold row sm asked u w t spot k ∧ pTold row sm asked u w t spot k ≤ u := by
  have c0 := (cnt_le hs hk).1
  have b := lawShare_bd (w := w) ha ⟨c0, hc⟩ hu
  unfold pTold
  split
  · have h1 := Int.emod_nonneg (lawShare (cnt sm k) asked u w + 1) (show u + 1 ≠ 0 by omega)
    have h2 := Int.emod_lt_of_pos (lawShare (cnt sm k) asked u w + 1) (show 0 < u + 1 by omega)
    omega
  · exact b
theorem pRun_sub : ∀ n, n ≤ ks.length → ((pRun row sm asked u w t ks n).map (·.1)).Sublist (ks.take n) ∧ ∀ q ∈ pRun row sm asked u w t ks n, ∃ i, ks[i]? = some q.1 ∧ q.2 = pTold row sm asked u w t i q.1
  | 0, _ => ⟨by simp [pRun], fun q hq => by simp [pRun] at hq⟩
  | n + 1, hn => by
    obtain ⟨h1, h2⟩ := pRun_sub n (by omega)
    have hk : ks[n]? = some ks[n] := List.getElem?_eq_getElem (by omega)
    rw [pRun_succ hk, List.take_add_one, hk]
    unfold pStep
    split
    · refine ⟨?_, fun q hq => ?_⟩
      · rw [List.map_append]
        exact h1.append (List.Sublist.refl _)
      · rcases List.mem_append.mp hq with hq | hq
        · exact h2 q hq
        · simp at hq; subst hq
          exact ⟨n, hk, rfl⟩
    · exact ⟨h1.trans (List.sublist_append_left _ _), h2⟩
end
theorem turnStep_le {x : Int} {s : Shw} (hx : 1 ≤ x) (hu : 1 ≤ s.units) : 1 ≤ turnStep x s ∧ turnStep x s ≤ x * (2 * s.units) := by
  unfold turnStep
  have ho : 1 ≤ (if s.word = "near" then 2 * s.units else s.units) ∧ (if s.word = "near" then 2 * s.units else s.units) ≤ 2 * s.units := by split <;> omega
  generalize (if s.word = "near" then 2 * s.units else s.units) = one at *
  obtain ⟨g1, g2, g3⟩ := gcd_pos hx ho.1
  have q1 : 1 ≤ x / gcdI x one := by rw [Int.le_ediv_iff_mul_le g1]; omega
  have q2 : x / gcdI x one ≤ x := by
    refine Int.ediv_le_of_le_mul g1 ?_
    have := Int.mul_le_mul_of_nonneg_left (show 1 ≤ gcdI x one by omega) (show 0 ≤ x by omega)
    omega
  refine ⟨?_, ?_⟩
  · show 1 ≤ x / gcdI x one * one
    have := Int.mul_le_mul q1 ho.1 (by omega) (by omega)
    omega
  · show x / gcdI x one * one ≤ _
    exact Int.mul_le_mul q2 ho.2 (by omega) (by omega)
section
variable {row : List Int} {most : Int} (hR : Row row) (hm : 1 ≤ most ∧ most ≤ 6)
include hR hm
theorem pSome_ok : (∀ x ∈ pSome row most, 0 ≤ x ∧ x ≤ pAsked row) ∧ (pKind row ≠ "some" → (pSome row most).sum = pAsked row) ∧ (pSome row most).length = (pThings row most).toNat := by
  have ha := pAsked_bd hR
  have ht := pThings_bd (row := row) hm.1
  refine ⟨?_, ?_, spread_len _ _ _ _ _⟩
  · intro x hx
    unfold pSome spreadOf at hx
    split at hx
    · obtain ⟨i, _, rfl⟩ := List.mem_map.mp hx
      have h1 := Int.emod_nonneg (rw_ row ((4 + (i : Int)) % 60).toNat) (show pAsked row + 1 ≠ 0 by omega)
      have h2 := Int.emod_lt_of_pos (rw_ row ((4 + (i : Int)) % 60).toNat) (show 0 < pAsked row + 1 by omega)
      omega
    · obtain ⟨s1, s2⟩ := spRun_ok row 4 ht.1 (pAsked row).toNat
      have pos : ∀ y ∈ spRun row 4 (pThings row most) (pAsked row).toNat, 0 ≤ y := fun y hy => by
        obtain ⟨i, hi⟩ := List.mem_iff_getElem?.mp hy
        have := s2 i
        unfold rw_ at this
        rw [List.getD_eq_getElem?_getD, hi] at this
        exact this
      refine ⟨pos x hx, ?_⟩
      obtain ⟨i, hi⟩ := List.mem_iff_getElem?.mp hx
      have := sum_places (ks := [i]) pos (by simp)
      simp only [List.map_cons, List.map_nil, List.sum_cons, List.sum_nil, s1] at this
      unfold rw_ at this
      rw [List.getD_eq_getElem?_getD, hi] at this
      simp at this
      omega
  · intro hk
    unfold pSome spreadOf
    rw [if_neg hk, (spRun_ok row 4 ht.1 _).1]
    omega
theorem cnt_asked {k : List Int} (hk : lotB (pThings row most) k = true) (h1 : pKind row = "some" → k.length ≤ 1) : cnt (pSome row most) k ≤ pAsked row := by
  obtain ⟨s1, s2, s3⟩ := pSome_ok hR hm
  have ha := pAsked_bd hR
  by_cases h : pKind row = "some"
  · have hl := h1 h
    match k, hl with
    | [], _ => simp [cnt]; omega
    | [i], _ =>
      simp only [cnt, List.map_cons, List.map_nil, List.sum_cons, List.sum_nil, Int.add_zero]
      exact rw_mem (fun z => z ≤ pAsked row) (by omega) fun x hx => (s1 x hx).2
  · have := (cnt_le (fun x hx => (s1 x hx).1) hk).2
    rw [s2 h] at this
    exact this
theorem nest_lotB {k : List Int} (h : k ∈ nestOf row 10 (pThings row most) (pKind row)) : lotB (pThings row most) k = true ∧ (pKind row = "some" → k.length ≤ 1) := by
  have ht := pThings_bd (row := row) hm.1
  have ok := uni_ok (R := rw_ row 10) (even := evenOf row) (hR.bd 10).1 (show 1 ≤ pThings row most ∧ pThings row most ≤ 6 by omega)
  unfold uniOk at ok
  rw [Bool.and_eq_true, List.all_eq_true] at ok
  refine ⟨ok.1 k (nest_uni (by omega) h), fun hk => ?_⟩
  unfold nestOf at h
  rw [if_pos hk] at h
  unfold singles at h
  obtain ⟨i, _, rfl⟩ := List.mem_map.mp h
  simp
theorem nest_up : Up (nestOf row 10 (pThings row most) (pKind row)) := by
  unfold nestOf
  split
  · exact up_singles _
  · exact up_sortT (nodup_nub _)
theorem zero_nest : [(0 : Int)] ∈ nestOf row 10 (pThings row most) (pKind row) := by
  have ht := pThings_bd (row := row) hm.1
  have h0 : [(0 : Int)] ∈ singles (pThings row most).toNat := by
    unfold singles
    exact List.mem_map.mpr ⟨0, List.mem_range.mpr (by omega), rfl⟩
  unfold nestOf
  split
  · exact h0
  · rw [mem_sortT, mem_nub]
    exact List.mem_filter.mpr ⟨List.mem_append_left _ h0, rfl⟩
theorem parts_ok {t : Nat} : (∀ q ∈ (pShw row most t).parts, q.1 ∈ nestOf row 10 (pThings row most) (pKind row) ∧ 0 ≤ q.2 ∧ q.2 ≤ pUnits row t) ∧ risesT ((pShw row most t).parts.map (·.1)) = true ∧ (pShw row most t).parts ≠ [] ∧ (pShw row most t).parts.length ≤ 12 := by
  obtain ⟨s1, s2, s3⟩ := pSome_ok hR hm
  have ha := pAsked_bd hR
  have ht := pThings_bd (row := row) hm.1
  have hu := pUnits_bd row t
  have z0 := zero_nest hR hm
  have nf := nest_few (row := row) (at_ := 10) (kind := pKind row) (show 1 ≤ pThings row most ∧ pThings row most ≤ 6 by omega)
  show (∀ q ∈ pParts _ _ _ _ _ _ _, _) ∧ risesT ((pParts _ _ _ _ _ _ _).map (·.1)) = true ∧ pParts _ _ _ _ _ _ _ ≠ [] ∧ (pParts _ _ _ _ _ _ _).length ≤ 12
  unfold pParts
  split
  · refine ⟨fun q hq => ?_, rfl, by simp, by simp⟩
    simp at hq; subst hq
    obtain ⟨lb, l1⟩ := nest_lotB hR hm z0
    have c1 := cnt_asked hR hm lb l1
    have c0 := (cnt_le (fun x hx => (s1 x hx).1) lb).1
    have e : cnt (pSome row most) [0] = rw_ (pSome row most) 0 := by simp [cnt]
    rw [e] at c1 c0
    exact ⟨z0, lawShare_bd ha.1 ⟨c0, c1⟩ ⟨hu.1, hu.2.1⟩⟩
  · rename_i hne
    obtain ⟨r1, r2⟩ := pRun_sub (row := row) (sm := pSome row most) (asked := pAsked row) (u := pUnits row t) (w := pWord row t) (t := t) (ks := nestOf row 10 (pThings row most) (pKind row)) _ (Nat.le_refl _)
    rw [List.take_length] at r1
    refine ⟨fun q hq => ?_, up_rises (up_sub (nest_up hR hm) r1), fun z => hne (by rw [z]; rfl), ?_⟩
    · obtain ⟨i, e1, e2⟩ := r2 q hq
      have hk := List.mem_of_getElem? e1
      obtain ⟨lb, l1⟩ := nest_lotB hR hm hk
      have := pTold_bd (row := row) (w := pWord row t) (t := t) (spot := i) (fun x hx => (s1 x hx).1) ha.1 ⟨hu.1, hu.2.1⟩ (cnt_asked hR hm lb l1) lb
      rw [← e2] at this
      exact ⟨hk, this⟩
    · have := r1.length_le
      rw [List.length_map] at this
      omega
theorem pPol_good : GP (pPol row most) := by
  have ht := pThings_bd (row := row) hm.1
  have hkind : isKind (.str (pKind row)) = true := by rcases pKind_is row with h | h <;> rw [h] <;> decide +kernel
  have h5 := hR.bd 5
  have hlen : (pPol row most).shs.length = (1 + rw_ row 5 % 2).toNat := by simp [pPol]
  have shok : ∀ t, ShwOk (pThings row most) (pShw row most t) := fun t => by
    obtain ⟨p1, p2, p3, p4⟩ := parts_ok hR hm (t := t)
    have hu := pUnits_bd row t
    exact ⟨hu.1, hu.2.1, pWord_is row t, p3, fun q hq => ⟨lotB_is (nest_lotB hR hm (p1 q hq).1).1, (p1 q hq).2⟩, p2⟩
  have ms : ∀ s ∈ (pPol row most).shs, ∃ t, s = pShw row most t := fun s hs => by
    obtain ⟨t, _, rfl⟩ := List.mem_map.mp hs
    exact ⟨t, rfl⟩
  refine gp_of (p := pPol row most) (show 1 ≤ pThings row most ∧ pThings row most ≤ 6 by omega) hkind (by rw [hlen]; omega) (fun s hs => ?_) (fun s hs => ?_) ?_
  · obtain ⟨t, rfl⟩ := ms s hs
    exact shok t
  · obtain ⟨t, rfl⟩ := ms s hs
    obtain ⟨p1, p2, p3, p4⟩ := parts_ok hR hm (t := t)
    refine ⟨by omega, fun q hq => ?_⟩
    have lb := (nest_lotB hR hm (p1 q hq).1).1
    unfold lotB at lb
    simp only [Bool.and_eq_true, List.all_eq_true, decide_eq_true_eq] at lb
    have pw := risesI_pair lb.2.2
    have := nat_nodup_len (q.1.map Int.toNat) (List.range 6) (by
      unfold List.Nodup
      rw [List.pairwise_map]
      refine List.Pairwise.imp_of_mem (fun {a b} ha hb hlt => ?_) pw
      have h1 := (lb.2.1 a ha).1
      have h2 := (lb.2.1 b hb).1
      omega) fun x hx => by
        obtain ⟨y, hy, rfl⟩ := List.mem_map.mp hx
        have := lb.2.1 y hy
        exact List.mem_range.mpr (by omega)
    rw [List.length_map, List.length_range] at this
    omega
  · unfold pollEnd
    rw [Bool.and_eq_true]
    refine ⟨decide_eq_true ?_, ?_⟩
    · have z2 : rw_ row 5 % 2 = 0 ∨ rw_ row 5 % 2 = 1 := by omega
      show turnOf ((List.range (1 + rw_ row 5 % 2).toNat).map (pShw row most)) ≤ 1000
      rcases z2 with h | h <;> rw [h]
      · show turnStep 1 (pShw row most 0) ≤ 1000
        have hu := pUnits_bd row 0
        have := turnStep_le (x := 1) (s := pShw row most 0) (by omega) (show 1 ≤ pUnits row 0 by omega)
        have e : (pShw row most 0).units = pUnits row 0 := rfl
        rw [e] at this
        omega
      · show turnStep (turnStep 1 (pShw row most 0)) (pShw row most 1) ≤ 1000
        have hu0 := pUnits_bd row 0
        have hu1 := pUnits_bd row 1
        have b0 := hu0.2.2 (by omega)
        have b1 := hu1.2.2 (by omega)
        have t0 := turnStep_le (x := 1) (s := pShw row most 0) (by omega) (show 1 ≤ pUnits row 0 by omega)
        have t1 := turnStep_le (x := turnStep 1 (pShw row most 0)) (s := pShw row most 1) t0.1 (show 1 ≤ pUnits row 1 by omega)
        have e0 : (pShw row most 0).units = pUnits row 0 := rfl
        have e1 : (pShw row most 1).units = pUnits row 1 := rfl
        rw [e0] at t0
        rw [e1] at t1
        generalize turnStep 1 (pShw row most 0) = x at *
        have : x * (2 * pUnits row 1) ≤ 20 * 20 := Int.mul_le_mul (by omega) (by omega) (by omega) (by omega)
        omega
    · split
      · rename_i hk
        have hk' : pKind row = "some" := hk
        rw [List.all_eq_true]
        intro s hs
        obtain ⟨t, rfl⟩ := ms s hs
        rw [List.all_eq_true]
        intro q hq
        exact decide_eq_true ((nest_lotB hR hm ((parts_ok hR hm (t := t)).1 q hq).1).2 hk')
      · refine nest_of ?_
        have ok := uni_ok (R := rw_ row 10) (even := evenOf row) (hR.bd 10).1 (show 1 ≤ pThings row most ∧ pThings row most ≤ 6 by omega)
        unfold uniOk at ok
        rw [Bool.and_eq_true] at ok
        have inU : ∀ k ∈ allLots (pPol row most), k ∈ uni (rw_ row 10) (pThings row most) (evenOf row) := fun k hk => by
          rcases mem_allLots.mp hk with ⟨_, rfl⟩ | ⟨i, hi, rfl⟩ | ⟨s, h1, q, h2, rfl⟩
          · exact List.mem_cons_self
          · exact single_uni hi
          · obtain ⟨t, rfl⟩ := ms s h1
            exact nest_uni (by omega) ((parts_ok hR hm (t := t)).1 q h2).1
        refine List.Pairwise.imp_of_mem (fun {a b} ha hb hlt => ?_) (lots_up (pPol row most))
        have := List.all_eq_true.mp (List.all_eq_true.mp ok.2 a (inU a ha)) b (inU b hb)
        simpa [hlt] using this
end
end Ly
namespace Ly
open PySem L2
theorem lay_parts : ∀ ps : List (List Int × Int), PyData.canLayAll0 (toPys (ps.map partD)) = true ∧ PyData.depthAll (toPys (ps.map partD)) ≤ 2
  | [] => ⟨by simp [toPys, PyData.canLayAll0], by simp [toPys, PyData.depthAll]⟩
  | p :: ps => by
    obtain ⟨h1, h2⟩ := lay_parts ps
    have e : toPy (partD p) = .tuple [.tuple (p.1.map .int), .int p.2] := by simp [partD, toPy, toPys, toPy_itup]
    rw [List.map_cons, toPys, e]
    refine ⟨by simp [PyData.canLayAll0, PyData.canLay0, lay_ints, h1], ?_⟩
    have d1 : PyData.depthAll (PyData.tuple [.tuple (p.1.map .int), .int p.2] :: toPys (ps.map partD)) = max 2 (PyData.depthAll (toPys (ps.map partD))) := by
      simp [PyData.depthAll, PyData.depth, PySem.W.depth_ints]
    omega
theorem shp_parts (ps : List (List Int × Int)) : shp (.list (ps.map partD)) = true := by
  obtain ⟨h1, h2⟩ := lay_parts ps
  unfold shp SeqAt.shaped
  rw [toPy]
  simp [PyData.canLay0, PyData.depth, h1]
  omega
theorem item_words (z : Int) : itemD (.list [.str "cut", .str "near", .str "up", .str "near"]) (z % 4) = some (.str (pWords.getD (z % 4).toNat "")) := by
  rcases four (z := z) with h | h | h | h <;> rw [h] <;> rfl
end Ly

namespace Ly
open PySem L2
/-! ### functions of the number that are the greatest of some lines, along a rest -/
/-- f, along r, r + W, ..: at each number some line that is nowhere above f; s: how far lines are off their slopes -/
def LoF (W r s : Int) (f : Int → Int) : Prop := ∀ t : Int, 0 ≤ t → 1 ≤ r + t * W → ∃ A a : Int, f (r + t * W) = A + a * t ∧ (∀ u : Int, 0 ≤ u → 1 ≤ r + u * W → A + a * u ≤ f (r + u * W)) ∧ r * a ≤ W * A ∧ W * A ≤ r * a + s * W
section
variable {W r s s' : Int} {f g : Int → Int}
theorem LoF.congr (h : LoF W r s f) (e : ∀ n, 1 ≤ n → f n = g n) : LoF W r s g := fun t h0 h1 => by
  obtain ⟨A, a, q1, q2, q3, q4⟩ := h t h0 h1
  exact ⟨A, a, by rw [← e _ h1]; exact q1, fun u u0 u1 => by rw [← e _ u1]; exact q2 u u0 u1, q3, q4⟩
theorem LoF.wide (h : LoF W r s f) (hw : 0 ≤ W) (hs : s ≤ s') : LoF W r s' f := fun t h0 h1 => by
  obtain ⟨A, a, q1, q2, q3, q4⟩ := h t h0 h1
  refine ⟨A, a, q1, q2, q3, ?_⟩
  have := Int.mul_le_mul_of_nonneg_right hs hw
  omega
theorem LoF.zero : LoF W r 0 fun _ => 0 := fun t h0 h1 => ⟨0, 0, by simp, fun u _ _ => by simp, by simp, by simp⟩
theorem LoF.max (h : LoF W r s f) (k : LoF W r s g) : LoF W r s fun n => max (f n) (g n) := fun t h0 h1 => by
  rcases Int.le_total (f (r + t * W)) (g (r + t * W)) with z | z
  · obtain ⟨A, a, q1, q2, q3, q4⟩ := k t h0 h1
    refine ⟨A, a, by simp only; omega, fun u u0 u1 => ?_, q3, q4⟩
    have := q2 u u0 u1
    simp only; omega
  · obtain ⟨A, a, q1, q2, q3, q4⟩ := h t h0 h1
    refine ⟨A, a, by simp only; omega, fun u u0 u1 => ?_, q3, q4⟩
    have := q2 u u0 u1
    simp only; omega
theorem LoF.add (h : LoF W r s f) (k : LoF W r s' g) : LoF W r (s + s') fun n => f n + g n := fun t h0 h1 => by
  obtain ⟨A, a, q1, q2, q3, q4⟩ := h t h0 h1
  obtain ⟨B, b, p1, p2, p3, p4⟩ := k t h0 h1
  refine ⟨A + B, a + b, by simp only; rw [Int.add_mul]; omega, fun u u0 u1 => ?_, ?_, ?_⟩
  · have := q2 u u0 u1
    have := p2 u u0 u1
    simp only; rw [Int.add_mul]; omega
  · rw [Int.mul_add, Int.mul_add]; omega
  · rw [Int.mul_add, Int.mul_add, Int.add_mul]; omega
/-- one line -/
theorem LoF.line {A a : Int} (h : ∀ t : Int, 0 ≤ t → 1 ≤ r + t * W → f (r + t * W) = A + a * t) (h3 : r * a ≤ W * A) (h4 : W * A ≤ r * a + s * W) : LoF W r s f := fun t h0 h1 =>
  ⟨A, a, h t h0 h1, fun u u0 u1 => by rw [h u u0 u1]; exact Int.le_refl _, h3, h4⟩
/-- what is no greater than 0 stays so -/
theorem LoF.mono (h : LoF W r s f) (hW : 1 ≤ W) {t : Int} (t0 : 0 ≤ t) (t1 : 1 ≤ r + t * W) (h0 : f (r + t * W) ≤ 0) : f (r + (t + 1) * W) ≤ 0 := by
  have e1 : (t + 1) * W = t * W + W := by rw [Int.add_mul, Int.one_mul]
  obtain ⟨A, a, q1, q2, q3, q4⟩ := h (t + 1) (by omega) (by rw [e1]; omega)
  have z := q2 t t0 t1
  rw [q1, Int.mul_add, Int.mul_one]
  have ha : a ≤ 0 := by
    refine Classical.byContradiction fun hn => ?_
    have k1 : 0 < a * (r + t * W) := Int.mul_pos (by omega) (by omega)
    rw [Int.mul_add] at k1
    have k2 : W * (A + a * t) ≤ 0 := Int.mul_nonpos_of_nonneg_of_nonpos (by omega) (by omega)
    rw [Int.mul_add] at k2
    have e2 : a * (t * W) = W * (a * t) := by rw [← Int.mul_assoc, Int.mul_comm]
    have e3 : a * r = r * a := Int.mul_comm _ _
    omega
  omega
theorem LoF.monos (h : LoF W r s f) (hW : 1 ≤ W) {t : Int} (t0 : 0 ≤ t) (t1 : 1 ≤ r + t * W) (h0 : f (r + t * W) ≤ 0) : ∀ j : Nat, f (r + (t + (j : Int)) * W) ≤ 0
  | 0 => by simpa using h0
  | j + 1 => by
    have ih := LoF.monos h hW t0 t1 h0 j
    have e : (t + ((j + 1 : Nat) : Int)) = (t + (j : Int)) + 1 := by omega
    rw [e]
    refine h.mono hW (by omega) ?_ ih
    have : 0 ≤ (j : Int) * W := Int.mul_nonneg (by omega) (by omega)
    rw [Int.add_mul]; omega
/-- what is some day no greater than 0 is so soon -/
theorem LoF.soon (h : LoF W r s f) (hW : 1 ≤ W) (hr : 0 ≤ r) {t v : Int} (t0 : 0 ≤ t) (t1 : 1 ≤ r + t * W) (ts : s ≤ t) (tv : t ≤ v) (h0 : f (r + v * W) ≤ 0) : f (r + t * W) ≤ 0 := by
  have m : t * W ≤ v * W := Int.mul_le_mul_of_nonneg_right tv (by omega)
  obtain ⟨A, a, q1, q2, q3, q4⟩ := h t t0 t1
  have z := q2 v (by omega) (by omega)
  rw [q1]
  refine Classical.byContradiction fun hn => ?_
  have ha : a < 0 := by
    refine Classical.byContradiction fun hb => ?_
    have := Int.mul_le_mul_of_nonneg_left tv (show 0 ≤ a by omega)
    omega
  have k1 : 0 < W * (A + a * t) := Int.mul_pos (by omega) (by omega)
  rw [Int.mul_add] at k1
  have k2 : a * t ≤ -t := by
    have := Int.mul_le_mul_of_nonneg_right (show a ≤ -1 by omega) t0
    omega
  have k3 : W * (a * t) ≤ W * (-t) := Int.mul_le_mul_of_nonneg_left k2 (by omega)
  have k4 : r * a ≤ 0 := Int.mul_nonpos_of_nonneg_of_nonpos hr (by omega)
  have k5 : s * W ≤ t * W := Int.mul_le_mul_of_nonneg_right ts (by omega)
  have e1 : W * (-t) = -(t * W) := by rw [Int.mul_neg, Int.mul_comm]
  omega
end
/-! ### shares are lines -/
theorem upOver_add (a b d : Int) (hd : d ≠ 0) : upOver (a + b * d) d = upOver a d + b := by
  unfold upOver
  have e : -(a + b * d) = -a + -b * d := by rw [Int.neg_add, Int.neg_mul]
  rw [e, Int.add_mul_ediv_right _ _ hd]
  omega
/-- c n / d brought up, d a part of W -/
theorem LoF.ceil {W r c d m : Int} (hd : 1 ≤ d) (hW : W = m * d) (hm : 0 ≤ m) : LoF W r 1 fun n => upOver (c * n) d := by
  refine LoF.line (A := upOver (c * r) d) (a := c * m) (fun t _ _ => ?_) ?_ ?_
  · skip
    have e : c * (r + t * W) = c * r + (c * m * t) * d := by
      rw [Int.mul_add, hW, ← Int.mul_assoc t m d, ← Int.mul_assoc c (t * m) d, Int.mul_comm t m, ← Int.mul_assoc c m t]
    rw [e, upOver_add _ _ _ (by omega)]
  · have b := upOver_bd (z := c * r) (n := d) (by omega)
    have := Int.mul_le_mul_of_nonneg_left b.2 hm
    rw [hW]
    have e1 : r * (c * m) = m * (c * r) := by rw [Int.mul_comm c m, Int.mul_left_comm, Int.mul_comm r c]
    have e2 : m * d * upOver (c * r) d = m * (upOver (c * r) d * d) := by rw [Int.mul_assoc, Int.mul_comm d]
    omega
  · have b := upOver_bd (z := c * r) (n := d) (by omega)
    have := Int.mul_le_mul_of_nonneg_left (Int.le_of_lt b.1) hm
    rw [hW]
    have e1 : r * (c * m) = m * (c * r) := by rw [Int.mul_comm c m, Int.mul_left_comm, Int.mul_comm r c]
    have e2 : m * d * upOver (c * r) d = m * (upOver (c * r) d * d) := by rw [Int.mul_assoc, Int.mul_comm d]
    have e3 : m * ((upOver (c * r) d - 1) * d) = m * (upOver (c * r) d * d) - m * d := by rw [Int.sub_mul, Int.one_mul, Int.mul_sub]
    omega
theorem div_bd {z n : Int} (hn : 0 < n) : z / n * n ≤ z ∧ z < z / n * n + n := (div_is hn).mp rfl
/-- c n / d cut, and 1 more -/
theorem LoF.floor1 {W r c d m : Int} (hd : 1 ≤ d) (hW : W = m * d) (hm : 0 ≤ m) : LoF W r 1 fun n => c * n / d + 1 := by
  have b := div_bd (z := c * r) (n := d) (by omega)
  have e1 : r * (c * m) = m * (c * r) := by rw [Int.mul_comm c m, Int.mul_left_comm, Int.mul_comm r c]
  have e2 : m * d * (c * r / d + 1) = m * (c * r / d * d) + m * d := by rw [Int.mul_add, Int.mul_one, Int.mul_assoc, Int.mul_comm d]
  refine LoF.line (A := c * r / d + 1) (a := c * m) (fun t _ _ => ?_) ?_ ?_
  · skip
    have e : c * (r + t * W) = c * r + (c * m * t) * d := by
      rw [Int.mul_add, hW, ← Int.mul_assoc t m d, ← Int.mul_assoc c (t * m) d, Int.mul_comm t m, ← Int.mul_assoc c m t]
    rw [e, Int.add_mul_ediv_right _ _ (by omega)]; omega
  · have := Int.mul_le_mul_of_nonneg_left (Int.le_of_lt b.2) hm
    rw [Int.mul_add] at this
    rw [hW]; omega
  · have := Int.mul_le_mul_of_nonneg_left b.1 hm
    rw [hW]; omega
/-- less c n / d cut -/
theorem LoF.floorN {W r c d m : Int} (hd : 1 ≤ d) (hW : W = m * d) (hm : 0 ≤ m) : LoF W r 1 fun n => -(c * n / d) := by
  have b := div_bd (z := c * r) (n := d) (by omega)
  have e1 : r * -(c * m) = -(m * (c * r)) := by rw [Int.mul_neg, Int.mul_comm c m, Int.mul_left_comm, Int.mul_comm r c]
  have e2 : m * d * -(c * r / d) = -(m * (c * r / d * d)) := by rw [Int.mul_neg, Int.mul_assoc, Int.mul_comm d]
  refine LoF.line (A := -(c * r / d)) (a := -(c * m)) (fun t _ _ => ?_) ?_ ?_
  · skip
    have e : c * (r + t * W) = c * r + (c * m * t) * d := by
      rw [Int.mul_add, hW, ← Int.mul_assoc t m d, ← Int.mul_assoc c (t * m) d, Int.mul_comm t m, ← Int.mul_assoc c m t]
    rw [e, Int.add_mul_ediv_right _ _ (by omega), Int.neg_mul]; omega
  · have := Int.mul_le_mul_of_nonneg_left b.1 hm
    rw [hW]; omega
  · have := Int.mul_le_mul_of_nonneg_left (Int.le_of_lt b.2) hm
    rw [Int.mul_add] at this
    rw [hW]; omega
/-- 1 less what is brought up -/
theorem LoF.ceilN {W r c d m : Int} (hd : 1 ≤ d) (hW : W = m * d) (hm : 0 ≤ m) : LoF W r 1 fun n => -(upOver (c * n) d - 1) := by
  have b := upOver_bd (z := c * r) (n := d) (by omega)
  have e1 : r * -(c * m) = -(m * (c * r)) := by rw [Int.mul_neg, Int.mul_comm c m, Int.mul_left_comm, Int.mul_comm r c]
  have e2 : m * d * -(upOver (c * r) d - 1) = -(m * (upOver (c * r) d * d)) + m * d := by rw [Int.mul_neg, Int.mul_sub, Int.mul_one, Int.mul_assoc, Int.mul_comm d]; omega
  have e3 : m * ((upOver (c * r) d - 1) * d) = m * (upOver (c * r) d * d) - m * d := by rw [Int.sub_mul, Int.one_mul, Int.mul_sub]
  refine LoF.line (A := -(upOver (c * r) d - 1)) (a := -(c * m)) (fun t _ _ => ?_) ?_ ?_
  · skip
    have e : c * (r + t * W) = c * r + (c * m * t) * d := by
      rw [Int.mul_add, hW, ← Int.mul_assoc t m d, ← Int.mul_assoc c (t * m) d, Int.mul_comm t m, ← Int.mul_assoc c m t]
    rw [e, upOver_add _ _ _ (by omega), Int.neg_mul]; omega
  · have := Int.mul_le_mul_of_nonneg_left (Int.le_of_lt b.1) hm
    rw [hW]; omega
  · have := Int.mul_le_mul_of_nonneg_left b.2 hm
    rw [hW]; omega
/-- so many -/
theorem LoF.all {W r : Int} : LoF W r 0 fun n => n := LoF.line (A := r) (a := W) (fun t _ _ => by rw [Int.mul_comm]) (by rw [Int.mul_comm]; exact Int.le_refl _) (by rw [Int.mul_comm]; omega)
theorem LoF.allN {W r : Int} : LoF W r 0 fun n => -n := LoF.line (A := -r) (a := -W) (fun t _ _ => by rw [Int.neg_mul, Int.mul_comm W]; omega) (by rw [Int.mul_neg, Int.mul_neg, Int.mul_comm]; exact Int.le_refl _) (by rw [Int.mul_neg, Int.mul_neg, Int.mul_comm]; omega)
/-! ### the turn -/
def oneOf (u : Int) (w : Str) : Int := if w = "near" then 2 * u else u
theorem turnStep_dvd {x : Int} {s : Shw} : oneOf s.units s.word ∣ turnStep x s ∧ x ∣ turnStep x s := by
  have e : turnStep x s = x / gcdI x (oneOf s.units s.word) * oneOf s.units s.word := rfl
  rw [e]
  generalize oneOf s.units s.word = one
  refine ⟨Int.dvd_mul_left _ _, ?_⟩
  have h1 : gcdI x one ∣ x := Int.gcd_dvd_left x one
  have h2 : gcdI x one ∣ one := Int.gcd_dvd_right x one
  rw [← Int.mul_ediv_assoc' _ h1, Int.mul_ediv_assoc _ h2]
  exact Int.dvd_mul_right _ _
theorem turn_dvd {s : Shw} : ∀ {ss : List Shw} {x : Int}, s ∈ ss → oneOf s.units s.word ∣ ss.foldl turnStep x
  | q :: ss, x, h => by
    have go : ∀ (ss : List Shw) (y z : Int), z ∣ y → z ∣ ss.foldl turnStep y := fun ss => by
      induction ss with
      | nil => intro y z h; exact h
      | cons q ss ih => intro y z h; exact ih _ _ (Int.dvd_trans h turnStep_dvd.2)
    rw [List.foldl_cons]
    rcases List.mem_cons.mp h with rfl | h
    · exact go ss _ _ turnStep_dvd.1
    · exact turn_dvd h
/-! ### stretches are lines -/
section
variable {W r u q : Int} {w : Str}
theorem word3 (hw : isWord (.str w) = true) : w = "cut" ∨ w = "up" ∨ w = "near" := by
  simp only [isWord, Bool.or_eq_true, decide_eq_true_eq] at hw
  rcases hw with h | h | h
  · exact .inl h
  · exact .inr (.inr h)
  · exact .inr (.inl h)
theorem pos_m {d m : Int} (hd : 1 ≤ d) (hW : 1 ≤ W) (hm : W = d * m) : 0 ≤ m := by
  refine Classical.byContradiction fun z => ?_
  have := Int.mul_nonpos_of_nonneg_of_nonpos (show 0 ≤ d by omega) (show m ≤ 0 by omega)
  omega
theorem up_pos {z d : Int} (hd : 1 ≤ d) (hz : 0 ≤ z) : 0 ≤ upOver z d := by
  have b := upOver_bd (z := z) (n := d) (by omega)
  refine Classical.byContradiction fun k => ?_
  have := Int.mul_le_mul_of_nonneg_right (show upOver z d ≤ -1 by omega) (show 0 ≤ d by omega)
  omega
theorem up_le {z d n : Int} (hd : 1 ≤ d) (hz : z ≤ n * d) : upOver z d ≤ n := by
  have b := upOver_bd (z := z) (n := d) (by omega)
  refine Classical.byContradiction fun k => ?_
  have := Int.mul_le_mul_of_nonneg_right (show n ≤ upOver z d - 1 by omega) (show 0 ≤ d by omega)
  omega
theorem up_lt {z d n : Int} (hd : 1 ≤ d) (hz : n * d < z) : n < upOver z d := by
  have b := upOver_bd (z := z) (n := d) (by omega)
  refine Classical.byContradiction fun k => ?_
  have := Int.mul_le_mul_of_nonneg_right (show upOver z d ≤ n by omega) (show 0 ≤ d by omega)
  omega
theorem cut_up : ¬ (("up" : Str) = "cut") := by decide +kernel
theorem cut_near : ¬ (("near" : Str) = "cut") := by decide +kernel
theorem up_near : ¬ (("near" : Str) = "up") := by decide +kernel
theorem one_cut : oneOf u "cut" = u := by rw [oneOf, if_neg (by decide +kernel)]
theorem one_up : oneOf u "up" = u := by rw [oneOf, if_neg (by decide +kernel)]
theorem one_near : oneOf u "near" = 2 * u := by rw [oneOf, if_pos rfl]
theorem lo_low (hw : isWord (.str w) = true) (hu : 1 ≤ u) (hq : 0 ≤ q ∧ q ≤ u) (hd : oneOf u w ∣ W) (hW : 1 ≤ W) : LoF W r 1 fun n => stLow n u w q := by
  unfold stLow lowOf
  obtain ⟨m, hm⟩ := hd
  by_cases q0 : q = 0
  · refine (LoF.zero.wide (by omega) (show (0 : Int) ≤ 1 by decide)).congr fun n hn => ?_
    subst q0
    rcases word3 hw with rfl | rfl | rfl
    · rw [if_pos rfl]; simp [upOver]
    · rw [if_neg cut_up, if_pos rfl]
      have : (0 - 1) * n / u < 0 := Int.ediv_neg_of_neg_of_pos (by omega) (by omega)
      omega
    · rw [if_neg cut_near, if_neg up_near]
      have := up_le (z := (2 * 0 - 1) * n) (d := 2 * u) (n := 0) (by omega) (by omega)
      omega
  · rcases word3 hw with rfl | rfl | rfl
    · rw [one_cut] at hm
      refine (LoF.ceil (W := W) (r := r) (c := q) (d := u) (m := m) hu (by rw [hm, Int.mul_comm]) (pos_m hu hW hm)).congr fun n hn => ?_
      rw [if_pos rfl]
      have := up_pos (z := q * n) hu (Int.mul_nonneg (by omega) (by omega))
      omega
    · rw [one_up] at hm
      refine (LoF.floor1 (W := W) (r := r) (c := q - 1) (d := u) (m := m) hu (by rw [hm, Int.mul_comm]) (pos_m hu hW hm)).congr fun n hn => ?_
      rw [if_neg cut_up, if_pos rfl]
      have : 0 ≤ (q - 1) * n / u := Int.ediv_nonneg (Int.mul_nonneg (by omega) (by omega)) (by omega)
      omega
    · rw [one_near] at hm
      refine (LoF.ceil (W := W) (r := r) (c := 2 * q - 1) (d := 2 * u) (m := m) (by omega) (by rw [hm, Int.mul_comm]) (pos_m (by omega) hW hm)).congr fun n hn => ?_
      rw [if_neg cut_near, if_neg up_near]
      have := up_pos (z := (2 * q - 1) * n) (d := 2 * u) (by omega) (Int.mul_nonneg (by omega) (by omega))
      omega
theorem lo_high (hw : isWord (.str w) = true) (hu : 1 ≤ u) (hq : 0 ≤ q ∧ q ≤ u) (hd : oneOf u w ∣ W) (hW : 1 ≤ W) : LoF W r 1 fun n => -stHigh n u w q := by
  unfold stHigh highOf
  obtain ⟨m, hm⟩ := hd
  rcases word3 hw with rfl | rfl | rfl
  · rw [one_cut] at hm
    by_cases q0 : q = u
    · refine (LoF.allN.wide (by omega) (show (0 : Int) ≤ 1 by decide)).congr fun n hn => ?_
      subst q0
      rw [if_pos rfl]
      have := up_lt (z := (q + 1) * n) (d := q) (n := n) hu (by rw [Int.add_mul, Int.one_mul, Int.mul_comm]; omega)
      omega
    · refine (LoF.ceilN (W := W) (r := r) (c := q + 1) (d := u) (m := m) hu (by rw [hm, Int.mul_comm]) (pos_m hu hW hm)).congr fun n hn => ?_
      rw [if_pos rfl]
      have := up_le (z := (q + 1) * n) (d := u) (n := n) hu (by rw [Int.mul_comm n u]; exact Int.mul_le_mul_of_nonneg_right (by omega) (by omega))
      omega
  · rw [one_up] at hm
    refine (LoF.floorN (W := W) (r := r) (c := q) (d := u) (m := m) hu (by rw [hm, Int.mul_comm]) (pos_m hu hW hm)).congr fun n hn => ?_
    rw [if_neg cut_up, if_pos rfl]
    have : q * n / u ≤ n := Int.ediv_le_of_le_mul (by omega) (by rw [Int.mul_comm n u]; exact Int.mul_le_mul_of_nonneg_right hq.2 (by omega))
    omega
  · rw [one_near] at hm
    by_cases q0 : q = u
    · refine (LoF.allN.wide (by omega) (show (0 : Int) ≤ 1 by decide)).congr fun n hn => ?_
      subst q0
      rw [if_neg cut_near, if_neg up_near]
      have := up_lt (z := (2 * q + 1) * n) (d := 2 * q) (n := n) (by omega) (by rw [Int.add_mul, Int.one_mul, Int.mul_comm n]; omega)
      omega
    · refine (LoF.ceilN (W := W) (r := r) (c := 2 * q + 1) (d := 2 * u) (m := m) (by omega) (by rw [hm, Int.mul_comm]) (pos_m (by omega) hW hm)).congr fun n hn => ?_
      rw [if_neg cut_near, if_neg up_near]
      have := up_le (z := (2 * q + 1) * n) (d := 2 * u) (n := n) (by omega) (by rw [Int.mul_comm n (2 * u)]; exact Int.mul_le_mul_of_nonneg_right (by omega) (by omega))
      omega
end
/-! ### ends are lines -/
structure TOk (W : Int) (t : Tld) : Prop where
  w : isWord (.str t.w) = true
  u : 2 ≤ t.u ∧ t.u ≤ 100
  q : 0 ≤ t.q ∧ t.q ≤ t.u
  d : oneOf t.u t.w ∣ W
theorem tolds_ok {p : Pol} (hp : GP p) : ∀ t ∈ tolds p, TOk (turnOf p.shs) t := fun t ht => by
  unfold tolds at ht
  obtain ⟨s, hs, ht⟩ := List.mem_flatMap.mp ht
  obtain ⟨q, hq, rfl⟩ := List.mem_map.mp ht
  have so := hp.sh s hs
  exact ⟨so.w, ⟨so.u0, so.u1⟩, (so.lots q hq).2, turn_dvd hs⟩
theorem fold_lo {W r : Int} (hW : 1 ≤ W) {k : List Int} : ∀ {ts : List Tld} {f g : Int → Int}, (∀ t ∈ ts, TOk W t) → LoF W r 1 f → LoF W r 1 (fun n => -g n) → LoF W r 1 (fun n => (ts.foldl (endStep n k) (f n, g n)).1) ∧ LoF W r 1 (fun n => -(ts.foldl (endStep n k) (f n, g n)).2)
  | [], f, g, _, hf, hg => ⟨hf, hg⟩
  | t :: ts, f, g, ht, hf, hg => by
    have to := ht t (by simp)
    have rest : ∀ x ∈ ts, TOk W x := fun x hx => ht x (List.mem_cons_of_mem _ hx)
    by_cases e : t.k = k
    · have := fold_lo hW (k := k) (f := fun n => max (stLow n t.u t.w t.q) (f n)) (g := fun n => min (stHigh n t.u t.w t.q) (g n)) rest ((lo_low to.w (by have := to.u; omega) to.q to.d hW).max hf) (((lo_high to.w (by have := to.u; omega) to.q to.d hW).max hg).congr fun n _ => by omega)
      refine ⟨this.1.congr fun n _ => ?_, this.2.congr fun n _ => ?_⟩
      · rw [List.foldl_cons, endStep, if_pos e]
      · rw [List.foldl_cons, endStep, if_pos e]
    · have := fold_lo hW (k := k) (f := f) (g := g) rest hf hg
      refine ⟨this.1.congr fun n _ => ?_, this.2.congr fun n _ => ?_⟩
      · rw [List.foldl_cons, endStep, if_neg e]
      · rw [List.foldl_cons, endStep, if_neg e]
theorem ends_lo {p : Pol} (hp : GP p) {r : Int} (hW : 1 ≤ turnOf p.shs) (k : List Int) : LoF (turnOf p.shs) r 1 (fun n => (endsAt p n k).1) ∧ LoF (turnOf p.shs) r 1 (fun n => -(endsAt p n k).2) := by
  unfold endsAt end0
  by_cases h : p.kind = "one" ∧ k = rgI p.n
  · simp only [if_pos h]
    exact fold_lo hW (f := fun n => n) (g := fun n => n) (tolds_ok hp) (LoF.all.wide (by omega) (by decide)) (LoF.allN.wide (by omega) (by decide))
  · simp only [if_neg h]
    exact fold_lo hW (f := fun _ => 0) (g := fun n => n) (tolds_ok hp) (LoF.zero.wide (by omega) (by decide)) (LoF.allN.wide (by omega) (by decide))
end Ly

namespace Ly
open PySem L2
/-! ### a tree, filled -/
section
variable {ks : List (List Int)} {en : List Int → Int × Int} {pa : List Int → List (List Int)}
theorem sumOf_congr {f g : List Int → Int} {l : List (List Int)} (h : ∀ q ∈ l, f q = g q) : sumOf f l = sumOf g l := by
  unfold sumOf; rw [List.map_congr_left h]
theorem trLow_congr {T U : Tr} {k : List Int} (h : ∀ q ∈ pa k, T.need q = U.need q) : trLow en pa T k = trLow en pa U k := by
  unfold trLow; rw [sumOf_congr h]
theorem trHigh_congr {T U : Tr} {k : List Int} (h : ∀ q ∈ pa k, T.lt q = U.lt q) : trHigh en pa T k = trHigh en pa U k := by
  unfold trHigh; rw [sumOf_congr h]
def bad (T : Tr) (k : List Int) : Bool := decide (T.lt k < T.need k)
theorem tree_take (nd : ks.Nodup) (hb : ∀ (i : Nat) k, ks[i]? = some k → ∀ q ∈ pa k, q ∈ ks.take i) : ∀ n, n ≤ ks.length → (∀ k ∈ ks.take n, ((ks.take n).foldl (trStep en pa) tr0).need k = trLow en pa ((ks.take n).foldl (trStep en pa) tr0) k ∧ ((ks.take n).foldl (trStep en pa) tr0).lt k = trHigh en pa ((ks.take n).foldl (trStep en pa) tr0) k) ∧ ((ks.take n).foldl (trStep en pa) tr0).wrong = (ks.take n).find? (bad ((ks.take n).foldl (trStep en pa) tr0))
  | 0, _ => ⟨fun k hk => by simp at hk, rfl⟩
  | n + 1, hn => by
    obtain ⟨h1, h2⟩ := tree_take nd hb n (by omega)
    have hk : ks[n]? = some ks[n] := List.getElem?_eq_getElem (by omega)
    rw [List.take_add_one, hk]
    simp only [Option.toList, List.foldl_append, List.foldl_cons, List.foldl_nil]
    generalize hT : (ks.take n).foldl (trStep en pa) tr0 = T at *
    have hno : ks[n] ∉ ks.take n := fun z => by
      obtain ⟨j, hj, e⟩ := List.mem_take_iff_getElem.mp z
      have := (List.nodup_iff_pairwise_ne.mp nd)
      have := List.pairwise_iff_getElem.mp this j n (by omega) (by omega) (by omega)
      exact this e
    have hparts : ∀ i, i ≤ n → ∀ k, ks[i]? = some k → ∀ q ∈ pa k, (trStep en pa T ks[n]).need q = T.need q ∧ (trStep en pa T ks[n]).lt q = T.lt q := fun i hi k hk q hq => by
      have h3 := hb i k hk q hq
      have : q ∈ ks.take n := by
        obtain ⟨j, hj, e⟩ := List.mem_take_iff_getElem.mp h3
        exact List.mem_take_iff_getElem.mpr ⟨j, by omega, e⟩
      have hne : q ≠ ks[n] := fun z => hno (z ▸ this)
      simp only [trStep, if_neg hne, and_self]
    have hold : ∀ k ∈ ks.take n, (trStep en pa T ks[n]).need k = T.need k ∧ (trStep en pa T ks[n]).lt k = T.lt k := fun k hk => by
      have hne : k ≠ ks[n] := fun z => hno (z ▸ hk)
      simp only [trStep, if_neg hne, and_self]
    refine ⟨fun k hk' => ?_, ?_⟩
    · rcases List.mem_append.mp hk' with z | z
      · obtain ⟨i, hi, e⟩ := List.mem_take_iff_getElem.mp z
        have hi' : ks[i]? = some k := by rw [List.getElem?_eq_getElem (by omega), e]
        have hp := hparts i (by omega) k hi'
        rw [(hold k z).1, (hold k z).2, (h1 k z).1, (h1 k z).2]
        exact ⟨trLow_congr fun q hq => (hp q hq).1.symm, trHigh_congr fun q hq => (hp q hq).2.symm⟩
      · have z := List.mem_singleton.mp z
        subst z
        have hp := hparts n (Nat.le_refl _) _ hk
        have e1 : (trStep en pa T ks[n]).need ks[n] = trLow en pa T ks[n] := by simp [trStep]
        have e2 : (trStep en pa T ks[n]).lt ks[n] = trHigh en pa T ks[n] := by simp [trStep]
        rw [e1, e2]
        exact ⟨trLow_congr fun q hq => (hp q hq).1.symm, trHigh_congr fun q hq => (hp q hq).2.symm⟩
    · rw [List.find?_append]
      have e0 : (ks.take n).find? (bad (trStep en pa T ks[n])) = (ks.take n).find? (bad T) := by
        have : ∀ l : List (List Int), (∀ k ∈ l, k ∈ ks.take n) → l.find? (bad (trStep en pa T ks[n])) = l.find? (bad T) := fun l => by
          induction l with
          | nil => intro _; rfl
          | cons k l ih =>
            intro hl
            have hk := hold k (hl k (by simp))
            have eb : bad (trStep en pa T ks[n]) k = bad T k := by unfold bad; rw [hk.1, hk.2]
            rw [List.find?_cons, List.find?_cons, eb, ih fun x hx => hl x (List.mem_cons_of_mem _ hx)]
        exact this _ fun _ h => h
      rw [e0, ← h2]
      have e1 : (trStep en pa T ks[n]).need ks[n] = trLow en pa T ks[n] := by simp [trStep]
      have e2 : (trStep en pa T ks[n]).lt ks[n] = trHigh en pa T ks[n] := by simp [trStep]
      have e3 : (trStep en pa T ks[n]).wrong = if trHigh en pa T ks[n] < trLow en pa T ks[n] ∧ T.wrong = none then some ks[n] else T.wrong := rfl
      rw [e3, List.find?_cons, List.find?_nil, bad, e1, e2]
      cases hw : T.wrong with
      | some k => simp
      | none =>
        by_cases hlt : trHigh en pa T ks[n] < trLow en pa T ks[n]
        · rw [if_pos ⟨hlt, rfl⟩, decide_eq_true hlt]; rfl
        · rw [if_neg (fun z => hlt z.1), decide_eq_false hlt]; rfl
theorem tree_fix (nd : ks.Nodup) (hb : ∀ (i : Nat) k, ks[i]? = some k → ∀ q ∈ pa k, q ∈ ks.take i) : (∀ k ∈ ks, (treeOf ks en pa).need k = trLow en pa (treeOf ks en pa) k ∧ (treeOf ks en pa).lt k = trHigh en pa (treeOf ks en pa) k) ∧ (treeOf ks en pa).wrong = ks.find? (bad (treeOf ks en pa)) := by
  have := tree_take (en := en) nd hb ks.length (Nat.le_refl _)
  rw [List.take_length] at this
  exact this
end
/-! ### lots that nest -/
def sub (a b : List Int) : Prop := ∀ x ∈ a, x ∈ b
def dis (a b : List Int) : Prop := ∀ x ∈ a, x ∉ b
/-- lots of n things, from small to great, that nest; all single ones among them -/
structure Lam (n : Int) (L : List (List Int)) : Prop where
  nd : L.Nodup
  up : L.Pairwise fun a b => a.length ≤ b.length
  ne : ∀ k ∈ L, k ≠ []
  ris : ∀ k ∈ L, k.Pairwise (· < ·)
  rg : ∀ k ∈ L, ∀ x ∈ k, 0 ≤ x ∧ x < n
  nest : L.Pairwise fun a b => dis a b ∨ sub a b
  one : ∀ i : Int, 0 ≤ i → i < n → [i] ∈ L
theorem hd_mem {k : List Int} (h : k ≠ []) : hd0 k ∈ k := by
  cases k with
  | nil => exact absurd rfl h
  | cons x k => simp [hd0]
section
variable {n : Int} {L : List (List Int)}
theorem Lam.pair (l : Lam n L) {a b : List Int} (ha : a ∈ L) (hb : b ∈ L) (h : a.length < b.length) : dis a b ∨ sub a b := by
  obtain ⟨i, hi⟩ := List.mem_iff_getElem?.mp ha
  obtain ⟨j, hj⟩ := List.mem_iff_getElem?.mp hb
  obtain ⟨hi', ei⟩ := List.getElem?_eq_some_iff.mp hi
  obtain ⟨hj', ej⟩ := List.getElem?_eq_some_iff.mp hj
  have lt : i < j := by
    refine Classical.byContradiction fun z => ?_
    have up := List.pairwise_iff_getElem.mp l.up
    rcases Nat.lt_or_ge j i with w | w
    · have := up j i hj' hi' w
      rw [ei, ej] at this; omega
    · have e : i = j := by omega
      subst e
      rw [ei] at ej; subst ej; omega
  have := List.pairwise_iff_getElem.mp l.nest i j hi' hj' lt
  rw [ei, ej] at this
  exact this
/-- what the search for the lots within has found, after some of the lots, from great to small -/
structure InsOk (L : List (List Int)) (k : List Int) (done : List (List Int)) (F : List (List Int)) : Prop where
  mem : ∀ f ∈ F, f ∈ done ∧ f.length < k.length ∧ sub f k
  dj : F.Pairwise fun a b => dis b a
  cov : ∀ o ∈ done, o.length < k.length → hd0 o ∈ k → ∃ f ∈ F, sub o f
theorem ins_ok (l : Lam n L) {k : List Int} (hk : k ∈ L) : ∀ m, m ≤ L.length → InsOk L k (L.reverse.take m) ((L.reverse.take m).foldl (inStep k) [])
  | 0, _ => ⟨fun f hf => by simp at hf, by simp, fun o ho => by simp at ho⟩
  | m + 1, hm => by
    have ih := ins_ok l hk m (by omega)
    have hl : m < L.reverse.length := by rw [List.length_reverse]; omega
    have ho : L.reverse[m]? = some L.reverse[m] := List.getElem?_eq_getElem hl
    have oL : L.reverse[m] ∈ L := List.mem_reverse.mp (List.getElem_mem hl)
    rw [List.take_add_one, ho]
    simp only [Option.toList, List.foldl_append, List.foldl_cons, List.foldl_nil]
    generalize (L.reverse.take m).foldl (inStep k) [] = F at *
    -- what came before is no smaller, and nests
    have before : ∀ f ∈ L.reverse.take m, dis L.reverse[m] f ∨ sub L.reverse[m] f := fun f hf => by
      obtain ⟨j, hj, e⟩ := List.mem_take_iff_getElem.mp hf
      have pr : L.reverse.Pairwise fun a b => dis b a ∨ sub b a := List.pairwise_reverse.mpr l.nest
      have := List.pairwise_iff_getElem.mp pr j m (by omega) hl (by omega)
      rw [e] at this
      exact this
    generalize L.reverse[m] = o at *
    unfold inStep
    split
    · rename_i hc
      simp only [Bool.and_eq_true, decide_eq_true_eq, Bool.not_eq_true', List.any_eq_false] at hc
      obtain ⟨c1, c2, c3⟩ := hc
      refine ⟨fun f hf => ?_, ?_, fun x hx hlt hh => ?_⟩
      · rcases List.mem_append.mp hf with hf | hf
        · obtain ⟨a, b, c⟩ := ih.mem f hf
          exact ⟨List.mem_append_left _ a, b, c⟩
        · simp at hf; subst hf
          refine ⟨List.mem_append_right _ (by simp), c1, ?_⟩
          rcases l.pair oL hk c1 with z | z
          · exact absurd c2 (z _ (hd_mem (l.ne f oL)))
          · exact z
      · rw [List.pairwise_append]
        refine ⟨ih.dj, by simp, fun f hf y hy => ?_⟩
        simp at hy; subst hy
        rcases before f (ih.mem f hf).1 with z | z
        · exact z
        · exact absurd (z _ (hd_mem (l.ne y oL))) (by simpa using c3 f hf)
      · rcases List.mem_append.mp hx with hx | hx
        · obtain ⟨f, hf, hs⟩ := ih.cov x hx hlt hh
          exact ⟨f, List.mem_append_left _ hf, hs⟩
        · simp at hx; subst hx
          exact ⟨x, List.mem_append_right _ (by simp), fun _ h => h⟩
    · rename_i hc
      refine ⟨fun f hf => ?_, ih.dj, fun x hx hlt hh => ?_⟩
      · obtain ⟨a, b, c⟩ := ih.mem f hf
        exact ⟨List.mem_append_left _ a, b, c⟩
      · rcases List.mem_append.mp hx with hx | hx
        · exact ih.cov x hx hlt hh
        · simp at hx; subst hx
          have : ∃ f ∈ F, hd0 x ∈ f := by
            refine Classical.byContradiction fun z => hc ?_
            simp only [Bool.and_eq_true, decide_eq_true_eq, Bool.not_eq_true', List.any_eq_false]
            exact ⟨hlt, hh, fun f hf => by simpa using fun w => z ⟨f, hf, w⟩⟩
          obtain ⟨f, hf, hm⟩ := this
          refine ⟨f, hf, ?_⟩
          rcases before f (ih.mem f hf).1 with z | z
          · exact absurd hm (z _ (hd_mem (l.ne x oL)))
          · exact z
/-- the parts of a lot -/
theorem Lam.parts (l : Lam n L) {k : List Int} (hk : k ∈ L) : (∀ f ∈ partsOf L k, f ∈ L ∧ f.length < k.length ∧ sub f k) ∧ (partsOf L k).Pairwise dis ∧ (∀ o ∈ L, o.length < k.length → hd0 o ∈ k → ∃ f ∈ partsOf L k, sub o f) := by
  have q := ins_ok l hk L.length (Nat.le_refl _)
  rw [List.take_of_length_le (by rw [List.length_reverse]; exact Nat.le_refl _)] at q
  have pm : (partsOf L k).Perm (insOf L k) := List.mergeSort_perm _ _
  refine ⟨fun f hf => ?_, ?_, fun o ho h1 h2 => ?_⟩
  · obtain ⟨a, b, c⟩ := q.mem f (pm.mem_iff.mp hf)
    exact ⟨List.mem_reverse.mp a, b, c⟩
  · have sym : ∀ {a b : List Int}, dis b a → dis a b := fun h x hx hb => h x hb hx
    have dj : (insOf L k).Pairwise dis := q.dj.imp sym
    exact (pm.pairwise_iff fun h => sym h).mpr dj
  · obtain ⟨f, hf, hs⟩ := q.cov o (List.mem_reverse.mpr ho) h1 h2
    exact ⟨f, pm.mem_iff.mpr hf, hs⟩
/-- the parts of a lot of more than one thing have all its things -/
theorem Lam.cover (l : Lam n L) {k : List Int} (hk : k ∈ L) (h2 : 1 < k.length) : ∀ x ∈ k, ∃ f ∈ partsOf L k, x ∈ f := fun x hx => by
  have b := l.rg k hk x hx
  obtain ⟨f, hf, hs⟩ := (l.parts hk).2.2 [x] (l.one x b.1 b.2) (by simpa using h2) (by simpa [hd0] using hx)
  exact ⟨f, hf, hs x (by simp)⟩
theorem Lam.leaf (l : Lam n L) {k : List Int} (hk : k ∈ L) (h1 : k.length ≤ 1) : partsOf L k = [] := by
  refine List.eq_nil_iff_forall_not_mem.mpr fun f hf => ?_
  obtain ⟨a, b, _⟩ := (l.parts hk).1 f hf
  have : f.length = 0 := by omega
  exact l.ne f a (List.length_eq_zero_iff.mp this)
theorem Lam.inner (l : Lam n L) {k : List Int} (hk : k ∈ L) (h2 : 1 < k.length) : partsOf L k ≠ [] := fun z => by
  obtain ⟨f, hf, _⟩ := l.cover hk h2 (hd0 k) (hd_mem (l.ne k hk))
  rw [z] at hf; cases hf
/-- the parts are, all together, just the lot -/
theorem Lam.perm (l : Lam n L) {k : List Int} (hk : k ∈ L) (h2 : 1 < k.length) : (partsOf L k).flatten.Perm k := by
  obtain ⟨p1, p2, p3⟩ := l.parts hk
  have nk : k.Nodup := (l.ris k hk).imp fun h => by omega
  have nf : (partsOf L k).flatten.Nodup := by
    unfold List.Nodup; rw [List.pairwise_flatten]
    refine ⟨fun f hf => (l.ris f (p1 f hf).1).imp fun h => by omega, p2.imp fun h => ?_⟩
    exact fun x hx y hy e => h x hx (e ▸ hy)
  refine (List.perm_ext_iff_of_nodup nf nk).mpr fun x => ?_
  rw [List.mem_flatten]
  exact ⟨fun ⟨f, hf, hx⟩ => (p1 f hf).2.2 x hx, fun hx => l.cover hk h2 x hx⟩
end
end Ly

namespace Ly
open PySem L2
theorem nodup_len {α : Type} [DecidableEq α] : ∀ {l m : List α}, l.Nodup → (∀ x ∈ l, x ∈ m) → l.length ≤ m.length
  | [], _, _, _ => Nat.zero_le _
  | x :: l, m, hn, hs => by
    obtain ⟨h1, h2⟩ := List.nodup_cons.mp hn
    have hx : x ∈ m := hs x List.mem_cons_self
    have ih := nodup_len (m := m.erase x) h2 fun y hy => by
      have hne : y ≠ x := fun e => h1 (e ▸ hy)
      exact (List.mem_erase_of_ne hne).2 (hs y (List.mem_cons_of_mem _ hy))
    have e := List.length_erase_of_mem hx
    have hp : 0 < m.length := List.length_pos_of_mem hx
    rw [List.length_cons]
    omega
theorem okPair_is {a b : List Int} (h : okPair a b = true) : dis a b ∨ sub a b := by
  unfold okPair bothOf at h
  rw [Bool.or_eq_true] at h
  rcases h with h | h
  · left
    intro x hx hb
    rw [List.isEmpty_iff, List.filter_eq_nil_iff] at h
    exact h x hx (by simpa using hb)
  · right
    have e := of_decide_eq_true h
    rw [List.length_filter_eq_length_iff] at e
    exact fun x hx => by simpa using e x hx
theorem doNest_pair : ∀ {ks : List (List Int)}, doNest ks = true → ks.Pairwise fun a b => okPair a b = true
  | [], _ => .nil
  | k :: ks, h => by
    rw [doNest, Bool.and_eq_true] at h
    exact .cons (List.all_eq_true.mp h.1) (doNest_pair h.2)
section
variable {p : Pol} (hp : GP p)
include hp
theorem gp_end : pollEnd p = true := by
  have := hp.is
  change (within (.int p.n) 1 6 && (isKind (.str p.kind) && (decide (1 ≤ (p.shs.map Shw.d).length ∧ (p.shs.map Shw.d).length ≤ 3) && ((p.shs.map Shw.d).all (isShwD (intOf (.int p.n))) && pollEnd (polOf (.int p.n) (.str p.kind) (p.shs.map Shw.d)))))) = true at this
  rw [polOf_d] at this
  simp only [Bool.and_eq_true] at this
  exact this.2.2.2.2
theorem gp_kind : p.kind = "one" ∨ p.kind = "some" := by
  have := hp.is
  change (within (.int p.n) 1 6 && (isKind (.str p.kind) && (decide (1 ≤ (p.shs.map Shw.d).length ∧ (p.shs.map Shw.d).length ≤ 3) && ((p.shs.map Shw.d).all (isShwD (intOf (.int p.n))) && pollEnd (polOf (.int p.n) (.str p.kind) (p.shs.map Shw.d)))))) = true at this
  simp only [Bool.and_eq_true, isKind, Bool.or_eq_true, decide_eq_true_eq] at this
  exact this.2.1
theorem lot_facts {k : List Int} (h : isLotD p.n (itup k) = true) : k ≠ [] ∧ k.Pairwise (· < ·) ∧ ∀ x ∈ k, 0 ≤ x ∧ x < p.n := by
  have e : (k.map D.int).map intOf = k := by
    rw [List.map_map]; conv => rhs; rw [← List.map_id k]
    rfl
  simp only [isLotD, itup, List.isEmpty_map, List.all_map, e, Bool.and_eq_true] at h
  refine ⟨fun z => by subst z; simp at h, risesI_pair h.2.2, fun x hx => ?_⟩
  have := List.all_eq_true.mp h.2.1 x hx
  simp [within, Function.comp] at this
  omega
theorem rgI_facts (m : Int) : (rgI m).Pairwise (· < ·) ∧ ∀ x ∈ rgI m, 0 ≤ x ∧ x < m := by
  unfold rgI
  refine ⟨?_, fun x hx => ?_⟩
  · rw [List.pairwise_map]
    exact List.pairwise_lt_range.imp fun h => by omega
  · obtain ⟨i, hi, rfl⟩ := List.mem_map.mp hx
    have := List.mem_range.mp hi
    omega
theorem lots_facts : ∀ k ∈ allLots p, k ≠ [] ∧ k.Pairwise (· < ·) ∧ ∀ x ∈ k, 0 ≤ x ∧ x < p.n := fun k hk => by
  have hn := hp.n
  rcases mem_allLots.mp hk with ⟨_, rfl⟩ | ⟨i, hi, rfl⟩ | ⟨s, h1, q, h2, rfl⟩
  · obtain ⟨a, b⟩ := rgI_facts hp p.n
    refine ⟨?_, a, b⟩
    unfold rgI
    intro z
    rw [List.map_eq_nil_iff, List.range_eq_nil] at z
    omega
  · refine ⟨by simp, by simp, fun x hx => ?_⟩
    simp at hx; subst hx; omega
  · exact lot_facts hp ((hp.sh s h1).lots q h2).1
theorem gp_lam : Lam p.n (allLots p) := by
  have lf := lots_facts hp
  refine ⟨nodup_allLots p, lots_up p, fun k hk => (lf k hk).1, fun k hk => (lf k hk).2.1, fun k hk => (lf k hk).2.2, ?_, fun i h0 h1 => ?_⟩
  · have he := gp_end hp
    unfold pollEnd at he
    rw [Bool.and_eq_true] at he
    by_cases hk : p.kind = "some"
    · rw [if_pos hk] at he
      have l1 : ∀ k ∈ allLots p, k.length = 1 := fun k hk' => by
        rcases mem_allLots.mp hk' with ⟨h, rfl⟩ | ⟨i, hi, rfl⟩ | ⟨s, h1, q, h2, rfl⟩
        · rw [hk] at h; exact absurd h (by decide +kernel)
        · rfl
        · have := of_decide_eq_true (List.all_eq_true.mp (List.all_eq_true.mp he.2 s h1) q h2)
          have h3 := (lf _ hk').1
          have : q.1.length ≠ 0 := fun z => h3 (List.length_eq_zero_iff.mp z)
          omega
      refine List.Pairwise.imp_of_mem (fun {a b} ha hb hne => ?_) (nodup_allLots p)
      left
      intro x hx hx2
      have ha1 := l1 a ha
      have hb1 := l1 b hb
      match a, b, ha1, hb1, hx, hx2 with
      | [y], [z], _, _, hx, hx2 =>
        simp at hx hx2
        exact hne (by rw [← hx, ← hx2])
    · rw [if_neg hk] at he
      exact (doNest_pair he.2).imp fun h => okPair_is h
  · exact mem_allLots.mpr (.inr (.inl ⟨i.toNat, by omega, by rw [Int.toNat_of_nonneg h0]⟩))
theorem lot_len {k : List Int} (hk : k ∈ allLots p) : (k.length : Int) ≤ p.n := by
  obtain ⟨_, h2, h3⟩ := lots_facts hp k hk
  have hn := hp.n
  have := nodup_len (l := k) (m := rgI p.n) (h2.imp fun h => by omega) fun x hx => by
    have := h3 x hx
    unfold rgI
    exact List.mem_map.mpr ⟨x.toNat, List.mem_range.mpr (by omega), by omega⟩
  simp [rgI] at this
  omega
theorem lots_many : p.n ≤ ((allLots p).length : Int) := by
  have hn := hp.n
  have nd : (singles p.n.toNat).Nodup := by
    unfold singles List.Nodup
    rw [List.pairwise_map]
    exact List.pairwise_lt_range.imp fun h => by simp; omega
  have := nodup_len (l := singles p.n.toNat) (m := allLots p) nd fun k hk => by
    unfold singles at hk
    obtain ⟨i, hi, rfl⟩ := List.mem_map.mp hk
    exact mem_allLots.mpr (.inr (.inl ⟨i, List.mem_range.mp hi, rfl⟩))
  simp [singles] at this
  omega
theorem turn_pos : 1 ≤ turnOf p.shs := by
  have tb := turn_bd (ss := p.shs) (fun s hs => ⟨(hp.sh s hs).u0, (hp.sh s hs).u1, word_ok (hp.sh s hs).w⟩) p.shs.length (Nat.le_refl _)
  rw [List.take_length] at tb
  exact tb.1
theorem tree_eqs (n : Int) : (∀ k ∈ allLots p, (treeAt p n).need k = trLow (endsAt p n) (partsOf (allLots p)) (treeAt p n) k ∧ (treeAt p n).lt k = trHigh (endsAt p n) (partsOf (allLots p)) (treeAt p n) k) ∧ (treeAt p n).wrong = (allLots p).find? (bad (treeAt p n)) :=
  tree_fix (nodup_allLots p) fun i k hk q hq => parts_before hk hq
def pa (p : Pol) (k : List Int) : List (List Int) := partsOf (allLots p) k
theorem need_leaf {n : Int} {k : List Int} (hk : k ∈ allLots p) (h1 : k.length ≤ 1) : (treeAt p n).need k = (endsAt p n k).1 ∧ (treeAt p n).lt k = (endsAt p n k).2 := by
  obtain ⟨e1, e2⟩ := (tree_eqs hp n).1 k hk
  rw [e1, e2, trLow, trHigh, (gp_lam hp).leaf hk h1]
  exact ⟨rfl, rfl⟩
theorem need_in {n : Int} {k : List Int} (hk : k ∈ allLots p) (h1 : 1 < k.length) : (treeAt p n).need k = max (endsAt p n k).1 (sumOf (treeAt p n).need (pa p k)) ∧ (treeAt p n).lt k = min (endsAt p n k).2 (sumOf (treeAt p n).lt (pa p k)) := by
  obtain ⟨e1, e2⟩ := (tree_eqs hp n).1 k hk
  have hne := (gp_lam hp).inner hk h1
  have : (partsOf (allLots p) k).isEmpty = false := by
    cases h : partsOf (allLots p) k with
    | nil => exact absurd h hne
    | cons _ _ => rfl
  rw [e1, e2, trLow, trHigh, this]
  exact ⟨rfl, rfl⟩
theorem can_bad (n : Int) : canOf p n = true ↔ ∀ k ∈ allLots p, (treeAt p n).need k ≤ (treeAt p n).lt k := by
  unfold canOf
  rw [decide_eq_true_eq, (tree_eqs hp n).2, List.find?_eq_none]
  constructor
  · intro h k hk
    have := h k hk
    simp [bad] at this
    exact this
  · intro h k hk
    have := h k hk
    simp [bad]; exact this
/-- three ways to fail -/
theorem can_iff (n : Int) : canOf p n = true ↔ ∀ k ∈ allLots p, (endsAt p n k).1 ≤ (endsAt p n k).2 ∧ (1 < k.length → (endsAt p n k).1 ≤ sumOf (treeAt p n).lt (pa p k) ∧ sumOf (treeAt p n).need (pa p k) ≤ (endsAt p n k).2) := by
  rw [can_bad hp]
  constructor
  · intro h k hk
    have hk' := h k hk
    by_cases h1 : 1 < k.length
    · obtain ⟨e1, e2⟩ := need_in hp (n := n) hk h1
      rw [e1, e2] at hk'
      refine ⟨by omega, fun _ => ⟨by omega, by omega⟩⟩
    · obtain ⟨e1, e2⟩ := need_leaf hp (n := n) hk (by omega)
      rw [e1, e2] at hk'
      exact ⟨hk', fun z => absurd z h1⟩
  · intro h
    have go : ∀ m : Nat, ∀ k ∈ allLots p, k.length ≤ m → (treeAt p n).need k ≤ (treeAt p n).lt k := fun m => by
      induction m with
      | zero =>
        intro k hk hm
        exact absurd (List.length_eq_zero_iff.mp (by omega)) ((gp_lam hp).ne k hk)
      | succ m ih =>
        intro k hk hm
        obtain ⟨h1, h2⟩ := h k hk
        by_cases hl : 1 < k.length
        · obtain ⟨e1, e2⟩ := need_in hp (n := n) hk hl
          obtain ⟨h3, h4⟩ := h2 hl
          have : sumOf (treeAt p n).need (pa p k) ≤ sumOf (treeAt p n).lt (pa p k) := by
            have pm := ((gp_lam hp).parts hk).1
            have : ∀ l : List (List Int), (∀ f ∈ l, f ∈ partsOf (allLots p) k) → sumOf (treeAt p n).need l ≤ sumOf (treeAt p n).lt l := fun l => by
              induction l with
              | nil => intro _; simp [sumOf]
              | cons f l ih2 =>
                intro hl
                obtain ⟨a, b, _⟩ := pm f (hl f (by simp))
                have z1 := ih f a (by omega)
                have z2 := ih2 fun x hx => hl x (List.mem_cons_of_mem _ hx)
                simp only [sumOf, List.map_cons, List.sum_cons] at z2 ⊢
                omega
            exact this _ fun _ h => h
          rw [e1, e2]; omega
        · obtain ⟨e1, e2⟩ := need_leaf hp (n := n) hk (by omega)
          rw [e1, e2]; exact h1
    exact fun k hk => go k.length k hk (Nat.le_refl _)
omit hp in
theorem sum_lo {W r : Int} {f : Int → List Int → Int} : ∀ {l : List (List Int)}, (∀ q ∈ l, LoF W r (q.length : Int) fun n => f n q) → LoF W r (l.flatten.length : Int) fun n => sumOf (f n) l
  | [], _ => LoF.zero.congr fun n _ => by simp [sumOf]
  | q :: l, h => by
    have h1 := h q (by simp)
    have h2 := sum_lo fun x hx => h x (List.mem_cons_of_mem _ hx)
    have := h1.add h2
    rw [show ((q :: l).flatten.length : Int) = (q.length : Int) + (l.flatten.length : Int) by simp]
    exact this.congr fun n _ => by simp [sumOf]
theorem need_lo (r : Int) : ∀ m : Nat, ∀ k ∈ allLots p, k.length ≤ m → LoF (turnOf p.shs) r (k.length : Int) (fun n => (treeAt p n).need k) ∧ LoF (turnOf p.shs) r (k.length : Int) (fun n => -(treeAt p n).lt k)
  | 0, k, hk, hm => absurd (List.length_eq_zero_iff.mp (by omega)) ((gp_lam hp).ne k hk)
  | m + 1, k, hk, hm => by
    have hW := turn_pos hp
    have hl0 : k.length ≠ 0 := fun z => (gp_lam hp).ne k hk (List.length_eq_zero_iff.mp z)
    obtain ⟨l1, l2⟩ := ends_lo hp (r := r) hW k
    have w1 := l1.wide (by omega) (show (1 : Int) ≤ (k.length : Int) by omega)
    have w2 := l2.wide (by omega) (show (1 : Int) ≤ (k.length : Int) by omega)
    by_cases hl : 1 < k.length
    · have pm := ((gp_lam hp).parts hk).1
      have fl := ((gp_lam hp).perm hk hl).length_eq
      have s1 := sum_lo (W := turnOf p.shs) (r := r) (f := fun n q => (treeAt p n).need q) (l := pa p k) fun q hq => (need_lo r m q (pm q hq).1 (by have := (pm q hq).2.1; omega)).1
      have s2 := sum_lo (W := turnOf p.shs) (r := r) (f := fun n q => -(treeAt p n).lt q) (l := pa p k) fun q hq => (need_lo r m q (pm q hq).1 (by have := (pm q hq).2.1; omega)).2
      unfold pa at s1 s2
      rw [fl] at s1 s2
      refine ⟨(w1.max s1).congr fun n _ => ?_, (w2.max s2).congr fun n _ => ?_⟩
      · rw [(need_in hp hk hl).1]; rfl
      · rw [(need_in hp hk hl).2]
        have : sumOf (fun q => -(treeAt p n).lt q) (partsOf (allLots p) k) = -sumOf (treeAt p n).lt (pa p k) := by
          unfold pa
          have : ∀ l : List (List Int), sumOf (fun q => -(treeAt p n).lt q) l = -sumOf (treeAt p n).lt l := fun l => by
            induction l with
            | nil => simp [sumOf]
            | cons q l ih => simp only [sumOf, List.map_cons, List.sum_cons] at ih ⊢; rw [ih]; omega
          exact this _
        rw [this]; omega
    · refine ⟨w1.congr fun n _ => ?_, w2.congr fun n _ => ?_⟩
      · rw [(need_leaf hp hk (by omega)).1]
      · rw [(need_leaf hp hk (by omega)).2]
/-- each way to fail is a line's -/
theorem can_lines (r : Int) {k : List Int} (hk : k ∈ allLots p) : LoF (turnOf p.shs) r ((allLots p).length + 1 : Int) (fun n => (endsAt p n k).1 - (endsAt p n k).2) ∧ (1 < k.length → LoF (turnOf p.shs) r ((allLots p).length + 1 : Int) (fun n => (endsAt p n k).1 - sumOf (treeAt p n).lt (pa p k)) ∧ LoF (turnOf p.shs) r ((allLots p).length + 1 : Int) (fun n => sumOf (treeAt p n).need (pa p k) - (endsAt p n k).2)) := by
  have hW := turn_pos hp
  obtain ⟨l1, l2⟩ := ends_lo hp (r := r) hW k
  have hlen := lot_len hp hk
  have hmany := lots_many hp
  have hn := hp.n
  refine ⟨((l1.add l2).wide (by omega) (by omega)).congr fun n _ => by omega, fun hl => ?_⟩
  have pm := ((gp_lam hp).parts hk).1
  have fl := ((gp_lam hp).perm hk hl).length_eq
  have s1 := sum_lo (W := turnOf p.shs) (r := r) (f := fun n q => (treeAt p n).need q) (l := partsOf (allLots p) k) fun q hq => (need_lo hp r q.length q (pm q hq).1 (Nat.le_refl _)).1
  have s2 := sum_lo (W := turnOf p.shs) (r := r) (f := fun n q => -(treeAt p n).lt q) (l := partsOf (allLots p) k) fun q hq => (need_lo hp r q.length q (pm q hq).1 (Nat.le_refl _)).2
  rw [fl] at s1 s2
  refine ⟨((l1.add s2).wide (by omega) (by omega)).congr fun n _ => ?_, ((s1.add l2).wide (by omega) (by omega)).congr fun n _ => ?_⟩
  · have : ∀ l : List (List Int), sumOf (fun q => -(treeAt p n).lt q) l = -sumOf (treeAt p n).lt l := fun l => by
      induction l with
      | nil => simp [sumOf]
      | cons q l ih => simp only [sumOf, List.map_cons, List.sum_cons] at ih ⊢; rw [ih]; omega
    show (endsAt p n k).1 + sumOf (fun q => -(treeAt p n).lt q) (partsOf (allLots p) k) = _
    rw [this]; unfold pa; omega
  · show sumOf (treeAt p n).need (partsOf (allLots p) k) + -(endsAt p n k).2 = _
    unfold pa; omega
theorem can_more {r t : Int} (t0 : 0 ≤ t) (t1 : 1 ≤ r + t * turnOf p.shs) (h : canOf p (r + t * turnOf p.shs) = true) (j : Nat) : canOf p (r + (t + (j : Int)) * turnOf p.shs) = true := by
  have hW := turn_pos hp
  rw [can_iff hp] at h ⊢
  intro k hk
  obtain ⟨c1, c2⟩ := can_lines hp r hk
  obtain ⟨h1, h2⟩ := h k hk
  refine ⟨?_, fun hl => ⟨?_, ?_⟩⟩
  · have := c1.monos hW t0 t1 (show _ ≤ (0 : Int) by show (endsAt p _ k).1 - (endsAt p _ k).2 ≤ 0; omega) j
    have : (endsAt p (r + (t + (j : Int)) * turnOf p.shs) k).1 - (endsAt p (r + (t + (j : Int)) * turnOf p.shs) k).2 ≤ 0 := this
    omega
  · have := (c2 hl).1.monos hW t0 t1 (show _ ≤ (0 : Int) by have := (h2 hl).1; show (endsAt p _ k).1 - sumOf (treeAt p _).lt (pa p k) ≤ 0; omega) j
    have : (endsAt p (r + (t + (j : Int)) * turnOf p.shs) k).1 - sumOf (treeAt p (r + (t + (j : Int)) * turnOf p.shs)).lt (pa p k) ≤ 0 := this
    omega
  · have := (c2 hl).2.monos hW t0 t1 (show _ ≤ (0 : Int) by have := (h2 hl).2; show sumOf (treeAt p _).need (pa p k) - (endsAt p _ k).2 ≤ 0; omega) j
    have : sumOf (treeAt p (r + (t + (j : Int)) * turnOf p.shs)).need (pa p k) - (endsAt p (r + (t + (j : Int)) * turnOf p.shs) k).2 ≤ 0 := this
    omega
theorem can_soon {r t v : Int} (r0 : 0 ≤ r) (t0 : 0 ≤ t) (t1 : 1 ≤ r + t * turnOf p.shs) (ts : ((allLots p).length : Int) + 1 ≤ t) (tv : t ≤ v) (h : canOf p (r + v * turnOf p.shs) = true) : canOf p (r + t * turnOf p.shs) = true := by
  have hW := turn_pos hp
  rw [can_iff hp] at h ⊢
  intro k hk
  obtain ⟨c1, c2⟩ := can_lines hp r hk
  obtain ⟨h1, h2⟩ := h k hk
  refine ⟨?_, fun hl => ⟨?_, ?_⟩⟩
  · have : (endsAt p (r + t * turnOf p.shs) k).1 - (endsAt p (r + t * turnOf p.shs) k).2 ≤ 0 := c1.soon hW r0 t0 t1 ts tv (show _ ≤ (0 : Int) by show (endsAt p _ k).1 - (endsAt p _ k).2 ≤ 0; omega)
    omega
  · have : (endsAt p (r + t * turnOf p.shs) k).1 - sumOf (treeAt p (r + t * turnOf p.shs)).lt (pa p k) ≤ 0 := (c2 hl).1.soon hW r0 t0 t1 ts tv (show _ ≤ (0 : Int) by have := (h2 hl).1; show (endsAt p _ k).1 - sumOf (treeAt p _).lt (pa p k) ≤ 0; omega)
    omega
  · have : sumOf (treeAt p (r + t * turnOf p.shs)).need (pa p k) - (endsAt p (r + t * turnOf p.shs) k).2 ≤ 0 := (c2 hl).2.soon hW r0 t0 t1 ts tv (show _ ≤ (0 : Int) by have := (h2 hl).2; show sumOf (treeAt p _).need (pa p k) - (endsAt p _ k).2 ≤ 0; omega)
    omega
end
end Ly

namespace Ly
open PySem L2
section
variable {p : Pol} (hp : GP p)
include hp
theorem first_some {r f : Int} (h : firstOf p r (turnOf p.shs) = some f) : ∃ t : Nat, t < (allLots p).length + 3 ∧ f = r + (t : Int) * turnOf p.shs ∧ 1 ≤ f ∧ canOf p f = true ∧ ∀ j : Nat, j < t → 1 ≤ r + (j : Int) * turnOf p.shs → canOf p (r + (j : Int) * turnOf p.shs) = false := by
  unfold firstOf at h
  obtain ⟨h1, i, hi, h2, h3⟩ := List.find?_eq_some_iff_getElem.1 h
  simp only [List.getElem_map, List.getElem_range] at h2 h3
  rw [Bool.and_eq_true, decide_eq_true_eq] at h1
  refine ⟨i, by simpa using hi, h2.symm, by omega, h1.2, fun j hj h0 => ?_⟩
  have := h3 j hj
  simp only [Bool.not_eq_true', Bool.and_eq_false_iff, decide_eq_false_iff_not] at this
  rcases this with z | z
  · omega
  · exact z
theorem first_none {r : Int} (h : firstOf p r (turnOf p.shs) = none) : ∀ j : Nat, j < (allLots p).length + 3 → 1 ≤ r + (j : Int) * turnOf p.shs → canOf p (r + (j : Int) * turnOf p.shs) = false := fun j hj h0 => by
  unfold firstOf at h
  have := List.find?_eq_none.1 h (r + (j : Int) * turnOf p.shs) (List.mem_map.mpr ⟨j, List.mem_range.mpr hj, rfl⟩)
  cases q : canOf p (r + (j : Int) * turnOf p.shs) with
  | false => rfl
  | true => exact absurd (show (decide (0 < r + (j : Int) * turnOf p.shs) && canOf p (r + (j : Int) * turnOf p.shs)) = true by rw [q, Bool.and_true]; exact decide_eq_true (by omega)) this
/-- what can be, by the firsts -/
theorem can_first {n : Int} (hn : 1 ≤ n) : canOf p n = (match firstOf p (n % turnOf p.shs) (turnOf p.shs) with | none => false | some f => decide (f ≤ n)) := by
  have hW := turn_pos hp
  have r0 := Int.emod_nonneg n (show turnOf p.shs ≠ 0 by omega)
  have r1 := Int.emod_lt_of_pos n (show 0 < turnOf p.shs by omega)
  have e := Int.emod_add_mul_ediv n (turnOf p.shs)
  have q0 : 0 ≤ n / turnOf p.shs := Int.ediv_nonneg (by omega) (by omega)
  rw [Int.mul_comm] at e
  generalize hr : n % turnOf p.shs = r at *
  obtain ⟨t, ht⟩ := Int.eq_ofNat_of_zero_le q0
  rw [ht] at e
  have e : n = r + (t : Int) * turnOf p.shs := e.symm
  clear hr ht q0
  subst e
  cases h : firstOf p r (turnOf p.shs) with
  | none =>
    by_cases z : t < (allLots p).length + 3
    · exact first_none hp h t z hn
    · cases q : canOf p (r + (t : Int) * turnOf p.shs) with
      | false => rfl
      | true =>
        have h2 : (1 : Int) ≤ r + (((allLots p).length + 2 : Nat) : Int) * turnOf p.shs := by
          have := Int.mul_le_mul_of_nonneg_right (show (1 : Int) ≤ (((allLots p).length + 2 : Nat) : Int) by omega) (show 0 ≤ turnOf p.shs by omega)
          omega
        have c := can_soon hp (r := r) (t := (((allLots p).length + 2 : Nat) : Int)) (v := (t : Int)) r0 (by omega) h2 (by omega) (by omega) q
        rw [first_none hp h ((allLots p).length + 2) (by omega) h2] at c
        cases c
  | some f =>
    obtain ⟨i, hi, ef, f1, fc, fl⟩ := first_some hp h
    subst ef
    by_cases z : t < i
    · rw [fl t z hn]
      have : (t : Int) * turnOf p.shs + turnOf p.shs ≤ (i : Int) * turnOf p.shs := by
        have := Int.mul_le_mul_of_nonneg_right (show (t : Int) + 1 ≤ (i : Int) by omega) (show 0 ≤ turnOf p.shs by omega)
        rw [Int.add_mul, Int.one_mul] at this
        exact this
      rw [eq_comm]
      exact decide_eq_false (by omega)
    · have : (i : Int) * turnOf p.shs ≤ (t : Int) * turnOf p.shs := Int.mul_le_mul_of_nonneg_right (by omega) (by omega)
      show canOf p _ = decide (r + (i : Int) * turnOf p.shs ≤ r + (t : Int) * turnOf p.shs)
      rw [decide_eq_true (show r + (i : Int) * turnOf p.shs ≤ r + (t : Int) * turnOf p.shs by omega)]
      have := can_more hp (r := r) (t := (i : Int)) (by omega) f1 fc (t - i)
      rwa [show (i : Int) + ((t - i : Nat) : Int) = (t : Int) by omega] at this
theorem first_bd {r f : Int} (r0 : 0 ≤ r) (r1 : r < turnOf p.shs) (h : firstOf p r (turnOf p.shs) = some f) : 1 ≤ f ∧ f < 93000 ∧ f % turnOf p.shs = r ∧ canOf p f = true := by
  obtain ⟨i, hi, ef, f1, fc, fl⟩ := first_some hp h
  have hW := turn_pos hp
  have hT := hp.turn
  have few := hp.few
  refine ⟨f1, ?_, ?_, fc⟩
  · have := Int.mul_le_mul (show (i : Int) ≤ 92 by omega) hT (by omega) (by omega)
    have e : (i : Int) * turnOf p.shs + turnOf p.shs = ((i : Int) + 1) * turnOf p.shs := by rw [Int.add_mul, Int.one_mul]
    have m2 := Int.mul_le_mul (show (i : Int) + 1 ≤ 93 by omega) hT (by omega) (by omega)
    omega
  · rw [ef, Int.add_mul_emod_self_right, Int.emod_eq_of_lt r0 r1]
theorem firsts_get {n : Int} (h0 : 0 ≤ n) : (firstsOf p)[(n % turnOf p.shs).toNat]? = some (firstOf p (n % turnOf p.shs) (turnOf p.shs)) := by
  have hW := turn_pos hp
  have r0 := Int.emod_nonneg n (show turnOf p.shs ≠ 0 by omega)
  have r1 := Int.emod_lt_of_pos n (show 0 < turnOf p.shs by omega)
  unfold firstsOf
  rw [List.getElem?_map, List.getElem?_range (by omega), Option.map_some, Int.toNat_of_nonneg r0]
theorem firsts_len : ((firstsOf p).length : Int) = turnOf p.shs := by
  have hW := turn_pos hp
  unfold firstsOf; simp; omega
end
/-! ### numbers -/
def numsOf (p : Pol) (lo hi : Int) : List Int := ((List.range (hi + 1 - lo).toNat).map fun (i : Nat) => lo + (i : Int)).filter fun n => canOf p n
def c_numbers : Ct := fun ds r => ∃ p x y, ds = [Pol.d p, x, y] ∧ GP p ∧ noObj x = true ∧ noObj y = true ∧ r = if (within x 1 100000 && within y (intOf x) 100000) = true then .ok (lst (numsOf p (intOf x) (intOf y))) else .err "BadNumber"
def c__law_numbers_word : Ct := fun ds r => ∃ p x y, ds = [Pol.d p, .tuple [x, y]] ∧ GP p ∧ noObj x = true ∧ noObj y = true ∧ r = .ok (.str (if (within x 1 100000 && within y (intOf x) 100000) = true then "none" else "number"))
def c__law_can_word : Ct := fun ds r => ∃ p x, ds = [Pol.d p, x] ∧ GP p ∧ noObj x = true ∧ r = .ok (.str (if within x 1 100000 = true then "none" else "number"))
theorem within_int {x : D} {lo hi : Int} (h : within x lo hi = true) : ∃ n, x = .int n ∧ lo ≤ n ∧ n ≤ hi := by
  cases x <;> first | (simp [within] at h; done) | skip
  rename_i n
  exact ⟨n, rfl, by simpa [within] using h⟩
end Ly
namespace Ly
open PySem L2
/-! ### least, and from which on all can be -/
theorem mem_somes {os : List (Option Int)} {f : Int} : f ∈ somes os ↔ some f ∈ os := by unfold somes; simp
theorem minL_mem {ns : List Int} (h : ns ≠ []) : minL ns ∈ ns ∧ ∀ y ∈ ns, minL ns ≤ y := by
  cases e : ns.min? with
  | none => exact absurd (List.min?_eq_none_iff.1 e) h
  | some m =>
    have := List.min?_eq_some_iff.1 e
    rw [show minL ns = m by rw [minL, e]; rfl]
    exact this
section
variable {p : Pol} (hp : GP p)
include hp
theorem firsts_mem {o : Option Int} (h : o ∈ firstsOf p) : ∃ r, 0 ≤ r ∧ r < turnOf p.shs ∧ o = firstOf p r (turnOf p.shs) := by
  unfold firstsOf at h
  obtain ⟨i, hi, rfl⟩ := List.mem_map.mp h
  have := List.mem_range.mp hi
  exact ⟨(i : Int), by omega, by omega, rfl⟩
theorem firsts_in {r : Int} (h0 : 0 ≤ r) (h1 : r < turnOf p.shs) : firstOf p r (turnOf p.shs) ∈ firstsOf p := by
  unfold firstsOf
  exact List.mem_map.mpr ⟨r.toNat, List.mem_range.mpr (by omega), by rw [Int.toNat_of_nonneg h0]⟩
theorem least_some {f : Int} (h : leastOf p = some f) : 1 ≤ f ∧ f < 93000 ∧ canOf p f = true ∧ ∀ n, 1 ≤ n → n < f → canOf p n = false := by
  unfold leastOf at h
  split at h
  · cases h
  · rename_i hne
    have hne' : somes (firstsOf p) ≠ [] := fun z => hne (by rw [z]; rfl)
    obtain ⟨m1, m2⟩ := minL_mem hne'
    cases h
    obtain ⟨r, r0, r1, e⟩ := firsts_mem hp (mem_somes.mp m1)
    obtain ⟨f1, f2, f3, f4⟩ := first_bd hp r0 r1 e.symm
    refine ⟨f1, f2, f4, fun n n1 n2 => ?_⟩
    have hW := turn_pos hp
    rw [can_first hp n1]
    cases q : firstOf p (n % turnOf p.shs) (turnOf p.shs) with
    | none => rfl
    | some g =>
      have := m2 g (mem_somes.mpr (by rw [← q]; exact firsts_in hp (Int.emod_nonneg _ (by omega)) (Int.emod_lt_of_pos _ (by omega))))
      exact decide_eq_false (by omega)
theorem least_none (h : leastOf p = none) : ∀ n, 1 ≤ n → canOf p n = false := fun n n1 => by
  unfold leastOf at h
  split at h
  · rename_i he
    have hW := turn_pos hp
    rw [can_first hp n1]
    cases q : firstOf p (n % turnOf p.shs) (turnOf p.shs) with
    | none => rfl
    | some g =>
      have : g ∈ somes (firstsOf p) := mem_somes.mpr (by rw [← q]; exact firsts_in hp (Int.emod_nonneg _ (by omega)) (Int.emod_lt_of_pos _ (by omega)))
      rw [List.isEmpty_iff.mp he] at this
      cases this
  · cases h
theorem from_some {a : Int} (h : fromOn p = some a) : 1 ≤ a ∧ a < 93000 ∧ (1 < a → canOf p (a - 1) = false) ∧ ∀ n, a ≤ n → canOf p n = true := by
  have hW := turn_pos hp
  unfold fromOn at h
  split at h
  · cases h
  · rename_i hn
    have hne : somes (firstsOf p) ≠ [] := fun z => by
      have := somes_all hn
      rw [z] at this
      have hl := firsts_len hp
      have : (firstsOf p).length = 0 := by simpa using congrArg List.length this
      omega
    obtain ⟨m1, m2⟩ := maxL_mem hne
    rw [firsts_len hp] at h
    have h : max (maxL (somes (firstsOf p)) - turnOf p.shs + 1) 1 = a := Option.some.inj h
    obtain ⟨r, r0, r1, e⟩ := firsts_mem hp (mem_somes.mp m1)
    obtain ⟨f1, f2, f3, f4⟩ := first_bd hp r0 r1 e.symm
    generalize maxL (somes (firstsOf p)) = m at *
    refine ⟨by omega, by omega, fun ha => ?_, fun n hna => ?_⟩
    · have e1 : a - 1 = m - turnOf p.shs := by omega
      rw [can_first hp (by omega)]
      have e2 : (a - 1) % turnOf p.shs = r := by
        have : a - 1 = m + -1 * turnOf p.shs := by omega
        rw [this, Int.add_mul_emod_self_right, f3]
      rw [e2, ← e]
      exact decide_eq_false (by omega)
    · rw [can_first hp (by omega)]
      have k0 := Int.emod_nonneg n (show turnOf p.shs ≠ 0 by omega)
      have k1 := Int.emod_lt_of_pos n (show 0 < turnOf p.shs by omega)
      cases q : firstOf p (n % turnOf p.shs) (turnOf p.shs) with
      | none => exact absurd (by rw [← q]; exact firsts_in hp k0 k1) hn
      | some g =>
        refine decide_eq_true ?_
        have g1 := m2 g (mem_somes.mpr (by rw [← q]; exact firsts_in hp k0 k1))
        obtain ⟨_, _, g3, _⟩ := first_bd hp k0 k1 q
        have e1 := Int.emod_add_mul_ediv n (turnOf p.shs)
        have e2 := Int.emod_add_mul_ediv g (turnOf p.shs)
        refine Classical.byContradiction fun z => ?_
        rw [g3] at e2
        have : turnOf p.shs * (g / turnOf p.shs) - turnOf p.shs * (n / turnOf p.shs) < turnOf p.shs := by omega
        rw [← Int.mul_sub] at this
        have hd : g / turnOf p.shs - n / turnOf p.shs < 1 := by
          refine Classical.byContradiction fun w => ?_
          have := Int.mul_le_mul_of_nonneg_left (show 1 ≤ g / turnOf p.shs - n / turnOf p.shs by omega) (show 0 ≤ turnOf p.shs by omega)
          omega
        have := Int.mul_le_mul_of_nonneg_left (show g / turnOf p.shs - n / turnOf p.shs ≤ 0 by omega) (show 0 ≤ turnOf p.shs by omega)
        rw [Int.mul_sub] at this
        omega
theorem from_none : fromOn p = none ↔ none ∈ firstsOf p := by
  unfold fromOn; split <;> simp_all
end
theorem eqD_opt (o : Option Int) : eqD (optD o) (optD o) = true := by cases o <;> simp [optD, eqD, toPy, PyData.eqv]
theorem eqD_ints_same (ns : List Int) : eqD (.list (ns.map .int)) (.list (ns.map .int)) = true := by
  have := eqD_same_opts (ns.map some)
  rwa [List.map_map, show (optD ∘ some : Int → D) = .int from rfl] at this
theorem isNone_opt (o : Option Int) : isNone (optD o) = decide (o = none) := by cases o <;> simp [optD, isNone]
end Ly

namespace Ly
open PySem L2
/-! ### ranges -/
structure Rg where
  ks : List (List Int)
  f : List Int → Int × Int
def Rg.put (R : Rg) (k : List Int) (v : Int × Int) : Rg := ⟨addK R.ks k, fun x => if x = k then v else R.f x⟩
def Rg.tab (R : Rg) : List (List Int × D) := tabD R.ks fun k => endD (R.f k)
theorem Rg.putA (R : Rg) (k : List Int) (v : Int × Int) : Ly.putA R.tab k (endD v) = (R.put k v).tab := by
  unfold Rg.tab Rg.put addK
  by_cases h : k ∈ R.ks
  · rw [putA_tab h, if_pos h]
    congr 1
    funext x
    simp only
    split <;> rfl
  · rw [if_neg h]
    have e : tabD R.ks (fun k => endD (R.f k)) = tabD R.ks (fun x => endD (if x = k then v else R.f x)) := by
      unfold tabD
      refine List.map_congr_left fun x hx => ?_
      have hn : x ≠ k := fun z => h (by rw [← z]; exact hx)
      simp only [if_neg hn]
    rw [e]
    have q := putA_new (ks := R.ks) (f := fun x => endD (if x = k then v else R.f x)) h
    simp only [if_true] at q
    exact q
def rgPart (T : Tr) (lot : List Int) (needs lets : Int) (R : Rg) (q : List Int) : Rg := R.put q (max (T.need q) ((R.f lot).1 - lets + T.lt q), min (T.lt q) ((R.f lot).2 - needs + T.need q))
def rgTop (T : Tr) (R : Rg) (lot : List Int) : Rg := if lot ∈ R.ks then R else R.put lot (T.need lot, T.lt lot)
def rgLot (pa : List Int → List (List Int)) (T : Tr) (R : Rg) (lot : List Int) : Rg := (pa lot).foldl (rgPart T lot (sumOf T.need (pa lot)) (sumOf T.lt (pa lot))) (rgTop T R lot)
def rg0 : Rg := ⟨[], fun _ => (0, 0)⟩
def rangesOf (L : List (List Int)) (pa : List Int → List (List Int)) (T : Tr) : Rg := L.reverse.foldl (rgLot pa T) rg0
def trD (C : Addr) (ks : List (List Int)) (en : List Int → Int × Int) (pa : List Int → List (List Int)) (T : Tr) : D := (trSL 0 C 0 0 0 0 0 ks en pa ks T).data
structure PaOk (ks : List (List Int)) (pa : List Int → List (List Int)) : Prop where
  mem : ∀ k ∈ ks, ∀ q ∈ pa k, q ∈ ks ∧ q ≠ k
  few : ks.length < 100000
  pfew : ∀ k ∈ ks, (pa k).length < 100000
def c_Tree_ranges (C : Addr) : Ct := fun ds r => ∃ ks en pa T, ds = [trD C ks en pa T] ∧ PaOk ks pa ∧ r = .dic (rangesOf ks pa T).tab
structure RgH (P : Program) (w : World) (K : Fg) (mg : Str → Option Value) (base : Heap) (k : Nat) (C fr : Addr) (fdr : FuncData) : Prop where
  ok : FnOk P w K mg base CX0 k fr fdr ["self"] (spD K mg (c_Tree_ranges C))
  m : Meth K C "ranges" fr
  b : Binds K fdr ["self"] []
  tc : ClsT K C
theorem rgTop_ks {T : Tr} {R : Rg} {lot : List Int} : lot ∈ (rgTop T R lot).ks ∧ ∀ k ∈ R.ks, k ∈ (rgTop T R lot).ks := by
  unfold rgTop
  split
  · exact ⟨by assumption, fun _ h => h⟩
  · unfold Rg.put addK
    split
    · rename_i h1 h2; exact absurd h2 h1
    · exact ⟨by simp, fun k hk => by simp [hk]⟩
theorem put_ks {R : Rg} {q : List Int} {v : Int × Int} : q ∈ (R.put q v).ks ∧ (∀ k ∈ R.ks, k ∈ (R.put q v).ks) ∧ ((∀ k ∈ (R.put q v).ks, k ∈ R.ks ∨ k = q)) ∧ (R.put q v).ks.length ≤ R.ks.length + 1 := by
  unfold Rg.put addK
  split
  · rename_i h; exact ⟨h, fun _ h => h, fun _ h => .inl h, by simp⟩
  · exact ⟨by simp, fun k hk => by simp [hk], fun k hk => by
      rcases List.mem_append.mp hk with h | h
      · exact .inl h
      · exact .inr (by simpa using h), by simp⟩
theorem parts_fold_ks {T : Tr} {lot : List Int} {a b : Int} : ∀ (l : List (List Int)) (R : Rg), (∀ k ∈ R.ks, k ∈ (l.foldl (rgPart T lot a b) R).ks) ∧ (∀ q ∈ l, q ∈ (l.foldl (rgPart T lot a b) R).ks) ∧ (∀ k ∈ (l.foldl (rgPart T lot a b) R).ks, k ∈ R.ks ∨ k ∈ l)
  | [], R => ⟨fun _ h => h, (fun _ h => nomatch h), fun _ h => .inl h⟩
  | q :: l, R => by
    obtain ⟨h1, h2, h3⟩ := parts_fold_ks l (rgPart T lot a b R q)
    obtain ⟨p1, p2, p3, _⟩ := put_ks (R := R) (q := q) (v := (max (T.need q) ((R.f lot).1 - b + T.lt q), min (T.lt q) ((R.f lot).2 - a + T.need q)))
    refine ⟨fun k hk => h1 k (p2 k hk), fun x hx => ?_, fun k hk => ?_⟩
    · rcases List.mem_cons.mp hx with rfl | hx
      · exact h1 _ p1
      · exact h2 x hx
    · rcases h3 k hk with h | h
      · rcases p3 k h with h | h
        · exact .inl h
        · exact .inr (by simp [h])
      · exact .inr (List.mem_cons_of_mem _ h)
/-- the keys come from the lots -/
theorem rg_ks {ks : List (List Int)} {pa : List Int → List (List Int)} {T : Tr} (h : PaOk ks pa) : ∀ (l : List (List Int)) (R : Rg), (∀ k ∈ l, k ∈ ks) → (∀ k ∈ R.ks, k ∈ ks) → R.ks.Nodup → (∀ k ∈ (l.foldl (rgLot pa T) R).ks, k ∈ ks) ∧ (l.foldl (rgLot pa T) R).ks.Nodup ∧ (∀ k ∈ l, k ∈ (l.foldl (rgLot pa T) R).ks) ∧ ∀ k ∈ R.ks, k ∈ (l.foldl (rgLot pa T) R).ks
  | [], R, _, h2, h3 => ⟨h2, h3, fun _ z => (nomatch z), fun _ z => z⟩
  | lot :: l, R, h1, h2, h3 => by
    have hl := h1 lot (by simp)
    have top : (∀ k ∈ (rgTop T R lot).ks, k ∈ ks) ∧ (rgTop T R lot).ks.Nodup := by
      unfold rgTop
      split
      · exact ⟨h2, h3⟩
      · refine ⟨fun k hk => ?_, nodup_addK _ h3⟩
        rcases (put_ks (R := R) (q := lot) (v := (T.need lot, T.lt lot))).2.2.1 k hk with z | z
        · exact h2 k z
        · rw [z]; exact hl
    have nd : ∀ (l : List (List Int)) (R : Rg), R.ks.Nodup → (l.foldl (rgPart T lot (sumOf T.need (pa lot)) (sumOf T.lt (pa lot))) R).ks.Nodup := fun l => by
      induction l with
      | nil => intro R h; exact h
      | cons q l ih => intro R h; exact ih _ (nodup_addK _ h)
    obtain ⟨a1, a2, a3⟩ := parts_fold_ks (T := T) (lot := lot) (a := sumOf T.need (pa lot)) (b := sumOf T.lt (pa lot)) (pa lot) (rgTop T R lot)
    obtain ⟨t1, t2⟩ := rgTop_ks (T := T) (R := R) (lot := lot)
    obtain ⟨b1, b2, b3, b4⟩ := rg_ks h l (rgLot pa T R lot) (fun k hk => h1 k (List.mem_cons_of_mem _ hk)) (fun k hk => by
      rcases a3 k hk with z | z
      · exact top.1 k z
      · exact (h.mem lot hl k z).1) (nd _ _ top.2)
    refine ⟨b1, b2, fun k hk => ?_, fun k hk => b4 k (a1 k (t2 k hk))⟩
    rcases List.mem_cons.mp hk with rfl | hk
    · exact b4 _ (a1 _ t1)
    · exact b3 k hk
theorem get_rg {R : Rg} {k : List Int} (h : k ∈ R.ks) : getA ((R.tab.map (·.1)).zip (R.tab.map (·.2))) k = some (endD (R.f k)) := get_tab h
theorem tab_has {ks : List (List Int)} {f : List Int → D} {k : List Int} : (getA (((tabD ks f).map (·.1)).zip ((tabD ks f).map (·.2))) k).isSome = decide (k ∈ ks) := by
  rw [zip_tab]
  by_cases h : k ∈ ks
  · rw [getA_tab h, decide_eq_true h]; rfl
  · rw [decide_eq_false h]
    have : getA (tabD ks f) k = none := by
      unfold getA tabD
      rw [List.find?_eq_none.mpr]
      · rfl
      · intro x hx
        obtain ⟨y, hy, rfl⟩ := List.mem_map.mp hx
        simp only [decide_eq_true_eq]
        intro z; subst z; exact h hy
    rw [this]; rfl
end Ly

namespace Ly
open PySem L2
/-! ### counts of lots -/
def csum (c : Int → Int) (k : List Int) : Int := (k.map c).sum
theorem csum_congr {c d : Int → Int} {k : List Int} (h : ∀ x ∈ k, c x = d x) : csum c k = csum d k := by
  unfold csum; rw [List.map_congr_left h]
theorem sum_perm {a b : List Int} (h : a.Perm b) : a.sum = b.sum := by
  induction h with
  | nil => rfl
  | cons x _ ih => simp only [List.sum_cons, ih]
  | swap x y l => simp only [List.sum_cons]; omega
  | trans _ _ ih1 ih2 => rw [ih1, ih2]
theorem csum_perm {c : Int → Int} {a b : List Int} (h : a.Perm b) : csum c a = csum c b := sum_perm (h.map c)
theorem csum_append (c : Int → Int) (a b : List Int) : csum c (a ++ b) = csum c a + csum c b := by
  induction a with
  | nil => simp [csum]
  | cons x a ih => simp only [csum, List.cons_append, List.map_cons, List.sum_cons] at ih ⊢; rw [ih]; omega
theorem csum_flat (c : Int → Int) : ∀ l : List (List Int), csum c l.flatten = sumOf (csum c) l
  | [] => rfl
  | k :: l => by rw [List.flatten_cons, csum_append, csum_flat c l]; simp [sumOf]
theorem sumOf_le {f g : List Int → Int} : ∀ {l : List (List Int)}, (∀ q ∈ l, f q ≤ g q) → sumOf f l ≤ sumOf g l
  | [], _ => by simp [sumOf]
  | q :: l, h => by
    have h1 := h q (by simp)
    have h2 := sumOf_le (l := l) fun x hx => h x (List.mem_cons_of_mem _ hx)
    simp only [sumOf, List.map_cons, List.sum_cons] at h2 ⊢
    omega
theorem sumOf_upd {h : List Int → Int} {f : List Int} {v : Int} : ∀ {l : List (List Int)}, l.Nodup → f ∈ l → sumOf (fun g => if g = f then v else h g) l = sumOf h l - h f + v
  | q :: l, nd, hf => by
    rw [List.nodup_cons] at nd
    simp only [sumOf, List.map_cons, List.sum_cons]
    rcases List.mem_cons.mp hf with e | hm
    · subst e
      have : sumOf (fun g => if g = f then v else h g) l = sumOf h l := sumOf_congr fun g hg => if_neg (fun (z : g = f) => nd.1 (z ▸ hg))
      simp only [sumOf] at this
      rw [if_pos rfl, this]; omega
    · have hne : q ≠ f := fun z => nd.1 (z ▸ hm)
      have := sumOf_upd (h := h) (v := v) nd.2 hm
      simp only [sumOf] at this
      rw [if_neg hne, this]; omega
/-- what is between the leasts and the greatests together can be shared out -/
theorem share_out {lo hi : List Int → Int} : ∀ {l : List (List Int)} {v : Int}, l.Nodup → (∀ q ∈ l, lo q ≤ hi q) → sumOf lo l ≤ v → v ≤ sumOf hi l → ∃ w : List Int → Int, (∀ q ∈ l, lo q ≤ w q ∧ w q ≤ hi q) ∧ sumOf w l = v
  | [], v, _, _, h1, h2 => ⟨fun _ => 0, fun q hq => (nomatch hq), by simp [sumOf] at h1 h2 ⊢; omega⟩
  | q :: l, v, nd, h, h1, h2 => by
    rw [List.nodup_cons] at nd
    have hq := h q (by simp)
    have hl : ∀ x ∈ l, lo x ≤ hi x := fun x hx => h x (List.mem_cons_of_mem _ hx)
    have hs := sumOf_le hl
    have e1 : sumOf lo (q :: l) = lo q + sumOf lo l := by simp [sumOf]
    have e2 : sumOf hi (q :: l) = hi q + sumOf hi l := by simp [sumOf]
    rw [e1] at h1; rw [e2] at h2
    obtain ⟨w, w1, w2⟩ := share_out (v := v - max (lo q) (v - sumOf hi l)) nd.2 hl (by omega) (by omega)
    refine ⟨fun x => if x = q then max (lo q) (v - sumOf hi l) else w x, fun x hx => ?_, ?_⟩
    · by_cases z : x = q
      · subst z; simp only [if_true]; omega
      · simp only [if_neg z]
        rcases List.mem_cons.mp hx with y | y
        · exact absurd y z
        · exact w1 x y
    · have : sumOf (fun x => if x = q then max (lo q) (v - sumOf hi l) else w x) l = sumOf w l := sumOf_congr fun x hx => if_neg (fun (z : x = q) => nd.1 (z ▸ hx))
      have e3 : sumOf (fun x => if x = q then max (lo q) (v - sumOf hi l) else w x) (q :: l) = max (lo q) (v - sumOf hi l) + sumOf (fun x => if x = q then max (lo q) (v - sumOf hi l) else w x) l := by simp [sumOf]
      rw [e3, this, w2]; omega
/-! ### sets as lists -/
section
variable {n : Int} {L : List (List Int)}
theorem Lam.nodup (l : Lam n L) {k : List Int} (hk : k ∈ L) : k.Nodup := (l.ris k hk).imp fun h => by omega
theorem ris_eq : ∀ {a b : List Int}, a.Pairwise (· < ·) → b.Pairwise (· < ·) → (∀ x, x ∈ a ↔ x ∈ b) → a = b := fun {a b} ha hb h => by
  have pm : a.Perm b := (List.perm_ext_iff_of_nodup (ha.imp fun h => by omega) (hb.imp fun h => by omega)).mpr h
  exact perm_one (r := fun x y : Int => x ≤ y) (fun x y h1 h2 => by omega) pm (ha.imp fun h => by omega) (hb.imp fun h => by omega)
theorem Lam.sub_len (l : Lam n L) {a b : List Int} (ha : a ∈ L) (hb : b ∈ L) (h : sub a b) (hne : a ≠ b) : a.length < b.length := by
  have h1 := nodup_len (l.nodup ha) h
  refine Classical.byContradiction fun z => hne (ris_eq (l.ris a ha) (l.ris b hb) fun x => ⟨h x, fun hx => ?_⟩)
  refine Classical.byContradiction fun w => ?_
  have := nodup_len (l := x :: a) (m := b) (List.nodup_cons.mpr ⟨w, l.nodup ha⟩) fun y hy => by
    rcases List.mem_cons.mp hy with rfl | hy
    · exact hx
    · exact h y hy
  simp at this
  omega
theorem Lam.three (l : Lam n L) {a b : List Int} (ha : a ∈ L) (hb : b ∈ L) : sub a b ∨ sub b a ∨ dis a b := by
  rcases Nat.lt_trichotomy a.length b.length with h | h | h
  · rcases l.pair ha hb h with z | z
    · exact .inr (.inr z)
    · exact .inl z
  · by_cases e : a = b
    · subst e; exact .inl fun _ h => h
    · obtain ⟨i, hi⟩ := List.mem_iff_getElem?.mp ha
      obtain ⟨j, hj⟩ := List.mem_iff_getElem?.mp hb
      obtain ⟨hi', ei⟩ := List.getElem?_eq_some_iff.mp hi
      obtain ⟨hj', ej⟩ := List.getElem?_eq_some_iff.mp hj
      rcases Nat.lt_trichotomy i j with w | w | w
      · have := List.pairwise_iff_getElem.mp l.nest i j hi' hj' w
        rw [ei, ej] at this
        rcases this with z | z
        · exact .inr (.inr z)
        · exact .inl z
      · subst w; rw [ei] at ej; exact absurd ej e
      · have := List.pairwise_iff_getElem.mp l.nest j i hj' hi' w
        rw [ei, ej] at this
        rcases this with z | z
        · exact .inr (.inr fun x hx hb => z x hb hx)
        · exact .inr (.inl z)
  · rcases l.pair hb ha h with z | z
    · exact .inr (.inr fun x hx hb => z x hb hx)
    · exact .inr (.inl z)
theorem Lam.pnodup (l : Lam n L) {k : List Int} (hk : k ∈ L) : (partsOf L k).Nodup := by
  obtain ⟨p1, p2, _⟩ := l.parts hk
  refine List.Pairwise.imp_of_mem (fun {a b} ha hb h e => ?_) p2
  subst e
  have := hd_mem (l.ne a (p1 a ha).1)
  exact h _ this this
theorem Lam.psum (l : Lam n L) {k : List Int} (hk : k ∈ L) (h2 : 1 < k.length) (c : Int → Int) : csum c k = sumOf (csum c) (partsOf L k) := by
  rw [← csum_perm (l.perm hk h2), csum_flat]
/-- counts of parts make counts -/
theorem Lam.join (l : Lam n L) {k : List Int} (hk : k ∈ L) (cf : List Int → Int → Int) : ∃ c : Int → Int, ∀ f ∈ partsOf L k, ∀ x ∈ f, c x = cf f x := by
  obtain ⟨p1, p2, _⟩ := l.parts hk
  refine ⟨fun x => match (partsOf L k).find? (fun f => decide (x ∈ f)) with | some f => cf f x | none => 0, fun f hf x hx => ?_⟩
  have : (partsOf L k).find? (fun f => decide (x ∈ f)) = some f := by
    cases q : (partsOf L k).find? (fun f => decide (x ∈ f)) with
    | none => exact absurd (by simpa using hx) (List.find?_eq_none.mp q f hf)
    | some g =>
      have g1 := List.mem_of_find?_eq_some q
      have g2 : x ∈ g := by simpa using List.find?_some q
      by_cases e : g = f
      · rw [e]
      · exfalso
        have sym : ∀ {a b : List Int}, dis b a → dis a b := fun h x hx hb => h x hb hx
        obtain ⟨i, hi⟩ := List.mem_iff_getElem?.mp g1
        obtain ⟨j, hj⟩ := List.mem_iff_getElem?.mp hf
        obtain ⟨hi', ei⟩ := List.getElem?_eq_some_iff.mp hi
        obtain ⟨hj', ej⟩ := List.getElem?_eq_some_iff.mp hj
        rcases Nat.lt_trichotomy i j with w | w | w
        · have := List.pairwise_iff_getElem.mp p2 i j hi' hj' w
          rw [ei, ej] at this; exact this x g2 hx
        · subst w; rw [ei] at ej; exact e ej
        · have := List.pairwise_iff_getElem.mp p2 j i hj' hi' w
          rw [ei, ej] at this; exact this x hx g2
  simp only [this]
end
/-! ### the tree by any ends -/
def Feas (L : List (List Int)) (en : List Int → Int × Int) (c : Int → Int) : Prop := ∀ k ∈ L, (en k).1 ≤ csum c k ∧ csum c k ≤ (en k).2
def TrOk (L : List (List Int)) (T : Tr) : Prop := ∀ k ∈ L, T.need k ≤ T.lt k
/-- needs and lets, as the tree tells them -/
structure TrEq (L : List (List Int)) (en : List Int → Int × Int) (T : Tr) : Prop where
  leaf : ∀ k ∈ L, k.length ≤ 1 → T.need k = (en k).1 ∧ T.lt k = (en k).2
  inn : ∀ k ∈ L, 1 < k.length → T.need k = max (en k).1 (sumOf T.need (partsOf L k)) ∧ T.lt k = min (en k).2 (sumOf T.lt (partsOf L k))
section
variable {n : Int} {L : List (List Int)} {en : List Int → Int × Int} {T : Tr}
theorem feas_need (l : Lam n L) (e : TrEq L en T) {c : Int → Int} (hc : Feas L en c) : ∀ m : Nat, ∀ k ∈ L, k.length ≤ m → T.need k ≤ csum c k ∧ csum c k ≤ T.lt k
  | 0, k, hk, hm => absurd (List.length_eq_zero_iff.mp (by omega)) (l.ne k hk)
  | m + 1, k, hk, hm => by
    have hc' := hc k hk
    by_cases h2 : 1 < k.length
    · obtain ⟨e1, e2⟩ := e.inn k hk h2
      have ps := l.psum hk h2 c
      have pm := (l.parts hk).1
      have s1 : sumOf T.need (partsOf L k) ≤ sumOf (csum c) (partsOf L k) := sumOf_le fun q hq => (feas_need l e hc m q (pm q hq).1 (by have := (pm q hq).2.1; omega)).1
      have s2 : sumOf (csum c) (partsOf L k) ≤ sumOf T.lt (partsOf L k) := sumOf_le fun q hq => (feas_need l e hc m q (pm q hq).1 (by have := (pm q hq).2.1; omega)).2
      rw [e1, e2]; omega
    · obtain ⟨e1, e2⟩ := e.leaf k hk (by omega)
      rw [e1, e2]; exact hc'
theorem feas_ok (l : Lam n L) (e : TrEq L en T) {c : Int → Int} (hc : Feas L en c) : TrOk L T := fun k hk => by
  have := feas_need l e hc k.length k hk (Nat.le_refl _); omega
/-- within a lot, any count between need and let can be met -/
theorem fill (l : Lam n L) (e : TrEq L en T) (ok : TrOk L T) : ∀ m : Nat, ∀ k ∈ L, k.length ≤ m → ∀ v, T.need k ≤ v → v ≤ T.lt k → ∃ c : Int → Int, csum c k = v ∧ ∀ j ∈ L, sub j k → (en j).1 ≤ csum c j ∧ csum c j ≤ (en j).2
  | 0, k, hk, hm, v, _, _ => absurd (List.length_eq_zero_iff.mp (by omega)) (l.ne k hk)
  | m + 1, k, hk, hm, v, h1, h2 => by
    by_cases hl : 1 < k.length
    · obtain ⟨e1, e2⟩ := e.inn k hk hl
      have pm := (l.parts hk).1
      obtain ⟨w, w1, w2⟩ := share_out (lo := T.need) (hi := T.lt) (v := v) (l.pnodup hk) (fun q hq => ok q (pm q hq).1) (by omega) (by omega)
      have ih : ∀ f, ∃ c : Int → Int, f ∈ partsOf L k → csum c f = w f ∧ ∀ j ∈ L, sub j f → (en j).1 ≤ csum c j ∧ csum c j ≤ (en j).2 := fun f => by
        by_cases hf : f ∈ partsOf L k
        · obtain ⟨c, c1, c2⟩ := fill l e ok m f (pm f hf).1 (by have := (pm f hf).2.1; omega) (w f) (w1 f hf).1 (w1 f hf).2
          exact ⟨c, fun _ => ⟨c1, c2⟩⟩
        · exact ⟨fun _ => 0, fun z => absurd z hf⟩
      obtain ⟨c, hc⟩ := l.join hk fun f => (ih f).choose
      have cf : ∀ f ∈ partsOf L k, csum c f = w f := fun f hf => by
        rw [csum_congr fun x hx => hc f hf x hx]; exact ((ih f).choose_spec hf).1
      have ck : csum c k = v := by rw [l.psum hk hl, sumOf_congr cf, w2]
      refine ⟨c, ck, fun j hj hs => ?_⟩
      by_cases ej : j = k
      · subst ej; rw [ck]; omega
      · have jl := l.sub_len hj hk hs ej
        obtain ⟨f, hf, sf⟩ := (l.parts hk).2.2 j hj jl (hs _ (hd_mem (l.ne j hj)))
        rw [csum_congr fun x hx => hc f hf x (sf x hx)]
        exact ((ih f).choose_spec hf).2 j hj sf
    · obtain ⟨e1, e2⟩ := e.leaf k hk (by omega)
      match k, hk, hl with
      | [], hk, _ => exact absurd rfl (l.ne [] hk)
      | [x], hk, _ =>
        refine ⟨fun _ => v, by simp [csum], fun j hj hs => ?_⟩
        have : j = [x] := by
          refine ris_eq (l.ris j hj) (by simp) fun y => ⟨hs y, fun hy => ?_⟩
          simp at hy; subst hy
          have h3 := hd_mem (l.ne j hj)
          have h4 := hs _ h3
          simp at h4
          rw [h4] at h3; exact h3
        subst this
        simp [csum]; omega
      | x :: y :: k, _, hl => simp at hl
/-- what a range tells of a lot -/
def Tight (L : List (List Int)) (en : List Int → Int × Int) (k : List Int) (a b : Int) : Prop := (∀ c, Feas L en c → a ≤ csum c k ∧ csum c k ≤ b) ∧ ∀ v, a ≤ v → v ≤ b → ∃ c, Feas L en c ∧ csum c k = v
/-- sums over a greater lot, where counts differ within a lot alone -/
theorem sum_same {c d : Int → Int} {k j : List Int} (hj : j.Nodup) (hk : k.Nodup) (hs : sub k j) (hd : ∀ x, x ∉ k → c x = d x) (he : csum c k = csum d k) : csum c j = csum d j := by
  have pm : (j.filter fun x => decide (x ∈ k)).Perm k := (List.perm_ext_iff_of_nodup (hj.filter _) hk).mpr fun x => by
    simp only [List.mem_filter, decide_eq_true_eq]
    exact ⟨fun h => h.2, fun h => ⟨hs x h, h⟩⟩
  have part : ∀ (f : Int → Int) (l : List Int), csum f l = csum f (l.filter fun x => decide (x ∈ k)) + csum f (l.filter fun x => !decide (x ∈ k)) := fun f l => by
    induction l with
    | nil => simp [csum]
    | cons x l ih =>
      by_cases h : x ∈ k
      · rw [List.filter_cons_of_pos (by simpa using h), List.filter_cons_of_neg (by simpa using h)]
        simp only [csum, List.map_cons, List.sum_cons] at ih ⊢; omega
      · rw [List.filter_cons_of_neg (by simpa using h), List.filter_cons_of_pos (by simpa using h)]
        simp only [csum, List.map_cons, List.sum_cons] at ih ⊢; omega
  rw [part c j, part d j, csum_perm pm, csum_perm pm, he]
  congr 1
  refine csum_congr fun x hx => hd x ?_
  have := (List.mem_filter.mp hx).2
  simpa using this
/-- from a lot to its parts -/
theorem tight_part (l : Lam n L) (e : TrEq L en T) (ok : TrOk L T) {k f : List Int} (hk : k ∈ L) (hl : 1 < k.length) (hf : f ∈ partsOf L k) {a b : Int} (h : Tight L en k a b) (hab : a ≤ b) :
    Tight L en f (max (T.need f) (a - sumOf T.lt (partsOf L k) + T.lt f)) (min (T.lt f) (b - sumOf T.need (partsOf L k) + T.need f)) := by
  have pm := (l.parts hk).1
  have nd := l.pnodup hk
  have fL := (pm f hf).1
  have okf := ok f fL
  refine ⟨fun c hc => ?_, fun v v1 v2 => ?_⟩
  · have hf' := feas_need l e hc f.length f fL (Nat.le_refl _)
    have hk' := h.1 c hc
    have ps := l.psum hk hl c
    have s1 : sumOf (fun g => if g = f then csum c f else T.need g) (partsOf L k) ≤ sumOf (csum c) (partsOf L k) := sumOf_le fun g hg => by
      by_cases z : g = f
      · subst z; simp
      · simp only [if_neg z]; exact (feas_need l e hc g.length g (pm g hg).1 (Nat.le_refl _)).1
    have s2 : sumOf (csum c) (partsOf L k) ≤ sumOf (fun g => if g = f then csum c f else T.lt g) (partsOf L k) := sumOf_le fun g hg => by
      by_cases z : g = f
      · subst z; simp
      · simp only [if_neg z]; exact (feas_need l e hc g.length g (pm g hg).1 (Nat.le_refl _)).2
    rw [sumOf_upd nd hf] at s1 s2
    omega
  · have ss := sumOf_le (f := fun g => if g = f then v else T.need g) (g := fun g => if g = f then v else T.lt g) (l := partsOf L k) fun g hg => by
      by_cases z : g = f
      · simp [z]
      · simp only [if_neg z]; exact ok g (pm g hg).1
    rw [sumOf_upd nd hf, sumOf_upd nd hf] at ss
    obtain ⟨u, u1, u2, u3, u4⟩ : ∃ u, a ≤ u ∧ u ≤ b ∧ sumOf T.need (partsOf L k) - T.need f + v ≤ u ∧ u ≤ sumOf T.lt (partsOf L k) - T.lt f + v := ⟨max a (sumOf T.need (partsOf L k) - T.need f + v), by omega, by omega, by omega, by omega⟩
    obtain ⟨c', hc', ec'⟩ := h.2 u u1 u2
    obtain ⟨w, w1, w2⟩ := share_out (lo := fun g => if g = f then v else T.need g) (hi := fun g => if g = f then v else T.lt g) (v := u) nd (fun g hg => by
      by_cases z : g = f
      · simp [z]
      · simp only [if_neg z]; exact ok g (pm g hg).1) (by rw [sumOf_upd nd hf]; omega) (by rw [sumOf_upd nd hf]; omega)
    have wf : w f = v := by have := w1 f hf; simp at this; omega
    have wb : ∀ g ∈ partsOf L k, T.need g ≤ w g ∧ w g ≤ T.lt g := fun g hg => by
      by_cases z : g = f
      · subst z; rw [wf]; omega
      · have := w1 g hg; simp only [if_neg z] at this; exact this
    have ih : ∀ g, ∃ c : Int → Int, g ∈ partsOf L k → csum c g = w g ∧ ∀ j ∈ L, sub j g → (en j).1 ≤ csum c j ∧ csum c j ≤ (en j).2 := fun g => by
      by_cases hg : g ∈ partsOf L k
      · obtain ⟨c, c1, c2⟩ := fill l e ok g.length g (pm g hg).1 (Nat.le_refl _) (w g) (wb g hg).1 (wb g hg).2
        exact ⟨c, fun _ => ⟨c1, c2⟩⟩
      · exact ⟨fun _ => 0, fun z => absurd z hg⟩
    obtain ⟨cn, hcn⟩ := l.join hk fun g => (ih g).choose
    have cg : ∀ g ∈ partsOf L k, csum cn g = w g := fun g hg => by
      rw [csum_congr fun x hx => hcn g hg x hx]; exact ((ih g).choose_spec hg).1
    have cnk : csum cn k = u := by rw [l.psum hk hl, sumOf_congr cg, w2]
    have ck : csum (fun x => if x ∈ k then cn x else c' x) k = u := by
      rw [← cnk]; exact csum_congr fun x hx => if_pos hx
    refine ⟨fun x => if x ∈ k then cn x else c' x, fun j hj => ?_, ?_⟩
    · rcases l.three hj hk with s | s | s
      · by_cases ej : j = k
        · subst ej
          rw [ck, ← ec']; exact hc' j hj
        · have jl := l.sub_len hj hk s ej
          obtain ⟨g, hg, sg⟩ := (l.parts hk).2.2 j hj jl (s _ (hd_mem (l.ne j hj)))
          have : csum (fun x => if x ∈ k then cn x else c' x) j = csum (ih g).choose j := csum_congr fun x hx => by rw [if_pos (s x hx)]; exact hcn g hg x (sg x hx)
          rw [this]
          exact ((ih g).choose_spec hg).2 j hj sg
      · have : csum (fun x => if x ∈ k then cn x else c' x) j = csum c' j := sum_same (l.nodup hj) (l.nodup hk) s (fun x hx => if_neg hx) (by rw [ck, ec'])
        rw [this]; exact hc' j hj
      · have : csum (fun x => if x ∈ k then cn x else c' x) j = csum c' j := csum_congr fun x hx => if_neg (s x hx)
        rw [this]; exact hc' j hj
    · have : csum (fun x => if x ∈ k then cn x else c' x) f = csum cn f := csum_congr fun x hx => if_pos ((pm f hf).2.2 x hx)
      rw [this, cg f hf, wf]
end
end Ly

namespace Ly
open PySem L2
section
variable {p : Pol} (hp : GP p)
include hp
def trE (p : Pol) (en : List Int → Int × Int) : Tr := treeOf (allLots p) en (partsOf (allLots p))
theorem trE_eqs (en : List Int → Int × Int) : (∀ k ∈ allLots p, (trE p en).need k = trLow en (partsOf (allLots p)) (trE p en) k ∧ (trE p en).lt k = trHigh en (partsOf (allLots p)) (trE p en) k) ∧ (trE p en).wrong = (allLots p).find? (bad (trE p en)) :=
  tree_fix (nodup_allLots p) fun i k hk q hq => parts_before hk hq
theorem trEq (en : List Int → Int × Int) : TrEq (allLots p) en (trE p en) := by
  refine ⟨fun k hk h1 => ?_, fun k hk h1 => ?_⟩
  · obtain ⟨e1, e2⟩ := (trE_eqs hp en).1 k hk
    rw [e1, e2, trLow, trHigh, (gp_lam hp).leaf hk h1]
    exact ⟨rfl, rfl⟩
  · obtain ⟨e1, e2⟩ := (trE_eqs hp en).1 k hk
    have hne := (gp_lam hp).inner hk h1
    have : (partsOf (allLots p) k).isEmpty = false := by
      cases h : partsOf (allLots p) k with
      | nil => exact absurd h hne
      | cons _ _ => rfl
    rw [e1, e2, trLow, trHigh, this]
    exact ⟨rfl, rfl⟩
theorem trE_ok (en : List Int → Int × Int) : (trE p en).wrong = none ↔ TrOk (allLots p) (trE p en) := by
  rw [(trE_eqs hp en).2, List.find?_eq_none]
  constructor
  · intro h k hk
    have := h k hk
    simp [bad] at this
    exact this
  · intro h k hk
    have := h k hk
    simp [bad]; exact this
/-- of kind one all lots are within that of all things; of kind some all are single -/
theorem roots : (rgI p.n ∈ allLots p ∧ ∀ k ∈ allLots p, sub k (rgI p.n)) ∨ ∀ k ∈ allLots p, k.length = 1 := by
  rcases gp_kind hp with hk | hk
  · left
    refine ⟨mem_allLots.mpr (.inl ⟨hk, rfl⟩), fun k hk' x hx => ?_⟩
    have := (gp_lam hp).rg k hk' x hx
    unfold rgI
    exact List.mem_map.mpr ⟨x.toNat, List.mem_range.mpr (by omega), by omega⟩
  · right
    intro k hk'
    have he := gp_end hp
    unfold pollEnd at he
    rw [Bool.and_eq_true, if_pos hk] at he
    rcases mem_allLots.mp hk' with ⟨h, rfl⟩ | ⟨i, hi, rfl⟩ | ⟨s, h1, q, h2, rfl⟩
    · rw [hk] at h; exact absurd h (by decide +kernel)
    · rfl
    · have := of_decide_eq_true (List.all_eq_true.mp (List.all_eq_true.mp he.2 s h1) q h2)
      have h3 := (gp_lam hp).ne _ hk'
      have : q.1.length ≠ 0 := fun z => h3 (List.length_eq_zero_iff.mp z)
      omega
variable {en : List Int → Int × Int}
theorem one_sing {k : List Int} (h : k.length = 1) : ∃ x, k = [x] := by
  match k, h with
  | [x], _ => exact ⟨x, rfl⟩
theorem tight_root {k : List Int} (ok : TrOk (allLots p) (trE p en)) (hk : k ∈ allLots p) (h : k = rgI p.n ∨ ∀ j ∈ allLots p, j.length = 1) : Tight (allLots p) en k ((trE p en).need k) ((trE p en).lt k) := by
  have l := gp_lam hp
  have e := trEq hp en
  refine ⟨fun c hc => feas_need l e hc k.length k hk (Nat.le_refl _), fun v h1 h2 => ?_⟩
  by_cases hs : ∀ j ∈ allLots p, j.length = 1
  · obtain ⟨x, rfl⟩ := one_sing hp (hs k hk)
    refine ⟨fun y => if y = x then v else (trE p en).need [y], fun j hj => ?_, by simp [csum]⟩
    obtain ⟨y, rfl⟩ := one_sing hp (hs j hj)
    obtain ⟨e1, e2⟩ := e.leaf [y] hj (by simp)
    by_cases z : y = x
    · subst z
      simp only [csum, List.map_cons, List.map_nil, List.sum_cons, List.sum_nil, if_true]; omega
    · have := ok [y] hj
      simp only [csum, List.map_cons, List.map_nil, List.sum_cons, List.sum_nil, if_neg z]; omega
  · rcases h with rfl | h
    · rcases roots hp with ⟨_, r⟩ | r
      · obtain ⟨c, c1, c2⟩ := fill l e ok (rgI p.n).length _ hk (Nat.le_refl _) v h1 h2
        exact ⟨c, fun j hj => c2 j hj (r j hj), c1⟩
      · exact absurd r hs
    · exact absurd h hs
theorem feas_iff : TrOk (allLots p) (trE p en) ↔ ∃ c, Feas (allLots p) en c := by
  have l := gp_lam hp
  have hn := hp.n
  constructor
  · intro ok
    rcases roots hp with ⟨r1, r2⟩ | r
    · obtain ⟨c, h, _⟩ := (tight_root hp ok r1 (.inl rfl)).2 _ (Int.le_refl _) (ok _ r1)
      exact ⟨c, h⟩
    · have z := l.one 0 (by omega) (by omega)
      obtain ⟨c, h, _⟩ := (tight_root hp ok z (.inr r)).2 _ (Int.le_refl _) (ok _ z)
      exact ⟨c, h⟩
  · rintro ⟨c, hc⟩
    exact feas_ok l (trEq hp en) hc
/-- each lot but that of all things is a part of a greater one -/
theorem parent {F k : List Int} (hF : F ∈ allLots p) (hk : k ∈ allLots p) : ∀ m : Nat, ∀ j ∈ allLots p, j.length ≤ m → sub k j → k ≠ j → ∃ i ∈ allLots p, 1 < i.length ∧ k ∈ partsOf (allLots p) i
  | 0, j, hj, hm, _, _ => absurd (List.length_eq_zero_iff.mp (by omega)) ((gp_lam hp).ne j hj)
  | m + 1, j, hj, hm, hs, hne => by
    have l := gp_lam hp
    have kl := l.sub_len hk hj hs hne
    have k0 : k.length ≠ 0 := fun z => l.ne k hk (List.length_eq_zero_iff.mp z)
    obtain ⟨f, hf, sf⟩ := (l.parts hj).2.2 k hk kl (hs _ (hd_mem (l.ne k hk)))
    by_cases e : k = f
    · subst e; exact ⟨j, hj, by omega, hf⟩
    · obtain ⟨f1, f2, _⟩ := (l.parts hj).1 f hf
      exact parent hF hk m f f1 (by omega) sf e
theorem paOk : PaOk (allLots p) (partsOf (allLots p)) := by
  have l := gp_lam hp
  have few := hp.few
  refine ⟨fun k hk q hq => ?_, by omega, fun k hk => ?_⟩
  · obtain ⟨a, b, _⟩ := (l.parts hk).1 q hq
    exact ⟨a, fun z => by subst z; omega⟩
  · have := parts_len (allLots p) k; omega
def rgOf (p : Pol) (en : List Int → Int × Int) : Rg := rangesOf (allLots p) (partsOf (allLots p)) (trE p en)
theorem rg_tight (ok : TrOk (allLots p) (trE p en)) : ∀ i, i ≤ (allLots p).length → (∀ k ∈ (((allLots p).reverse.take i).foldl (rgLot (partsOf (allLots p)) (trE p en)) rg0).ks, k ∈ allLots p ∧ Tight (allLots p) en k ((((allLots p).reverse.take i).foldl (rgLot (partsOf (allLots p)) (trE p en)) rg0).f k).1 ((((allLots p).reverse.take i).foldl (rgLot (partsOf (allLots p)) (trE p en)) rg0).f k).2) ∧
    (∀ k ∈ (allLots p).reverse.take i, ∀ f ∈ partsOf (allLots p) k, f ∈ (((allLots p).reverse.take i).foldl (rgLot (partsOf (allLots p)) (trE p en)) rg0).ks)
  | 0, _ => ⟨fun k hk => by simp [rg0] at hk, fun k hk => by simp at hk⟩
  | i + 1, hi => by
    obtain ⟨h1, h2⟩ := rg_tight ok i (by omega)
    have l := gp_lam hp
    have e := trEq hp en
    have hl : i < (allLots p).reverse.length := by rw [List.length_reverse]; omega
    have hlot : (allLots p).reverse[i]? = some (allLots p).reverse[i] := List.getElem?_eq_getElem hl
    have lL : (allLots p).reverse[i] ∈ allLots p := List.mem_reverse.mp (List.getElem_mem hl)
    have big : ∀ k ∈ allLots p, (allLots p).reverse[i].length < k.length → k ∈ (allLots p).reverse.take i := fun k hk hlt => by
      obtain ⟨j, hj⟩ := List.mem_iff_getElem?.mp (List.mem_reverse.mpr hk)
      obtain ⟨hj', ej⟩ := List.getElem?_eq_some_iff.mp hj
      refine List.mem_take_iff_getElem.mpr ⟨j, ?_, ej⟩
      refine Nat.lt_min.mpr ⟨?_, hj'⟩
      refine Classical.byContradiction fun z => ?_
      have pr : (allLots p).reverse.Pairwise fun a b => b.length ≤ a.length := List.pairwise_reverse.mpr (lots_up p)
      rcases Nat.lt_or_ge i j with w | w
      · have := List.pairwise_iff_getElem.mp pr i j hl hj' w
        rw [ej] at this; omega
      · have : j = i := by omega
        subst this; rw [ej] at hlt; omega
    rw [List.take_add_one, hlot]
    simp only [Option.toList, List.foldl_append, List.foldl_cons, List.foldl_nil]
    generalize ((allLots p).reverse.take i).foldl (rgLot (partsOf (allLots p)) (trE p en)) rg0 = R at *
    generalize (allLots p).reverse[i] = lot at *
    -- the lot itself
    have top : ∀ k ∈ (rgTop (trE p en) R lot).ks, k ∈ allLots p ∧ Tight (allLots p) en k ((rgTop (trE p en) R lot).f k).1 ((rgTop (trE p en) R lot).f k).2 := by
      unfold rgTop
      split
      · exact h1
      · rename_i hn
        intro k hk
        have ks := (put_ks (R := R) (q := lot) (v := ((trE p en).need lot, (trE p en).lt lot))).2.2.1 k hk
        by_cases z : k = lot
        · subst z
          refine ⟨lL, ?_⟩
          simp only [Rg.put, if_true]
          refine tight_root hp ok lL ?_
          rcases roots hp with ⟨r1, r2⟩ | r
          · left
            refine Classical.byContradiction fun w => ?_
            obtain ⟨j, hj, j1, j2⟩ := parent hp r1 lL (rgI p.n).length _ r1 (Nat.le_refl _) (r2 k lL) w
            exact hn (h2 j (big j hj ((l.parts hj).1 k j2).2.1) k j2)
          · exact .inr r
        · rcases ks with ks | ks
          · simp only [Rg.put, if_neg z]; exact h1 k ks
          · exact absurd ks z
    obtain ⟨t1, t2⟩ := rgTop_ks (T := trE p en) (R := R) (lot := lot)
    obtain ⟨f1, f2, f3⟩ := parts_fold_ks (T := trE p en) (lot := lot) (a := sumOf (trE p en).need (partsOf (allLots p) lot)) (b := sumOf (trE p en).lt (partsOf (allLots p) lot)) (partsOf (allLots p) lot) (rgTop (trE p en) R lot)
    refine ⟨?_, fun k hk f hf => ?_⟩
    · -- its parts
      by_cases hl2 : 1 < lot.length
      · have key : ∀ (ps : List (List Int)) (Z : Rg), (∀ q ∈ ps, q ∈ partsOf (allLots p) lot) → lot ∈ Z.ks → (∀ k ∈ Z.ks, k ∈ allLots p ∧ Tight (allLots p) en k (Z.f k).1 (Z.f k).2) →
            ∀ k ∈ (ps.foldl (rgPart (trE p en) lot (sumOf (trE p en).need (partsOf (allLots p) lot)) (sumOf (trE p en).lt (partsOf (allLots p) lot))) Z).ks, k ∈ allLots p ∧ Tight (allLots p) en k ((ps.foldl (rgPart (trE p en) lot (sumOf (trE p en).need (partsOf (allLots p) lot)) (sumOf (trE p en).lt (partsOf (allLots p) lot))) Z).f k).1 ((ps.foldl (rgPart (trE p en) lot (sumOf (trE p en).need (partsOf (allLots p) lot)) (sumOf (trE p en).lt (partsOf (allLots p) lot))) Z).f k).2 := fun ps => by
          induction ps with
          | nil => intro Z _ _ hz; exact hz
          | cons q ps ih =>
            intro Z hq hlz hz
            have qm := hq q (by simp)
            refine ih _ (fun x hx => hq x (List.mem_cons_of_mem _ hx)) (put_ks.2.1 lot hlz) fun k hk => ?_
            by_cases z : k = q
            · subst z
              obtain ⟨a, b, _⟩ := (l.parts lL).1 k qm
              refine ⟨a, ?_⟩
              simp only [rgPart, Rg.put, if_true]
              obtain ⟨c, hc⟩ := (feas_iff hp).mp ok
              have tl := (hz lot hlz).2
              have := tl.1 c hc
              exact tight_part l e ok lL hl2 qm tl (by omega)
            · have ks := put_ks.2.2.1 k hk
              rcases ks with ks | ks
              · simp only [rgPart, Rg.put, if_neg z]; exact hz k ks
              · exact absurd ks z
        exact key _ _ (fun _ h => h) t1 top
      · have : partsOf (allLots p) lot = [] := l.leaf lL (by omega)
        simp only [rgLot, this, List.foldl_nil]
        exact top
    · rcases List.mem_append.mp hk with hk | hk
      · exact f1 f (t2 f (h2 k hk f hf))
      · simp at hk; subst hk
        exact f2 f hf
theorem rg_all (ok : TrOk (allLots p) (trE p en)) {k : List Int} (hk : k ∈ allLots p) : k ∈ (rgOf p en).ks ∧ Tight (allLots p) en k ((rgOf p en).f k).1 ((rgOf p en).f k).2 := by
  have q := rg_tight hp ok (allLots p).length (Nat.le_refl _)
  rw [List.take_of_length_le (by rw [List.length_reverse]; exact Nat.le_refl _)] at q
  have m := (rg_ks (T := trE p en) (paOk hp) (allLots p).reverse rg0 (fun k hk => List.mem_reverse.mp hk) (fun k hk => by simp [rg0] at hk) (by simp [rg0])).2.2.1 k (List.mem_reverse.mpr hk)
  exact ⟨m, (q.1 k m).2⟩
theorem tight_le {k : List Int} {a b : Int} (ok : TrOk (allLots p) (trE p en)) (h : Tight (allLots p) en k a b) : a ≤ b := by
  obtain ⟨c, hc⟩ := (feas_iff hp).mp ok
  have := h.1 c hc; omega
/-! ### counts fixed -/
theorem fix_iff {n : Int} {fx : List (List Int × Int)} (hf : ∀ q ∈ fx, q.1 ∈ allLots p) {c : Int → Int} : Feas (allLots p) (enF p n fx) c ↔ Feas (allLots p) (endsAt p n) c ∧ ∀ q ∈ fx, csum c q.1 = q.2 := by
  have step : ∀ (fx : List (List Int × Int)) (e0 : List Int → Int × Int), (∀ q ∈ fx, q.1 ∈ allLots p) → (Feas (allLots p) (fun k => fx.foldl (fixStep k) (e0 k)) c ↔ Feas (allLots p) e0 c ∧ ∀ q ∈ fx, csum c q.1 = q.2) := fun fx => by
    induction fx with
    | nil => intro e0 _; exact ⟨fun h => ⟨h, fun q hq => (nomatch hq)⟩, fun h => h.1⟩
    | cons q fx ih =>
      intro e0 hf
      have := ih (fun k => fixStep k (e0 k) q) fun x hx => hf x (List.mem_cons_of_mem _ hx)
      simp only [List.foldl_cons]
      rw [this]
      have qm := hf q (by simp)
      constructor
      · rintro ⟨h1, h2⟩
        have hq := h1 q.1 qm
        simp only [fixStep, if_true] at hq
        refine ⟨fun k hk => ?_, fun x hx => ?_⟩
        · have := h1 k hk
          by_cases z : q.1 = k
          · simp only [fixStep, if_pos z] at this; omega
          · simp only [fixStep, if_neg z] at this; exact this
        · rcases List.mem_cons.mp hx with rfl | hx
          · omega
          · exact h2 x hx
      · rintro ⟨h1, h2⟩
        refine ⟨fun k hk => ?_, fun x hx => h2 x (List.mem_cons_of_mem _ hx)⟩
        have := h1 k hk
        have e := h2 q (by simp)
        by_cases z : q.1 = k
        · simp only [fixStep, if_pos z]
          rw [z] at e; omega
        · simp only [fixStep, if_neg z]; exact this
  exact step fx (endsAt p n) hf
end
end Ly

namespace Ly
open PySem L2
/-! ### shares and stretches, in any units -/
theorem up_le_iff {z d c : Int} (hd : 1 ≤ d) : upOver z d ≤ c ↔ z ≤ c * d := by
  constructor
  · intro h
    have b := upOver_bd (z := z) (n := d) (by omega)
    have := Int.mul_le_mul_of_nonneg_right h (show 0 ≤ d by omega)
    omega
  · exact up_le hd
theorem lt_up_iff {z d c : Int} (hd : 1 ≤ d) : c < upOver z d ↔ c * d < z := by
  have := up_le_iff (z := z) (c := c) hd
  omega
theorem le_div_iff {z d c : Int} (hd : 1 ≤ d) : c ≤ z / d ↔ c * d ≤ z := Int.le_ediv_iff_mul_le (by omega)
theorem share_inU {c n t u : Int} {w : Str} (hw : isWord (.str w) = true) (hn : 1 ≤ n) (hu : 1 ≤ u) (hc : 0 ≤ c ∧ c ≤ n) : lawShare c n u w = t ↔ stLow n u w t ≤ c ∧ c ≤ stHigh n u w t := by
  unfold lawShare stLow stHigh lowOf highOf
  have cu : u * c = c * u := Int.mul_comm _ _
  rcases word3 hw with rfl | rfl | rfl
  · simp only [if_true]
    rw [div_is (by omega)]
    have a1 := up_le_iff (z := t * n) (c := c) hu
    have a2 := lt_up_iff (z := (t + 1) * n) (c := c) hu
    rw [Int.add_mul, Int.one_mul] at a2 ⊢
    omega
  · simp only [if_neg cut_up, if_true]
    rw [div_is (by omega), Int.sub_mul, Int.one_mul]
    have a1 := le_div_iff (z := t * n - n) (c := c) hu
    have a2 := le_div_iff (z := t * n) (c := c) hu
    omega
  · simp only [if_neg cut_near, if_neg up_near]
    rw [div_is (by omega)]
    have a1 := up_le_iff (z := (2 * t - 1) * n) (d := 2 * u) (c := c) (by omega)
    have a2 := lt_up_iff (z := (2 * t + 1) * n) (d := 2 * u) (c := c) (by omega)
    have e1 : (2 * t - 1) * n = 2 * (t * n) - n := by rw [Int.sub_mul, Int.one_mul, Int.mul_assoc]
    have e2 : (2 * t + 1) * n = 2 * (t * n) + n := by rw [Int.add_mul, Int.one_mul, Int.mul_assoc]
    have e3 : t * (2 * n) = 2 * (t * n) := by rw [Int.mul_left_comm]
    have e4 : c * (2 * u) = 2 * (c * u) := by rw [Int.mul_left_comm]
    have e5 : 2 * u * c = 2 * (c * u) := by rw [Int.mul_assoc, cu]
    rw [e1] at a1 ⊢
    rw [e2] at a2 ⊢
    rw [e4] at a1 a2
    rw [e3, e5]
    omega
theorem share_same {c n u : Int} {w : Str} (hn : 1 ≤ n) : shareOf c n u w = lawShare c n u w := by
  unfold shareOf lawShare
  split
  · rfl
  · split
    · have a := up_le_iff (z := u * c) (d := n) (c := (u * c + n - 1) / n) hn
      have b := lt_up_iff (z := u * c) (d := n) (c := (u * c + n - 1) / n - 1) hn
      have q := div_bd (z := u * c + n - 1) (n := n) (by omega)
      rw [Int.sub_mul, Int.one_mul] at b
      have h1 := a.mpr (by omega)
      have h2 := b.mpr (by omega)
      omega
    · rfl
/-! ### ends, told by told -/
theorem ends_iff {p : Pol} {n : Int} {k : List Int} {v : Int} : ((endsAt p n k).1 ≤ v ∧ v ≤ (endsAt p n k).2) ↔ ((end0 p n k).1 ≤ v ∧ v ≤ (end0 p n k).2) ∧ ∀ t ∈ tolds p, t.k = k → stLow n t.u t.w t.q ≤ v ∧ v ≤ stHigh n t.u t.w t.q := by
  have go : ∀ (ts : List Tld) (e : Int × Int), ((ts.foldl (endStep n k) e).1 ≤ v ∧ v ≤ (ts.foldl (endStep n k) e).2) ↔ (e.1 ≤ v ∧ v ≤ e.2) ∧ ∀ t ∈ ts, t.k = k → stLow n t.u t.w t.q ≤ v ∧ v ≤ stHigh n t.u t.w t.q := fun ts => by
    induction ts with
    | nil => intro e; simp
    | cons t ts ih =>
      intro e
      rw [List.foldl_cons, ih]
      by_cases h : t.k = k
      · rw [endStep, if_pos h]
        constructor
        · rintro ⟨h1, h2⟩
          simp only at h1
          refine ⟨by omega, fun x hx hk => ?_⟩
          rcases List.mem_cons.mp hx with rfl | hx
          · omega
          · exact h2 x hx hk
        · rintro ⟨h1, h2⟩
          have := h2 t (by simp) h
          exact ⟨by simp only; omega, fun x hx hk => h2 x (List.mem_cons_of_mem _ hx) hk⟩
      · rw [endStep, if_neg h]
        constructor
        · rintro ⟨h1, h2⟩
          refine ⟨h1, fun x hx hk => ?_⟩
          rcases List.mem_cons.mp hx with rfl | hx
          · exact absurd hk h
          · exact h2 x hx hk
        · rintro ⟨h1, h2⟩
          exact ⟨h1, fun x hx hk => h2 x (List.mem_cons_of_mem _ hx) hk⟩
  exact go _ _
/-! ### counts that show a poll -/
def cOf (cs : List Int) : Int → Int := fun x => rw_ cs x.toNat
theorem cnt_is (cs k : List Int) : cnt cs k = csum (cOf cs) k := rfl
structure AreC (p : Pol) (n : Int) (cs : List Int) : Prop where
  len : (cs.length : Int) = p.n
  bd : ∀ x ∈ cs, 0 ≤ x ∧ x ≤ n
  sum : p.kind = "one" → cs.sum = n
def Shows (p : Pol) (n : Int) (cs : List Int) : Prop := ∀ t ∈ tolds p, lawShare (cnt cs t.k) n t.u t.w = t.q
theorem rg_list : ∀ (cs : List Int), ((List.range cs.length).map fun i => rw_ cs i) = cs
  | [] => rfl
  | x :: cs => by
    rw [List.length_cons, List.range_succ_eq_map, List.map_cons, List.map_map]
    have := rg_list cs
    have e : (List.range cs.length).map ((fun i => rw_ (x :: cs) i) ∘ Nat.succ) = (List.range cs.length).map fun i => rw_ cs i := List.map_congr_left fun i _ => by simp [rw_]
    rw [e, this]; simp [rw_]
theorem csum_all {p : Pol} {cs : List Int} (h : (cs.length : Int) = p.n) : csum (cOf cs) (rgI p.n) = cs.sum := by
  unfold csum rgI cOf
  rw [List.map_map]
  have : p.n.toNat = cs.length := by omega
  rw [this]
  have e : (List.range cs.length).map ((fun x : Int => rw_ cs x.toNat) ∘ fun (i : Nat) => (i : Int)) = (List.range cs.length).map fun i => rw_ cs i := List.map_congr_left fun i _ => by simp
  rw [e, rg_list]
section
variable {p : Pol} (hp : GP p)
include hp
theorem lot_lotB {k : List Int} (hk : k ∈ allLots p) : lotB p.n k = true := by
  have l := gp_lam hp
  have ne := l.ne k hk
  have rs := l.ris k hk
  have rg := l.rg k hk
  unfold lotB
  rw [Bool.and_eq_true, Bool.and_eq_true]
  refine ⟨by cases k with
    | nil => exact absurd rfl ne
    | cons _ _ => rfl, ?_, ?_⟩
  · rw [List.all_eq_true]
    intro x hx
    have := rg x hx
    simp; omega
  · have : ∀ k : List Int, k.Pairwise (· < ·) → risesI k = true := fun k => by
      induction k with
      | nil => intro _; rfl
      | cons a k ih =>
        intro h
        rw [List.pairwise_cons] at h
        cases k with
        | nil => rfl
        | cons b k =>
          have := ih h.2
          unfold risesI at this ⊢
          simp only [List.tail_cons, List.zip_cons_cons] at this ⊢
          rw [List.filter_cons_of_neg (by have := h.1 b (by simp); simp; omega)]
          exact this
    exact this k rs
theorem told_lot {t : Tld} (ht : t ∈ tolds p) : t.k ∈ allLots p := by
  unfold tolds at ht
  obtain ⟨s, hs, ht⟩ := List.mem_flatMap.mp ht
  obtain ⟨q, hq, rfl⟩ := List.mem_map.mp ht
  exact mem_allLots.mpr (.inr (.inr ⟨s, hs, q, hq, rfl⟩))
theorem kind_not : p.kind = "one" → ¬ p.kind = "some" := fun h z => by rw [h] at z; exact absurd z (by decide +kernel)
theorem cnt_bd {n : Int} {cs : List Int} (hn : 1 ≤ n) (ha : AreC p n cs) {k : List Int} (hk : k ∈ allLots p) : 0 ≤ cnt cs k ∧ cnt cs k ≤ n := by
  have lb := lot_lotB hp hk
  have c := cnt_le (l := cs) (fun x hx => (ha.bd x hx).1) lb
  refine ⟨c.1, ?_⟩
  rcases gp_kind hp with h | h
  · rw [ha.sum h] at c; exact c.2
  · rcases roots hp with ⟨r, _⟩ | r
    · rcases mem_allLots.mp r with ⟨z, _⟩ | ⟨i, hi, e⟩ | ⟨s, h1, q, h2, e⟩
      · rw [h] at z; exact absurd z (by decide +kernel)
      · have l1 : k.length = 1 := by
          have kn := lot_len hp hk
          have e1 := congrArg List.length e
          simp [rgI] at e1
          have := (gp_lam hp).ne k hk
          have : k.length ≠ 0 := fun z => this (List.length_eq_zero_iff.mp z)
          omega
        obtain ⟨x, rfl⟩ := one_sing hp l1
        simp only [cnt, List.map_cons, List.map_nil, List.sum_cons, List.sum_nil, Int.add_zero]
        exact rw_mem (fun z => z ≤ n) (by omega) fun y hy => (ha.bd y hy).2
      · have he := gp_end hp
        unfold pollEnd at he
        rw [Bool.and_eq_true, if_pos h] at he
        have q1 := of_decide_eq_true (List.all_eq_true.mp (List.all_eq_true.mp he.2 s h1) q h2)
        rw [← e] at q1
        have l1 : k.length = 1 := by
          have kn := lot_len hp hk
          simp [rgI] at q1
          have := (gp_lam hp).ne k hk
          have : k.length ≠ 0 := fun z => this (List.length_eq_zero_iff.mp z)
          omega
        obtain ⟨x, rfl⟩ := one_sing hp l1
        simp only [cnt, List.map_cons, List.map_nil, List.sum_cons, List.sum_nil, Int.add_zero]
        exact rw_mem (fun z => z ≤ n) (by omega) fun y hy => (ha.bd y hy).2
    · obtain ⟨x, rfl⟩ := one_sing hp (r k hk)
      simp only [cnt, List.map_cons, List.map_nil, List.sum_cons, List.sum_nil, Int.add_zero]
      exact rw_mem (fun z => z ≤ n) (by omega) fun y hy => (ha.bd y hy).2
theorem feas_shows {n : Int} {cs : List Int} (hn : 1 ≤ n) (ha : AreC p n cs) : Feas (allLots p) (endsAt p n) (cOf cs) ↔ Shows p n cs := by
  constructor
  · intro h t ht
    have to := tolds_ok hp t ht
    have tl := told_lot hp ht
    have b := cnt_bd hp hn ha tl
    rw [share_inU to.w hn (by have := to.u; omega) b]
    exact (ends_iff.mp (h t.k tl)).2 t ht rfl
  · intro h k hk
    have b := cnt_bd hp hn ha hk
    rw [ends_iff]
    refine ⟨?_, fun t ht e => ?_⟩
    · unfold end0
      split
      · rename_i z
        rw [z.2, csum_all ha.len, ha.sum z.1]
        exact ⟨Int.le_refl _, Int.le_refl _⟩
      · exact b
    · have to := tolds_ok hp t ht
      have := h t ht
      subst e
      exact (share_inU to.w hn (by have := to.u; omega) b).mp this
/-- feasible counts, as a list -/
theorem feas_list {n : Int} {c : Int → Int} (hn1 : 1 ≤ n) (h : Feas (allLots p) (endsAt p n) c) : AreC p n ((List.range p.n.toNat).map fun (i : Nat) => c (i : Int)) ∧ Feas (allLots p) (endsAt p n) (cOf ((List.range p.n.toNat).map fun (i : Nat) => c (i : Int))) := by
  have hn := hp.n
  have l := gp_lam hp
  have ag : ∀ x : Int, 0 ≤ x → x < p.n → cOf ((List.range p.n.toNat).map fun (i : Nat) => c (i : Int)) x = c x := fun x h0 h1 => by
    unfold cOf rw_
    rw [List.getD_eq_getElem?_getD, List.getElem?_map, List.getElem?_range (by omega)]
    simp; rw [Int.max_eq_left h0]
  have cs : ∀ k ∈ allLots p, csum (cOf ((List.range p.n.toNat).map fun (i : Nat) => c (i : Int))) k = csum c k := fun k hk => csum_congr fun x hx => ag x (l.rg k hk x hx).1 (l.rg k hk x hx).2
  refine ⟨⟨by simp; omega, fun x hx => ?_, fun hk => ?_⟩, fun k hk => by rw [cs k hk]; exact h k hk⟩
  · obtain ⟨i, hi, rfl⟩ := List.mem_map.mp hx
    have hi' := List.mem_range.mp hi
    have m := l.one (i : Int) (by omega) (by omega)
    have := (ends_iff.mp (h _ m)).1
    unfold end0 at this
    simp only [csum, List.map_cons, List.map_nil, List.sum_cons, List.sum_nil, Int.add_zero] at this
    split at this
    · simp only at this; omega
    · exact this
  · have m : rgI p.n ∈ allLots p := mem_allLots.mpr (.inl ⟨hk, rfl⟩)
    have := (ends_iff.mp (h _ m)).1
    unfold end0 at this
    rw [if_pos ⟨hk, rfl⟩, ← cs _ m, csum_all (by simp; omega)] at this
    simp only at this; omega
theorem can_shows {n : Int} (hn : 1 ≤ n) : canOf p n = true ↔ ∃ cs, AreC p n cs ∧ Shows p n cs := by
  have e : canOf p n = true ↔ TrOk (allLots p) (trE p (endsAt p n)) := by
    unfold canOf; rw [decide_eq_true_eq]; exact trE_ok hp (endsAt p n)
  rw [e, feas_iff hp]
  constructor
  · rintro ⟨c, hc⟩
    obtain ⟨a, b⟩ := feas_list hp hn hc
    exact ⟨_, a, (feas_shows hp hn a).mp b⟩
  · rintro ⟨cs, a, b⟩
    exact ⟨_, (feas_shows hp hn a).mpr b⟩
end
/-! ### the first counts -/
def fxRun (p : Pol) (n : Int) : Nat → List (List Int × Int)
  | 0 => []
  | i + 1 => fxRun p n i ++ [([(i : Int)], ((rgOf p (enF p n (fxRun p n i))).f [(i : Int)]).1)]
def countsOf (p : Pol) (n : Int) : List Int := (fxRun p n p.n.toNat).map (·.2)
theorem fx_keys (p : Pol) (n : Int) : ∀ i, (fxRun p n i).map (·.1) = singles i
  | 0 => rfl
  | i + 1 => by rw [fxRun, List.map_append, fx_keys p n i]; simp [singles, List.range_succ]
theorem fx_len (p : Pol) (n : Int) (i : Nat) : (fxRun p n i).length = i := by
  have := congrArg List.length (fx_keys p n i)
  simpa [singles] using this
theorem fx_take (p : Pol) (n : Int) : ∀ {i j : Nat}, i ≤ j → (fxRun p n j).take i = fxRun p n i
  | i, 0, h => by have : i = 0 := by omega
                  subst this; rfl
  | i, j + 1, h => by
    by_cases e : i = j + 1
    · subst e; exact List.take_of_length_le (by rw [fx_len]; exact Nat.le_refl _)
    · rw [fxRun, List.take_append_of_le_length (by rw [fx_len]; omega), fx_take p n (by omega)]
section
variable {p : Pol} (hp : GP p)
include hp
theorem fx_ok {n : Int} {i : Nat} (hi : i ≤ p.n.toNat) : FxOk p (fxRun p n i) := by
  have hn := hp.n
  refine ⟨fun q hq => ?_, by rw [fx_len]; omega, ?_⟩
  · have : q.1 ∈ singles i := by rw [← fx_keys p n i]; exact List.mem_map.mpr ⟨q, hq, rfl⟩
    unfold singles at this
    obtain ⟨j, hj, e⟩ := List.mem_map.mp this
    rw [← e]
    have := List.mem_range.mp hj
    exact mem_allLots.mpr (.inr (.inl ⟨j, by omega, rfl⟩))
  · rw [fx_keys]
    unfold singles List.Nodup
    rw [List.pairwise_map]
    exact List.pairwise_lt_range.imp fun h => by simp; omega
theorem fx_feas {n : Int} (h : canOf p n = true) : ∀ i, i ≤ p.n.toNat → TrOk (allLots p) (trE p (enF p n (fxRun p n i)))
  | 0, _ => by
    unfold canOf at h
    rw [decide_eq_true_eq] at h
    exact (trE_ok hp (endsAt p n)).mp h
  | i + 1, hi => by
    have ok := fx_feas h i (by omega)
    have m := (gp_lam hp).one (i : Int) (by omega) (by omega)
    have t := (rg_all hp ok m).2
    obtain ⟨c, hc, ec⟩ := t.2 _ (Int.le_refl _) (tight_le hp ok t)
    rw [feas_iff hp]
    refine ⟨c, ?_⟩
    rw [fix_iff hp (fx_ok hp (n := n) hi).mem]
    obtain ⟨h1, h2⟩ := (fix_iff hp (fx_ok hp (n := n) (show i ≤ p.n.toNat by omega)).mem).mp hc
    refine ⟨h1, fun q hq => ?_⟩
    rw [fxRun] at hq
    rcases List.mem_append.mp hq with hq | hq
    · exact h2 q hq
    · simp at hq; subst hq; exact ec
theorem counts_get {n : Int} {i : Nat} (hi : i < p.n.toNat) : (countsOf p n)[i]? = some ((rgOf p (enF p n (fxRun p n i))).f [(i : Int)]).1 := by
  unfold countsOf
  have e : (fxRun p n p.n.toNat)[i]? = (fxRun p n (i + 1))[i]? := by
    rw [← fx_take p n (show i + 1 ≤ p.n.toNat by omega), List.getElem?_take]; simp
  rw [List.getElem?_map, e, fxRun, List.getElem?_append_right (by rw [fx_len]; exact Nat.le_refl _), fx_len]
  simp
theorem counts_feas {n : Int} (hn : 1 ≤ n) (h : canOf p n = true) : AreC p n (countsOf p n) ∧ Shows p n (countsOf p n) := by
  have ok := fx_feas hp h p.n.toNat (Nat.le_refl _)
  obtain ⟨c, hc⟩ := (feas_iff hp).mp ok
  obtain ⟨h1, h2⟩ := (fix_iff hp (fx_ok hp (n := n) (Nat.le_refl _)).mem).mp hc
  have e : countsOf p n = (List.range p.n.toNat).map fun (i : Nat) => c (i : Int) := by
    refine List.ext_getElem? fun i => ?_
    by_cases hi : i < p.n.toNat
    · rw [counts_get hp hi, List.getElem?_map, List.getElem?_range hi]
      have : ([(i : Int)], ((rgOf p (enF p n (fxRun p n i))).f [(i : Int)]).1) ∈ fxRun p n p.n.toNat := by
        have e : (fxRun p n p.n.toNat)[i]? = (fxRun p n (i + 1))[i]? := by
          rw [← fx_take p n (show i + 1 ≤ p.n.toNat by omega), List.getElem?_take]; simp
        refine List.mem_of_getElem? (i := i) ?_
        rw [e, fxRun, List.getElem?_append_right (by rw [fx_len]; exact Nat.le_refl _), fx_len]
        simp
      have := h2 _ this
      simp only [csum, List.map_cons, List.map_nil, List.sum_cons, List.sum_nil, Int.add_zero] at this
      rw [← this]; rfl
    · rw [List.getElem?_eq_none (by unfold countsOf; rw [List.length_map, fx_len]; omega), List.getElem?_eq_none (by simp; omega)]
  obtain ⟨a, b⟩ := feas_list hp hn h1
  rw [e]
  exact ⟨a, (feas_shows hp hn a).mp b⟩
/-- no counts that show the poll come ahead of the first ones -/
theorem counts_first {n : Int} (hn : 1 ≤ n) (h : canOf p n = true) {cs : List Int} (ha : AreC p n cs) (hs : Shows p n cs) : countsOf p n = cs ∨ ∃ i : Nat, i < p.n.toNat ∧ (countsOf p n).take i = cs.take i ∧ rw_ (countsOf p n) i < rw_ cs i := by
  have hf := (feas_shows hp hn ha).mpr hs
  have l := gp_lam hp
  have len1 : (countsOf p n).length = p.n.toNat := by unfold countsOf; rw [List.length_map, fx_len]
  have len2 : cs.length = p.n.toNat := by have := ha.len; omega
  have go : ∀ i, i ≤ p.n.toNat → ((countsOf p n).take i = cs.take i ∨ ∃ j : Nat, j < p.n.toNat ∧ (countsOf p n).take j = cs.take j ∧ rw_ (countsOf p n) j < rw_ cs j) := fun i => by
    induction i with
    | zero => intro _; left; rfl
    | succ i ih =>
      intro hi
      rcases ih (by omega) with e | e
      · have ok := fx_feas hp h i (by omega)
        have m := l.one (i : Int) (by omega) (by omega)
        have t := (rg_all hp ok m).2
        have fe : Feas (allLots p) (enF p n (fxRun p n i)) (cOf cs) := by
          rw [fix_iff hp (fx_ok hp (n := n) (show i ≤ p.n.toNat by omega)).mem]
          refine ⟨hf, fun q hq => ?_⟩
          obtain ⟨j, hj⟩ := List.mem_iff_getElem?.mp hq
          have hji : j < i := by
            have := (List.getElem?_eq_some_iff.mp hj).1
            rw [fx_len] at this; exact this
          have k1 : q.1 = [(j : Int)] := by
            have := congrArg (fun l => l[j]?) (fx_keys p n i)
            simp only [List.getElem?_map, hj, Option.map_some, singles] at this
            rw [List.getElem?_range hji] at this
            exact Option.some.inj this
          have k2 : (countsOf p n)[j]? = some q.2 := by
            unfold countsOf
            have e3 : (fxRun p n p.n.toNat)[j]? = (fxRun p n i)[j]? := by
              rw [← fx_take p n (show i ≤ p.n.toNat by omega), List.getElem?_take, if_pos hji]
            rw [List.getElem?_map, e3, hj]; rfl
          have k3 : cs[j]? = some q.2 := by
            have := congrArg (fun l => l[j]?) e
            simp only [List.getElem?_take, if_pos hji] at this
            rw [← this]; exact k2
          rw [k1]
          simp only [csum, List.map_cons, List.map_nil, List.sum_cons, List.sum_nil, Int.add_zero, cOf, rw_, Int.toNat_natCast]
          rw [List.getD_eq_getElem?_getD, k3]; rfl
        have lo := (t.1 _ fe).1
        simp only [csum, List.map_cons, List.map_nil, List.sum_cons, List.sum_nil, Int.add_zero, cOf, Int.toNat_natCast] at lo
        have g := counts_get hp (n := n) (i := i) (by omega)
        have r : rw_ (countsOf p n) i = ((rgOf p (enF p n (fxRun p n i))).f [(i : Int)]).1 := by unfold rw_; rw [List.getD_eq_getElem?_getD, g]; rfl
        rw [← r] at lo
        by_cases z : rw_ (countsOf p n) i = rw_ cs i
        · left
          rw [List.take_add_one, List.take_add_one, e, rw_get (by omega), rw_get (by omega), z]
        · exact .inr ⟨i, by omega, e, by omega⟩
      · exact .inr e
  rcases go p.n.toNat (Nat.le_refl _) with e | e
  · left
    rw [List.take_of_length_le (by omega), List.take_of_length_le (by omega)] at e
    exact e
  · exact .inr e
end
/-! ### contracts -/
def c_tree_of (C : Addr) : Ct := fun ds r => ∃ p x, ds = [Pol.d p, x] ∧ GP p ∧ noObj x = true ∧ r = if within x 1 100000 = true then (if canOf p (intOf x) = true then .ok (treeD C p (intOf x) []) else .err "CantBe") else .err "BadNumber"
def c_counts : Ct := fun ds r => ∃ p x, ds = [Pol.d p, x] ∧ GP p ∧ noObj x = true ∧ r = if within x 1 100000 = true then (if canOf p (intOf x) = true then .ok (itup (countsOf p (intOf x))) else .err "CantBe") else .err "BadNumber"
def c__law_gcd : Ct := c_common
theorem law_step {x : Int} {s : Shw} (hx : 1 ≤ x) (hu : 1 ≤ s.units) : x * oneOf s.units s.word / gcdI x (oneOf s.units s.word) = turnStep x s := by
  have ho : 1 ≤ oneOf s.units s.word := by unfold oneOf; split <;> omega
  have g := gcd_pos hx ho
  have h1 : gcdI x (oneOf s.units s.word) ∣ x := Int.gcd_dvd_left x _
  show _ = x / gcdI x (oneOf s.units s.word) * oneOf s.units s.word
  rw [Int.mul_ediv_assoc' _ h1]
def c__law_turn : Ct := fun ds r => ∃ p, ds = [Pol.d p] ∧ GP p ∧ r = .ok (.int (turnOf p.shs))
def showsB (p : Pol) (n : Int) (cs : List Int) : Bool := (tolds p).all fun t => decide (lawShare (cnt cs t.k) n t.u t.w = t.q)
theorem showsB_iff {p : Pol} {n : Int} {cs : List Int} : showsB p n cs = true ↔ Shows p n cs := by
  unfold showsB Shows
  rw [List.all_eq_true]
  exact ⟨fun h t ht => of_decide_eq_true (h t ht), fun h t ht => decide_eq_true (h t ht)⟩
def c__law_shows : Ct := fun ds r => ∃ p n cs, ds = [Pol.d p, .int n, itup cs] ∧ GP p ∧ (1 ≤ n ∧ n ≤ 100000) ∧ AreC p n cs ∧ r = .ok (.bool (showsB p n cs))
end Ly
namespace Ly
open PySem L2
def fxTab (fx : List (List Int × Int)) : List (List Int × D) := fx.map fun q => (q.1, .int q.2)
theorem fxTab_dct (fx : List (List Int × Int)) : D.dct ((fxTab fx).map (·.1)) ((fxTab fx).map (·.2)) = fixD fx := by
  unfold fxTab fixD
  rw [List.map_map, List.map_map]; rfl
theorem fxTab_put {fx : List (List Int × Int)} {k : List Int} {v : Int} (h : k ∉ fx.map (·.1)) : putA (fxTab fx) k (.int v) = fxTab (fx ++ [(k, v)]) := by
  unfold putA
  rw [if_neg]
  · simp [fxTab]
  · unfold fxTab
    rw [List.any_map]
    simp only [List.any_eq_true, Function.comp, decide_eq_true_eq]
    rintro ⟨x, hx, rfl⟩
    exact h (List.mem_map.mpr ⟨x, hx, rfl⟩)
theorem sing_notin (i : Nat) : [(i : Int)] ∉ singles i := fun z => by
  unfold singles at z
  obtain ⟨j, hj, e⟩ := List.mem_map.mp z
  have := List.mem_range.mp hj
  simp at e
  omega
theorem fx_get {p : Pol} (hp : GP p) {n : Int} {i : Nat} (hi : i < p.n.toNat) : (fxRun p n p.n.toNat)[i]? = some ([(i : Int)], rw_ (countsOf p n) i) := by
  have g := counts_get hp (n := n) hi
  have r : rw_ (countsOf p n) i = ((rgOf p (enF p n (fxRun p n i))).f [(i : Int)]).1 := by unfold rw_; rw [List.getD_eq_getElem?_getD, g]; rfl
  have e : (fxRun p n p.n.toNat)[i]? = (fxRun p n (i + 1))[i]? := by
    rw [← fx_take p n (show i + 1 ≤ p.n.toNat by omega), List.getElem?_take]; simp
  rw [e, fxRun, List.getElem?_append_right (by rw [fx_len]; exact Nat.le_refl _), fx_len, r]
  simp
theorem counts_len (p : Pol) (n : Int) : (countsOf p n).length = p.n.toNat := by unfold countsOf; rw [List.length_map, fx_len]
end Ly

namespace Ly
open PySem L2
/-! ### the same numbers can be: the same firsts -/
theorem firsts_ext {p q : Pol} (hp : GP p) (hq : GP q) (ht : turnOf p.shs = turnOf q.shs) (h : ∀ n, 1 ≤ n → canOf p n = canOf q n) : firstsOf p = firstsOf q := by
  have hW := turn_pos hp
  have one : ∀ {p q : Pol}, GP p → GP q → turnOf p.shs = turnOf q.shs → (∀ n, 1 ≤ n → canOf p n = canOf q n) → ∀ r, 0 ≤ r → r < turnOf p.shs → ∀ f, firstOf p r (turnOf p.shs) = some f → ∃ g, firstOf q r (turnOf q.shs) = some g ∧ g ≤ f := fun {p q} hp hq ht h r r0 r1 f hf => by
    obtain ⟨f1, f2, f3, f4⟩ := first_bd hp r0 r1 hf
    have c := h f f1
    rw [f4, can_first hq f1, ← ht, f3] at c
    rw [← ht]
    cases z : firstOf q r (turnOf p.shs) with
    | none => rw [z] at c; cases c
    | some g => rw [z] at c; exact ⟨g, rfl, of_decide_eq_true c.symm⟩
  unfold firstsOf
  rw [← ht]
  refine List.map_congr_left fun i hi => ?_
  have hi' := List.mem_range.mp hi
  cases a : firstOf p (i : Int) (turnOf p.shs) with
  | some f =>
    obtain ⟨g, g1, g2⟩ := one hp hq ht h (i : Int) (by omega) (by omega) f a
    obtain ⟨f', e1, e2⟩ := one hq hp ht.symm (fun n hn => (h n hn).symm) (i : Int) (by omega) (by omega) g g1
    rw [a] at e1; cases e1
    rw [← ht] at g1
    rw [g1]; congr 1; omega
  | none =>
    cases b : firstOf q (i : Int) (turnOf p.shs) with
    | none => rfl
    | some g =>
      obtain ⟨f', e1, e2⟩ := one hq hp ht.symm (fun n hn => (h n hn).symm) (i : Int) (by omega) (by omega) g (by rw [← ht]; exact b)
      rw [a] at e1; cases e1
/-! ### contracts -/
def c_turn : Ct := fun ds r => ∃ p, ds = [Pol.d p] ∧ GP p ∧ r = .ok (.int (turnOf p.shs))
def addShw (p : Pol) (d : D) : D := .tuple [.int p.n, .str p.kind, .tuple (p.shs.map Shw.d ++ [d])]
def c_with_showing : Ct := fun ds r => ∃ p d, ds = [Pol.d p, d] ∧ GP p ∧ gd d = true ∧ r = if isShwD p.n d = true then (if isPollD (addShw p d) = true then .ok (addShw p d) else .err "BadPoll") else .err "BadShowing"
def areCD (n : Int) (kind : Str) (m : Int) : D → Bool
  | .tuple ds => decide ((ds.length : Int) = n) && (ds.all (fun x => within x 0 m) && (decide (kind = "some") || decide ((ds.map intOf).sum = m)))
  | _ => false
def c_are_counts : Ct := fun ds r => ∃ n kind s m d, ds = [.tuple [.int n, .str kind, s], .int m, d] ∧ PyData.strOk kind = true ∧ gd d = true ∧ r = .ok (.bool (areCD n kind m d))
theorem itup_of : ∀ {ds : List D} {lo hi : Int}, (ds.all fun x => within x lo hi) = true → ds = (ds.map intOf).map .int
  | [], _, _, _ => rfl
  | d :: ds, lo, hi, h => by
    rw [List.all_cons, Bool.and_eq_true] at h
    obtain ⟨n, rfl, _⟩ := within_int h.1
    have := itup_of h.2
    simp only [List.map_cons, intOf]
    rw [← this]
theorem areC_of {p : Pol} {n : Int} {d : D} (hk : p.kind = "one" ∨ p.kind = "some") (h : areCD p.n p.kind n d = true) : ∃ cs, d = itup cs ∧ AreC p n cs := by
  cases d with
  | tuple ds =>
    simp only [areCD, Bool.and_eq_true, Bool.or_eq_true, decide_eq_true_eq] at h
    obtain ⟨h1, h2, h3⟩ := h
    have e := itup_of h2
    refine ⟨ds.map intOf, by rw [itup, ← e], by simpa using h1, fun x hx => ?_, fun ho => ?_⟩
    · obtain ⟨y, hy, rfl⟩ := List.mem_map.mp hx
      obtain ⟨z, rfl, z1, z2⟩ := within_int (List.all_eq_true.mp h2 y hy)
      exact ⟨z1, z2⟩
    · rcases h3 with z | z
      · rw [ho] at z; exact absurd z (by decide +kernel)
      · exact z
  | _ => simp [areCD] at h
theorem of_areC {p : Pol} {n : Int} {cs : List Int} (hk : p.kind = "one" ∨ p.kind = "some") (h : AreC p n cs) : areCD p.n p.kind n (itup cs) = true := by
  have e : (cs.map D.int).map intOf = cs := by
    rw [List.map_map]; conv => rhs; rw [← List.map_id cs]
    rfl
  simp only [areCD, itup, Bool.and_eq_true, Bool.or_eq_true, decide_eq_true_eq, e, List.length_map]
  refine ⟨h.len, ?_, ?_⟩
  · rw [List.all_eq_true]
    intro x hx
    obtain ⟨y, hy, rfl⟩ := List.mem_map.mp hx
    have := h.bd y hy
    simp [within]; omega
  · rcases hk with z | z
    · exact .inr (h.sum z)
    · exact .inl z
def c_shows : Ct := fun ds r => ∃ p x d, ds = [Pol.d p, x, d] ∧ GP p ∧ noObj x = true ∧ gd d = true ∧ r = if within x 1 100000 = true then (if areCD p.n p.kind (intOf x) d = true then .ok (.bool (showsB p (intOf x) (lotOf d))) else .err "BadCounts") else .err "BadNumber"
/-! ### the poll that counts show -/
theorem spread_ok {row : List Int} (hR : Row row) {at_ asked things : Int} {kind : Str} (ha : 1 ≤ asked) (ht : 1 ≤ things) : (∀ x ∈ spreadOf row at_ asked things kind, 0 ≤ x ∧ x ≤ asked) ∧ (kind ≠ "some" → (spreadOf row at_ asked things kind).sum = asked) := by
  refine ⟨?_, ?_⟩
  · intro x hx
    unfold spreadOf at hx
    split at hx
    · obtain ⟨i, _, rfl⟩ := List.mem_map.mp hx
      have h1 := Int.emod_nonneg (rw_ row ((at_ + (i : Int)) % 60).toNat) (show asked + 1 ≠ 0 by omega)
      have h2 := Int.emod_lt_of_pos (rw_ row ((at_ + (i : Int)) % 60).toNat) (show 0 < asked + 1 by omega)
      omega
    · obtain ⟨s1, s2⟩ := spRun_ok row at_ ht asked.toNat
      have pos : ∀ y ∈ spRun row at_ things asked.toNat, 0 ≤ y := fun y hy => by
        obtain ⟨i, hi⟩ := List.mem_iff_getElem?.mp hy
        have := s2 i
        unfold rw_ at this
        rw [List.getD_eq_getElem?_getD, hi] at this
        exact this
      refine ⟨pos x hx, ?_⟩
      obtain ⟨i, hi⟩ := List.mem_iff_getElem?.mp hx
      have := sum_places (ks := [i]) pos (by simp)
      simp only [List.map_cons, List.map_nil, List.sum_cons, List.sum_nil, s1] at this
      unfold rw_ at this
      rw [List.getD_eq_getElem?_getD, hi] at this
      simp at this
      omega
  · intro hk
    unfold spreadOf
    rw [if_neg hk, (spRun_ok row at_ ht _).1]
    omega
/-- one showing of these lots' shares -/
def shwOfC (sm : List Int) (asked u : Int) (w : Str) (ks : List (List Int)) : Shw := ⟨u, w, ks.map fun k => (k, lawShare (cnt sm k) asked u w)⟩
def polOfC (n : Int) (kind : Str) (sm : List Int) (asked u : Int) (w : Str) (ks : List (List Int)) : Pol := ⟨n, kind, [shwOfC sm asked u w ks]⟩
/-- lots that make a poll of a kind -/
structure LotsOk (n : Int) (kind : Str) (ks : List (List Int)) : Prop where
  n6 : 1 ≤ n ∧ n ≤ 6
  k : kind = "one" ∨ kind = "some"
  ne : ks ≠ []
  lot : ∀ k ∈ ks, lotB n k = true
  up : Up ks
  few : ks.length ≤ 20
  sing : kind = "some" → ∀ k ∈ ks, k.length ≤ 1
  nest : kind = "one" → ∀ a, (a = rgI n ∨ (∃ i : Nat, i < n.toNat ∧ a = [(i : Int)]) ∨ a ∈ ks) → ∀ b, (b = rgI n ∨ (∃ i : Nat, i < n.toNat ∧ b = [(i : Int)]) ∨ b ∈ ks) → a.length ≤ b.length → okPair a b = true
theorem lot_small {n : Int} {k : List Int} (hn : n ≤ 6) (h : lotB n k = true) : k.length ≤ 6 := by
  unfold lotB at h
  simp only [Bool.and_eq_true, List.all_eq_true, decide_eq_true_eq] at h
  have := nat_nodup_len (k.map Int.toNat) (List.range 6) (by
    unfold List.Nodup
    rw [List.pairwise_map]
    refine List.Pairwise.imp_of_mem (fun {a b} ha hb hlt => ?_) (risesI_pair h.2.2)
    have h1 := (h.2.1 a ha).1
    have h2 := (h.2.1 b hb).1
    omega) fun x hx => by
      obtain ⟨y, hy, rfl⟩ := List.mem_map.mp hx
      have := h.2.1 y hy
      exact List.mem_range.mpr (by omega)
  rw [List.length_map, List.length_range] at this
  exact this
theorem turn_single {s : Shw} (hu : 1 ≤ s.units) : turnOf [s] = oneOf s.units s.word := by
  have ho : 1 ≤ oneOf s.units s.word := by unfold oneOf; split <;> omega
  show 1 / gcdI 1 (oneOf s.units s.word) * oneOf s.units s.word = _
  have g := gcd_pos (a := 1) (b := oneOf s.units s.word) (by omega) ho
  have : gcdI 1 (oneOf s.units s.word) = 1 := by omega
  rw [this]; simp
theorem isKind_of {kind : Str} (h : kind = "one" ∨ kind = "some") : isKind (.str kind) = true := by rcases h with h | h <;> rw [h] <;> decide +kernel
section
variable {n asked u : Int} {kind w : Str} {sm : List Int} {ks : List (List Int)}
theorem polOfC_good (ok : LotsOk n kind ks) (hu : 2 ≤ u ∧ u ≤ 100) (hw : isWord (.str w) = true) (hc : ∀ k ∈ ks, 0 ≤ lawShare (cnt sm k) asked u w ∧ lawShare (cnt sm k) asked u w ≤ u) : GP (polOfC n kind sm asked u w ks) := by
  have hn := ok.n6
  have nn : ∀ s ∈ (polOfC n kind sm asked u w ks).shs, s = shwOfC sm asked u w ks := fun s hs => by simpa [polOfC] using hs
  have pm : ∀ q ∈ (shwOfC sm asked u w ks).parts, q.1 ∈ ks ∧ q.2 = lawShare (cnt sm q.1) asked u w := fun q hq => by
    obtain ⟨k, hk, rfl⟩ := List.mem_map.mp hq
    exact ⟨hk, rfl⟩
  have e1 : (shwOfC sm asked u w ks).parts.map (·.1) = ks := by
    unfold shwOfC; rw [List.map_map]; conv => rhs; rw [← List.map_id ks]
    rfl
  refine gp_of (p := polOfC n kind sm asked u w ks) hn (isKind_of ok.k) ⟨by simp [polOfC], by simp [polOfC]⟩ (fun s hs => ?_) (fun s hs => ?_) ?_
  · rw [nn s hs]
    refine ⟨hu.1, hu.2, hw, fun z => ok.ne (by rw [← e1, z]; rfl), fun q hq => ?_, by rw [e1]; exact up_rises ok.up⟩
    obtain ⟨a, b⟩ := pm q hq
    exact ⟨lotB_is (ok.lot _ a), by rw [b]; exact hc _ a⟩
  · rw [nn s hs]
    refine ⟨by unfold shwOfC; rw [List.length_map]; exact ok.few, fun q hq => ?_⟩
    have := lot_small hn.2 (ok.lot _ (pm q hq).1); omega
  · unfold pollEnd
    rw [Bool.and_eq_true]
    refine ⟨decide_eq_true ?_, ?_⟩
    · show turnOf [shwOfC sm asked u w ks] ≤ 1000
      rw [turn_single (by show 1 ≤ u; omega)]
      show oneOf u w ≤ 1000
      unfold oneOf; split <;> omega
    · split
      · rename_i hk
        rw [List.all_eq_true]
        intro s hs
        rw [nn s hs, List.all_eq_true]
        intro q hq
        exact decide_eq_true (ok.sing hk _ (pm q hq).1)
      · rename_i hk
        have hk1 : kind = "one" := by rcases ok.k with z | z
                                      · exact z
                                      · exact absurd z hk
        refine nest_of ?_
        have inU : ∀ k ∈ allLots (polOfC n kind sm asked u w ks), k = rgI n ∨ (∃ i : Nat, i < n.toNat ∧ k = [(i : Int)]) ∨ k ∈ ks := fun k hk => by
          rcases mem_allLots.mp hk with ⟨_, rfl⟩ | ⟨i, hi, rfl⟩ | ⟨s, h1, q, h2, rfl⟩
          · exact .inl rfl
          · exact .inr (.inl ⟨i, hi, rfl⟩)
          · rw [nn s h1] at h2
            exact .inr (.inr (pm q h2).1)
        refine List.Pairwise.imp_of_mem (fun {a b} ha hb hlt => ?_) (lots_up (polOfC n kind sm asked u w ks))
        exact ok.nest hk1 a (inU a ha) b (inU b hb) hlt
theorem polOfC_tolds : tolds (polOfC n kind sm asked u w ks) = ks.map fun k => ⟨u, w, k, lawShare (cnt sm k) asked u w⟩ := by
  unfold tolds polOfC shwOfC
  simp [List.map_map, Function.comp_def]
theorem polOfC_shows : Shows (polOfC n kind sm asked u w ks) asked sm := fun t ht => by
  rw [polOfC_tolds] at ht
  obtain ⟨k, _, rfl⟩ := List.mem_map.mp ht
  rfl
end
section
variable {row : List Int} {most : Int} (hR : Row row) (hm : 1 ≤ most ∧ most ≤ 6)
include hR hm
theorem nest_lots : LotsOk (pThings row most) (pKind row) (nestOf row 10 (pThings row most) (pKind row)) := by
  have ht := pThings_bd (row := row) hm.1
  have n6 : 1 ≤ pThings row most ∧ pThings row most ≤ 6 := by omega
  have ok := uni_ok (R := rw_ row 10) (even := evenOf row) (hR.bd 10).1 n6
  unfold uniOk at ok
  rw [Bool.and_eq_true] at ok
  refine ⟨n6, by rcases pKind_is row with h | h <;> simp [h], fun z => ?_, fun k hk => (nest_lotB hR hm hk).1, nest_up hR hm, ?_, fun hk k h => (nest_lotB hR hm h).2 hk, fun _ a ha b hb hl => ?_⟩
  · have := zero_nest hR hm
    rw [z] at this; cases this
  · have := nest_few (row := row) (at_ := 10) (kind := pKind row) n6; omega
  · have inU : ∀ a, (a = rgI (pThings row most) ∨ (∃ i : Nat, i < (pThings row most).toNat ∧ a = [(i : Int)]) ∨ a ∈ nestOf row 10 (pThings row most) (pKind row)) → a ∈ uni (rw_ row 10) (pThings row most) (evenOf row) := fun a ha => by
      rcases ha with rfl | ⟨i, hi, rfl⟩ | ha
      · exact List.mem_cons_self
      · exact single_uni hi
      · exact nest_uni n6 ha
    have := List.all_eq_true.mp (List.all_eq_true.mp ok.2 a (inU a ha)) b (inU b hb)
    simpa [hl] using this
end
/-- lots among others that make a poll -/
theorem LotsOk.sub {n : Int} {kind : Str} {ks ls : List (List Int)} (ok : LotsOk n kind ks) (hs : ls.Sublist ks) (hne : ls ≠ []) : LotsOk n kind ls :=
  ⟨ok.n6, ok.k, hne, fun k hk => ok.lot k (hs.subset hk), up_sub ok.up hs, Nat.le_trans hs.length_le ok.few, fun h k hk => ok.sing h k (hs.subset hk), fun h a ha b hb hl => ok.nest h a (by
    rcases ha with z | z | z
    · exact .inl z
    · exact .inr (.inl z)
    · exact .inr (.inr (hs.subset z))) b (by
    rcases hb with z | z | z
    · exact .inl z
    · exact .inr (.inl z)
    · exact .inr (.inr (hs.subset z))) hl⟩
theorem cnt_asked' {n asked : Int} {kind : Str} {sm k : List Int} (h0 : 0 ≤ asked) (h1 : ∀ x ∈ sm, 0 ≤ x ∧ x ≤ asked) (h2 : kind ≠ "some" → sm.sum = asked) (hk : lotB n k = true) (hs : kind = "some" → k.length ≤ 1) : 0 ≤ cnt sm k ∧ cnt sm k ≤ asked := by
  have c := cnt_le (fun x hx => (h1 x hx).1) hk
  refine ⟨c.1, ?_⟩
  by_cases h : kind = "some"
  · have hl := hs h
    match k, hl with
    | [], _ => simp [cnt]; omega
    | [i], _ =>
      simp only [cnt, List.map_cons, List.map_nil, List.sum_cons, List.sum_nil, Int.add_zero]
      exact rw_mem (fun z => z ≤ asked) (by omega) fun x hx => (h1 x hx).2
  · rw [h2 h] at c; exact c.2
/-! ### finer units tell more -/
theorem div_div' {z n m : Int} (hn : 0 < n) (hm : 0 < m) : z / n / m = z / (n * m) := Int.ediv_ediv_of_nonneg (by omega)
theorem share_coarse {c n u m : Int} {w : Str} (hw : w = "cut" ∨ w = "up") (hn : 1 ≤ n) (hm : 1 ≤ m) : lawShare c n u w = (if w = "cut" then lawShare c n (u * m) w / m else upOver (lawShare c n (u * m) w) m) := by
  rcases hw with rfl | rfl
  · rw [if_pos rfl]
    unfold lawShare
    rw [if_pos rfl, if_pos rfl, div_div' (by omega) (by omega), Int.mul_right_comm, Int.mul_ediv_mul_of_pos_left _ _ (by omega)]
  · rw [if_neg cut_up, ← share_same hn, ← share_same hn]
    unfold shareOf
    rw [if_neg cut_up, if_pos rfl, if_neg cut_up, if_pos rfl]
    unfold upOver
    have e : -(u * m * c) = -(u * c) * m := by rw [Int.mul_right_comm, Int.neg_mul]
    rw [Int.neg_neg, div_div' (by omega) (by omega), e, Int.mul_ediv_mul_of_pos_left _ _ (by omega)]
theorem finer_can {n asked u m : Int} {kind w : Str} {sm : List Int} {ks : List (List Int)} (h0 : GP (polOfC n kind sm asked u w ks)) (h1 : GP (polOfC n kind sm asked (u * m) w ks)) (hw : w = "cut" ∨ w = "up") (ha : 1 ≤ asked) (hm : 1 ≤ m) {k : Int} (hk : 1 ≤ k) (h : canOf (polOfC n kind sm asked (u * m) w ks) k = true) : canOf (polOfC n kind sm asked u w ks) k = true := by
  rw [can_shows h1 hk] at h
  rw [can_shows h0 hk]
  obtain ⟨cs, a, s⟩ := h
  refine ⟨cs, ⟨a.len, a.bd, a.sum⟩, fun t ht => ?_⟩
  rw [polOfC_tolds] at ht
  obtain ⟨l, hl, rfl⟩ := List.mem_map.mp ht
  have := s ⟨u * m, w, l, lawShare (cnt sm l) asked (u * m) w⟩ (by rw [polOfC_tolds]; exact List.mem_map.mpr ⟨l, hl, rfl⟩)
  simp only at this ⊢
  rw [share_coarse hw hk hm, share_coarse (c := cnt sm l) hw ha hm, this]
/-! ### first counts, compared -/
theorem lexGt_no : ∀ {a b : List Int} {i : Nat}, a.take i = b.take i → i < a.length → i < b.length → rw_ a i < rw_ b i → lexGt a b = false
  | [], _, _, _, h, _, _ => by simp at h
  | _ :: _, [], _, _, _, h, _ => by simp at h
  | x :: a, y :: b, 0, _, _, _, h => by
    have h' : x < y := by simpa [rw_] using h
    have e : lexGt (x :: a) (y :: b) = if x = y then lexGt a b else decide (y < x) := rfl
    rw [e, if_neg (by omega)]
    exact decide_eq_false (by omega)
  | x :: a, y :: b, i + 1, ht, h1, h2, h => by
    simp only [List.take_succ_cons, List.cons.injEq] at ht
    have e : lexGt (x :: a) (y :: b) = if x = y then lexGt a b else decide (y < x) := rfl
    rw [e, if_pos ht.1]
    exact lexGt_no ht.2 (by simpa using h1) (by simpa using h2) (by simpa [rw_] using h)
theorem lexGt_refl : ∀ a : List Int, lexGt a a = false
  | [] => by simp [lexC]
  | x :: a => by
    have e : lexGt (x :: a) (x :: a) = if x = x then lexGt a a else decide (x < x) := rfl
    rw [e, if_pos rfl]; exact lexGt_refl a
theorem counts_notGt {p : Pol} (hp : GP p) {n : Int} (hn : 1 ≤ n) {cs : List Int} (ha : AreC p n cs) (hs : Shows p n cs) : lexGt (countsOf p n) cs = false := by
  have hc := (can_shows hp hn).mpr ⟨cs, ha, hs⟩
  rcases counts_first hp hn hc ha hs with e | ⟨i, hi, e1, e2⟩
  · rw [e]; exact lexGt_refl cs
  · exact lexGt_no e1 (by rw [counts_len]; exact hi) (by have := ha.len; omega) e2
end Ly
namespace Ly
open PySem L2
/-! ### the share of all things together tells nothing more -/
theorem share_all {a u : Int} {w : Str} (ha : 1 ≤ a) : lawShare a a u w = u := by
  unfold lawShare
  split
  · exact Int.mul_ediv_cancel _ (by omega)
  · split
    · have e : u * a + a - 1 = (a - 1) + u * a := by omega
      rw [e, Int.add_mul_ediv_right _ _ (by omega), Int.ediv_eq_zero_of_lt (by omega) (by omega)]; omega
    · have e : 2 * u * a + a = a + u * (2 * a) := by rw [Int.mul_comm 2 u, Int.mul_assoc]; omega
      rw [e, Int.add_mul_ediv_right _ _ (by omega), Int.ediv_eq_zero_of_lt (by omega) (by omega)]; omega
def allShw (n u : Int) (w : Str) : Shw := ⟨u, w, [(rgI n, u)]⟩
theorem rgI_lotB {n : Int} (hn : 1 ≤ n) : lotB n (rgI n) = true := by
  unfold lotB
  rw [Bool.and_eq_true, Bool.and_eq_true]
  have ne : rgI n ≠ [] := by
    unfold rgI
    intro z
    rw [List.map_eq_nil_iff, List.range_eq_nil] at z
    omega
  refine ⟨by cases h : rgI n with
    | nil => exact absurd h ne
    | cons _ _ => rfl, ?_, ?_⟩
  · rw [List.all_eq_true]
    intro x hx
    unfold rgI at hx
    obtain ⟨i, hi, rfl⟩ := List.mem_map.mp hx
    have := List.mem_range.mp hi
    simp; omega
  · have : ∀ k : List Int, k.Pairwise (· < ·) → risesI k = true := fun k => by
      induction k with
      | nil => intro _; rfl
      | cons a k ih =>
        intro h
        rw [List.pairwise_cons] at h
        cases k with
        | nil => rfl
        | cons b k =>
          have := ih h.2
          unfold risesI at this ⊢
          simp only [List.tail_cons, List.zip_cons_cons] at this ⊢
          rw [List.filter_cons_of_neg (by have := h.1 b (by simp); simp; omega)]
          exact this
    refine this _ ?_
    unfold rgI
    rw [List.pairwise_map]
    exact List.pairwise_lt_range.imp fun h => by omega
theorem allShw_ok {n u : Int} {w : Str} (hn : 1 ≤ n) (hu : 2 ≤ u ∧ u ≤ 100) (hw : isWord (.str w) = true) : ShwOk n (allShw n u w) :=
  ⟨hu.1, hu.2, hw, by simp [allShw], fun q hq => by
    simp [allShw] at hq; subst hq
    exact ⟨lotB_is (rgI_lotB hn), by omega, Int.le_refl _⟩, rfl⟩
section
variable {n asked u : Int} {w : Str} {sm : List Int} {ks : List (List Int)}
def morePol (n asked u : Int) (w : Str) (sm : List Int) (ks : List (List Int)) : Pol := ⟨n, "one", [shwOfC sm asked u w ks, allShw n u w]⟩
theorem more_turn (hu : 2 ≤ u ∧ u ≤ 100) : turnOf (morePol n asked u w sm ks).shs = oneOf u w := by
  show turnStep (turnOf [shwOfC sm asked u w ks]) (allShw n u w) = _
  rw [turn_single (by show 1 ≤ u; omega)]
  have ho : 1 ≤ oneOf u w := by unfold oneOf; split <;> omega
  show oneOf u w / gcdI (oneOf u w) (oneOf u w) * oneOf u w = oneOf u w
  have : gcdI (oneOf u w) (oneOf u w) = oneOf u w := by unfold gcdI; rw [Int.gcd_self]; omega
  rw [this, Int.ediv_self (by omega), Int.one_mul]
theorem more_good (ok : LotsOk n "one" ks) (hu : 2 ≤ u ∧ u ≤ 100) (hw : isWord (.str w) = true) (hc : ∀ k ∈ ks, 0 ≤ lawShare (cnt sm k) asked u w ∧ lawShare (cnt sm k) asked u w ≤ u) : GP (morePol n asked u w sm ks) := by
  have g0 := polOfC_good (sm := sm) (asked := asked) ok hu hw hc
  have hn := ok.n6
  refine gp_of (p := morePol n asked u w sm ks) hn (isKind_of (.inl rfl)) ⟨by simp [morePol], by simp [morePol]⟩ (fun s hs => ?_) (fun s hs => ?_) ?_
  · rcases List.mem_cons.mp hs with rfl | hs
    · exact g0.sh _ (by simp [polOfC])
    · simp at hs; subst hs; exact allShw_ok hn.1 hu hw
  · rcases List.mem_cons.mp hs with rfl | hs
    · refine ⟨by unfold shwOfC; rw [List.length_map]; exact ok.few, fun q hq => ?_⟩
      obtain ⟨k, hk, rfl⟩ := List.mem_map.mp hq
      have := lot_small hn.2 (ok.lot _ hk); simp only; omega
    · simp at hs; subst hs
      refine ⟨by simp [allShw], fun q hq => ?_⟩
      simp [allShw] at hq; subst hq
      simp [rgI]; omega
  · unfold pollEnd
    rw [Bool.and_eq_true]
    refine ⟨decide_eq_true ?_, ?_⟩
    · rw [more_turn hu]; unfold oneOf; split <;> omega
    · rw [if_neg (show ¬ (morePol n asked u w sm ks).kind = "some" from by show ¬ (("one" : Str) = "some"); decide +kernel)]
      refine nest_of ?_
      have inU : ∀ k ∈ allLots (morePol n asked u w sm ks), k = rgI n ∨ (∃ i : Nat, i < n.toNat ∧ k = [(i : Int)]) ∨ k ∈ ks := fun k hk => by
        rcases mem_allLots.mp hk with ⟨_, rfl⟩ | ⟨i, hi, rfl⟩ | ⟨s, h1, q, h2, rfl⟩
        · exact .inl rfl
        · exact .inr (.inl ⟨i, hi, rfl⟩)
        · rcases List.mem_cons.mp h1 with rfl | h1
          · obtain ⟨k, hk2, rfl⟩ := List.mem_map.mp h2
            exact .inr (.inr hk2)
          · simp at h1; subst h1
            simp [allShw] at h2; subst h2
            exact .inl rfl
      refine List.Pairwise.imp_of_mem (fun {a b} ha hb hlt => ?_) (lots_up (morePol n asked u w sm ks))
      exact ok.nest rfl a (inU a ha) b (inU b hb) hlt
theorem more_can (h0 : GP (polOfC n "one" sm asked u w ks)) (h1 : GP (morePol n asked u w sm ks)) {k : Int} (hk : 1 ≤ k) : canOf (morePol n asked u w sm ks) k = canOf (polOfC n "one" sm asked u w ks) k := by
  have key : (∃ cs, AreC (morePol n asked u w sm ks) k cs ∧ Shows (morePol n asked u w sm ks) k cs) ↔ ∃ cs, AreC (polOfC n "one" sm asked u w ks) k cs ∧ Shows (polOfC n "one" sm asked u w ks) k cs := by
    have tm : tolds (morePol n asked u w sm ks) = tolds (polOfC n "one" sm asked u w ks) ++ [⟨u, w, rgI n, u⟩] := by
      unfold tolds morePol polOfC allShw
      simp
    constructor
    · rintro ⟨cs, a, s⟩
      exact ⟨cs, ⟨a.len, a.bd, a.sum⟩, fun t ht => s t (by rw [tm]; exact List.mem_append_left _ ht)⟩
    · rintro ⟨cs, a, s⟩
      refine ⟨cs, ⟨a.len, a.bd, a.sum⟩, fun t ht => ?_⟩
      rw [tm] at ht
      rcases List.mem_append.mp ht with ht | ht
      · exact s t ht
      · simp at ht; subst ht
        have := csum_all (p := polOfC n "one" sm asked u w ks) a.len
        have e : cnt cs (rgI n) = k := by rw [cnt_is]; exact this.trans (a.sum rfl)
        simp only [e]
        exact share_all hk
  have := (can_shows h1 hk).trans (key.trans (can_shows h0 hk).symm)
  rw [Bool.eq_iff_iff]; exact this
theorem more_firsts (h0 : GP (polOfC n "one" sm asked u w ks)) (h1 : GP (morePol n asked u w sm ks)) (hu : 2 ≤ u ∧ u ≤ 100) : firstsOf (morePol n asked u w sm ks) = firstsOf (polOfC n "one" sm asked u w ks) :=
  firsts_ext h1 h0 (by rw [more_turn hu]; exact (turn_single (s := shwOfC sm asked u w ks) (by show 1 ≤ u; omega)).symm) fun k hk => more_can h0 h1 hk
end
end Ly

namespace Ly
open PySem L2
/-! ### hiding -/
def crowdOf (p : Pol) (b : Int) : Int := (((List.range b.toNat).filter fun (i : Nat) => canOf p (1 + (i : Int))).length : Int)
def c_crowd_of : Ct := fun ds r => ∃ p b, ds = [Pol.d p, .int b] ∧ GP p ∧ (1 ≤ b ∧ b ≤ 300) ∧ r = .ok (.int (crowdOf p b))
def c_look_bound : Ct := fun ds r => ∃ x, ds = [x] ∧ noObj x = true ∧ r = if within x 1 300 = true then .ok .none else .err "BadNumber"
def c_crowd : Ct := fun ds r => ∃ p x, ds = [Pol.d p, x] ∧ GP p ∧ noObj x = true ∧ r = if within x 1 300 = true then .ok (.int (crowdOf p (intOf x))) else .err "BadNumber"
def c_poll_of : Ct := fun ds r => ∃ kind n cs u w ks, ds = [.str kind, .int n, itup cs, .int u, .str w, .tuple (ks.map itup)] ∧ (1 ≤ n ∧ n ≤ 100000) ∧ (0 ≤ u ∧ u ≤ 1000) ∧ PyData.strOk w = true ∧ ks.length < 1000000 ∧ (∀ k ∈ ks, k.length < 1000000 ∧ ∀ x ∈ k, 0 ≤ x ∧ x < (cs.length : Int)) ∧ cs.length < 1000000 ∧ r = .ok (Pol.d (polOfC (cs.length : Int) kind cs n u w ks))
def lotsOf : D → List (List Int)
  | .tuple ds => ds.map lotOf
  | _ => []
def polX (kind num cs : D) (u : Int) (w lots : D) : Pol := polOfC (lenD cs : Int) (strOf kind) (lotOf cs) (intOf num) u (strOf w) (lotsOf lots)
def lots3 (n : Int) : D → Bool
  | .tuple ds => !ds.isEmpty && ds.all (isLotD n)
  | _ => false
/-- what refuses counts, a word, and lots -/
def lookR (kind num cs w lots : D) : Option Str :=
  if within num 1 100000 = true then
    if (isKind kind && isU cs) = true then
      if (decide (1 ≤ lenD cs ∧ lenD cs ≤ 6) && areCD (lenD cs : Int) (strOf kind) (intOf num) cs) = true then
        if isWord w = true then
          if lots3 (lenD cs : Int) lots = true then
            if isPollD (polX kind num cs 2 w lots).d = true then none else some "BadLot"
          else some "BadLot"
        else some "BadShowing"
      else some "BadCounts"
    else some "BadCounts"
  else some "BadNumber"
def c_look_counts : Ct := fun ds r => ∃ kind num cs w lots, ds = [kind, num, cs, w, lots] ∧ (gd kind = true ∧ gd num = true ∧ gd cs = true ∧ gd w = true ∧ gd lots = true) ∧ r = match lookR kind num cs w lots with | none => .ok .none | some x => .err x
def c_shown : Ct := fun ds r => ∃ kind num cs u w lots, ds = [kind, num, cs, u, w, lots] ∧ (gd kind = true ∧ gd num = true ∧ gd cs = true ∧ gd w = true ∧ gd lots = true ∧ gd u = true) ∧ r = match lookR kind num cs w lots with | some x => .err x | none => if within u 2 100 = true then .ok (Pol.d (polX kind num cs (intOf u) w lots)) else .err "BadShowing"
/-- what a look that refuses nothing tells -/
structure Looked (kind num cs w lots : D) (n : Int) (c : List Int) (k x : Str) (ks : List (List Int)) : Prop where
  ek : kind = .str k
  en : num = .int n
  ec : cs = itup c
  ew : w = .str x
  el : lots = .tuple (ks.map itup)
  nb : 1 ≤ n ∧ n ≤ 100000
  kb : k = "one" ∨ k = "some"
  len : 1 ≤ c.length ∧ c.length ≤ 6
  bd : ∀ y ∈ c, 0 ≤ y ∧ y ≤ n
  sum : k ≠ "some" → c.sum = n
  wb : isWord (.str x) = true
  ne : ks ≠ []
  lot : ∀ y ∈ ks, isLotD (c.length : Int) (itup y) = true
theorem lots_is {n : Int} {ds : List D} (h : ds.all (isLotD n) = true) : ds = (ds.map lotOf).map itup := by
  rw [List.map_map]
  conv => lhs; rw [← List.map_id ds]
  refine List.map_congr_left fun d hd => ?_
  exact (lot_itup (List.all_eq_true.mp h d hd)).1
theorem kind_str {d : D} (h : isKind d = true) : ∃ k, d = .str k ∧ (k = "one" ∨ k = "some") := by
  cases d with
  | str k => exact ⟨k, rfl, by simpa [isKind] using h⟩
  | _ => simp [isKind] at h
theorem word_str {d : D} (h : isWord d = true) : ∃ k, d = .str k := by
  cases d with
  | str k => exact ⟨k, rfl⟩
  | _ => simp [isWord] at h
theorem looked_of {kind num cs w lots : D} (h1 : within num 1 100000 = true) (h2 : (isKind kind && isU cs) = true) (h3 : (decide (1 ≤ lenD cs ∧ lenD cs ≤ 6) && areCD (lenD cs : Int) (strOf kind) (intOf num) cs) = true) (h4 : isWord w = true) (h5 : lots3 (lenD cs : Int) lots = true) :
    ∃ n c k x ks, Looked kind num cs w lots n c k x ks := by
  obtain ⟨n, rfl, n1, n2⟩ := within_int h1
  rw [Bool.and_eq_true] at h2 h3
  obtain ⟨k, rfl, hk⟩ := kind_str h2.1
  obtain ⟨x, rfl⟩ := word_str h4
  cases cs with
  | tuple ds =>
    have e3 := h3.2
    simp only [areCD, Bool.and_eq_true, Bool.or_eq_true, decide_eq_true_eq] at e3
    obtain ⟨_, a2, a3⟩ := e3
    have ei := itup_of a2
    cases lots with
    | tuple ls =>
      simp only [lots3, Bool.and_eq_true] at h5
      have el := lots_is h5.2
      have hl := of_decide_eq_true h3.1
      simp only [lenD] at hl
      refine ⟨n, ds.map intOf, k, x, ls.map lotOf, rfl, rfl, by rw [itup, ← ei], rfl, by rw [← el], ⟨n1, n2⟩, hk, by simpa using hl, fun y hy => ?_, fun hne => ?_, h4, fun z => ?_, fun y hy => ?_⟩
      · obtain ⟨d, hd, rfl⟩ := List.mem_map.mp hy
        obtain ⟨z, rfl, z1, z2⟩ := within_int (List.all_eq_true.mp a2 d hd)
        exact ⟨z1, z2⟩
      · rcases a3 with z | z
        · exact absurd z hne
        · exact z
      · rw [List.map_eq_nil_iff] at z; subst z; simp at h5
      · obtain ⟨d, hd, rfl⟩ := List.mem_map.mp hy
        have := List.all_eq_true.mp h5.2 d hd
        rw [← (lot_itup this).1, List.length_map]; exact this
    | _ => simp [lots3] at h5
  | _ => simp [isU] at h2
theorem polX_is {kind num cs w lots : D} {n : Int} {c : List Int} {k x : Str} {ks : List (List Int)} (l : Looked kind num cs w lots n c k x ks) (u : Int) : polX kind num cs u w lots = polOfC (c.length : Int) k c n u x ks := by
  have e1 := l.ek; have e2 := l.en; have e3 := l.ec; have e4 := l.ew; have e5 := l.el
  subst e1; subst e2; subst e3; subst e4; subst e5
  have e : lotsOf (.tuple (ks.map itup)) = ks := by
    simp only [lotsOf, List.map_map]
    conv => rhs; rw [← List.map_id ks]
    exact List.map_congr_left fun k _ => lotOf_itup k
  unfold polX
  rw [e, lotOf_itup]
  simp [lenD, itup, strOf, intOf]
def finestOf (P : Int → Pol) (many bound : Int) : Option Int := ((List.range 99).map fun (i : Nat) => (100 : Int) - (i : Int)).find? fun u => decide (many ≤ crowdOf (P u) bound)
def c_finest : Ct := fun ds r => ∃ kind num cs w lots many bound, ds = [kind, num, cs, w, lots, many, bound] ∧ (gd kind = true ∧ gd num = true ∧ gd cs = true ∧ gd w = true ∧ gd lots = true ∧ gd many = true ∧ gd bound = true) ∧ (lookR kind num cs w lots = none → ∀ u, 2 ≤ u ∧ u ≤ 100 → GP (polX kind num cs u w lots)) ∧
  r = match lookR kind num cs w lots with | some x => .err x | none => if within bound 1 300 = true then (if within many 0 300 = true then .ok (optD (finestOf (fun u => polX kind num cs u w lots) (intOf many) (intOf bound))) else .err "BadNumber") else .err "BadNumber"
theorem look_none {kind num cs w lots : D} (h : lookR kind num cs w lots = none) : ∃ n c k x ks, Looked kind num cs w lots n c k x ks := by
  unfold lookR at h
  repeat' split at h
  all_goals first | (cases h; done) | (exact looked_of (by assumption) (by assumption) (by assumption) (by assumption) (by assumption))
theorem lot_rg {n : Int} {k : List Int} (h : isLotD n (itup k) = true) : k.length < 1000000 ∨ True := .inr trivial
theorem lotD_facts {n : Int} (hn : n ≤ 6) {k : List Int} (h : isLotD n (itup k) = true) : k.length ≤ 6 ∧ ∀ x ∈ k, 0 ≤ x ∧ x < n := by
  have e : (k.map D.int).map intOf = k := by
    rw [List.map_map]; conv => rhs; rw [← List.map_id k]
    rfl
  simp only [isLotD, itup, List.isEmpty_map, List.all_map, e, Bool.and_eq_true] at h
  have rg : ∀ x ∈ k, 0 ≤ x ∧ x < n := fun x hx => by
    have := List.all_eq_true.mp h.2.1 x hx
    simp [within, Function.comp] at this
    omega
  refine ⟨?_, rg⟩
  have := nat_nodup_len (k.map Int.toNat) (List.range 6) (by
    unfold List.Nodup
    rw [List.pairwise_map]
    refine List.Pairwise.imp_of_mem (fun {a b} ha hb hlt => ?_) (risesI_pair h.2.2)
    have h1 := (rg a ha).1
    have h2 := (rg b hb).1
    omega) fun x hx => by
      obtain ⟨y, hy, rfl⟩ := List.mem_map.mp hx
      have := rg y hy
      exact List.mem_range.mpr (by omega)
  rw [List.length_map, List.length_range] at this
  exact this
theorem gd_polOfC {n asked u : Int} {kind w : Str} {sm : List Int} {ks : List (List Int)} (hk : PyData.strOk kind = true) (hw : PyData.strOk w = true) (h1 : ks.length < 1000000) (h2 : ∀ k ∈ ks, k.length < 1000000) : gd (polOfC n kind sm asked u w ks).d = true := by
  have : gds ((ks.map fun k => (k, lawShare (cnt sm k) asked u w)).map partD) = true := gds_of fun d hd => by
    obtain ⟨q, hq, rfl⟩ := List.mem_map.mp hd
    obtain ⟨k, hk, rfl⟩ := List.mem_map.mp hq
    simp [partD, gd, gds, gd_itup (h2 k hk)]
  simp only [polOfC, Pol.d, shsD, shwOfC, Shw.d, gd, gds, List.map_cons, List.map_nil, hk, hw, this, List.length_map, List.length_cons, List.length_nil]
  simp [h1]
/-! ### the law's words -/
def errW : Str → D
  | x => if x = "BadNumber" then .str "number" else if x = "BadCounts" then .str "counts" else if x = "BadShowing" then .str "showing" else if x = "BadLot" then .str "lot" else .str "other"
def wordR : Res → D
  | .err x => errW x
  | _ => .str "other"
def shownR (kind num cs u w lots : D) : Res := match lookR kind num cs w lots with | some x => .err x | none => if within u 2 100 = true then .ok (Pol.d (polX kind num cs (intOf u) w lots)) else .err "BadShowing"
def finestR (kind num cs w lots many bound : D) : Res := match lookR kind num cs w lots with | some x => .err x | none => if within bound 1 300 = true then (if within many 0 300 = true then .ok (optD (finestOf (fun u => polX kind num cs u w lots) (intOf many) (intOf bound))) else .err "BadNumber") else .err "BadNumber"
def c__law_shown_word : Ct := fun ds r => ∃ kind num cs u w lots, ds = [kind, num, cs, u, w, lots] ∧ (gd kind = true ∧ gd num = true ∧ gd cs = true ∧ gd w = true ∧ gd lots = true ∧ gd u = true) ∧ r = .ok (wordR (shownR kind num cs u w lots))
def c__law_finest_word : Ct := fun ds r => ∃ kind num cs w lots many bound, ds = [kind, num, cs, w, lots, many, bound] ∧ (gd kind = true ∧ gd num = true ∧ gd cs = true ∧ gd w = true ∧ gd lots = true ∧ gd many = true ∧ gd bound = true) ∧ (lookR kind num cs w lots = none → ∀ u, 2 ≤ u ∧ u ≤ 100 → GP (polX kind num cs u w lots)) ∧ r = .ok (wordR (finestR kind num cs w lots many bound))
theorem look_errs {kind num cs w lots : D} {x : Str} (h : lookR kind num cs w lots = some x) : x = "BadNumber" ∨ x = "BadCounts" ∨ x = "BadShowing" ∨ x = "BadLot" := by
  unfold lookR at h
  repeat' split at h
  all_goals first | (cases h; done) | (cases h; simp)
theorem shown_errs {kind num cs u w lots : D} {x : Str} (h : shownR kind num cs u w lots = .err x) : x = "BadNumber" ∨ x = "BadCounts" ∨ x = "BadShowing" ∨ x = "BadLot" := by
  unfold shownR at h
  split at h
  · rename_i z; cases h; exact look_errs z
  · split at h
    · cases h
    · cases h; simp
theorem finest_errs {kind num cs w lots many bound : D} {x : Str} (h : finestR kind num cs w lots many bound = .err x) : x = "BadNumber" ∨ x = "BadCounts" ∨ x = "BadShowing" ∨ x = "BadLot" := by
  unfold finestR at h
  split at h
  · rename_i z; cases h; exact look_errs z
  · split at h
    · split at h
      · cases h
      · cases h; simp
    · cases h; simp
end Ly
namespace Ly
open PySem L2
structure HidOk (n : Int) (c : List Int) (kind w : Str) (ks : List (List Int)) : Prop where
  nb : 1 ≤ n ∧ n ≤ 1000
  lots : LotsOk (c.length : Int) kind ks
  bd : ∀ y ∈ c, 0 ≤ y ∧ y ≤ n
  sum : kind ≠ "some" → c.sum = n
  w : isWord (.str w) = true
  len : c.length ≤ 3
section
variable {n : Int} {c : List Int} {kind w : Str} {ks : List (List Int)} (h : HidOk n c kind w ks)
include h
theorem hid_share {u : Int} (hu : 2 ≤ u ∧ u ≤ 100) : ∀ k ∈ ks, 0 ≤ lawShare (cnt c k) n u w ∧ lawShare (cnt c k) n u w ≤ u := fun k hk =>
  lawShare_bd h.nb.1 (cnt_asked' (by have := h.nb; omega) h.bd h.sum (h.lots.lot k hk) fun z => h.lots.sing z k hk) hu
theorem hid_gp {u : Int} (hu : 2 ≤ u ∧ u ≤ 100) : GP (polOfC (c.length : Int) kind c n u w ks) := polOfC_good h.lots hu h.w (hid_share h hu)
theorem hid_lots3 : lots3 (c.length : Int) (.tuple (ks.map itup)) = true := by
  simp only [lots3, Bool.and_eq_true]
  refine ⟨?_, ?_⟩
  · have := h.lots.ne
    cases q : ks with
    | nil => exact absurd q this
    | cons _ _ => rfl
  · rw [List.all_eq_true]
    intro d hd
    obtain ⟨k, hk, rfl⟩ := List.mem_map.mp hd
    exact lotB_is (h.lots.lot k hk)
theorem hid_are : areCD (c.length : Int) kind n (itup c) = true := of_areC (p := ⟨(c.length : Int), kind, []⟩) h.lots.k ⟨rfl, h.bd, fun z => h.sum (fun y => by have z' : kind = "one" := z; rw [y] at z'; exact absurd z' (by decide +kernel))⟩
theorem hid_len : lenD (itup c) = c.length := by simp [lenD, itup]
theorem hid_c1 : within (.int n) 1 100000 = true := by have := h.nb; simp [within]; omega
theorem hid_c2 : (isKind (.str kind) && isU (itup c)) = true := by rw [isKind_of h.lots.k]; rfl
theorem hid_c3 : (decide (1 ≤ lenD (itup c) ∧ lenD (itup c) ≤ 6) && areCD (lenD (itup c) : Int) (strOf (.str kind)) (intOf (.int n)) (itup c)) = true := by
  rw [hid_len h, Bool.and_eq_true]
  have := h.lots.n6
  exact ⟨decide_eq_true (by omega), hid_are h⟩
theorem hid_polX (u : Int) : polX (.str kind) (.int n) (itup c) u (.str w) (.tuple (ks.map itup)) = polOfC (c.length : Int) kind c n u w ks := by
  have e : lotsOf (.tuple (ks.map itup)) = ks := by
    simp only [lotsOf, List.map_map]
    conv => rhs; rw [← List.map_id ks]
    exact List.map_congr_left fun k _ => lotOf_itup k
  unfold polX
  rw [e, lotOf_itup]
  simp [lenD, itup, strOf, intOf]
theorem hid_look : lookR (.str kind) (.int n) (itup c) (.str w) (.tuple (ks.map itup)) = none := by
  unfold lookR
  rw [if_pos (hid_c1 h), if_pos (hid_c2 h), if_pos (hid_c3 h), if_pos h.w, hid_len h, if_pos (hid_lots3 h), hid_polX h, if_pos (hid_gp h (by decide)).is]
theorem hid_counts {cs : D} (hc : (isU cs = true → (decide (1 ≤ lenD cs ∧ lenD cs ≤ 6) && areCD (lenD cs : Int) kind n cs) = false)) (w' l' : D) : lookR (.str kind) (.int n) cs w' l' = some ("BadCounts" : Str) := by
  unfold lookR
  rw [if_pos (hid_c1 h)]
  by_cases z : (isKind (.str kind) && isU cs) = true
  · have zz := z
    rw [Bool.and_eq_true] at zz
    have := hc zz.2
    rw [if_pos z, if_neg (show ¬ (decide (1 ≤ lenD cs ∧ lenD cs ≤ 6) && areCD (lenD cs : Int) (strOf (.str kind)) (intOf (.int n)) cs) = true by show ¬ (decide (1 ≤ lenD cs ∧ lenD cs ≤ 6) && areCD (lenD cs : Int) kind n cs) = true; rw [this]; exact Bool.false_ne_true)]
  · rw [if_neg z]
theorem hid_word {w' : D} (hw : isWord w' = false) (l' : D) : lookR (.str kind) (.int n) (itup c) w' l' = some ("BadShowing" : Str) := by
  unfold lookR
  rw [if_pos (hid_c1 h), if_pos (hid_c2 h), if_pos (hid_c3 h), if_neg (by rw [hw]; exact Bool.false_ne_true)]
theorem hid_lot {l' : D} (hl : lots3 (c.length : Int) l' = true → isPollD (polX (.str kind) (.int n) (itup c) 2 (.str w) l').d = false) : lookR (.str kind) (.int n) (itup c) (.str w) l' = some ("BadLot" : Str) := by
  unfold lookR
  rw [if_pos (hid_c1 h), if_pos (hid_c2 h), if_pos (hid_c3 h), if_pos h.w, hid_len h]
  by_cases z : lots3 (c.length : Int) l' = true
  · rw [if_pos z, hl z]; rfl
  · rw [if_neg z]
/-- a lot twice makes no poll -/
theorem hid_twice : isPollD (polX (.str kind) (.int n) (itup c) 2 (.str w) (.tuple ((ks ++ ks.take 1).map itup))).d = false := by
  have e : polX (.str kind) (.int n) (itup c) 2 (.str w) (.tuple ((ks ++ ks.take 1).map itup)) = polOfC (c.length : Int) kind c n 2 w (ks ++ ks.take 1) := by
    have e : lotsOf (.tuple ((ks ++ ks.take 1).map itup)) = ks ++ ks.take 1 := by
      simp only [lotsOf, List.map_map]
      conv => rhs; rw [← List.map_id (ks ++ ks.take 1)]
      exact List.map_congr_left fun k _ => lotOf_itup k
    unfold polX
    rw [e, lotOf_itup]
    simp [lenD, itup, strOf, intOf]
  rw [e]
  cases q : isPollD (polOfC (c.length : Int) kind c n 2 w (ks ++ ks.take 1)).d with
  | false => rfl
  | true =>
    exfalso
    change (within (.int (c.length : Int)) 1 6 && (isKind (.str kind) && (decide (1 ≤ ([(shwOfC c n 2 w (ks ++ ks.take 1)).d] : List D).length ∧ ([(shwOfC c n 2 w (ks ++ ks.take 1)).d] : List D).length ≤ 3) && (([(shwOfC c n 2 w (ks ++ ks.take 1)).d] : List D).all (isShwD (c.length : Int)) && pollEnd _)))) = true at q
    simp only [Bool.and_eq_true, List.all_cons, List.all_nil] at q
    have s := (shw_d q.2.2.2.1.1).2.up
    rw [shwOf_d] at s
    have e1 : (shwOfC c n 2 w (ks ++ ks.take 1)).parts.map (·.1) = ks ++ ks.take 1 := by
      unfold shwOfC; rw [List.map_map]; conv => rhs; rw [← List.map_id (ks ++ ks.take 1)]
      rfl
    rw [e1] at s
    -- rising, and the first at the end
    have no : ∀ (k : List Int) (l : List (List Int)), Up (k :: l) → risesT ((k :: l) ++ [k]) = false := fun k l => by
      have go : ∀ (l : List (List Int)) (a : List Int), k ≤ a → Up (a :: l) → risesT ((a :: l) ++ [k]) = false := fun l => by
        induction l with
        | nil =>
          intro a ha _
          show risesT [a, k] = false
          unfold risesT
          simp only [List.tail_cons, List.zip_cons_cons, List.zip_nil_right]
          rw [List.filter_cons_of_pos (by rw [lexGe_is]; exact decide_eq_true ha)]
          rfl
        | cons b l ih =>
          intro a ha hu
          unfold Up at hu
          rw [List.pairwise_cons] at hu
          have hb := hu.1 b (by simp)
          have kb : k ≤ b := List.le_trans ha hb.1
          have := ih b kb hu.2
          unfold risesT at this ⊢
          simp only [List.cons_append, List.tail_cons, List.zip_cons_cons] at this ⊢
          rw [List.filter_cons_of_neg]
          · exact this
          · rw [lexGe_is]
            intro z
            exact hb.2 (le_anti hb.1 (of_decide_eq_true z))
      exact fun hu => go l k (List.le_refl k) hu
    cases hk : ks with
    | nil => exact h.lots.ne hk
    | cons k l =>
      rw [hk] at s
      have u := h.lots.up
      rw [hk] at u
      have := no k l u
      simp only [List.take_succ_cons, List.take_zero] at s
      rw [this] at s; cases s
end
def c__law_hiding_refused : Ct := fun ds r => ∃ row n c kind w ks, ds = [lst row, .str kind, .int n, itup c, .str w, .tuple (ks.map itup)] ∧ Row row ∧ HidOk n c kind w ks ∧ r = .ok (.bool true)
theorem errW_n : errW ("BadNumber" : Str) = .str "number" := by unfold errW; rw [if_pos rfl]
theorem errW_c : errW ("BadCounts" : Str) = .str "counts" := by unfold errW; rw [if_neg (by decide +kernel), if_pos rfl]
theorem errW_s : errW ("BadShowing" : Str) = .str "showing" := by unfold errW; rw [if_neg (by decide +kernel), if_neg (by decide +kernel), if_pos rfl]
theorem errW_l : errW ("BadLot" : Str) = .str "lot" := by unfold errW; rw [if_neg (by decide +kernel), if_neg (by decide +kernel), if_neg (by decide +kernel), if_pos rfl]
theorem cut_one (l : List (List Int)) (f : List Int → D) : cutD (l.map f) none (some 1) = (l.take 1).map f := by
  unfold cutD
  cases l with
  | nil => rfl
  | cons k l =>
    simp only [HT.sIx, List.length_map]
    simp
    try omega
theorem gd_ints {k : List Int} (h : k.length < 1000000) : gd (.list (k.map .int)) = true := by
  have : gds (k.map D.int) = true := gds_of fun d hd => by
    obtain ⟨x, _, rfl⟩ := List.mem_map.mp hd
    rfl
  simp [gd, this, h]
mutual
theorem eqv_self : ∀ d : D, gd d = true → PyData.eqv (toPy d) (toPy d) = true
  | .none, _ => by simp [toPy, PyData.eqv]
  | .bool b, _ => by cases b <;> simp [toPy, PyData.eqv]
  | .int i, _ => by simp [toPy, PyData.eqv]
  | .str s, _ => by simp [toPy, PyData.eqv]
  | .list xs, h => by
    have h' : gds xs = true := by simp [gd] at h; exact h.2
    simp [toPy, PyData.eqv, eqvs_self xs h']
  | .tuple xs, h => by
    have h' : gds xs = true := by simp [gd] at h; exact h.2
    simp [toPy, PyData.eqv, eqvs_self xs h']
  | .scr _, h => by simp [gd] at h
  | .dct _ _, h => by simp [gd] at h
  | .obj _ _ _, h => by simp [gd] at h
  | .kst _, h => by simp [gd] at h
  | .dfz _ _, h => by simp [gd] at h
theorem eqvs_self : ∀ ds : List D, gds ds = true → PyData.eqvAll (toPys ds) (toPys ds) = true
  | [], _ => by simp [toPys, PyData.eqvAll]
  | d :: ds, h => by
    have h' : gd d = true ∧ gds ds = true := by simpa [gds] using h
    simp [toPys, PyData.eqvAll, eqv_self d h'.1, eqvs_self ds h'.2]
end
theorem eqD_gd {d : D} (h : gd d = true) : eqD d d = true := eqv_self d h
theorem shp_polOfC {n asked u : Int} {kind w : Str} {sm : List Int} {ks : List (List Int)} (hk : PyData.strOk kind = true) (hw : PyData.strOk w = true) : shp (polOfC n kind sm asked u w ks).d = true := by
  obtain ⟨h1, h2⟩ := lay_parts (ks.map fun k => (k, lawShare (cnt sm k) asked u w))
  unfold shp SeqAt.shaped
  simp only [polOfC, Pol.d, shsD, shwOfC, Shw.d, toPy, toPys, List.map_cons, List.map_nil, PyData.canLay0, PyData.canLayAll0, PyData.depth, PyData.depthAll, hk, hw, h1, Bool.and_true, Bool.true_and, decide_eq_true_eq]
  omega
theorem shp_lots (ks : List (List Int)) : shp (.tuple (ks.map itup)) = true := by
  have h : ∀ ks : List (List Int), PyData.canLayAll0 (toPys (ks.map itup)) = true ∧ PyData.depthAll (toPys (ks.map itup)) ≤ 1 := fun ks => by
    induction ks with
    | nil => exact ⟨by simp [toPys, PyData.canLayAll0], by simp [toPys, PyData.depthAll]⟩
    | cons k ks ih =>
      have e : toPy (itup k) = .tuple (k.map .int) := by simp [toPy_itup]
      rw [List.map_cons, toPys, e]
      refine ⟨by simp [PyData.canLayAll0, PyData.canLay0, lay_ints, ih.1], ?_⟩
      have : PyData.depthAll (PyData.tuple (k.map .int) :: toPys (ks.map itup)) = max 1 (PyData.depthAll (toPys (ks.map itup))) := by
        simp [PyData.depthAll, PyData.depth, PySem.W.depth_ints]
      have := ih.2
      omega
  obtain ⟨h1, h2⟩ := h ks
  unfold shp SeqAt.shaped
  rw [toPy]
  simp [PyData.canLay0, PyData.depth, h1]
  omega
theorem eqD_lots (ks : List (List Int)) : eqD (.tuple (ks.map itup)) (.tuple []) = ks.isEmpty := by
  cases ks <;> simp [eqD, toPy, toPys, PyData.eqv, PyData.eqvAll]
/-- the lots that the law keeps -/
def keptOf (row : List Int) (ks : List (List Int)) : List (List Int) := ((List.range ks.length).filter fun i => decide (rw_ row (12 + i) % 3 > 0)).map fun i => ks.getD i []
theorem kept_sub (row : List Int) (ks : List (List Int)) : (keptOf row ks).Sublist ks := by
  unfold keptOf
  have : ks = (List.range ks.length).map fun i => ks.getD i [] := by
    apply List.ext_getElem
    · simp
    · intro i h1 h2
      simp [List.getD_eq_getElem?_getD, h1]
  conv => rhs; rw [this]
  exact List.filter_sublist.map _
def lotsKept (row : List Int) (ks : List (List Int)) : List (List Int) := if keptOf row ks ≠ [] then keptOf row ks else [[0]]
theorem kept_ok {row : List Int} {n : Int} {kind : Str} {ks : List (List Int)} (ok : LotsOk n kind ks) : LotsOk n kind (lotsKept row ks) := by
  unfold lotsKept
  split
  · rename_i z; exact ok.sub (kept_sub row ks) z
  · refine ⟨ok.n6, ok.k, by simp, fun k hk => ?_, ?_, by simp, fun _ k hk => ?_, fun h a ha b hb hl => ok.nest h a ?_ b ?_ hl⟩
    · simp at hk; subst hk
      have := ok.n6
      unfold lotB
      simp only [List.isEmpty_cons, List.all_cons, List.all_nil, Bool.not_false, Bool.true_and, Bool.and_true, Bool.and_eq_true, decide_eq_true_eq]
      exact ⟨⟨by omega, by omega⟩, rfl⟩
    · unfold Up; simp
    · simp at hk; subst hk; simp
    · rcases ha with z | z | z
      · exact .inl z
      · exact .inr (.inl z)
      · simp at z; exact .inr (.inl ⟨0, by have := ok.n6; omega, by simpa using z⟩)
    · rcases hb with z | z | z
      · exact .inl z
      · exact .inr (.inl z)
      · simp at z; exact .inr (.inl ⟨0, by have := ok.n6; omega, by simpa using z⟩)
/-- the greatest units whose crowd is great enough -/
def lastOf (P : Int → Pol) (many bound : Int) (i : Nat) : Option Int := (((List.range i).map fun (j : Nat) => (2 : Int) + (j : Int)).reverse).find? fun u => decide (many ≤ crowdOf (P u) bound)
theorem last_all (P : Int → Pol) (many bound : Int) : lastOf P many bound 99 = finestOf P many bound := by
  unfold lastOf finestOf
  have : ((List.range 99).map fun (j : Nat) => (2 : Int) + (j : Int)).reverse = (List.range 99).map fun (i : Nat) => (100 : Int) - (i : Int) := by decide +kernel
  rw [this]
theorem last_next (P : Int → Pol) (many bound : Int) (i : Nat) : lastOf P many bound (i + 1) = if many ≤ crowdOf (P (2 + (i : Int))) bound then some (2 + (i : Int)) else lastOf P many bound i := by
  unfold lastOf
  rw [List.range_succ, List.map_append, List.reverse_append]
  simp only [List.map_cons, List.map_nil, List.reverse_cons, List.reverse_nil, List.nil_append, List.cons_append, List.find?_cons]
  by_cases h : many ≤ crowdOf (P (2 + (i : Int))) bound
  · rw [decide_eq_true h, if_pos h]
  · rw [decide_eq_false h, if_neg h]
end Ly

namespace Ly
open PySem L2
/-! ### parts in order -/
def sortP (ps : List (List Int × Int)) : List (List Int × Int) := ps.mergeSort fun a b => leP (toPy (partD a)) (toPy (partD b))
theorem toPy_part (q : List Int × Int) : toPy (partD q) = .tuple [.tuple (q.1.map .int), .int q.2] := by simp [partD, toPy, toPys, toPy_itup]
theorem alike_parts (ps : List (List Int × Int)) : PySem.W.AllAlike ((ps.map partD).map toPy) := by
  intro x hx y hy
  rw [List.map_map] at hx hy
  obtain ⟨a, _, rfl⟩ := List.mem_map.mp hx
  obtain ⟨b, _, rfl⟩ := List.mem_map.mp hy
  simp [Function.comp, toPy_part, PySem.W.alike, PySem.W.alikeAll, alike_ints]
theorem sortable_parts (ps : List (List Int × Int)) : PySem.W.Sortable ((ps.map partD).map toPy) := by
  refine .inl fun x hx => ?_
  rw [List.map_map] at hx
  obtain ⟨a, _, rfl⟩ := List.mem_map.mp hx
  exact ⟨_, _, toPy_part a⟩
theorem sortD_parts (ps : List (List Int × Int)) : sortD (ps.map partD) = (sortP ps).map partD := by
  unfold sortD sortP
  rw [List.map_mergeSort (r := fun a b => leP (toPy (partD a)) (toPy (partD b)))]
  exact fun _ _ _ _ => rfl
theorem evn_sortP {K : Fg} {env : Evn} {te : TE} {ps : List (List Int × Int)} (h : EvD K te env (.list (ps.map partD))) : EvN K (tCB (rSortD K) (tCons te tNil)) env ((sortP ps).map partD) :=
  evn_is (evn_sortD h (alike_parts ps) (sortable_parts ps) fun d hd => by
    obtain ⟨q, _, rfl⟩ := List.mem_map.mp hd
    rw [toPy_part]
    refine ⟨by simp [PyData.canLay0, PyData.canLayAll0, lay_ints], ?_⟩
    simp [PyData.depth, PyData.depthAll, PySem.W.depth_ints]) (sortD_parts ps)
theorem sortP_perm (ps : List (List Int × Int)) : (sortP ps).Perm ps := List.mergeSort_perm _ _
theorem eqv_ints : ∀ a b : List Int, PyData.eqvAll (a.map .int) (b.map .int) = true → a = b
  | [], [], _ => rfl
  | [], _ :: _, h => by simp [PyData.eqvAll] at h
  | _ :: _, [], h => by simp [PyData.eqvAll] at h
  | x :: a, y :: b, h => by
    simp only [List.map_cons, PyData.eqvAll, PyData.eqv, Bool.and_eq_true] at h
    have e1 : x = y := by simpa using h.1
    rw [e1, eqv_ints a b h.2]
theorem part_le {a b : List Int × Int} (h : leP (toPy (partD a)) (toPy (partD b)) = true) : a.1 ≤ b.1 := by
  rw [toPy_part, toPy_part] at h
  unfold leP at h
  rw [PySem.W.dataLe_eq] at h
  have h' : PySem.W.dataLt (.tuple [.tuple (b.1.map .int), .int b.2]) (.tuple [.tuple (a.1.map .int), .int a.2]) = false := by simpa using h
  rw [PySem.W.dataLt_pair (by simp [PySem.W.alike, alike_ints]) (by simp [PySem.W.alike])] at h'
  by_cases e : PyData.eqv (.tuple (b.1.map .int)) (.tuple (a.1.map .int)) = true
  · have : b.1 = a.1 := by
      exact eqv_ints _ _ (by simpa [PyData.eqv] using e)
    rw [this]; exact List.le_refl _
  · rw [if_neg e] at h'
    have := leP_tup a.1 b.1
    rw [toPy_itup, toPy_itup] at this
    unfold leP at this
    rw [PySem.W.dataLe_eq] at this
    simp only [cond_false, h', Bool.not_false] at this
    exact of_decide_eq_true this.symm
theorem sortP_up {ps : List (List Int × Int)} (h : (ps.map (·.1)).Nodup) : Up ((sortP ps).map (·.1)) := by
  have t := PySem.W.sortLe_total (PyProof.Rows.listOrd PyProof.Rows.itemOrd) false fun b : List Int × Int => PySem.W.keyToks (toPy (partD b))
  have s : (sortP ps).Pairwise fun a b => leP (toPy (partD a)) (toPy (partD b)) = true := List.pairwise_mergeSort (fun a b c h1 h2 => t.trans a b c h1 h2) (fun a b => by have := t.total a b; simpa using this) ps
  unfold Up
  rw [List.pairwise_and_iff]
  refine ⟨?_, ?_⟩
  · rw [List.pairwise_map]; exact s.imp part_le
  · exact (((sortP_perm ps).map (·.1)).nodup_iff).mpr h
/-! ### a poll whose lots are changed -/
def mapShw (f : List Int → List Int) (s : Shw) : Shw := ⟨s.units, s.word, sortP (s.parts.map fun q => (f q.1, q.2))⟩
def mapPol (f : List Int → List Int) (n : Int) (p : Pol) : Pol := ⟨n, p.kind, p.shs.map (mapShw f)⟩
theorem map_turn (f : List Int → List Int) (n : Int) (p : Pol) : turnOf (mapPol f n p).shs = turnOf p.shs := by
  unfold mapPol turnOf
  rw [List.foldl_map]
  rfl
theorem map_told {f : List Int → List Int} {n : Int} {p : Pol} {t : Tld} : t ∈ tolds (mapPol f n p) ↔ ∃ t0 ∈ tolds p, t = ⟨t0.u, t0.w, f t0.k, t0.q⟩ := by
  unfold tolds mapPol
  simp only [List.mem_flatMap, List.mem_map]
  constructor
  · rintro ⟨_, ⟨s, hs, rfl⟩, q, hq, rfl⟩
    have hq' := (sortP_perm _).mem_iff.mp hq
    obtain ⟨q0, h0, rfl⟩ := List.mem_map.mp hq'
    exact ⟨⟨s.units, s.word, q0.1, q0.2⟩, ⟨s, hs, q0, h0, rfl⟩, rfl⟩
  · rintro ⟨_, ⟨s, hs, q0, h0, rfl⟩, rfl⟩
    exact ⟨mapShw f s, ⟨s, hs, rfl⟩, (f q0.1, q0.2), (sortP_perm _).mem_iff.mpr (List.mem_map.mpr ⟨q0, h0, rfl⟩), rfl⟩
/-- what a change of lots must keep -/
structure MapOk (f : List Int → List Int) (n : Int) (p : Pol) : Prop where
  n6 : 1 ≤ n ∧ n ≤ 6
  lot : ∀ s ∈ p.shs, ∀ q ∈ s.parts, lotB n (f q.1) = true
  inj : ∀ s ∈ p.shs, ∀ q ∈ s.parts, ∀ r ∈ s.parts, f q.1 = f r.1 → q.1 = r.1
  sing : p.kind = "some" → ∀ s ∈ p.shs, ∀ q ∈ s.parts, (f q.1).length ≤ 1
  few : ∀ s ∈ p.shs, s.parts.length ≤ 20
  nest : p.kind = "one" → ∀ s ∈ p.shs, ∀ q ∈ s.parts, ∀ s' ∈ p.shs, ∀ r ∈ s'.parts, (f q.1).length ≤ (f r.1).length → okPair (f q.1) (f r.1) = true
theorem mem_rgI {n x : Int} : x ∈ rgI n ↔ 0 ≤ x ∧ x < n := by
  unfold rgI
  simp only [List.mem_map, List.mem_range]
  constructor
  · rintro ⟨i, hi, rfl⟩; omega
  · intro h; exact ⟨x.toNat, by omega, by omega⟩
theorem ok_rg {n : Int} {k : List Int} (h : ∀ x ∈ k, 0 ≤ x ∧ x < n) : okPair k (rgI n) = true := by
  unfold okPair bothOf
  rw [Bool.or_eq_true]
  right
  rw [List.filter_eq_self.mpr fun x hx => decide_eq_true (mem_rgI.mpr (h x hx))]
  exact decide_eq_true rfl
theorem ok_one {i : Int} {k : List Int} : okPair [i] k = true := by
  unfold okPair bothOf
  by_cases h : i ∈ k
  · simp [h]
  · simp [h]
theorem lotB_facts {n : Int} {k : List Int} (h : lotB n k = true) : k ≠ [] ∧ (∀ x ∈ k, 0 ≤ x ∧ x < n) ∧ k.Pairwise (· < ·) := by
  unfold lotB at h
  simp only [Bool.and_eq_true, List.all_eq_true, decide_eq_true_eq] at h
  refine ⟨fun z => by rw [z] at h; simp at h, fun x hx => ?_, risesI_pair h.2.2⟩
  have := h.2.1 x hx; omega
theorem full_lot {n : Int} {k : List Int} (hr : ∀ x ∈ k, 0 ≤ x ∧ x < n) (hp : k.Pairwise (· < ·)) (hl : n.toNat ≤ k.length) : ∀ x, 0 ≤ x → x < n → x ∈ k := fun x h0 h1 => by
  by_cases hx : x ∈ k
  · exact hx
  · exfalso
    have := nat_nodup_len ((x :: k).map Int.toNat) (List.range n.toNat) (by
      unfold List.Nodup
      rw [List.pairwise_map]
      have nd : (x :: k).Nodup := List.nodup_cons.mpr ⟨hx, hp.imp fun h => by omega⟩
      refine List.Pairwise.imp_of_mem (fun {a b} ha hb hne => ?_) nd
      have rg : ∀ y ∈ x :: k, 0 ≤ y := fun y hy => by
        rcases List.mem_cons.mp hy with rfl | hy
        · exact h0
        · exact (hr y hy).1
      have := rg a ha; have := rg b hb
      omega) fun y hy => by
        obtain ⟨z, hz, rfl⟩ := List.mem_map.mp hy
        rw [List.mem_range]
        rcases List.mem_cons.mp hz with rfl | hz
        · omega
        · have := hr z hz; omega
    simp at this
    omega
theorem rg_ok {n : Int} {k : List Int} (hr : ∀ x ∈ k, 0 ≤ x ∧ x < n) (hp : k.Pairwise (· < ·)) (hl : (rgI n).length ≤ k.length) : okPair (rgI n) k = true := by
  unfold okPair bothOf
  rw [Bool.or_eq_true]
  right
  have l : (rgI n).length = n.toNat := by simp [rgI]
  rw [List.filter_eq_self.mpr fun x hx => decide_eq_true (full_lot hr hp (by omega) x (mem_rgI.mp hx).1 (mem_rgI.mp hx).2)]
  exact decide_eq_true rfl
theorem rises_up : ∀ {ks : List (List Int)}, risesT ks = true → Up ks
  | [], _ => .nil
  | [a], _ => by unfold Up; simp
  | a :: b :: l, h => by
    have e : risesT (a :: b :: l) = (!(lexGe a b) && risesT (b :: l)) := by
      unfold risesT
      simp only [List.tail_cons, List.zip_cons_cons]
      cases q : lexGe a b with
      | true => simp [List.filter_cons, q]
      | false => simp [List.filter_cons, q]
    rw [e, Bool.and_eq_true] at h
    have ih := rises_up h.2
    have ab : a ≤ b ∧ a ≠ b := by
      have : ¬ b ≤ a := fun z => by rw [lexGe_is, decide_eq_true z] at h; cases h.1
      exact ⟨List.le_of_lt (List.not_le.mp this), fun z => this (by rw [z]; exact List.le_refl _)⟩
    unfold Up at ih ⊢
    rw [List.pairwise_cons]
    refine ⟨fun x hx => ?_, ih⟩
    rcases List.mem_cons.mp hx with rfl | hx
    · exact ab
    · rw [List.pairwise_cons] at ih
      have := ih.1 x hx
      refine ⟨List.le_trans ab.1 this.1, fun z => ?_⟩
      rw [← z] at this
      exact ab.2 (le_anti ab.1 this.1)
theorem rises_nodup {ks : List (List Int)} (h : risesT ks = true) : ks.Nodup := (rises_up h).imp fun q => q.2
theorem map_good {f : List Int → List Int} {n : Int} {p : Pol} (hp : GP p) (ok : MapOk f n p) : GP (mapPol f n p) := by
  have hkd := gp_kind hp
  have sm : ∀ s ∈ (mapPol f n p).shs, ∃ s0 ∈ p.shs, s = mapShw f s0 := fun s hs => by
    obtain ⟨s0, h0, rfl⟩ := List.mem_map.mp hs
    exact ⟨s0, h0, rfl⟩
  have pm : ∀ s0 : Shw, ∀ q ∈ (mapShw f s0).parts, ∃ q0 ∈ s0.parts, q = (f q0.1, q0.2) := fun s0 q hq => by
    obtain ⟨q0, h0, rfl⟩ := List.mem_map.mp ((sortP_perm _).mem_iff.mp hq)
    exact ⟨q0, h0, rfl⟩
  have pl : ∀ s0 : Shw, (mapShw f s0).parts.length = s0.parts.length := fun s0 => by
    show (sortP _).length = _
    rw [(sortP_perm _).length_eq, List.length_map]
  refine gp_of (p := mapPol f n p) ok.n6 (isKind_of hkd) ⟨by simp only [mapPol, List.length_map]; exact hp.shs.1, by simp only [mapPol, List.length_map]; exact hp.shs.2⟩ (fun s hs => ?_) (fun s hs => ?_) ?_
  · obtain ⟨s0, h0, rfl⟩ := sm s hs
    have so := hp.sh s0 h0
    refine ⟨so.u0, so.u1, so.w, fun z => so.ne ?_, fun q hq => ?_, up_rises (sortP_up ?_)⟩
    · have := pl s0
      rw [z] at this
      exact List.length_eq_zero_iff.mp this.symm
    · obtain ⟨q0, g0, rfl⟩ := pm s0 q hq
      exact ⟨lotB_is (ok.lot s0 h0 q0 g0), (so.lots q0 g0).2⟩
    · rw [List.map_map]
      have nd : (s0.parts.map (·.1)).Nodup := rises_nodup so.up
      unfold List.Nodup at nd ⊢
      rw [List.pairwise_map] at nd ⊢
      exact List.Pairwise.imp_of_mem (fun {a b} ha hb hne z => hne (ok.inj s0 h0 a ha b hb z)) nd
  · obtain ⟨s0, h0, rfl⟩ := sm s hs
    refine ⟨by rw [pl]; exact ok.few s0 h0, fun q hq => ?_⟩
    obtain ⟨q0, g0, rfl⟩ := pm s0 q hq
    have := lot_small ok.n6.2 (ok.lot s0 h0 q0 g0)
    show (f q0.1).length ≤ 1000
    omega
  · unfold pollEnd
    rw [Bool.and_eq_true]
    refine ⟨decide_eq_true (by rw [map_turn]; exact hp.turn), ?_⟩
    split
    · rename_i hk
      rw [List.all_eq_true]
      intro s hs
      obtain ⟨s0, h0, rfl⟩ := sm s hs
      rw [List.all_eq_true]
      intro q hq
      obtain ⟨q0, g0, rfl⟩ := pm s0 q hq
      exact decide_eq_true (ok.sing hk s0 h0 q0 g0)
    · rename_i hk
      have hk1 : p.kind = "one" := by
        rcases hkd with z | z
        · exact z
        · exact absurd z hk
      refine nest_of (List.Pairwise.imp_of_mem (fun {a b} ha hb hlt => ?_) (lots_up (mapPol f n p)))
      have cs : ∀ k ∈ allLots (mapPol f n p), k = rgI n ∨ (∃ i : Nat, i < n.toNat ∧ k = [(i : Int)]) ∨ ∃ s ∈ p.shs, ∃ q ∈ s.parts, k = f q.1 := fun k hk => by
        rcases mem_allLots.mp hk with ⟨_, rfl⟩ | ⟨i, hi, rfl⟩ | ⟨s, h1, q, h2, rfl⟩
        · exact .inl rfl
        · exact .inr (.inl ⟨i, hi, rfl⟩)
        · obtain ⟨s0, h0, rfl⟩ := sm s h1
          obtain ⟨q0, g0, rfl⟩ := pm s0 q h2
          exact .inr (.inr ⟨s0, h0, q0, g0, rfl⟩)
      have fc : ∀ k, (k = rgI n ∨ (∃ i : Nat, i < n.toNat ∧ k = [(i : Int)]) ∨ ∃ s ∈ p.shs, ∃ q ∈ s.parts, k = f q.1) → (∀ x ∈ k, 0 ≤ x ∧ x < n) ∧ k.Pairwise (· < ·) := fun k hk => by
        rcases hk with rfl | ⟨i, hi, rfl⟩ | ⟨s, h1, q, h2, rfl⟩
        · exact ⟨(rgI_facts hp n).2, (rgI_facts hp n).1⟩
        · exact ⟨fun x hx => by simp at hx; omega, by simp⟩
        · exact (lotB_facts (ok.lot s h1 q h2)).2
      have fb := fc b (cs b hb)
      rcases cs a ha with rfl | ⟨i, _, rfl⟩ | ⟨s, h1, q, h2, rfl⟩
      · exact rg_ok fb.1 fb.2 hlt
      · exact ok_one
      · rcases cs b hb with rfl | ⟨i, _, rfl⟩ | ⟨s', h3, r, h4, rfl⟩
        · exact ok_rg (lotB_facts (ok.lot s h1 q h2)).2.1
        · have ne := (lotB_facts (ok.lot s h1 q h2)).1
          obtain ⟨x, e⟩ : ∃ x, f q.1 = [x] := by
            cases z : f q.1 with
            | nil => exact absurd z ne
            | cons x l =>
              rw [z] at hlt
              simp at hlt
              rw [hlt]; exact ⟨x, rfl⟩
          rw [e]; exact ok_one
        · exact ok.nest hk1 s h1 q h2 s' h3 r h4 hlt
theorem map_can {f : List Int → List Int} {n : Int} {p : Pol} (hp : GP p) (hq : GP (mapPol f n p)) {N : Int} (hN : 1 ≤ N)
    (fwd : ∀ cs, AreC p N cs → ∃ cs', AreC (mapPol f n p) N cs' ∧ ∀ t ∈ tolds p, cnt cs' (f t.k) = cnt cs t.k)
    (bwd : ∀ cs', AreC (mapPol f n p) N cs' → ∃ cs, AreC p N cs ∧ ∀ t ∈ tolds p, cnt cs' (f t.k) = cnt cs t.k) : canOf (mapPol f n p) N = canOf p N := by
  rw [Bool.eq_iff_iff, can_shows hp hN, can_shows hq hN]
  constructor
  · rintro ⟨cs', a, s⟩
    obtain ⟨cs, a', e⟩ := bwd cs' a
    refine ⟨cs, a', fun t ht => ?_⟩
    have := s ⟨t.u, t.w, f t.k, t.q⟩ (map_told.mpr ⟨t, ht, rfl⟩)
    simp only at this
    rw [← e t ht]; exact this
  · rintro ⟨cs, a, s⟩
    obtain ⟨cs', a', e⟩ := fwd cs a
    refine ⟨cs', a', fun t ht => ?_⟩
    obtain ⟨t0, h0, rfl⟩ := map_told.mp ht
    show lawShare (cnt cs' (f t0.k)) N t0.u t0.w = t0.q
    rw [e t0 h0]; exact s t0 h0
theorem map_firsts {f : List Int → List Int} {n : Int} {p : Pol} (hp : GP p) (hq : GP (mapPol f n p)) (h : ∀ N, 1 ≤ N → canOf (mapPol f n p) N = canOf p N) : firstsOf (mapPol f n p) = firstsOf p := firsts_ext hq hp (map_turn f n p) h
/-! ### a poll without one of its showings -/
def lessPol (p : Pol) (j : Nat) : Pol := ⟨p.n, p.kind, p.shs.take j ++ p.shs.drop (j + 1)⟩
theorem less_told {p : Pol} {j : Nat} : ∀ t ∈ tolds (lessPol p j), t ∈ tolds p := fun t ht => by
  unfold tolds lessPol at *
  rw [List.flatMap_append, List.mem_append] at ht
  simp only [List.mem_flatMap] at ht ⊢
  rcases ht with ⟨s, hs, q⟩ | ⟨s, hs, q⟩
  · exact ⟨s, List.mem_of_mem_take hs, q⟩
  · exact ⟨s, List.mem_of_mem_drop hs, q⟩
theorem less_can {p : Pol} {j : Nat} (hp : GP p) (hq : GP (lessPol p j)) {N : Int} (hN : 1 ≤ N) (h : canOf p N = true) : canOf (lessPol p j) N = true := by
  obtain ⟨cs, a, s⟩ := (can_shows hp hN).mp h
  exact (can_shows hq hN).mpr ⟨cs, ⟨a.len, a.bd, a.sum⟩, fun t ht => s t (less_told t ht)⟩
end Ly

namespace Ly
open PySem L2
theorem okPair_of {a b : List Int} (h : dis a b ∨ sub a b) : okPair a b = true := by
  unfold okPair bothOf
  rw [Bool.or_eq_true]
  rcases h with h | h
  · left
    rw [List.filter_eq_nil_iff.mpr fun x hx => by simpa using h x hx]; rfl
  · right
    rw [List.filter_eq_self.mpr fun x hx => decide_eq_true (h x hx)]
    exact decide_eq_true rfl
theorem sub_full {a b : List Int} (hs : sub b a) (hb : b.Nodup) (hl : a.length ≤ b.length) : sub a b := fun x hx => by
  by_cases h : x ∈ b
  · exact h
  · exfalso
    have := nodup_len (l := x :: b) (m := a) (List.nodup_cons.mpr ⟨h, hb⟩) fun y hy => by
      rcases List.mem_cons.mp hy with rfl | hy
      · exact hx
      · exact hs y hy
    simp at this
    omega
theorem pair_risesI : ∀ {k : List Int}, k.Pairwise (· < ·) → risesI k = true
  | [], _ => rfl
  | [a], _ => rfl
  | a :: b :: l, h => by
    rw [List.pairwise_cons] at h
    have ih := pair_risesI h.2
    have ab : a < b := h.1 b (by simp)
    unfold risesI at ih ⊢
    simp only [List.tail_cons, List.zip_cons_cons] at ih ⊢
    rw [List.filter_cons_of_neg (by simpa using ab)]
    exact ih
theorem lotB_of {n : Int} {k : List Int} (h1 : k ≠ []) (h2 : ∀ x ∈ k, 0 ≤ x ∧ x < n) (h3 : k.Pairwise (· < ·)) : lotB n k = true := by
  unfold lotB
  simp only [Bool.and_eq_true, List.all_eq_true, decide_eq_true_eq]
  refine ⟨?_, fun x hx => ?_, pair_risesI h3⟩
  · cases k with
    | nil => exact absurd rfl h1
    | cons _ _ => rfl
  · have := h2 x hx; omega
/-- the told lots of a good poll -/
theorem part_lot {p : Pol} (hp : GP p) {s : Shw} (hs : s ∈ p.shs) {q : List Int × Int} (hq : q ∈ s.parts) : q.1 ∈ allLots p := mem_allLots.mpr (.inr (.inr ⟨s, hs, q, hq, rfl⟩))
theorem map_nest {f : List Int → List Int} {n : Int} {p : Pol} (hp : GP p) (hl : ∀ s ∈ p.shs, ∀ q ∈ s.parts, lotB n (f q.1) = true)
    (h1 : ∀ s ∈ p.shs, ∀ q ∈ s.parts, ∀ s' ∈ p.shs, ∀ r ∈ s'.parts, sub q.1 r.1 → sub (f q.1) (f r.1))
    (h2 : ∀ s ∈ p.shs, ∀ q ∈ s.parts, ∀ s' ∈ p.shs, ∀ r ∈ s'.parts, dis q.1 r.1 → dis (f q.1) (f r.1)) :
    ∀ s ∈ p.shs, ∀ q ∈ s.parts, ∀ s' ∈ p.shs, ∀ r ∈ s'.parts, (f q.1).length ≤ (f r.1).length → okPair (f q.1) (f r.1) = true := fun s hs q hq s' hs' r hr hlen => by
  refine okPair_of ?_
  rcases (gp_lam hp).three (part_lot hp hs hq) (part_lot hp hs' hr) with z | z | z
  · exact .inr (h1 s hs q hq s' hs' r hr z)
  · exact .inr (sub_full (h1 s' hs' r hr s hs q hq z) ((lotB_facts (hl s' hs' r hr)).2.2.imp fun h => by omega) hlen)
  · exact .inl (h2 s hs q hq s' hs' r hr z)
/-! ### other names -/
structure NmOk (n : Int) (g : List Int) : Prop where
  len : g.length = n.toNat
  bd : ∀ x ∈ g, 0 ≤ x ∧ x < n
  nd : g.Nodup
def nmF (g : List Int) (k : List Int) : List Int := isort (k.map fun x => rw_ g x.toNat)
section
variable {n : Int} {g : List Int} (ok : NmOk n g)
include ok
theorem nm_in {x : Int} (h0 : 0 ≤ x) (h1 : x < n) : rw_ g x.toNat ∈ g := by
  have hl := ok.len
  exact List.mem_of_getElem? (rw_get (l := g) (i := x.toNat) (by omega))
theorem nm_inj {x y : Int} (hx : 0 ≤ x ∧ x < n) (hy : 0 ≤ y ∧ y < n) (h : rw_ g x.toNat = rw_ g y.toNat) : x = y := by
  have hl := ok.len
  have e1 := rw_get (l := g) (i := x.toNat) (by omega)
  have e2 := rw_get (l := g) (i := y.toNat) (by omega)
  rw [h, ← e2] at e1
  have := (List.getElem?_inj (by omega) ok.nd).mp e1
  omega
theorem nm_perm : g.Perm (rgI n) := by
  have hl := ok.len
  refine (List.perm_ext_iff_of_nodup ok.nd ?_).mpr fun x => ⟨fun h => mem_rgI.mpr (ok.bd x h), fun h => ?_⟩
  · unfold rgI List.Nodup
    rw [List.pairwise_map]
    exact List.nodup_range.imp fun h => by omega
  · by_cases q : x ∈ g
    · exact q
    · exfalso
      have hb := mem_rgI.mp h
      have := nodup_len (l := x :: g) (m := rgI n) (List.nodup_cons.mpr ⟨q, ok.nd⟩) fun y hy => by
        rcases List.mem_cons.mp hy with rfl | hy
        · exact h
        · exact mem_rgI.mpr (ok.bd y hy)
      simp [rgI] at this
      omega
theorem nm_mem {k : List Int} (hk : ∀ x ∈ k, 0 ≤ x ∧ x < n) {x : Int} (hx : 0 ≤ x ∧ x < n) : rw_ g x.toNat ∈ nmF g k ↔ x ∈ k := by
  unfold nmF
  rw [(isort_perm _).mem_iff, List.mem_map]
  constructor
  · rintro ⟨y, hy, e⟩
    rw [← nm_inj ok (hk y hy) hx e]; exact hy
  · exact fun h => ⟨x, h, rfl⟩
theorem nm_of {k : List Int} (hk : ∀ x ∈ k, 0 ≤ x ∧ x < n) {y : Int} (h : y ∈ nmF g k) : ∃ x ∈ k, y = rw_ g x.toNat := by
  unfold nmF at h
  rw [(isort_perm _).mem_iff, List.mem_map] at h
  obtain ⟨x, hx, rfl⟩ := h
  exact ⟨x, hx, rfl⟩
theorem nm_lot {k : List Int} (h : lotB n k = true) : lotB n (nmF g k) = true := by
  obtain ⟨h1, h2, h3⟩ := lotB_facts h
  refine lotB_of (fun z => ?_) (fun y hy => ?_) ?_
  · have := isort_len (k.map fun x => rw_ g x.toNat)
    have z' : isort (k.map fun x => rw_ g x.toNat) = [] := z
    rw [z', List.length_map] at this
    exact h1 (List.length_eq_zero_iff.mp this.symm)
  · obtain ⟨x, hx, rfl⟩ := nm_of ok h2 hy
    exact ok.bd _ (nm_in ok (h2 x hx).1 (h2 x hx).2)
  · have nd : (nmF g k).Nodup := by
      unfold nmF
      rw [(isort_perm _).nodup_iff]
      unfold List.Nodup
      rw [List.pairwise_map]
      exact List.Pairwise.imp_of_mem (fun {a b} ha hb hlt z => by
        have := nm_inj ok (h2 a ha) (h2 b hb) z; omega) h3
    exact (isort_up (k.map fun x => rw_ g x.toNat)).imp₂ (fun h1 h2 => by omega) nd
theorem nm_len (k : List Int) : (nmF g k).length = k.length := by unfold nmF; rw [isort_len, List.length_map]
theorem nm_same {k l : List Int} (hk : lotB n k = true) (hl : lotB n l = true) (h : nmF g k = nmF g l) : k = l := by
  obtain ⟨k1, k2, k3⟩ := lotB_facts hk
  obtain ⟨l1, l2, l3⟩ := lotB_facts hl
  have pm : k.Perm l := (List.perm_ext_iff_of_nodup (k3.imp fun h => by omega) (l3.imp fun h => by omega)).mpr fun x => by
    constructor
    · intro hx
      have := (nm_mem ok k2 (k2 x hx)).mpr hx
      rw [h] at this
      exact (nm_mem ok l2 (k2 x hx)).mp this
    · intro hx
      have := (nm_mem ok l2 (l2 x hx)).mpr hx
      rw [← h] at this
      exact (nm_mem ok k2 (l2 x hx)).mp this
  exact perm_one (r := fun a b : Int => a < b) (fun a b h1 h2 => by omega) pm k3 l3
end
theorem lotB_is' {n : Int} {k : List Int} (h : isLotD n (itup k) = true) : lotB n k = true := by
  have e : (k.map D.int).map intOf = k := by
    rw [List.map_map]; conv => rhs; rw [← List.map_id k]
    rfl
  simp only [isLotD, itup, List.isEmpty_map, List.all_map, e, Bool.and_eq_true] at h
  unfold lotB
  simp only [Bool.and_eq_true, List.all_eq_true, decide_eq_true_eq]
  refine ⟨h.1, fun x hx => ?_, h.2.2⟩
  have := List.all_eq_true.mp h.2.1 x hx
  simp [within, Function.comp] at this
  omega
theorem part_lotB {p : Pol} (hp : GP p) {s : Shw} (hs : s ∈ p.shs) {q : List Int × Int} (hq : q ∈ s.parts) : lotB p.n q.1 = true := lotB_is' ((hp.sh s hs).lots q hq).1
theorem gp_sing {p : Pol} (hp : GP p) (hk : p.kind = "some") : ∀ s ∈ p.shs, ∀ q ∈ s.parts, q.1.length ≤ 1 := fun s hs q hq => by
  have he := gp_end hp
  unfold pollEnd at he
  rw [Bool.and_eq_true, if_pos hk] at he
  exact of_decide_eq_true (List.all_eq_true.mp (List.all_eq_true.mp he.2 s hs) q hq)
theorem nm_mapok {p : Pol} {g : List Int} (hp : GP p) (ok : NmOk p.n g) (few : ∀ s ∈ p.shs, s.parts.length ≤ 20) : MapOk (nmF g) p.n p := by
  have hl : ∀ s ∈ p.shs, ∀ q ∈ s.parts, lotB p.n (nmF g q.1) = true := fun s hs q hq => nm_lot ok (part_lotB hp hs hq)
  refine ⟨hp.n, hl, fun s hs q hq r hr h => nm_same ok (part_lotB hp hs hq) (part_lotB hp hs hr) h, fun hk s hs q hq => by rw [nm_len ok]; exact gp_sing hp hk s hs q hq, few, fun _ => map_nest hp hl (fun s hs q hq s' hs' r hr h y hy => ?_) (fun s hs q hq s' hs' r hr h y hy => ?_)⟩
  · have q2 := (lotB_facts (part_lotB hp hs hq)).2.1
    have r2 := (lotB_facts (part_lotB hp hs' hr)).2.1
    obtain ⟨x, hx, rfl⟩ := nm_of ok q2 hy
    exact (nm_mem ok r2 (q2 x hx)).mpr (h x hx)
  · have q2 := (lotB_facts (part_lotB hp hs hq)).2.1
    have r2 := (lotB_facts (part_lotB hp hs' hr)).2.1
    obtain ⟨x, hx, rfl⟩ := nm_of ok q2 hy
    exact fun z => h x hx ((nm_mem ok r2 (q2 x hx)).mp z)
/-! counts under other names -/
def nmC (g cs : List Int) : List Int := g.map fun j => rw_ cs j.toNat
theorem rw_map {l : List Int} {h : Int → Int} {i : Nat} (hi : i < l.length) : rw_ (l.map h) i = h (rw_ l i) := by
  unfold rw_
  simp [List.getD_eq_getElem?_getD, hi]
theorem nm_cnt {n : Int} {g cs k : List Int} (ok : NmOk n g) (hk : ∀ x ∈ k, 0 ≤ x ∧ x < n) : cnt cs (nmF g k) = cnt (nmC g cs) k := by
  have hl := ok.len
  unfold cnt nmF nmC
  rw [sum_perm ((isort_perm _).map _), List.map_map]
  congr 1
  refine List.map_congr_left fun x hx => ?_
  have := hk x hx
  rw [rw_map (by omega)]; rfl
theorem rg_sum (cs : List Int) (n : Int) (h : (cs.length : Int) = n) : ((rgI n).map fun j => rw_ cs j.toNat) = cs := by
  subst h
  conv => rhs; rw [← rg_list cs]
  unfold rgI
  rw [List.map_map]
  exact List.map_congr_left fun i _ => by simp
theorem nm_are {p : Pol} {g cs : List Int} {N : Int} (hp : GP p) (hN : 0 ≤ N) (ok : NmOk p.n g) (h : AreC (mapPol (nmF g) p.n p) N cs) : AreC p N (nmC g cs) := by
  have hl := ok.len
  have hn := hp.n
  have h1 : (cs.length : Int) = p.n := h.len
  refine ⟨by unfold nmC; rw [List.length_map]; omega, fun x hx => ?_, fun hk => ?_⟩
  · obtain ⟨j, _, rfl⟩ := List.mem_map.mp hx
    exact rw_mem (fun z => 0 ≤ z ∧ z ≤ N) ⟨by omega, hN⟩ h.bd
  · have := h.sum hk
    unfold nmC
    rw [sum_perm ((nm_perm ok).map _), rg_sum cs p.n h1]
    exact this
/-- the names turned round -/
def nmB (g : List Int) (n : Int) : List Int := (rgI n).map fun j => ((g.idxOf j : Nat) : Int)
theorem nm_back {n : Int} {g : List Int} (ok : NmOk n g) {cs : List Int} (hc : (cs.length : Int) = n) : nmC g (nmC (nmB g n) cs) = cs := by
  have hl := ok.len
  unfold nmC nmB
  refine List.ext_getElem (by simp; omega) fun i h1 h2 => ?_
  simp only [List.getElem_map]
  have hi : i < g.length := by simpa using h1
  have hb := ok.bd g[i] (List.getElem_mem hi)
  rw [rw_map (by simp [rgI]; omega), rw_map (by simp [rgI]; omega)]
  have e : rw_ (rgI n) (g[i]).toNat = g[i] := by
    unfold rw_ rgI
    have : (g[i]).toNat < n.toNat := by omega
    simp [List.getD_eq_getElem?_getD, this]
    omega
  rw [e]
  have e2 : g.idxOf g[i] = i := ok.nd.idxOf_getElem i hi
  rw [e2]
  unfold rw_
  simp [List.getD_eq_getElem?_getD, h2]
theorem nmB_are {p : Pol} {g cs : List Int} {N : Int} (hp : GP p) (hN : 0 ≤ N) (ok : NmOk p.n g) (h : AreC p N cs) : AreC (mapPol (nmF g) p.n p) N (nmC (nmB g p.n) cs) := by
  have hl := ok.len
  have hn := hp.n
  refine ⟨by unfold nmC nmB; simp [rgI]; show max p.n 0 = p.n; omega, fun x hx => ?_, fun hk => ?_⟩
  · obtain ⟨j, _, rfl⟩ := List.mem_map.mp hx
    exact rw_mem (fun z => 0 ≤ z ∧ z ≤ N) ⟨by omega, hN⟩ h.bd
  · have e := h.sum hk
    have b := nm_back ok h.len
    have : (nmC g (nmC (nmB g p.n) cs)).sum = (nmC (nmB g p.n) cs).sum := by
      conv => lhs; unfold nmC
      rw [sum_perm ((nm_perm ok).map _)]
      have := rg_sum (nmC (nmB g p.n) cs) p.n (by unfold nmC nmB; simp [rgI]; omega)
      rw [← this]
      rw [this]
      exact congrArg List.sum this
    rw [← this, b]; exact e
theorem told_rg {p : Pol} (hp : GP p) {t : Tld} (ht : t ∈ tolds p) : ∀ x ∈ t.k, 0 ≤ x ∧ x < p.n := (gp_lam hp).rg t.k (told_lot hp ht)
theorem nm_can {p : Pol} {g : List Int} (hp : GP p) (ok : NmOk p.n g) (hq : GP (mapPol (nmF g) p.n p)) {N : Int} (hN : 1 ≤ N) : canOf (mapPol (nmF g) p.n p) N = canOf p N := by
  refine map_can hp hq hN (fun cs h => ?_) (fun cs h => ?_)
  · refine ⟨nmC (nmB g p.n) cs, nmB_are hp (by omega) ok h, fun t ht => ?_⟩
    rw [nm_cnt ok (told_rg hp ht), nm_back ok h.len]
  · exact ⟨nmC g cs, nm_are hp (by omega) ok h, fun t ht => nm_cnt ok (told_rg hp ht)⟩
end Ly

namespace Ly
open PySem L2
/-! ### two things put together -/
def mgS (o x : Int) : Int := x - (if x > o then 1 else 0)
def mgF (o : Int) (k : List Int) : List Int := (k.filter fun x => decide (x ≠ o)).map (mgS o)
structure MgOk (n a o : Int) (p : Pol) : Prop where
  ab : 0 ≤ a ∧ a < o ∧ o < n
  en : p.n = n
  k1 : p.kind = "one"
  both : ∀ s ∈ p.shs, ∀ q ∈ s.parts, (a ∈ q.1 ↔ o ∈ q.1)
theorem mgS_inj {o x y : Int} (hx : x ≠ o) (hy : y ≠ o) (h : mgS o x = mgS o y) : x = y := by
  unfold mgS at h
  split at h <;> split at h <;> omega
theorem mem_mgF {o : Int} {k : List Int} {y : Int} : y ∈ mgF o k ↔ ∃ x ∈ k, x ≠ o ∧ y = mgS o x := by
  unfold mgF
  simp only [List.mem_map, List.mem_filter, decide_eq_true_eq]
  exact ⟨fun ⟨x, h, e⟩ => ⟨x, h.1, h.2, e.symm⟩, fun ⟨x, h1, h2, e⟩ => ⟨x, ⟨h1, h2⟩, e.symm⟩⟩
theorem mem_mgS {o : Int} {k : List Int} {x : Int} (hx : x ≠ o) : mgS o x ∈ mgF o k ↔ x ∈ k := by
  rw [mem_mgF]
  exact ⟨fun ⟨y, h1, h2, e⟩ => by rw [mgS_inj hx h2 e]; exact h1, fun h => ⟨x, h, hx, rfl⟩⟩
theorem mg_up {o : Int} {k : List Int} (h : k.Pairwise (· < ·)) : (mgF o k).Pairwise (· < ·) := by
  unfold mgF
  rw [List.pairwise_map]
  refine List.Pairwise.imp_of_mem (fun {x y} hx hy hlt => ?_) (h.filter _)
  have h1 : x ≠ o := by simpa using (List.mem_filter.mp hx).2
  have h2 : y ≠ o := by simpa using (List.mem_filter.mp hy).2
  unfold mgS
  split <;> split <;> omega
theorem mg_lot {n a o : Int} {k : List Int} (ab : 0 ≤ a ∧ a < o ∧ o < n) (hb : a ∈ k ↔ o ∈ k) (h : lotB n k = true) : lotB (n - 1) (mgF o k) = true := by
  obtain ⟨h1, h2, h3⟩ := lotB_facts h
  refine lotB_of (fun z => ?_) (fun y hy => ?_) (mg_up h3)
  · obtain ⟨x, hx⟩ := List.exists_mem_of_ne_nil k h1
    obtain ⟨v, hv, ne⟩ : ∃ v ∈ k, v ≠ o := by
      by_cases e : x = o
      · subst e; exact ⟨a, hb.mpr hx, by omega⟩
      · exact ⟨x, hx, e⟩
    have := (mem_mgS ne).mpr hv
    rw [z] at this; cases this
  · obtain ⟨x, hx, ne, rfl⟩ := mem_mgF.mp hy
    have := h2 x hx
    unfold mgS
    split <;> omega
theorem mg_same {a o : Int} {k l : List Int} {n : Int} (ab : a < o) (hk : lotB n k = true) (hl : lotB n l = true) (b1 : a ∈ k ↔ o ∈ k) (b2 : a ∈ l ↔ o ∈ l) (h : mgF o k = mgF o l) : k = l := by
  obtain ⟨k1, k2, k3⟩ := lotB_facts hk
  obtain ⟨l1, l2, l3⟩ := lotB_facts hl
  have mm : ∀ x, x ≠ o → (x ∈ k ↔ x ∈ l) := fun x hx => by rw [← mem_mgS hx, h, mem_mgS hx]
  have pm : k.Perm l := (List.perm_ext_iff_of_nodup (k3.imp fun h => by omega) (l3.imp fun h => by omega)).mpr fun x => by
    by_cases e : x = o
    · subst e; rw [← b1, ← b2]; exact mm a (by omega)
    · exact mm x e
  exact perm_one (r := fun a b : Int => a < b) (fun a b h1 h2 => by omega) pm k3 l3
theorem mg_mapok {p : Pol} {n a o : Int} (hp : GP p) (m : MgOk n a o p) (few : ∀ s ∈ p.shs, s.parts.length ≤ 20) : MapOk (mgF o) (n - 1) p := by
  have hn := hp.n
  have e := m.en
  have ab := m.ab
  have pl : ∀ s ∈ p.shs, ∀ q ∈ s.parts, lotB n q.1 = true := fun s hs q hq => by rw [← e]; exact part_lotB hp hs hq
  have hl : ∀ s ∈ p.shs, ∀ q ∈ s.parts, lotB (n - 1) (mgF o q.1) = true := fun s hs q hq => mg_lot ab (m.both s hs q hq) (pl s hs q hq)
  refine ⟨by omega, hl, fun s hs q hq r hr h => mg_same ab.2.1 (pl s hs q hq) (pl s hs r hr) (m.both s hs q hq) (m.both s hs r hr) h, fun hk => ?_, few, fun _ => map_nest hp hl (fun s hs q hq s' hs' r hr h y hy => ?_) (fun s hs q hq s' hs' r hr h y hy => ?_)⟩
  · rw [m.k1] at hk; exact absurd hk (by decide +kernel)
  · obtain ⟨x, hx, ne, rfl⟩ := mem_mgF.mp hy
    exact (mem_mgS ne).mpr (h x hx)
  · obtain ⟨x, hx, ne, rfl⟩ := mem_mgF.mp hy
    exact fun z => h x hx ((mem_mgS ne).mp z)
/-! sums -/
theorem sum_out {c : Int → Int} {o : Int} : ∀ {k : List Int}, k.Nodup → (k.map c).sum = ((k.filter fun x => decide (x ≠ o)).map c).sum + (if o ∈ k then c o else 0)
  | [], _ => by simp
  | x :: k, h => by
    rw [List.nodup_cons] at h
    have ih := sum_out (c := c) (o := o) h.2
    by_cases e : x = o
    · subst e
      rw [if_neg h.1] at ih
      rw [List.filter_cons_of_neg (by simp), if_pos (by simp), List.map_cons, List.sum_cons]
      omega
    · rw [List.filter_cons_of_pos (by simpa using e), List.map_cons, List.map_cons, List.sum_cons, List.sum_cons, ih]
      by_cases g : o ∈ k
      · rw [if_pos g, if_pos (by simp [g])]; omega
      · rw [if_neg g, if_neg (by simp [g, Ne.symm e])]; omega
theorem sum_in {c : Int → Int} {a v : Int} : ∀ {k : List Int}, k.Nodup → (k.map fun x => c x + if x = a then v else 0).sum = (k.map c).sum + (if a ∈ k then v else 0)
  | [], _ => by simp
  | x :: k, h => by
    rw [List.nodup_cons] at h
    have ih := sum_in (c := c) (a := a) (v := v) h.2
    rw [List.map_cons, List.map_cons, List.sum_cons, List.sum_cons, ih]
    by_cases e : x = a
    · subst e
      rw [if_pos rfl, if_neg h.1, if_pos (by simp)]; omega
    · rw [if_neg e]
      by_cases g : a ∈ k
      · rw [if_pos g, if_pos (by simp [g])]; omega
      · rw [if_neg g, if_neg (by simp [g, Ne.symm e])]; omega
/-- counts of the things put together, and back -/
def mgU (o j : Int) : Int := if j ≥ o then j + 1 else j
def mgC (n a o : Int) (cs : List Int) : List Int := (rgI (n - 1)).map fun j => rw_ cs (mgU o j).toNat + if j = a then rw_ cs o.toNat else 0
def mgB (n o : Int) (cs : List Int) : List Int := (rgI n).map fun x => if x = o then 0 else rw_ cs (mgS o x).toNat
theorem rw_rg {n j : Int} (h : 0 ≤ j ∧ j < n) : rw_ (rgI n) j.toNat = j := by
  unfold rw_ rgI
  have : j.toNat < n.toNat := by omega
  simp [List.getD_eq_getElem?_getD, this]
  omega
theorem rgI_len (n : Int) : (rgI n).length = n.toNat := by simp [rgI]
theorem mgU_S {o x : Int} (h : x ≠ o) : mgU o (mgS o x) = x := by
  unfold mgU mgS
  split <;> split <;> omega
theorem mg_cnt {n a o : Int} (ab : 0 ≤ a ∧ a < o ∧ o < n) {cs k : List Int} (hk : ∀ x ∈ k, 0 ≤ x ∧ x < n) (nd : k.Nodup) (hb : a ∈ k ↔ o ∈ k) : cnt (mgC n a o cs) (mgF o k) = cnt cs k := by
  unfold cnt mgF
  rw [List.map_map, sum_out (c := fun i : Int => rw_ cs i.toNat) (o := o) nd]
  have e : ((k.filter fun x => decide (x ≠ o)).map ((fun i : Int => rw_ (mgC n a o cs) i.toNat) ∘ mgS o)) = (k.filter fun x => decide (x ≠ o)).map fun x => (fun i : Int => rw_ cs i.toNat) x + if x = a then rw_ cs o.toNat else 0 := List.map_congr_left fun x hx => by
    obtain ⟨h1, h2⟩ := List.mem_filter.mp hx
    have ne : x ≠ o := by simpa using h2
    have b := hk x h1
    have r : 0 ≤ mgS o x ∧ mgS o x < n - 1 := by unfold mgS; split <;> omega
    show rw_ (mgC n a o cs) (mgS o x).toNat = _
    unfold mgC
    rw [rw_map (by rw [rgI_len]; omega), rw_rg r, mgU_S ne]
    congr 1
    by_cases g : x = a
    · rw [if_pos g, if_pos (by rw [g]; unfold mgS; rw [if_neg (by omega)]; omega)]
    · rw [if_neg g, if_neg (fun z => g ?_)]
      unfold mgS at z
      split at z <;> omega
  rw [e, sum_in (nd.filter _)]
  congr 1
  by_cases g : o ∈ k
  · rw [if_pos g, if_pos (List.mem_filter.mpr ⟨hb.mpr g, by simp; omega⟩)]
  · rw [if_neg g, if_neg (fun z => g (hb.mp (List.mem_filter.mp z).1))]
theorem mgB_cnt {n o : Int} (ho : 0 ≤ o ∧ o < n) {cs k : List Int} (hk : ∀ x ∈ k, 0 ≤ x ∧ x < n) (nd : k.Nodup) : cnt cs (mgF o k) = cnt (mgB n o cs) k := by
  have val : ∀ x, 0 ≤ x ∧ x < n → rw_ (mgB n o cs) x.toNat = if x = o then 0 else rw_ cs (mgS o x).toNat := fun x hx => by
    unfold mgB
    rw [rw_map (by rw [rgI_len]; omega), rw_rg hx]
  unfold cnt mgF
  rw [List.map_map, sum_out (c := fun i : Int => rw_ (mgB n o cs) i.toNat) (o := o) nd]
  have e0 : rw_ (mgB n o cs) o.toNat = 0 := by rw [val o ho, if_pos rfl]
  have e : ((k.filter fun x => decide (x ≠ o)).map ((fun i : Int => rw_ cs i.toNat) ∘ mgS o)) = (k.filter fun x => decide (x ≠ o)).map fun i : Int => rw_ (mgB n o cs) i.toNat := List.map_congr_left fun x hx => by
    obtain ⟨h1, h2⟩ := List.mem_filter.mp hx
    have ne : x ≠ o := by simpa using h2
    rw [val x (hk x h1), if_neg ne]; rfl
  rw [e, e0]
  simp
theorem mg_rg {n o : Int} (ho : 0 ≤ o ∧ o < n) : (mgF o (rgI n)).Perm (rgI (n - 1)) := by
  have nd : ∀ m : Int, (rgI m).Nodup := fun m => by
    unfold rgI List.Nodup
    rw [List.pairwise_map]
    exact List.nodup_range.imp fun h => by omega
  have up : (rgI n).Pairwise (· < ·) := by
    unfold rgI
    rw [List.pairwise_map]
    exact List.pairwise_lt_range.imp fun h => by omega
  refine (List.perm_ext_iff_of_nodup ((mg_up up).imp fun h => by omega) (nd _)).mpr fun y => ?_
  rw [mem_mgF, mem_rgI]
  constructor
  · rintro ⟨x, hx, ne, rfl⟩
    have := mem_rgI.mp hx
    unfold mgS
    split <;> omega
  · intro h
    refine ⟨mgU o y, mem_rgI.mpr ?_, ?_, ?_⟩ <;> unfold mgU <;> (try unfold mgS) <;> split <;> (try split) <;> omega
theorem rg_nd (m : Int) : (rgI m).Nodup := by
  unfold rgI List.Nodup
  rw [List.pairwise_map]
  exact List.nodup_range.imp fun h => by omega
theorem cnt_perm {cs a b : List Int} (h : a.Perm b) : cnt cs a = cnt cs b := sum_perm (h.map _)
theorem cnt_rg {cs : List Int} {n : Int} (h : (cs.length : Int) = n) : cnt cs (rgI n) = cs.sum := by unfold cnt; rw [rg_sum cs n h]
theorem le_sum : ∀ {l : List Int}, (∀ x ∈ l, 0 ≤ x) → ∀ x ∈ l, x ≤ l.sum
  | y :: l, h, x, hx => by
    have h1 := h y (by simp)
    have h0 : 0 ≤ l.sum := by
      have go : ∀ l : List Int, (∀ x ∈ l, 0 ≤ x) → 0 ≤ l.sum := fun l => by
        induction l with
        | nil => intro _; simp
        | cons z l ih => intro h; have := ih fun x hx => h x (by simp [hx]); have := h z (by simp); simp; omega
      exact go l fun x hx => h x (by simp [hx])
    rw [List.sum_cons]
    rcases List.mem_cons.mp hx with rfl | hx
    · omega
    · have := le_sum (fun x hx => h x (by simp [hx])) x hx; omega
theorem mg_are {p : Pol} {n a o N : Int} {cs : List Int} (m : MgOk n a o p) (hN : 0 ≤ N) (h : AreC p N cs) : AreC (mapPol (mgF o) (n - 1) p) N (mgC n a o cs) := by
  have ab := m.ab
  have hl : (cs.length : Int) = n := by rw [← m.en]; exact h.len
  have l1 : ((mgC n a o cs).length : Int) = n - 1 := by unfold mgC; rw [List.length_map, rgI_len]; omega
  have sm : (mgC n a o cs).sum = N := by
    rw [← cnt_rg l1, ← cnt_perm (mg_rg ⟨by omega, ab.2.2⟩), mg_cnt ab (fun x hx => mem_rgI.mp hx) (rg_nd n) ⟨fun _ => mem_rgI.mpr (by omega), fun _ => mem_rgI.mpr (by omega)⟩, cnt_rg hl]
    exact h.sum m.k1
  have nn : ∀ x ∈ mgC n a o cs, 0 ≤ x := fun x hx => by
    obtain ⟨j, _, rfl⟩ := List.mem_map.mp hx
    have h1 : 0 ≤ rw_ cs (mgU o j).toNat := rw_mem (fun z => 0 ≤ z) (by omega) fun y hy => (h.bd y hy).1
    have h2 : 0 ≤ rw_ cs o.toNat := rw_mem (fun z => 0 ≤ z) (by omega) fun y hy => (h.bd y hy).1
    show 0 ≤ rw_ cs (mgU o j).toNat + if j = a then rw_ cs o.toNat else 0
    split <;> omega
  exact ⟨l1, fun x hx => ⟨nn x hx, by rw [← sm]; exact le_sum nn x hx⟩, fun _ => sm⟩
theorem mgB_are {p : Pol} {n a o N : Int} {cs : List Int} (m : MgOk n a o p) (hN : 0 ≤ N) (h : AreC (mapPol (mgF o) (n - 1) p) N cs) : AreC p N (mgB n o cs) := by
  have ab := m.ab
  have hl : (cs.length : Int) = n - 1 := h.len
  have l1 : ((mgB n o cs).length : Int) = n := by unfold mgB; rw [List.length_map, rgI_len]; omega
  refine ⟨by rw [m.en]; exact l1, fun x hx => ?_, fun _ => ?_⟩
  · obtain ⟨j, _, rfl⟩ := List.mem_map.mp hx
    show 0 ≤ (if j = o then 0 else rw_ cs (mgS o j).toNat) ∧ (if j = o then 0 else rw_ cs (mgS o j).toNat) ≤ N
    split
    · omega
    · exact rw_mem (fun z => 0 ≤ z ∧ z ≤ N) ⟨by omega, hN⟩ h.bd
  · rw [← cnt_rg l1, ← mgB_cnt ⟨by omega, ab.2.2⟩ (fun x hx => mem_rgI.mp hx) (rg_nd n), cnt_perm (mg_rg ⟨by omega, ab.2.2⟩), cnt_rg hl]
    exact h.sum m.k1
theorem mg_can {p : Pol} {n a o : Int} (hp : GP p) (m : MgOk n a o p) (hq : GP (mapPol (mgF o) (n - 1) p)) {N : Int} (hN : 1 ≤ N) : canOf (mapPol (mgF o) (n - 1) p) N = canOf p N := by
  have ab := m.ab
  have rg : ∀ t ∈ tolds p, (∀ x ∈ t.k, 0 ≤ x ∧ x < n) ∧ t.k.Nodup := fun t ht => ⟨fun x hx => by rw [← m.en]; exact told_rg hp ht x hx, (gp_lam hp).nodup (told_lot hp ht)⟩
  have both : ∀ t ∈ tolds p, (a ∈ t.k ↔ o ∈ t.k) := fun t ht => by
    unfold tolds at ht
    simp only [List.mem_flatMap, List.mem_map] at ht
    obtain ⟨s, hs, q, hq, rfl⟩ := ht
    exact m.both s hs q hq
  refine map_can hp hq hN (fun cs h => ⟨_, mg_are m (by omega) h, fun t ht => mg_cnt ab (rg t ht).1 (rg t ht).2 (both t ht)⟩) (fun cs h => ⟨_, mgB_are m (by omega) h, fun t ht => mgB_cnt ⟨by omega, ab.2.2⟩ (rg t ht).1 (rg t ht).2⟩)
end Ly

namespace Ly
open PySem L2
/-! ### bounds -/
def bdOf (p : Pol) (N : Int) (i : Nat) : Int × Int := (rgOf p (endsAt p N)).f [(i : Int)]
def c_bounds : Ct := fun ds r => ∃ p x, ds = [Pol.d p, x] ∧ GP p ∧ noObj x = true ∧ r = if within x 1 100000 = true then (if canOf p (intOf x) = true then .ok (.list ((List.range p.n.toNat).map fun i => endD (bdOf p (intOf x) i))) else .err "CantBe") else .err "BadNumber"
theorem bd_is {p : Pol} (hp : GP p) {N : Int} (hN : 1 ≤ N) (h : canOf p N = true) {i : Nat} (hi : i < p.n.toNat) :
    (∀ cs, AreC p N cs → Shows p N cs → (bdOf p N i).1 ≤ rw_ cs i ∧ rw_ cs i ≤ (bdOf p N i).2) ∧ ∀ v, (bdOf p N i).1 ≤ v → v ≤ (bdOf p N i).2 → ∃ cs, AreC p N cs ∧ Shows p N cs ∧ rw_ cs i = v := by
  have ok : TrOk (allLots p) (trE p (endsAt p N)) := by
    have e : canOf p N = true ↔ TrOk (allLots p) (trE p (endsAt p N)) := by
      unfold canOf; rw [decide_eq_true_eq]; exact trE_ok hp (endsAt p N)
    exact e.mp h
  have hk : [(i : Int)] ∈ allLots p := (gp_lam hp).one (i : Int) (by omega) (by omega)
  obtain ⟨_, t1, t2⟩ := rg_all hp ok hk
  refine ⟨fun cs a s => ?_, fun v h1 h2 => ?_⟩
  · have := t1 _ ((feas_shows hp hN a).mpr s)
    have e : csum (cOf cs) [(i : Int)] = rw_ cs i := by simp [csum, cOf]
    rw [e] at this
    exact this
  · obtain ⟨c, hc, e⟩ := t2 v h1 h2
    obtain ⟨a, b⟩ := feas_list hp hN hc
    refine ⟨_, a, (feas_shows hp hN a).mp b, ?_⟩
    have e1 : c (i : Int) = v := by simpa [csum] using e
    unfold rw_
    simp [List.getD_eq_getElem?_getD, hi, e1]
theorem bd_le {p : Pol} (hp : GP p) {N : Int} (hN : 1 ≤ N) (h : canOf p N = true) {i : Nat} (hi : i < p.n.toNat) : (bdOf p N i).1 ≤ (bdOf p N i).2 := by
  obtain ⟨cs, a, s⟩ := (can_shows hp hN).mp h
  have := (bd_is hp hN h hi).1 cs a s
  omega
theorem bd_uniq {p q : Pol} (hp : GP p) (hq : GP q) {N : Int} (hN : 1 ≤ N) (h1 : canOf p N = true) (h2 : canOf q N = true) {i j : Nat} (hi : i < p.n.toNat) (hj : j < q.n.toNat)
    (fwd : ∀ cs, AreC p N cs → Shows p N cs → ∃ cs', AreC q N cs' ∧ Shows q N cs' ∧ rw_ cs' j = rw_ cs i) (bwd : ∀ cs', AreC q N cs' → Shows q N cs' → ∃ cs, AreC p N cs ∧ Shows p N cs ∧ rw_ cs i = rw_ cs' j) : bdOf p N i = bdOf q N j := by
  obtain ⟨a1, a2⟩ := bd_is hp hN h1 hi
  obtain ⟨b1, b2⟩ := bd_is hq hN h2 hj
  have la := bd_le hp hN h1 hi
  have lb := bd_le hq hN h2 hj
  have e1 : (bdOf q N j).1 ≤ (bdOf p N i).1 := by
    obtain ⟨cs, x, y, z⟩ := a2 _ (Int.le_refl _) la
    obtain ⟨cs', x', y', z'⟩ := fwd cs x y
    have := b1 cs' x' y'; omega
  have e2 : (bdOf p N i).2 ≤ (bdOf q N j).2 := by
    obtain ⟨cs, x, y, z⟩ := a2 _ la (Int.le_refl _)
    obtain ⟨cs', x', y', z'⟩ := fwd cs x y
    have := b1 cs' x' y'; omega
  have e3 : (bdOf p N i).1 ≤ (bdOf q N j).1 := by
    obtain ⟨cs, x, y, z⟩ := b2 _ (Int.le_refl _) lb
    obtain ⟨cs', x', y', z'⟩ := bwd cs x y
    have := a1 cs' x' y'; omega
  have e4 : (bdOf q N j).2 ≤ (bdOf p N i).2 := by
    obtain ⟨cs, x, y, z⟩ := b2 _ lb (Int.le_refl _)
    obtain ⟨cs', x', y', z'⟩ := bwd cs x y
    have := a1 cs' x' y'; omega
  exact Prod.ext (by omega) (by omega)
theorem nm_bounds {p : Pol} {g : List Int} (hp : GP p) (ok : NmOk p.n g) (hq : GP (mapPol (nmF g) p.n p)) {N : Int} (hN : 1 ≤ N) (h : canOf p N = true) {i : Nat} (hi : i < p.n.toNat) : bdOf p N i = bdOf (mapPol (nmF g) p.n p) N (rw_ g i).toNat := by
  have hl := ok.len
  have gi := nm_in ok (x := (i : Int)) (by omega) (by omega)
  rw [Int.toNat_natCast] at gi
  have gb := ok.bd _ gi
  have gv : ∀ cs : List Int, rw_ (nmC g cs) i = rw_ cs (rw_ g i).toNat := fun cs => by
    unfold nmC; rw [rw_map (by omega)]
  refine bd_uniq hp hq hN h (by rw [nm_can hp ok hq hN]; exact h) hi (show (rw_ g i).toNat < p.n.toNat by omega) (fun cs a s => ?_) (fun cs a s => ?_)
  · refine ⟨nmC (nmB g p.n) cs, nmB_are hp (by omega) ok a, fun t ht => ?_, ?_⟩
    · obtain ⟨t0, h0, rfl⟩ := map_told.mp ht
      show lawShare (cnt _ (nmF g t0.k)) N t0.u t0.w = t0.q
      rw [nm_cnt ok (told_rg hp h0), nm_back ok a.len]; exact s t0 h0
    · rw [← gv, nm_back ok a.len]
  · refine ⟨nmC g cs, nm_are hp (by omega) ok a, fun t ht => ?_, gv cs⟩
    rw [← nm_cnt ok (told_rg hp ht)]
    exact s ⟨t.u, t.w, nmF g t.k, t.q⟩ (map_told.mpr ⟨t, ht, rfl⟩)
/-- the thing asked for its method raises -/
theorem ex_meth {K : Fg} {env : Evn} {ta : TE} {mg : Str → Option Value} {E E' : XK} {P : Ct} {C : Addr} {m x : Str} (h : EvX K mg E ta env x) : EvX K mg E (tMeth C m (spD K mg P) [] E' ta tNil) env x := fun G0 B G H σ s k Q => h G0 B G H σ s k _
end Ly

namespace Ly
open PySem L2
/-! ### polls changed: contracts -/
def goesD (p : Pol) (x : D) : Bool := within x 0 ((p.shs.length : Int) - 1) && decide (p.shs.length ≠ 1)
def c_without : Ct := fun ds r => ∃ p x, ds = [Pol.d p, x] ∧ GP p ∧ noObj x = true ∧ r = if goesD p x = true then .ok (Pol.d (lessPol p (intOf x).toNat)) else .err "BadPoll"
theorem turnStep_min {x m : Int} {s : Shw} (hx : 1 ≤ x) (ho : 1 ≤ oneOf s.units s.word) (h1 : x ∣ m) (h2 : oneOf s.units s.word ∣ m) : turnStep x s ∣ m := by
  have e : turnStep x s = x / gcdI x (oneOf s.units s.word) * oneOf s.units s.word := rfl
  rw [e]
  generalize oneOf s.units s.word = o at *
  have g0 := (gcd_pos hx ho).1
  have gx : gcdI x o ∣ x := Int.gcd_dvd_left x o
  obtain ⟨a, ha⟩ := gx
  have d : x / gcdI x o = a := by
    conv => lhs; rw [ha]
    rw [← ha]
    exact Int.ediv_eq_of_eq_mul_right (by omega) ha
  rw [d]
  have l := Int.coe_lcm_dvd h1 h2
  have gl : (Int.gcd x o : Int) * (Int.lcm x o : Int) = x * o := by
    have := Int.gcd_mul_lcm x o
    have q : ((Int.gcd x o : Nat) : Int) * ((Int.lcm x o : Nat) : Int) = ((x.natAbs : Nat) : Int) * ((o.natAbs : Nat) : Int) := by exact_mod_cast this
    rw [q, Int.natAbs_of_nonneg (by omega), Int.natAbs_of_nonneg (by omega)]
  have e2 : a * o = (Int.lcm x o : Int) := by
    have h3 : gcdI x o * (a * o) = gcdI x o * (Int.lcm x o : Int) := by
      rw [← Int.mul_assoc, ← ha]; exact gl.symm
    exact Int.eq_of_mul_eq_mul_left (by omega) h3
  rw [e2]; exact l
theorem turn_min : ∀ {ss : List Shw} {x m : Int}, 1 ≤ x → (∀ s ∈ ss, 2 ≤ s.units ∧ oneOf s.units s.word ∣ m) → x ∣ m → ss.foldl turnStep x ∣ m
  | [], _, _, _, _, h => h
  | s :: ss, x, m, hx, hs, h => by
    have s1 := hs s (by simp)
    have ho : 1 ≤ oneOf s.units s.word := by unfold oneOf; split <;> omega
    refine turn_min (ss := ss) (x := turnStep x s) ?_ (fun q hq => hs q (by simp [hq])) (turnStep_min hx ho h s1.2)
    have e : turnStep x s = x / gcdI x (oneOf s.units s.word) * oneOf s.units s.word := rfl
    obtain ⟨g0, g1, _⟩ := gcd_pos hx ho
    have : 1 ≤ x / gcdI x (oneOf s.units s.word) := by
      rw [Int.le_ediv_iff_mul_le g0]; omega
    rw [e]
    have := Int.mul_le_mul this ho (by omega) (by omega)
    omega
theorem less_mem {p : Pol} {j : Nat} {s : Shw} (h : s ∈ (lessPol p j).shs) : s ∈ p.shs := by
  rcases List.mem_append.mp h with h | h
  · exact List.mem_of_mem_take h
  · exact List.mem_of_mem_drop h
theorem less_good {p : Pol} {j : Nat} (hp : GP p) (few : ∀ s ∈ p.shs, s.parts.length ≤ 20) (hj : j < p.shs.length) (h2 : 2 ≤ p.shs.length) : GP (lessPol p j) := by
  have s3 := hp.shs
  have hkd := gp_kind hp
  have len : (lessPol p j).shs.length = p.shs.length - 1 := by
    show (p.shs.take j ++ p.shs.drop (j + 1)).length = _
    rw [List.length_append, List.length_take, List.length_drop]; omega
  refine gp_of (p := lessPol p j) hp.n (isKind_of hkd) (by rw [len]; omega) (fun s hs => hp.sh s (less_mem hs)) (fun s hs => ⟨few s (less_mem hs), fun q hq => ?_⟩) ?_
  · have := lot_small hp.n.2 (part_lotB hp (less_mem hs) hq); omega
  · unfold pollEnd
    rw [Bool.and_eq_true]
    refine ⟨decide_eq_true ?_, ?_⟩
    · have d : turnOf (lessPol p j).shs ∣ turnOf p.shs := turn_min (by decide) (fun s hs => ⟨(hp.sh s (less_mem hs)).u0, turn_dvd (less_mem hs)⟩) (Int.one_dvd _)
      have := Int.le_of_dvd (by have := turn_pos hp; omega) d
      have := hp.turn
      omega
    · split
      · rename_i hk
        rw [List.all_eq_true]
        intro s hs
        rw [List.all_eq_true]
        intro q hq
        exact decide_eq_true (gp_sing hp hk s (less_mem hs) q hq)
      · have sb : ∀ k ∈ allLots (lessPol p j), k ∈ allLots p := fun k hk => by
          rcases mem_allLots.mp hk with h | h | ⟨s, h1, q, h3, e⟩
          · exact mem_allLots.mpr (.inl h)
          · exact mem_allLots.mpr (.inr (.inl h))
          · exact mem_allLots.mpr (.inr (.inr ⟨s, less_mem h1, q, h3, e⟩))
        refine nest_of (List.Pairwise.imp_of_mem (fun {a b} ha hb hlt => okPair_of ?_) (lots_up (lessPol p j)))
        rcases (gp_lam hp).three (sb a ha) (sb b hb) with z | z | z
        · exact .inr z
        · exact .inr (sub_full z ((gp_lam hp).nodup (sb b hb)) hlt)
        · exact .inl z
/-! put together -/
def twoD (p : Pol) (x y : D) : Bool := within x 0 (p.n - 1) && (within y 0 (p.n - 1) && decide (intOf x < intOf y))
def bothB (p : Pol) (a o : Int) : Bool := p.shs.all fun s => s.parts.all fun q => decide (a ∈ q.1) == decide (o ∈ q.1)
theorem bothB_is {p : Pol} {a o : Int} (h : bothB p a o = true) : ∀ s ∈ p.shs, ∀ q ∈ s.parts, (a ∈ q.1 ↔ o ∈ q.1) := fun s hs q hq => by
  have := List.all_eq_true.mp (List.all_eq_true.mp h s hs) q hq
  simpa using this
def c_put_together : Ct := fun ds r => ∃ p x y, ds = [Pol.d p, x, y] ∧ GP p ∧ noObj x = true ∧ noObj y = true ∧ r = if twoD p x y = true then (if p.kind = "some" then .err "BadPoll" else if bothB p (intOf x) (intOf y) = true then .ok (Pol.d (mapPol (mgF (intOf y)) (p.n - 1) p)) else .err "BadPoll") else .err "BadThing"
/-! other names -/
def namesD (n : Int) : D → Bool
  | .tuple ds => ds.all (fun x => within x 0 (n - 1)) && decide (isort (ds.map intOf) = rgI n)
  | _ => false
def c_named : Ct := fun ds r => ∃ p x, ds = [Pol.d p, x] ∧ GP p ∧ gd x = true ∧ r = if namesD p.n x = true then .ok (Pol.d (mapPol (nmF (lotOf x)) p.n p)) else .err "BadThing"
theorem names_ok {n : Int} {g : List Int} (hn : 0 ≤ n) (h : namesD n (itup g) = true) : NmOk n g := by
  have e : (g.map D.int).map intOf = g := by
    rw [List.map_map]; conv => rhs; rw [← List.map_id g]
    rfl
  simp only [namesD, itup, e, Bool.and_eq_true, decide_eq_true_eq] at h
  have pm := isort_perm g
  rw [h.2] at pm
  exact ⟨by rw [← pm.length_eq, rgI_len], fun x hx => mem_rgI.mp (pm.mem_iff.mpr hx), (pm.nodup_iff).mp (rg_nd n)⟩
/-- int(x), x true or false -/
theorem ev_intB {K : Fg} {env : Evn} {te : TE} {x : Bool} (h : EvD K te env (.bool x)) : EvD K (tCB (fun xs H Q => (∃ i, xs = [.int i] ∧ Q (.int i) H) ∨ ∃ k, xs = [.bl k] ∧ Q (.int (if k then 1 else 0)) H) (tCons te tNil)) env (.int (if x then 1 else 0)) := ev_cb (ea_cons h ea_nil) fun G H xs ex hx Q q => by
  cases hx with
  | cons r1 r2 =>
    cases r2
    cases r1
    exact .inr ⟨_, rfl, q _ _ _ (Fm.refl ex) (.int _)⟩
theorem rd_inT_ints {K : Fg} (k : List Int) (x : Int) : RD K (rInU K false) (.int x) (itup k) (.bool (decide (x ∈ k))) := by
  have := rd_inT (K := K) (neg := false) (a := .int x) (ds := k.map .int) (shp_int x) (shp_itup k)
  rw [in_ints, Bool.false_xor] at this
  exact this
end Ly

namespace Ly
open PySem L2
/-! ### sorted(t), t a tuple of ints; a list's thing put at its end -/
theorem sortI_is (ns : List Int) : ns.mergeSort (PySem.W.dataLe false fun k : Int => PyData.int k) = isort ns := by
  have e : (PySem.W.dataLe false fun k : Int => PyData.int k) = fun a b : Int => decide (a ≤ b) := funext fun a => funext fun b => leP_int a b
  rw [e]
  refine perm_one (r := fun a b : Int => a ≤ b) (fun a b h1 h2 => by omega) ((List.mergeSort_perm _ _).trans (isort_perm ns).symm) ?_ (isort_up ns)
  have := List.pairwise_mergeSort (le := fun a b : Int => decide (a ≤ b)) (fun a b c h1 h2 => by simp at *; omega) (fun a b => by simp; omega) ns
  exact this.imp fun h => of_decide_eq_true h
theorem rpl_ints (K : Fg) (G : Hp) : ∀ ns : List Int, RpL K G (ns.map V.int) (ns.map D.int)
  | [] => .nil
  | n :: ns => .cons (.int n) (rpl_ints K G ns)
theorem evn_sortIT {K : Fg} {env : Evn} {te : TE} {ns : List Int} (h : EvD K te env (itup ns)) (hz : ns.length < 1000000) : EvN K (tCB (rSortIT K) (tCons te tNil)) env ((isort ns).map .int) := evn_cb (ea_cons h ea_nil) fun G H xs ex hx Q q => by
  cases hx with
  | cons r1 r2 =>
    cases r2
    cases r1 with
    | @tup a vs _ h1 h2 =>
      have z := h2.ints
      subst z
      refine ⟨a, ns, rfl, ex_t ex h1, hz, fun l hl => ?_⟩
      rw [sortI_is]
      exact q l _ G _ (Fm.own ex hl) hl (ex.back hl) upd_same (rpl_ints K G _)
section
variable {K : Fg} {env : Evn} {te ta tb : TE} {t : TT} {mg : Str → Option Value} {E : XK} {e : En} {tu tz : TS} {Es : St → XK} {ex : Str → Prop}
theorem RpL.erase {G : Hp} : ∀ {xs : List V} {ds : List D} (k : Nat), RpL K G xs ds → RpL K G (xs.eraseIdx k) (ds.eraseIdx k)
  | _, _, _, .nil => .nil
  | _, _, 0, .cons _ t => t
  | _, _, k + 1, .cons r t => .cons r (RpL.erase k t)
/-- xs.append(xs.pop(k)) -/
theorem sd_rot {i k : Nat} {ds : List D} {x : D} (he : env[i]? = some (.lst ds)) (h : EvD K te env (.int (k : Int))) (hx : ds[k]? = some x) (hz : ds.length < 1000000) (q : e.nx (env.set i (.lst (ds.eraseIdx k ++ [x])))) :
    SD K mg E (tDrop (tBM K "list" rAppend (tVar i) (tCons (tBM K "list" rPopAt (tVar i) (tCons te tNil)) tNil))) env e := fun G0 B G H σ Dd s z => by
  obtain ⟨l, h1, h5, _⟩ := s.ownS he rfl
  have hk : k < ds.length := (List.getElem?_eq_some_iff.mp hx).1
  have sz := sizeLine_eq
  cases h5 with
  | @lst xs _ h4 h5 =>
    refine ⟨.ref l, h1, Or.inl ⟨rfl, _, SqL.of h4⟩, .ref l, h1, Or.inl ⟨rfl, _, SqL.of h4⟩, h G0 B G H σ s _ fun v G2 H2 f r => ?_⟩
    cases r
    have hl := h5.length
    obtain ⟨y, y1, y2⟩ := h5.get hx
    refine ⟨l, xs, (k : Int), k, y, rfl, rfl, f.h.o l _ h4 rfl, by omega, by omega, ?_, y1, l, xs.eraseIdx k, y, rfl, rfl, upd_same, ?_, ?_⟩
    · unfold seqIndex?
      simp; omega
    · rw [List.length_eraseIdx]; split <;> omega
    · rw [upd_upd]
      exact z.nx G2 _ σ _ ((s.fwd f).write he rfl h1 (.lst upd_same (((RpL.erase k h5).up f.g).app (.cons (y2.up f.g) .nil))) rfl) q
/-! within a try: if .. return, then the rest -/
theorem sds_ifSeq {x : Bool} (h : EvT K t env x) (h1 : x = true → SDS K mg Es tu env { e with nx := fun _ => False } ex) (h2 : x = false → SDS K mg Es tz env e ex) : SDS K mg Es (tSeq (tIfS t tu tNext) tz) env e ex := fun G0 B G H σ Dd s q z =>
  h G0 B G H σ s _ fun G2 H2 f => by
    cases x with
    | true => exact h1 rfl G0 B G2 H2 σ _ (s.fwd f) ⟨fun _ _ _ _ _ z => z.elim, q.rt, q.bk, q.ct, q.ex, q.ro, q.ri⟩ z
    | false => exact h2 rfl G0 B G2 H2 σ Dd (s.fwd f) q z
theorem exs_if {x : Bool} {y : Str} (h : EvT K t env x) (h1 : x = true → EvXS K mg Es ta env y) (h2 : x = false → EvXS K mg Es tb env y) : EvXS K mg Es (tIf t ta tb) env y := fun G0 B G H σ s k Q =>
  h G0 B G H σ s _ fun G1 H1 f1 => by
    cases x with
    | true => exact h1 rfl G0 B G1 H1 σ (s.fwd f1) (fun C G2 H2 m f2 => k C G2 H2 m (f1.trans f2)) Q
    | false => exact h2 rfl G0 B G1 H1 σ (s.fwd f1) (fun C G2 H2 m f2 => k C G2 H2 m (f1.trans f2)) Q
end
/-! ### what a change tells -/
def namedR (p : Pol) (x : D) : Res := if namesD p.n x = true then .ok (Pol.d (mapPol (nmF (lotOf x)) p.n p)) else .err "BadThing"
def togR (p : Pol) (x y : D) : Res := if twoD p x y = true then (if p.kind = "some" then .err "BadPoll" else if bothB p (intOf x) (intOf y) = true then .ok (Pol.d (mapPol (mgF (intOf y)) (p.n - 1) p)) else .err "BadPoll") else .err "BadThing"
def lessR (p : Pol) (x : D) : Res := if goesD p x = true then .ok (Pol.d (lessPol p (intOf x).toNat)) else .err "BadPoll"
def changeR (way : Int) (p : Pol) (x y : D) : Res := if way = 0 then namedR p x else if way = 1 then togR p x y else lessR p x
def chD : Res → D
  | .ok d => d
  | .err x => if x = "BadThing" then .str "thing" else .str "poll"
  | _ => .none
def c__law_change_told : Ct := fun ds r => ∃ way p x y, ds = [.int way, Pol.d p, x, y] ∧ GP p ∧ gd x = true ∧ gd y = true ∧ r = .ok (chD (changeR way p x y))
theorem change_cases (way : Int) (p : Pol) (x y : D) : (∃ d, changeR way p x y = .ok d) ∨ changeR way p x y = .err "BadThing" ∨ changeR way p x y = .err "BadPoll" := by
  unfold changeR namedR togR lessR
  repeat' split
  all_goals simp
theorem lay_shs : ∀ ss : List Shw, (∀ s ∈ ss, PyData.strOk s.word = true) → PyData.canLayAll0 (toPys (ss.map Shw.d)) = true ∧ PyData.depthAll (toPys (ss.map Shw.d)) ≤ 4
  | [], _ => ⟨by simp [toPys, PyData.canLayAll0], by simp [toPys, PyData.depthAll]⟩
  | s :: ss, h => by
    obtain ⟨h1, h2⟩ := lay_shs ss fun s' hs' => h s' (by simp [hs'])
    obtain ⟨h3, h4⟩ := lay_parts s.parts
    have hw := h s (by simp)
    have e : toPy s.d = .tuple [.int s.units, .str s.word, .tuple (toPys (s.parts.map partD))] := by simp [Shw.d, toPy, toPys]
    rw [List.map_cons, toPys, e]
    refine ⟨by simp [PyData.canLayAll0, PyData.canLay0, hw, h1, h3], ?_⟩
    simp only [PyData.depthAll, PyData.depth]
    omega
theorem gp_words {p : Pol} (hp : GP p) : ∀ s ∈ p.shs, PyData.strOk s.word = true := fun s hs => by
  have g1 := gds_mem (gd_tup hp.gd).2 (shsD p.shs) (by simp)
  have g2 := gds_mem (gd_tup (show gd (.tuple (p.shs.map Shw.d)) = true from g1)).2 s.d (List.mem_map.mpr ⟨s, hs, rfl⟩)
  exact gds_mem (gd_tup (show gd (.tuple [.int s.units, .str s.word, .tuple (s.parts.map partD)]) = true from g2)).2 (.str s.word) (by simp)
theorem shp_pol {p : Pol} (hp : GP p) : shp (Pol.d p) = true := by
  obtain ⟨h1, h2⟩ := lay_shs p.shs (gp_words hp)
  have hk := hp.ok.kd
  unfold shp SeqAt.shaped
  simp only [Pol.d, shsD, toPy, toPys, PyData.canLay0, PyData.canLayAll0, PyData.depth, PyData.depthAll, hk, h1, Bool.and_true, Bool.true_and, decide_eq_true_eq]
  omega
theorem eqvs_ints : ∀ a b : List Int, PyData.eqvAll (toPys (a.map D.int)) (toPys (b.map D.int)) = decide (a = b)
  | [], [] => by simp [toPys, PyData.eqvAll]
  | [], _ :: _ => by simp [toPys, PyData.eqvAll]
  | _ :: _, [] => by simp [toPys, PyData.eqvAll]
  | x :: a, y :: b => by
    have ih := eqvs_ints a b
    have e : PyData.eqv (toPy (.int x)) (toPy (.int y)) = decide (x = y) := eqD_int x y
    simp only [List.map_cons, toPys, PyData.eqvAll, ih, e, List.cons.injEq, Bool.decide_and]
theorem eqD_ints (a b : List Int) : eqD (.list (a.map .int)) (.list (b.map .int)) = decide (a = b) := by
  unfold eqD
  simp only [toPy, PyData.eqv]
  exact eqvs_ints a b
theorem perm_names {n : Int} {g : List Int} (hp : g.Perm (rgI n)) : namesD n (itup g) = true := by
  have e : (g.map D.int).map intOf = g := by
    rw [List.map_map]; conv => rhs; rw [← List.map_id g]
    rfl
  simp only [namesD, itup, e, Bool.and_eq_true, decide_eq_true_eq]
  refine ⟨?_, ?_⟩
  · rw [List.all_map, List.all_eq_true]
    intro x hx
    have := mem_rgI.mp (hp.mem_iff.mp hx)
    show within (.int x) 0 (n - 1) = true
    simp [within]; omega
  · refine perm_one (r := fun a b : Int => a ≤ b) (fun a b h1 h2 => by omega) ((isort_perm g).trans hp) (isort_up g) ?_
    unfold rgI
    rw [List.pairwise_map]
    exact List.pairwise_lt_range.imp fun h => by omega
theorem rot_perm {g h : List Int} {k : Nat} {x : Int} (hp : g.Perm h) (hx : g[k]? = some x) : (g.eraseIdx k ++ [x]).Perm h := by
  obtain ⟨hk, e⟩ := List.getElem?_eq_some_iff.mp hx
  have : (x :: g.eraseIdx k).Perm g := by
    rw [List.eraseIdx_eq_take_drop_succ]
    conv => rhs; rw [← List.take_append_drop k g, List.drop_eq_getElem_cons hk, e]
    exact List.perm_middle.symm
  exact (List.perm_append_comm.trans this).trans hp
theorem names_long {n : Int} {ds : List D} (hn : 0 ≤ n) (h : (ds.length : Int) ≠ n) : namesD n (.tuple ds) = false := by
  have : isort (ds.map intOf) ≠ rgI n := fun z => by
    have l := congrArg List.length z
    rw [isort_len, List.length_map, rgI_len] at l
    omega
  simp only [namesD, decide_eq_false this, Bool.and_false]
theorem names_big {n : Int} {ds : List D} (h : (.int n) ∈ ds) : namesD n (.tuple ds) = false := by
  have : ds.all (fun x => within x 0 (n - 1)) = false := by
    rw [List.all_eq_false]
    refine ⟨_, h, ?_⟩
    simp [within]
    omega
  simp only [namesD, this, Bool.false_and]
def c__law_without : Ct := fun ds r => ∃ p row, ds = [Pol.d p, lst row] ∧ GP p ∧ Row row ∧ (∀ s ∈ p.shs, s.parts.length ≤ 20) ∧ r = .ok (.bool true)
theorem pPol_few {row : List Int} {most : Int} (hR : Row row) (hm : 1 ≤ most ∧ most ≤ 6) : ∀ s ∈ (pPol row most).shs, s.parts.length ≤ 20 := fun s hs => by
  obtain ⟨t, _, rfl⟩ := List.mem_map.mp hs
  have := (parts_ok hR hm (t := t)).2.2.2
  omega
theorem shp_end (e : Int × Int) : shp (endD e) = true := by
  simp [shp, endD, pairD, toPy, toPys, SeqAt.shaped, PyData.canLay0, PyData.canLayAll0, PyData.depth, PyData.depthAll]
theorem cut_last (xs : List D) : cutD xs none (some (-1)) = xs.dropLast := by
  simp only [cutD, HT.sIx]
  rw [if_pos (by decide), List.drop_zero, Nat.sub_zero, List.dropLast_eq_take]
  congr 1
  omega
end Ly

namespace Ly
open PySem L2
/-! ### how many there are -/
def Card {α : Type} (P : α → Prop) (m : Int) : Prop := ∃ l : List α, l.Nodup ∧ (∀ v, v ∈ l ↔ P v) ∧ (l.length : Int) = m
section
variable {α β : Type} {P Q : α → Prop} {m m' : Int}
theorem Card.uniq (h : Card P m) (h' : Card P m') : m = m' := by
  obtain ⟨l, n1, m1, e1⟩ := h
  obtain ⟨l', n2, m2, e2⟩ := h'
  have : l.Perm l' := (List.perm_ext_iff_of_nodup n1 n2).mpr fun v => by rw [m1, m2]
  rw [← e1, ← e2, this.length_eq]
theorem Card.congr (h : Card P m) (e : ∀ v, P v ↔ Q v) : Card Q m := by
  obtain ⟨l, n1, m1, e1⟩ := h
  exact ⟨l, n1, fun v => by rw [m1, e], e1⟩
theorem Card.none (h : ∀ v, ¬ P v) : Card P 0 := ⟨[], .nil, fun v => by simpa using h v, rfl⟩
theorem Card.one {a : α} (h : ∀ v, P v ↔ v = a) : Card P 1 := ⟨[a], by simp, fun v => by simp [h], rfl⟩
theorem Card.map {f : α → β} {R : β → Prop} (h : Card P m) (inj : ∀ a b, P a → P b → f a = f b → a = b) (e : ∀ y, R y ↔ ∃ a, P a ∧ f a = y) : Card R m := by
  obtain ⟨l, n1, m1, e1⟩ := h
  refine ⟨l.map f, ?_, fun y => ?_, by rw [List.length_map]; exact e1⟩
  · unfold List.Nodup
    rw [List.pairwise_map]
    exact List.Pairwise.imp_of_mem (fun {a b} ha hb hne z => hne (inj a b ((m1 a).mp ha) ((m1 b).mp hb) z)) n1
  · rw [List.mem_map, e]
    constructor
    · rintro ⟨a, ha, rfl⟩; exact ⟨a, (m1 a).mp ha, rfl⟩
    · rintro ⟨a, ha, rfl⟩; exact ⟨a, (m1 a).mpr ha, rfl⟩
theorem Card.iff (h : Card P m) : 0 < m ↔ ∃ v, P v := by
  obtain ⟨l, n1, m1, e1⟩ := h
  constructor
  · intro z
    cases l with
    | nil => simp at e1; omega
    | cons a l => exact ⟨a, (m1 a).mp (by simp)⟩
  · rintro ⟨v, hv⟩
    have := (m1 v).mpr hv
    cases l with
    | nil => cases this
    | cons a l => simp at e1; omega
theorem len_flat (f : α → List β) : ∀ l : List α, ((l.flatMap f).length : Int) = (l.map fun a => ((f a).length : Int)).sum
  | [] => rfl
  | a :: l => by
    rw [List.flatMap_cons, List.length_append, List.map_cons, List.sum_cons, ← len_flat f l]; simp
theorem sum_const {γ : Type} (c : Int) : ∀ l : List γ, (l.map fun _ => c).sum = (l.length : Int) * c
  | [] => by simp
  | _ :: l => by
    rw [List.map_cons, List.sum_cons, sum_const c l, List.length_cons]
    have : ((l.length + 1 : Nat) : Int) * c = (l.length : Int) * c + c := by rw [Int.natCast_add, Int.add_mul]; simp
    omega
end
/-! ### sums of two -/
def addF (x y : Int → Int) : Int → Int := fun i => x i + y i
def conv (a b : List Int) (s : Nat) : Int := ((List.range (s + 1)).map fun t => rw_ a t * rw_ b (s - t)).sum
theorem csum_add (x y : Int → Int) : ∀ k : List Int, csum (addF x y) k = csum x k + csum y k
  | [] => rfl
  | i :: k => by
    have := csum_add x y k
    unfold csum at *
    rw [List.map_cons, List.map_cons, List.map_cons, List.sum_cons, List.sum_cons, List.sum_cons, this]
    show x i + y i + _ = _
    omega
theorem csum_zero {x : Int → Int} : ∀ {k : List Int}, (∀ i ∈ k, x i = 0) → csum x k = 0
  | [], _ => rfl
  | i :: k, h => by
    have := csum_zero (x := x) (k := k) fun j hj => h j (by simp [hj])
    unfold csum at *
    rw [List.map_cons, List.sum_cons, this, h i (by simp)]; rfl
theorem csum_nonneg {x : Int → Int} (h : ∀ i, 0 ≤ x i) : ∀ k : List Int, 0 ≤ csum x k
  | [] => by simp [csum]
  | i :: k => by
    have := csum_nonneg h k
    have := h i
    unfold csum at *
    rw [List.map_cons, List.sum_cons]; omega
theorem choose_lists {X : Nat → (Int → Int) → Prop} {a : List Int} {s : Nat} (ha : ∀ t, t ≤ s → Card (X t) (rw_ a t)) : ∃ lx : Nat → List (Int → Int), ∀ t, t ≤ s → (lx t).Nodup ∧ (∀ v, v ∈ lx t ↔ X t v) ∧ ((lx t).length : Int) = rw_ a t := by
  have h : ∀ t, ∃ l : List (Int → Int), t ≤ s → l.Nodup ∧ (∀ v, v ∈ l ↔ X t v) ∧ (l.length : Int) = rw_ a t := fun t => by
    by_cases q : t ≤ s
    · obtain ⟨l, h1⟩ := ha t q
      exact ⟨l, fun _ => h1⟩
    · exact ⟨[], fun z => absurd z q⟩
  exact ⟨fun t => (h t).choose, fun t => (h t).choose_spec⟩
theorem card_join {X Y : Nat → (Int → Int) → Prop} {U V : List Int} (hd : ∀ i, i ∈ U → i ∉ V) (hx : ∀ t v, X t v → (∀ i, i ∉ U → v i = 0) ∧ csum v U = (t : Int)) (hy : ∀ t v, Y t v → ∀ i, i ∉ V → v i = 0)
    {a b : List Int} {s : Nat} (ha : ∀ t, t ≤ s → Card (X t) (rw_ a t)) (hb : ∀ t, t ≤ s → Card (Y t) (rw_ b t)) : Card (fun v => ∃ t, t ≤ s ∧ ∃ x y, X t x ∧ Y (s - t) y ∧ v = addF x y) (conv a b s) := by
  obtain ⟨lx, hlx⟩ := choose_lists ha
  obtain ⟨ly, hly⟩ := choose_lists hb
  have xs : ∀ {t t' x x' y y'}, X t x → X t' x' → Y (s - t) y → Y (s - t') y' → addF x y = addF x' y' → x = x' ∧ y = y' := fun {t t' x x' y y'} h1 h2 h3 h4 e => by
    have e' : ∀ i, x i + y i = x' i + y' i := fun i => congrFun e i
    refine ⟨funext fun i => ?_, funext fun i => ?_⟩
    · by_cases hi : i ∈ U
      · have := e' i
        rw [hy _ _ h3 i (hd i hi), hy _ _ h4 i (hd i hi)] at this
        omega
      · rw [(hx _ _ h1).1 i hi, (hx _ _ h2).1 i hi]
    · by_cases hi : i ∈ U
      · rw [hy _ _ h3 i (hd i hi), hy _ _ h4 i (hd i hi)]
      · have := e' i
        rw [(hx _ _ h1).1 i hi, (hx _ _ h2).1 i hi] at this
        omega
  refine ⟨(List.range (s + 1)).flatMap fun t => (lx t).flatMap fun x => (ly (s - t)).map (addF x), ?_, fun v => ?_, ?_⟩
  · unfold List.Nodup
    rw [List.pairwise_flatMap]
    refine ⟨fun t ht => ?_, ?_⟩
    · have ts : t ≤ s := by have := List.mem_range.mp ht; omega
      rw [List.pairwise_flatMap]
      refine ⟨fun x hx' => ?_, ?_⟩
      · rw [List.pairwise_map]
        refine List.Pairwise.imp_of_mem (fun {y y'} hy1 hy2 hne z => hne ?_) (hly (s - t) (by omega)).1
        exact (xs (((hlx t ts).2.1 x).mp hx') (((hlx t ts).2.1 x).mp hx') (((hly _ (by omega)).2.1 y).mp hy1) (((hly _ (by omega)).2.1 y').mp hy2) z).2
      · refine List.Pairwise.imp_of_mem (fun {x x'} hx1 hx2 hne v hv w hw z => hne ?_) (hlx t ts).1
        obtain ⟨y, hy1, rfl⟩ := List.mem_map.mp hv
        obtain ⟨y', hy2, rfl⟩ := List.mem_map.mp hw
        exact (xs (((hlx t ts).2.1 x).mp hx1) (((hlx t ts).2.1 x').mp hx2) (((hly _ (by omega)).2.1 y).mp hy1) (((hly _ (by omega)).2.1 y').mp hy2) z).1
    · refine List.Pairwise.imp_of_mem (fun {t t'} ht1 ht2 hne v hv w hw z => ?_) List.nodup_range
      have ts : t ≤ s := by have := List.mem_range.mp ht1; omega
      have ts' : t' ≤ s := by have := List.mem_range.mp ht2; omega
      obtain ⟨x, hx1, hv⟩ := List.mem_flatMap.mp hv
      obtain ⟨x', hx2, hw⟩ := List.mem_flatMap.mp hw
      obtain ⟨y, hy1, rfl⟩ := List.mem_map.mp hv
      obtain ⟨y', hy2, rfl⟩ := List.mem_map.mp hw
      have q1 := ((hlx t ts).2.1 x).mp hx1
      have q2 := ((hlx t' ts').2.1 x').mp hx2
      have e := (xs q1 q2 (((hly _ (by omega)).2.1 y).mp hy1) (((hly _ (by omega)).2.1 y').mp hy2) z).1
      subst e
      have z1 := (hx _ _ q1).2
      have z2 := (hx _ _ q2).2
      omega
  · constructor
    · intro hv
      obtain ⟨t, ht, hv⟩ := List.mem_flatMap.mp hv
      have ts : t ≤ s := by have := List.mem_range.mp ht; omega
      obtain ⟨x, hx1, hv⟩ := List.mem_flatMap.mp hv
      obtain ⟨y, hy1, rfl⟩ := List.mem_map.mp hv
      exact ⟨t, ts, x, y, ((hlx t ts).2.1 x).mp hx1, ((hly _ (by omega)).2.1 y).mp hy1, rfl⟩
    · rintro ⟨t, ts, x, y, h1, h2, rfl⟩
      exact List.mem_flatMap.mpr ⟨t, List.mem_range.mpr (by omega), List.mem_flatMap.mpr ⟨x, ((hlx t ts).2.1 x).mpr h1, List.mem_map.mpr ⟨y, ((hly _ (by omega)).2.1 y).mpr h2, rfl⟩⟩⟩
  · rw [len_flat]
    unfold conv
    congr 1
    refine List.map_congr_left fun t ht => ?_
    have ts : t ≤ s := by have := List.mem_range.mp ht; omega
    rw [len_flat]
    simp only [List.length_map]
    rw [sum_const, (hlx t ts).2.2, (hly (s - t) (by omega)).2.2]
/-! ### counts of a lot's things -/
structure InK (L : List (List Int)) (en : List Int → Int × Int) (k : List Int) (s : Nat) (v : Int → Int) : Prop where
  out : ∀ i, i ∉ k → v i = 0
  pos : ∀ i, 0 ≤ v i
  sum : csum v k = (s : Int)
  ok : ∀ j ∈ L, sub j k → (en j).1 ≤ csum v j ∧ csum v j ≤ (en j).2
structure InP (L : List (List Int)) (en : List Int → Int × Int) (ps : List (List Int)) (s : Nat) (v : Int → Int) : Prop where
  out : ∀ i, i ∉ ps.flatten → v i = 0
  pos : ∀ i, 0 ≤ v i
  sum : csum v ps.flatten = (s : Int)
  ok : ∀ q ∈ ps, ∀ j ∈ L, sub j q → (en j).1 ≤ csum v j ∧ csum v j ≤ (en j).2
section
variable {n : Int} {L : List (List Int)} {en : List Int → Int × Int}
theorem inP_nil {s : Nat} {v : Int → Int} : InP L en [] s v ↔ s = 0 ∧ v = fun _ => 0 := by
  constructor
  · intro h
    have := h.sum
    simp [csum] at this
    exact ⟨by omega, funext fun i => h.out i (by simp)⟩
  · rintro ⟨rfl, rfl⟩
    exact ⟨fun _ _ => rfl, fun _ => Int.le_refl _, by simp [csum], fun q hq => by cases hq⟩
theorem inP_snoc {ps : List (List Int)} {q : List Int} (hq : ∀ i ∈ ps.flatten, i ∉ q) {s : Nat} {v : Int → Int} : InP L en (ps ++ [q]) s v ↔ ∃ t, t ≤ s ∧ ∃ x y, InP L en ps t x ∧ InK L en q (s - t) y ∧ v = addF x y := by
  have fl : (ps ++ [q]).flatten = ps.flatten ++ q := by simp
  constructor
  · intro h
    have hs := h.sum
    rw [fl, csum_append] at hs
    have n1 := csum_nonneg h.pos ps.flatten
    have n2 := csum_nonneg h.pos q
    have cx : ∀ j : List Int, (∀ i ∈ j, i ∉ q) → csum (fun i => if i ∈ q then 0 else v i) j = csum v j := fun j hj => csum_congr fun i hi => by simp [hj i hi]
    have cy : ∀ j : List Int, sub j q → csum (fun i => if i ∈ q then v i else 0) j = csum v j := fun j hj => csum_congr fun i hi => by simp [hj i hi]
    refine ⟨(csum v ps.flatten).toNat, by omega, fun i => if i ∈ q then 0 else v i, fun i => if i ∈ q then v i else 0, ⟨fun i hi => ?_, fun i => ?_, ?_, fun q' hq' j hj hs' => ?_⟩, ⟨fun i hi => ?_, fun i => ?_, ?_, fun j hj hs' => ?_⟩, funext fun i => ?_⟩
    · by_cases z : i ∈ q
      · simp [z]
      · simp only [z, if_false]
        exact h.out i (by rw [fl, List.mem_append]; exact fun w => w.elim hi z)
    · have := h.pos i
      by_cases z : i ∈ q <;> simp [z, this]
    · rw [cx _ hq, Int.toNat_of_nonneg n1]
    · rw [cx j fun i hi => hq i (List.mem_flatten.mpr ⟨q', hq', hs' i hi⟩)]
      exact h.ok q' (by simp [hq']) j hj hs'
    · simp [hi]
    · have := h.pos i
      by_cases z : i ∈ q <;> simp [z, this]
    · rw [cy q fun _ z => z]; omega
    · rw [cy j hs']
      exact h.ok q (by simp) j hj hs'
    · unfold addF
      by_cases z : i ∈ q <;> simp [z]
  · rintro ⟨t, ts, x, y, hx, hy, rfl⟩
    have y0 : ∀ j : List Int, (∀ i ∈ j, i ∉ q) → csum y j = 0 := fun j hj => csum_zero fun i hi => hy.out i (hj i hi)
    have x0 : ∀ j : List Int, sub j q → csum x j = 0 := fun j hj => csum_zero fun i hi => hx.out i fun z => hq i z (hj i hi)
    refine ⟨fun i hi => ?_, fun i => ?_, ?_, fun q' hq' j hj hs' => ?_⟩
    · rw [fl, List.mem_append, not_or] at hi
      unfold addF
      rw [hx.out i hi.1, hy.out i hi.2]; rfl
    · have := hx.pos i
      have := hy.pos i
      unfold addF; omega
    · have e1 := hx.sum
      have e2 := hy.sum
      rw [fl, csum_append, csum_add, csum_add, y0 _ hq, x0 q fun _ z => z, e1, e2]
      omega
    · rcases List.mem_append.mp hq' with z | z
      · rw [csum_add, y0 j fun i hi => hq i (List.mem_flatten.mpr ⟨q', z, hs' i hi⟩), Int.add_zero]
        exact hx.ok q' z j hj hs'
      · have e : q' = q := by simpa using z
        subst e
        rw [csum_add, x0 j hs', Int.zero_add]
        exact hy.ok j hj hs'
theorem inK_inner (l : Lam n L) {k : List Int} (hk : k ∈ L) (h2 : 1 < k.length) {s : Nat} {v : Int → Int} : InK L en k s v ↔ ((en k).1 ≤ (s : Int) ∧ (s : Int) ≤ (en k).2) ∧ InP L en (partsOf L k) s v := by
  have pm := l.perm hk h2
  obtain ⟨p1, p2, p3⟩ := l.parts hk
  constructor
  · intro h
    have hs := h.sum
    have o := h.ok k hk fun _ z => z
    rw [hs] at o
    refine ⟨o, fun i hi => h.out i fun z => hi (pm.mem_iff.mpr z), h.pos, by rw [csum_perm pm]; exact hs, fun q hq j hj hs' => h.ok j hj fun i hi => (p1 q hq).2.2 i (hs' i hi)⟩
  · rintro ⟨o, h⟩
    have hs := h.sum
    rw [csum_perm pm] at hs
    refine ⟨fun i hi => h.out i fun z => hi (pm.mem_iff.mp z), h.pos, hs, fun j hj hs' => ?_⟩
    by_cases e : j = k
    · subst e; rw [hs]; exact o
    · obtain ⟨f, hf, hjf⟩ := p3 j hj (l.sub_len hj hk hs' e) (hs' _ (hd_mem (l.ne j hj)))
      exact h.ok f hf j hj hjf
theorem inK_leaf (l : Lam n L) {i : Int} (hk : [i] ∈ L) {s : Nat} {v : Int → Int} : InK L en [i] s v ↔ ((en [i]).1 ≤ (s : Int) ∧ (s : Int) ≤ (en [i]).2) ∧ v = fun j => if j = i then (s : Int) else 0 := by
  have c1 : ∀ w : Int → Int, csum w [i] = w i := fun w => by simp [csum]
  constructor
  · intro h
    have hs := h.sum
    have o := h.ok [i] hk fun _ z => z
    rw [hs] at o
    rw [c1] at hs
    refine ⟨o, funext fun j => ?_⟩
    by_cases e : j = i
    · subst e; simp [hs]
    · simp only [e, if_false]; exact h.out j (by simpa using e)
  · rintro ⟨o, rfl⟩
    refine ⟨fun j hj => ?_, fun j => ?_, by rw [c1]; simp, fun j hj hs' => ?_⟩
    · have : j ≠ i := by simpa using hj
      simp [this]
    · show 0 ≤ if j = i then (s : Int) else 0
      split <;> omega
    · have e : j = [i] := by
        by_cases z : j = [i]
        · exact z
        · have q := l.sub_len hj hk hs' z
          have := l.ne j hj
          simp at q
          exact absurd q this
      subst e
      rw [c1]; simpa using o
end
/-! ### rows, as the program makes them -/
def joinR (N : Nat) (a b : List Int) : List Int := (List.range (N + 1)).map (conv a b)
def here0 (N : Nat) (k : List Int) : List Int := if k.length = 1 then List.replicate (N + 1) 1 else 1 :: List.replicate N 0
def hereOf (N : Nat) (R : List Int → List Int) (ps : List (List Int)) (h : List Int) : List Int := ps.foldl (fun h q => joinR N h (R q)) h
def maskR (e : Int × Int) (h : List Int) : List Int := (List.range h.length).map fun (i : Nat) => if e.1 ≤ (i : Int) ∧ (i : Int) ≤ e.2 then rw_ h i else 0
def rowAt (N : Nat) (L : List (List Int)) (en : List Int → Int × Int) (R : List Int → List Int) (k : List Int) : List Int := maskR (en k) (hereOf N R (partsOf L k) (here0 N k))
structure RowOk (N : Nat) (L : List (List Int)) (en : List Int → Int × Int) (k : List Int) (r : List Int) : Prop where
  len : r.length = N + 1
  card : ∀ s, s ≤ N → Card (InK L en k s) (rw_ r s)
theorem rw_range {f : Nat → Int} {m i : Nat} (h : i < m) : rw_ ((List.range m).map f) i = f i := by
  unfold rw_
  rw [List.getD_eq_getElem?_getD, List.getElem?_map, List.getElem?_range h]; rfl
theorem joinR_len (N : Nat) (a b : List Int) : (joinR N a b).length = N + 1 := by simp [joinR]
theorem rw_joinR {N s : Nat} {a b : List Int} (h : s ≤ N) : rw_ (joinR N a b) s = conv a b s := rw_range (by omega)
theorem here0_len (N : Nat) (k : List Int) : (here0 N k).length = N + 1 := by unfold here0; split <;> simp
theorem maskR_len (e : Int × Int) (h : List Int) : (maskR e h).length = h.length := by simp [maskR]
theorem rw_maskR {e : Int × Int} {h : List Int} {s : Nat} (hs : s < h.length) : rw_ (maskR e h) s = if e.1 ≤ (s : Int) ∧ (s : Int) ≤ e.2 then rw_ h s else 0 := rw_range hs
section
variable {n : Int} {L : List (List Int)} {en : List Int → Int × Int} {N : Nat} {R : List Int → List Int}
theorem here_fold : ∀ (ps done : List (List Int)) (h : List Int), h.length = N + 1 → (done ++ ps).Pairwise dis → (∀ s, s ≤ N → Card (InP L en done s) (rw_ h s)) → (∀ q ∈ ps, RowOk N L en q (R q)) →
    (hereOf N R ps h).length = N + 1 ∧ ∀ s, s ≤ N → Card (InP L en (done ++ ps) s) (rw_ (hereOf N R ps h) s)
  | [], done, h, hl, _, hc, _ => by rw [List.append_nil]; exact ⟨hl, hc⟩
  | q :: ps, done, h, hl, hd, hc, hr => by
    have hq := hr q (by simp)
    have e : done ++ q :: ps = (done ++ [q]) ++ ps := by simp
    have dq : ∀ i ∈ done.flatten, i ∉ q := fun i hi => by
      obtain ⟨f, hf, hif⟩ := List.mem_flatten.mp hi
      exact (List.pairwise_append.mp hd).2.2 f hf q (by simp) i hif
    rw [e] at hd ⊢
    refine here_fold ps (done ++ [q]) (joinR N h (R q)) (joinR_len _ _ _) hd (fun s hs => ?_) fun q' hq' => hr q' (by simp [hq'])
    rw [rw_joinR hs]
    refine (card_join (X := fun t v => InP L en done t v) (Y := fun t v => InK L en q t v) (U := done.flatten) (V := q) dq (fun t v hv => ⟨hv.out, hv.sum⟩) (fun t v hv => hv.out) (fun t ht => hc t (by omega)) (fun t ht => hq.card t (by omega))).congr fun v => (inP_snoc dq).symm
theorem row_ok (l : Lam n L) {k : List Int} (hk : k ∈ L) (hr : ∀ q ∈ partsOf L k, RowOk N L en q (R q)) : RowOk N L en k (rowAt N L en R k) := by
  by_cases h2 : 1 < k.length
  · obtain ⟨a, b⟩ := here_fold (partsOf L k) [] (here0 N k) (here0_len N k) (by simpa using (l.parts hk).2.1) (fun s hs => by
      unfold here0
      rw [if_neg (by omega)]
      cases s with
      | zero => exact (Card.one (a := fun _ : Int => (0 : Int)) fun v => by rw [inP_nil]; simp : Card (InP L en [] 0) 1)
      | succ s =>
        have e : rw_ (1 :: List.replicate N 0) (s + 1) = 0 := by
          unfold rw_
          rw [List.getD_cons_succ, List.getD_eq_getElem?_getD, List.getElem?_replicate]
          split <;> rfl
        rw [e]
        exact Card.none fun v => by rw [inP_nil]; simp) hr
    refine ⟨by unfold rowAt; rw [maskR_len]; exact a, fun s hs => ?_⟩
    unfold rowAt
    rw [rw_maskR (by omega)]
    split
    · rename_i z
      exact (b s hs).congr fun v => by rw [inK_inner l hk h2]; simp [z]
    · rename_i z
      exact Card.none fun v hv => z ((inK_inner l hk h2).mp hv).1
  · have h1 : k.length = 1 := by
      have := l.ne k hk
      cases k with
      | nil => exact absurd rfl this
      | cons a k => simp at h2 ⊢; exact h2
    obtain ⟨i, rfl⟩ := List.length_eq_one_iff.mp h1
    have pe := l.leaf hk (by omega)
    unfold rowAt hereOf here0
    rw [pe, if_pos h1]
    refine ⟨by rw [maskR_len]; simp, fun s hs => ?_⟩
    rw [List.foldl_nil, rw_maskR (by simp; omega)]
    split
    · rename_i z
      have e : rw_ (List.replicate (N + 1) 1) s = 1 := by
        unfold rw_
        rw [List.getD_eq_getElem?_getD, List.getElem?_replicate, if_pos (by omega)]; rfl
      rw [e]
      exact Card.one (a := fun j => if j = i then (s : Int) else 0) fun v => by rw [inK_leaf l hk]; simp [z]
    · rename_i z
      exact Card.none fun v hv => z ((inK_leaf l hk).mp hv).1
end
end Ly

namespace Ly
open PySem L2
/-! ### how many counts show a poll -/
def OkC (p : Pol) (N : Int) (cs : List Int) : Prop := AreC p N cs ∧ Shows p N cs
section
variable {p : Pol} (hp : GP p)
include hp
theorem one_card {N : Nat} (hN : 1 ≤ N) (hk : p.kind = "one") {m : Int} (h : Card (InK (allLots p) (endsAt p (N : Int)) (rgI p.n) N) m) : Card (OkC p (N : Int)) m := by
  have hn := hp.n
  have l := gp_lam hp
  have inr : ∀ j ∈ allLots p, sub j (rgI p.n) := fun j hj x hx => mem_rgI.mpr (l.rg j hj x hx)
  refine Card.map (f := fun v : Int → Int => (List.range p.n.toNat).map fun (i : Nat) => v (i : Int)) h (fun a b ha hb e => funext fun i => ?_) fun cs => ⟨fun hc => ?_, ?_⟩
  · by_cases z : i ∈ rgI p.n
    · have z' := mem_rgI.mp z
      have := congrArg (fun l => rw_ l i.toNat) e
      rw [rw_range (by omega), rw_range (by omega), Int.toNat_of_nonneg z'.1] at this
      exact this
    · rw [ha.out i z, hb.out i z]
  · obtain ⟨ha, hs⟩ := hc
    have fe := (feas_shows hp (by omega) ha).mpr hs
    have cc : ∀ j, sub j (rgI p.n) → csum (fun i => if i ∈ rgI p.n then cOf cs i else 0) j = csum (cOf cs) j := fun j hj => csum_congr fun i hi => by simp [hj i hi]
    refine ⟨fun i => if i ∈ rgI p.n then cOf cs i else 0, ⟨fun i hi => by simp [hi], fun i => ?_, ?_, fun j hj hs' => ?_⟩, ?_⟩
    · by_cases z : i ∈ rgI p.n
      · simp only [z, if_true]
        exact rw_mem (fun z => 0 ≤ z) (Int.le_refl _) fun y hy => (ha.bd y hy).1
      · simp [z]
    · rw [cc _ fun _ z => z, csum_all ha.len, ha.sum hk]
    · rw [cc j hs']; exact fe j hj
    · have e : p.n.toNat = cs.length := by have := ha.len; omega
      conv => rhs; rw [← rg_list cs]
      rw [e]
      refine List.map_congr_left fun i hi => ?_
      have := List.mem_range.mp hi
      have z : (i : Int) ∈ rgI p.n := mem_rgI.mpr (by omega)
      simp [z, cOf]
  · rintro ⟨v, hv, rfl⟩
    have fe : Feas (allLots p) (endsAt p (N : Int)) v := fun j hj => hv.ok j hj (inr j hj)
    obtain ⟨a, b⟩ := feas_list hp (by omega) fe
    exact ⟨a, (feas_shows hp (by omega) a).mp b⟩
end
/-! kind some -/
def prodW (f : Nat → Int × Int) : Nat → Int
  | 0 => 1
  | i + 1 => prodW f i * max 0 ((f i).2 - (f i).1 + 1)
def spanL (e : Int × Int) : List Int := (List.range (e.2 - e.1 + 1).toNat).map fun (i : Nat) => e.1 + (i : Int)
theorem mem_span {e : Int × Int} {x : Int} : x ∈ spanL e ↔ e.1 ≤ x ∧ x ≤ e.2 := by
  unfold spanL
  simp only [List.mem_map, List.mem_range]
  constructor
  · rintro ⟨i, hi, rfl⟩; omega
  · intro h; exact ⟨(x - e.1).toNat, by omega, by omega⟩
theorem span_nd (e : Int × Int) : (spanL e).Nodup := by
  unfold spanL List.Nodup
  rw [List.pairwise_map]
  exact List.nodup_range.imp fun h => by omega
theorem span_len (e : Int × Int) : ((spanL e).length : Int) = max 0 (e.2 - e.1 + 1) := by simp [spanL]; omega
theorem snoc_inj {a b : List Int} {x y : Int} (h : a ++ [x] = b ++ [y]) : a = b ∧ x = y := by
  have := List.append_inj' h rfl
  exact ⟨this.1, by simpa using this.2⟩
theorem rw_snoc_lt {c : List Int} {x : Int} {i : Nat} (h : i < c.length) : rw_ (c ++ [x]) i = rw_ c i := by
  unfold rw_; rw [List.getD_eq_getElem?_getD, List.getElem?_append_left h, ← List.getD_eq_getElem?_getD]
theorem rw_snoc_eq (c : List Int) (x : Int) : rw_ (c ++ [x]) c.length = x := by
  unfold rw_; rw [List.getD_eq_getElem?_getD, List.getElem?_append_right (Nat.le_refl _)]; simp
theorem card_prod (f : Nat → Int × Int) : ∀ i, Card (fun cs : List Int => cs.length = i ∧ ∀ j, j < i → (f j).1 ≤ rw_ cs j ∧ rw_ cs j ≤ (f j).2) (prodW f i)
  | 0 => Card.one (a := []) fun v => by simp
  | i + 1 => by
    obtain ⟨l, n1, m1, e1⟩ := card_prod f i
    refine ⟨l.flatMap fun c => (spanL (f i)).map fun x => c ++ [x], ?_, fun cs => ?_, ?_⟩
    · unfold List.Nodup
      rw [List.pairwise_flatMap]
      refine ⟨fun c hc => ?_, List.Pairwise.imp_of_mem (fun {a b} ha hb hne v hv w hw z => hne ?_) n1⟩
      · rw [List.pairwise_map]
        exact (span_nd (f i)).imp fun h z => h (snoc_inj z).2
      · obtain ⟨x, _, rfl⟩ := List.mem_map.mp hv
        obtain ⟨y, _, rfl⟩ := List.mem_map.mp hw
        exact (snoc_inj z).1
    · rw [List.mem_flatMap]
      constructor
      · rintro ⟨c, hc, hcs⟩
        obtain ⟨x, hx, rfl⟩ := List.mem_map.mp hcs
        obtain ⟨c1, c2⟩ := (m1 c).mp hc
        refine ⟨by simp [c1], fun j hj => ?_⟩
        rcases Nat.lt_or_ge j i with z | z
        · rw [rw_snoc_lt (by omega)]; exact c2 j z
        · have e : j = c.length := by omega
          rw [e, rw_snoc_eq, c1]; exact mem_span.mp hx
      · rintro ⟨h1, h2⟩
        have hne : cs ≠ [] := fun z => by rw [z] at h1; simp at h1
        have e : cs.dropLast ++ [cs.getLast hne] = cs := List.dropLast_concat_getLast hne
        have ld : cs.dropLast.length = i := by simp [h1]
        refine ⟨cs.dropLast, (m1 _).mpr ⟨ld, fun j hj => ?_⟩, List.mem_map.mpr ⟨cs.getLast hne, mem_span.mpr ?_, e⟩⟩
        · have := h2 j (by omega)
          rw [← e, rw_snoc_lt (by omega)] at this; exact this
        · have := h2 i (by omega)
          rw [← e] at this
          have q := rw_snoc_eq cs.dropLast (cs.getLast hne)
          rw [ld] at q
          rw [q] at this; exact this
    · rw [len_flat]
      simp only [List.length_map]
      rw [sum_const, e1, span_len]; rfl
section
variable {p : Pol} (hp : GP p)
include hp
theorem some_lots (hk : p.kind = "some") : ∀ k ∈ allLots p, ∃ i : Nat, i < p.n.toNat ∧ k = [(i : Int)] := fun k h => by
  rcases mem_allLots.mp h with z | z | ⟨s, hs, q, hq, rfl⟩
  · rw [hk] at z; exact absurd z.1 (by decide +kernel)
  · exact z
  · obtain ⟨l1, l2, _⟩ := lotB_facts (part_lotB hp hs hq)
    have := gp_sing hp hk s hs q hq
    have h1 : q.1.length = 1 := by
      cases e : q.1 with
      | nil => exact absurd e l1
      | cons a t => rw [e] at this; simp at this ⊢; exact this
    obtain ⟨x, e⟩ := List.length_eq_one_iff.mp h1
    have b := l2 x (by rw [e]; simp)
    exact ⟨x.toNat, by omega, by rw [e, Int.toNat_of_nonneg b.1]⟩
theorem some_card {N : Int} (hN : 1 ≤ N) (hk : p.kind = "some") : Card (OkC p N) (prodW (fun i => endsAt p N [(i : Int)]) p.n.toNat) := by
  have hn := hp.n
  refine (card_prod _ p.n.toNat).congr fun cs => ?_
  have c1 : ∀ i : Nat, csum (cOf cs) [(i : Int)] = rw_ cs i := fun i => by simp [csum, cOf]
  constructor
  · rintro ⟨h1, h2⟩
    have fe : Feas (allLots p) (endsAt p N) (cOf cs) := fun k hk' => by
      obtain ⟨i, hi, rfl⟩ := some_lots hp hk k hk'
      rw [c1]; exact h2 i hi
    obtain ⟨a, b⟩ := feas_list hp hN fe
    have e : ((List.range p.n.toNat).map fun (i : Nat) => cOf cs (i : Int)) = cs := by
      conv => rhs; rw [← rg_list cs]
      rw [h1]
      exact List.map_congr_left fun i _ => by simp [cOf]
    rw [e] at a b
    exact ⟨a, (feas_shows hp hN a).mp b⟩
  · rintro ⟨a, s⟩
    have fe := (feas_shows hp hN a).mpr s
    refine ⟨by have := a.len; omega, fun i hi => ?_⟩
    have := fe [(i : Int)] ((gp_lam hp).one (i : Int) (by omega) (by omega))
    rw [c1] at this; exact this
end
/-! ### all counts, gone through -/
def extC (one last : Bool) (N : Int) (c : List Int) : List (List Int) := if (one && last) = true then [c ++ [N - c.sum]] else (List.range ((if one = true then N - c.sum else N) + 1).toNat).map fun (i : Nat) => c ++ [(i : Int)]
def allC (one : Bool) (n : Nat) (N : Int) : Nat → List (List Int)
  | 0 => [[]]
  | t + 1 => (allC one n N t).flatMap (extC one (decide (t + 1 = n)) N)
def InC (one : Bool) (n : Nat) (N : Int) (t : Nat) (c : List Int) : Prop := c.length = t ∧ (∀ x ∈ c, 0 ≤ x ∧ x ≤ N) ∧ (one = true → if t = n then c.sum = N else c.sum ≤ N)
theorem sum_snoc (c : List Int) (x : Int) : (c ++ [x]).sum = c.sum + x := by simp
theorem sum_pos : ∀ {c : List Int}, (∀ x ∈ c, 0 ≤ x) → 0 ≤ c.sum ∧ ∀ x ∈ c, x ≤ c.sum
  | [], _ => ⟨by simp, fun x hx => by cases hx⟩
  | a :: c, h => by
    obtain ⟨h1, h2⟩ := sum_pos (c := c) fun x hx => h x (by simp [hx])
    have := h a (by simp)
    rw [List.sum_cons]
    refine ⟨by omega, fun x hx => ?_⟩
    rcases List.mem_cons.mp hx with rfl | hx
    · omega
    · have := h2 x hx; omega
theorem mem_ext {one last : Bool} {N : Int} {c d : List Int} : d ∈ extC one last N c ↔ ∃ x, d = c ++ [x] ∧ (if (one && last) = true then x = N - c.sum else 0 ≤ x ∧ x ≤ (if one = true then N - c.sum else N)) := by
  unfold extC
  by_cases h : (one && last) = true
  · rw [if_pos h]; simp [h]
  · rw [if_neg h]
    simp only [List.mem_map, List.mem_range, h]
    constructor
    · rintro ⟨i, hi, rfl⟩
      exact ⟨(i : Int), rfl, by simp only [if_false, Bool.false_eq_true]; omega⟩
    · rintro ⟨x, rfl, hx⟩
      simp only [if_false, Bool.false_eq_true] at hx
      exact ⟨x.toNat, by omega, by rw [Int.toNat_of_nonneg hx.1]⟩
theorem mem_allC {one : Bool} {n : Nat} {N : Int} (hN : 0 ≤ N) (hn : 1 ≤ n) : ∀ t, t ≤ n → ∀ c, c ∈ allC one n N t ↔ InC one n N t c
  | 0, _, c => by
    unfold allC InC
    rw [List.mem_singleton, if_neg (by omega)]
    constructor
    · rintro rfl; simp; omega
    · intro h; exact List.length_eq_zero_iff.mp h.1
  | t + 1, ht, d => by
    unfold allC
    rw [List.mem_flatMap]
    constructor
    · rintro ⟨c, hc, hd⟩
      obtain ⟨c1, c2, c3⟩ := (mem_allC hN hn t (by omega) c).mp hc
      obtain ⟨x, rfl, hx⟩ := mem_ext.mp hd
      have sp := sum_pos (c := c) fun y hy => (c2 y hy).1
      rw [if_neg (by omega)] at c3
      have hb : (0 ≤ x ∧ x ≤ N) ∧ (one = true → if t + 1 = n then c.sum + x = N else c.sum + x ≤ N) := by
        cases one with
        | false => simp at hx ⊢; exact hx
        | true =>
          have := c3 rfl
          by_cases e : t + 1 = n
          · simp [e] at hx; rw [if_pos e]; exact ⟨by omega, fun _ => by omega⟩
          · simp [e] at hx; rw [if_neg e]; exact ⟨by omega, fun _ => by omega⟩
      refine ⟨by simp [c1], fun y hy => ?_, ?_⟩
      · rcases List.mem_append.mp hy with z | z
        · exact c2 y z
        · have : y = x := by simpa using z
          rw [this]; exact hb.1
      · rw [sum_snoc]; exact hb.2
    · rintro ⟨h1, h2, h3⟩
      have hne : d ≠ [] := fun z => by rw [z] at h1; simp at h1
      have e : d.dropLast ++ [d.getLast hne] = d := List.dropLast_concat_getLast hne
      have ld : d.dropLast.length = t := by simp [h1]
      have lm : ∀ y ∈ d.dropLast, y ∈ d := fun y hy => by rw [← e]; exact List.mem_append_left _ hy
      have xm : d.getLast hne ∈ d := List.getLast_mem hne
      have sm : d.sum = d.dropLast.sum + d.getLast hne := by
        have := sum_snoc d.dropLast (d.getLast hne)
        rw [e] at this; exact this
      have xb := h2 _ xm
      refine ⟨d.dropLast, (mem_allC hN hn t (by omega) _).mpr ⟨ld, fun y hy => h2 y (lm y hy), fun ho => ?_⟩, mem_ext.mpr ⟨d.getLast hne, e.symm, ?_⟩⟩
      · have := h3 ho
        rw [if_neg (by omega)]
        split at this <;> omega
      · cases one with
        | false => simp; exact xb
        | true =>
          have := h3 rfl
          by_cases z : t + 1 = n
          · rw [if_pos z] at this; simp [z]; omega
          · rw [if_neg z] at this; simp [z]; omega
/-! in the order of tuples -/
def lx (a b : List Int) : Prop := ∃ i : Nat, i < a.length ∧ i < b.length ∧ a.take i = b.take i ∧ rw_ a i < rw_ b i
theorem lx_no {a b : List Int} (h1 : lx a b) (h2 : lx b a) : False := by
  obtain ⟨i, i1, i2, e1, l1⟩ := h1
  obtain ⟨j, j1, j2, e2, l2⟩ := h2
  have tk : ∀ {a b : List Int} {i j : Nat}, i < j → a.take j = b.take j → rw_ a i = rw_ b i := fun {a b i j} hij e => by
    have := congrArg (fun l => rw_ l i) e
    simp only [rw_, List.getD_eq_getElem?_getD, List.getElem?_take, hij, if_true] at this
    unfold rw_
    rw [List.getD_eq_getElem?_getD, List.getD_eq_getElem?_getD]; exact this
  rcases Nat.lt_trichotomy i j with z | z | z
  · have := tk z e2; omega
  · subst z; omega
  · have := tk z e1; omega
theorem lx_ne {a b : List Int} (h : lx a b) : a ≠ b := fun z => by subst z; exact lx_no h h
theorem lx_snoc {a b : List Int} {x y : Int} (h : lx a b) : lx (a ++ [x]) (b ++ [y]) := by
  obtain ⟨i, i1, i2, e1, l1⟩ := h
  refine ⟨i, by simp; omega, by simp; omega, ?_, by rw [rw_snoc_lt i1, rw_snoc_lt i2]; exact l1⟩
  rw [List.take_append_of_le_length (by omega), List.take_append_of_le_length (by omega)]; exact e1
theorem allC_up {one : Bool} {n : Nat} {N : Int} : ∀ t, (allC one n N t).Pairwise lx
  | 0 => by simp [allC]
  | t + 1 => by
    unfold allC
    rw [List.pairwise_flatMap]
    refine ⟨fun c _ => ?_, (allC_up t).imp fun h v hv w hw => ?_⟩
    · unfold extC
      split
      · simp
      · rw [List.pairwise_map]
        exact List.pairwise_lt_range.imp fun h => ⟨c.length, by simp, by simp, by simp, by rw [rw_snoc_eq, rw_snoc_eq]; omega⟩
    · obtain ⟨x, rfl, _⟩ := mem_ext.mp hv
      obtain ⟨y, rfl, _⟩ := mem_ext.mp hw
      exact lx_snoc h
theorem flat_le {α β : Type} (f : α → List β) {m : Nat} : ∀ {l : List α}, (∀ a ∈ l, (f a).length ≤ m) → (l.flatMap f).length ≤ l.length * m
  | [], _ => by simp
  | a :: l, h => by
    have := flat_le f (l := l) fun b hb => h b (by simp [hb])
    have := h a (by simp)
    rw [List.flatMap_cons, List.length_append, List.length_cons, Nat.add_mul]; omega
theorem ext_len {one last : Bool} {N : Int} {c : List Int} (hN : N ≤ 12) (hs : 0 ≤ c.sum) : (extC one last N c).length ≤ 13 := by
  unfold extC
  split
  · simp
  · rw [List.length_map, List.length_range]
    split <;> omega
theorem allC_len {one : Bool} {n : Nat} {N : Int} (hN : 0 ≤ N ∧ N ≤ 12) (hn : 1 ≤ n) : ∀ t, t ≤ n → (allC one n N t).length ≤ 13 ^ t
  | 0, _ => by simp [allC]
  | t + 1, ht => by
    unfold allC
    have := allC_len (one := one) hN hn t (by omega)
    have f := flat_le (extC one (decide (t + 1 = n)) N) (m := 13) (l := allC one n N t) fun c hc => ext_len hN.2 (sum_pos fun y hy => (((mem_allC hN.1 hn t (by omega) c).mp hc).2.1 y hy).1).1
    have e : 13 ^ (t + 1) = 13 ^ t * 13 := Nat.pow_succ 13 t
    rw [e]
    exact Nat.le_trans f (Nat.mul_le_mul_right 13 this)
/-! what the law finds -/
def someL (p : Pol) (N : Int) : List (List Int) := (allC (decide (p.kind = "one")) p.n.toNat N p.n.toNat).filter (showsB p N)
section
variable {p : Pol} (hp : GP p)
include hp
theorem all_are {N : Int} (hN : 1 ≤ N) {cs : List Int} : cs ∈ allC (decide (p.kind = "one")) p.n.toNat N p.n.toNat ↔ AreC p N cs := by
  have hn := hp.n
  rw [mem_allC (by omega) (by omega) _ (Nat.le_refl _)]
  unfold InC
  rw [if_pos rfl]
  constructor
  · rintro ⟨a, b, c⟩; exact ⟨by omega, b, fun h => c (decide_eq_true h)⟩
  · intro h; exact ⟨by have := h.len; omega, h.bd, fun z => h.sum (of_decide_eq_true z)⟩
theorem mem_some {N : Int} (hN : 1 ≤ N) {cs : List Int} : cs ∈ someL p N ↔ OkC p N cs := by
  unfold someL OkC
  rw [List.mem_filter, all_are hp hN, showsB_iff]
omit hp in
theorem some_up (p : Pol) (N : Int) : (someL p N).Pairwise lx := (allC_up _).filter _
omit hp in
theorem some_nd (p : Pol) (N : Int) : (someL p N).Nodup := (some_up p N).imp lx_ne
theorem some_count {N : Int} (hN : 1 ≤ N) {m : Int} (h : Card (OkC p N) m) : m = ((someL p N).length : Int) :=
  h.uniq ⟨someL p N, some_nd p N, fun v => mem_some hp hN, rfl⟩
theorem some_can {N : Int} (hN : 1 ≤ N) : canOf p N = !(someL p N).isEmpty := by
  rw [Bool.eq_iff_iff, can_shows hp hN]
  constructor
  · rintro ⟨cs, a, s⟩
    have := (mem_some hp hN).mpr ⟨a, s⟩
    cases e : someL p N with
    | nil => rw [e] at this; cases this
    | cons _ _ => rfl
  · intro h
    cases e : someL p N with
    | nil => rw [e] at h; cases h
    | cons c l =>
      have := (mem_some hp hN).mp (by rw [e]; simp : c ∈ someL p N)
      exact ⟨c, this⟩
theorem some_first {N : Int} (hN : 1 ≤ N) {c : List Int} {l : List (List Int)} (e : someL p N = c :: l) : countsOf p N = c := by
  have hn := hp.n
  have hc : canOf p N = true := by rw [some_can hp hN, e]; rfl
  have hm := (mem_some hp hN).mp (by rw [e]; simp : c ∈ someL p N)
  have cm : countsOf p N ∈ someL p N := (mem_some hp hN).mpr (counts_feas hp hN hc)
  rw [e] at cm
  rcases List.mem_cons.mp cm with z | z
  · exact z
  · have up := some_up p N
    rw [e, List.pairwise_cons] at up
    have h1 := up.1 _ z
    rcases counts_first hp hN hc hm.1 hm.2 with w | ⟨i, hi, e1, l1⟩
    · exact w
    · exact (lx_no h1 ⟨i, by rw [counts_len]; exact hi, by have := hm.1.len; omega, e1, l1⟩).elim
theorem some_bound {N : Int} (hN : 1 ≤ N) (hne : someL p N ≠ []) {i : Nat} (hi : i < p.n.toNat) : bdOf p N i = (minL ((someL p N).map fun c => rw_ c i), maxL ((someL p N).map fun c => rw_ c i)) := by
  have hc : canOf p N = true := by
    rw [some_can hp hN]
    cases e : someL p N with
    | nil => exact absurd e hne
    | cons _ _ => rfl
  obtain ⟨b1, b2⟩ := bd_is hp hN hc hi
  have bl := bd_le hp hN hc hi
  refine Prod.ext ?_ ?_
  · obtain ⟨cs, a, s, e⟩ := b2 _ (Int.le_refl _) bl
    refine (minL_is (List.mem_map.mpr ⟨cs, (mem_some hp hN).mpr ⟨a, s⟩, e⟩) fun y hy => ?_).symm
    obtain ⟨c, hc', rfl⟩ := List.mem_map.mp hy
    obtain ⟨a', s'⟩ := (mem_some hp hN).mp hc'
    exact (b1 c a' s').1
  · obtain ⟨cs, a, s, e⟩ := b2 _ bl (Int.le_refl _)
    refine (maxL_is (List.mem_map.mpr ⟨cs, (mem_some hp hN).mpr ⟨a, s⟩, e⟩) fun y hy => ?_).symm
    obtain ⟨c, hc', rfl⟩ := List.mem_map.mp hy
    obtain ⟨a', s'⟩ := (mem_some hp hN).mp hc'
    exact (b1 c a' s').2
end
end Ly

namespace Ly
open PySem L2
/-! ### bounds of rows -/
theorem Card.le {α β : Type} [DecidableEq β] {P : α → Prop} {Q : β → Prop} {m m' : Int} {f : α → β} (h : Card P m) (h' : Card Q m') (inj : ∀ a b, P a → P b → f a = f b → a = b) (to : ∀ a, P a → Q (f a)) : m ≤ m' := by
  obtain ⟨l, n1, m1, e1⟩ := h
  obtain ⟨l', n2, m2, e2⟩ := h'
  have nd : (l.map f).Nodup := by
    unfold List.Nodup
    rw [List.pairwise_map]
    exact List.Pairwise.imp_of_mem (fun {a b} ha hb hne z => hne (inj a b ((m1 a).mp ha) ((m1 b).mp hb) z)) n1
  have := nodup_len nd fun y hy => by
    obtain ⟨a, ha, rfl⟩ := List.mem_map.mp hy
    exact (m2 _).mpr (to a ((m1 a).mp ha))
  rw [List.length_map] at this
  omega
theorem Card.nonneg {α : Type} {P : α → Prop} {m : Int} (h : Card P m) : 0 ≤ m := by
  obtain ⟨l, _, _, e⟩ := h; omega
theorem prod_le {N : Nat} (hN : N ≤ 60) : ∀ i, 0 ≤ prodW (fun _ => ((0 : Int), (N : Int))) i ∧ prodW (fun _ => ((0 : Int), (N : Int))) i ≤ 61 ^ i
  | 0 => ⟨by show (0 : Int) ≤ 1; decide, by show (1 : Int) ≤ 1; decide⟩
  | i + 1 => by
    obtain ⟨h1, h2⟩ := prod_le hN i
    have e : prodW (fun _ => ((0 : Int), (N : Int))) (i + 1) = prodW (fun _ => ((0 : Int), (N : Int))) i * max 0 ((N : Int) - 0 + 1) := rfl
    have b : 0 ≤ max 0 ((N : Int) - 0 + 1) ∧ max 0 ((N : Int) - 0 + 1) ≤ 61 := by omega
    rw [e, Int.pow_succ]
    exact ⟨Int.mul_nonneg h1 b.1, Int.mul_le_mul h2 b.2 b.1 (by omega)⟩
theorem pow61 {i : Nat} (h : i ≤ 6) : (61 : Int) ^ i < 2 ^ 64 := by
  match i, h with
  | 0, _ | 1, _ | 2, _ | 3, _ | 4, _ | 5, _ | 6, _ => decide
theorem csum_le {v : Int → Int} (h : ∀ i, 0 ≤ v i) : ∀ {k : List Int} {i : Int}, i ∈ k → v i ≤ csum v k
  | a :: k, i, hi => by
    have e : csum v (a :: k) = v a + csum v k := by simp [csum]
    have := csum_nonneg h k
    have := h a
    rcases List.mem_cons.mp hi with rfl | hi
    · omega
    · have := csum_le h hi; omega
theorem row_bd {L : List (List Int)} {en : List Int → Int × Int} {N : Nat} {k r : List Int} (hN : N ≤ 60) (hk : k.length ≤ 6) (h : RowOk N L en k r) : ∀ x ∈ r, 0 ≤ x ∧ x < 2 ^ 64 := fun x hx => by
  obtain ⟨s, hs, rfl⟩ := List.getElem_of_mem hx
  have e : r[s] = rw_ r s := by
    unfold rw_; rw [List.getD_eq_getElem?_getD, List.getElem?_eq_getElem hs]; rfl
  rw [e]
  have c := h.card s (by have := h.len; omega)
  have le := Card.le (f := fun v : Int → Int => k.map v) c (card_prod (fun _ => ((0 : Int), (N : Int))) k.length) (fun a b ha hb z => funext fun i => ?_) fun v hv => ⟨by simp, fun j hj => ?_⟩
  · have := prod_le hN k.length
    have := pow61 hk
    have := c.nonneg
    omega
  · by_cases w : i ∈ k
    · exact List.map_inj_left.mp z i w
    · rw [ha.out i w, hb.out i w]
  · have q : rw_ (k.map v) j = v k[j] := by
      unfold rw_; rw [List.getD_eq_getElem?_getD, List.getElem?_map, List.getElem?_eq_getElem hj]; rfl
    rw [q]
    have := csum_le hv.pos (List.getElem_mem hj)
    rw [hv.sum] at this
    have := hv.pos k[j]
    have := h.len
    exact ⟨by simp only; omega, by simp only; omega⟩
/-! ### joined, step by step -/
def convTo (a b : List Int) (i s : Nat) : Int := ((List.range (min i (s + 1))).map fun t => rw_ a t * rw_ b (s - t)).sum
theorem convTo_next (a b : List Int) (i s : Nat) : convTo a b (i + 1) s = convTo a b i s + if i ≤ s then rw_ a i * rw_ b (s - i) else 0 := by
  unfold convTo
  by_cases h : i ≤ s
  · rw [if_pos h, show min (i + 1) (s + 1) = i + 1 by omega, show min i (s + 1) = i by omega, List.range_succ, List.map_append, List.sum_append]; simp
  · rw [if_neg h, show min (i + 1) (s + 1) = s + 1 by omega, show min i (s + 1) = s + 1 by omega, Int.add_zero]
theorem convTo_all {a b : List Int} {i s : Nat} (h : s < i) : convTo a b i s = conv a b s := by
  unfold convTo conv
  rw [show min i (s + 1) = s + 1 by omega]
theorem convTo_zero (a b : List Int) (s : Nat) : convTo a b 0 s = 0 := by simp [convTo]
def convMid (a b : List Int) (i j s : Nat) : Int := convTo a b i s + if i ≤ s ∧ s < i + j then rw_ a i * rw_ b (s - i) else 0
theorem set_map {m n : Nat} {f g : Nat → Int} {v : Int} (hv : g n = v) (h : ∀ s, s ≠ n → g s = f s) : ((List.range m).map f).set n v = (List.range m).map g := by
  apply List.ext_getElem
  · simp
  · intro i h1 h2
    rw [List.getElem_set]
    split
    · rename_i e; subst e; simp [hv]
    · rename_i e
      simp only [List.getElem_map, List.getElem_range]
      exact (h i fun z => e z.symm).symm
theorem mid_zero (a b : List Int) (i : Nat) : convMid a b i 0 = convTo a b i := funext fun s => by
  unfold convMid
  rw [if_neg (by omega), Int.add_zero]
theorem mid_last {a b : List Int} {i j s : Nat} (h : s < i + j) : convMid a b i j s = convTo a b (i + 1) s := by
  rw [convTo_next]
  unfold convMid
  by_cases z : i ≤ s
  · rw [if_pos ⟨z, h⟩, if_pos z]
  · rw [if_neg (fun y => z y.1), if_neg z]
theorem mid_next {a b : List Int} {i j : Nat} : convMid a b i (j + 1) (i + j) = convMid a b i j (i + j) + rw_ a i * rw_ b j ∧ ∀ s, s ≠ i + j → convMid a b i (j + 1) s = convMid a b i j s := by
  unfold convMid
  refine ⟨?_, fun s hs => ?_⟩
  · rw [if_pos (by omega), if_neg (by omega), show i + j - i = j by omega]; omega
  · have : (i ≤ s ∧ s < i + (j + 1)) ↔ (i ≤ s ∧ s < i + j) := by omega
    simp only [this]
def c_joined : Ct := fun ds r => ∃ (a b : List Int) (N : Nat), ds = [lst a, lst b, .int (N : Int)] ∧ a.length = N + 1 ∧ b.length = N + 1 ∧ N ≤ 1000 ∧ (∀ x ∈ a, 0 ≤ x) ∧ (∀ x ∈ b, 0 ≤ x ∧ x < 2 ^ 64) ∧ r = .ok (lst (joinR N a b))
/-! ### ways -/
def c_ways : Ct := fun ds r => ∃ p x, ds = [Pol.d p, x] ∧ GP p ∧ noObj x = true ∧ if within x 1 100000 = true then (if intOf x ≤ 60 then ∃ m, Card (OkC p (intOf x)) m ∧ r = .ok (.int m) else r = .err "TooMany") else r = .err "BadNumber"
theorem cln_lst (k : Kd) (ns : List Int) (h : k.kl = false) : cln k (lst ns) = true := by simp [lst, cln, clns_ints, h]
/-! ### lead -/
def c_look_thing : Ct := fun ds r => ∃ p x, ds = [Pol.d p, x] ∧ GP p ∧ noObj x = true ∧ r = if within x 0 (p.n - 1) = true then .ok .none else .err "BadThing"
def ldAt (p : Pol) (N a b v : Int) : Int := v - if a = b then v else ((rgOf p (enF p N [([a], v)])).f [b]).2
def leadOf (p : Pol) (N a b : Int) : Int := minL ((spanL (bdOf p N a.toNat)).map (ldAt p N a b))
def c_lead : Ct := fun ds r => ∃ p N a b, ds = [Pol.d p, .int N, .int a, .int b] ∧ GP p ∧ (1 ≤ N ∧ N ≤ 100000) ∧ r = if canOf p N = true then (if within (.int a) 0 (p.n - 1) = true ∧ within (.int b) 0 (p.n - 1) = true then .ok (.int (leadOf p N a b)) else .err "BadThing") else .err "CantBe"
section
variable {p : Pol} (hp : GP p)
include hp
theorem fix_one {N a v : Int} (hN : 1 ≤ N) (h : canOf p N = true) (ha : 0 ≤ a ∧ a < p.n) (hv : v ∈ spanL (bdOf p N a.toNat)) : TrOk (allLots p) (trE p (enF p N [([a], v)])) ∧ FxOk p [([a], v)] := by
  have m := (gp_lam hp).one a ha.1 ha.2
  have fo : ∀ q ∈ [([a], v)], q.1 ∈ allLots p := fun q hq => by
    have : q = ([a], v) := by simpa using hq
    rw [this]; exact m
  refine ⟨(feas_iff hp).mpr ?_, ?_⟩
  · obtain ⟨h1, h2⟩ := mem_span.mp hv
    obtain ⟨cs, ac, sc, e⟩ := (bd_is hp hN h (i := a.toNat) (by omega)).2 v h1 h2
    refine ⟨cOf cs, (fix_iff hp fo).mpr ⟨(feas_shows hp hN ac).mpr sc, fun q hq => ?_⟩⟩
    have : q = ([a], v) := by simpa using hq
    rw [this]
    show csum (cOf cs) [a] = v
    simpa [csum, cOf] using e
  · exact ⟨fo, by simp, by simp⟩
/-- the least lead, by all counts -/
theorem lead_is {N a b : Int} (hN : 1 ≤ N) (h : canOf p N = true) (ha : 0 ≤ a ∧ a < p.n) (hb : 0 ≤ b ∧ b < p.n) : leadOf p N a b = minL ((someL p N).map fun c => rw_ c a.toNat - rw_ c b.toNat) := by
  have bl := bd_le hp hN h (i := a.toNat) (by omega)
  have mb := (gp_lam hp).one b hb.1 hb.2
  have ma := (gp_lam hp).one a ha.1 ha.2
  -- each count of the first is met by one of all
  have fwd : ∀ v ∈ spanL (bdOf p N a.toNat), ∃ c ∈ someL p N, rw_ c a.toNat - rw_ c b.toNat = ldAt p N a b v := fun v hv => by
    obtain ⟨h1, h2⟩ := mem_span.mp hv
    unfold ldAt
    by_cases e : a = b
    · subst e
      obtain ⟨cs, ac, sc, e⟩ := (bd_is hp hN h (i := a.toNat) (by omega)).2 v h1 h2
      exact ⟨cs, (mem_some hp hN).mpr ⟨ac, sc⟩, by simp⟩
    · rw [if_neg e]
      have ok := (fix_one hp hN h ha hv).1
      obtain ⟨_, t1, t2⟩ := rg_all hp ok mb
      have tl := tight_le hp ok ⟨t1, t2⟩
      obtain ⟨c, hc, ec⟩ := t2 _ tl (Int.le_refl _)
      have fo : ∀ q ∈ [([a], v)], q.1 ∈ allLots p := fun q hq => by
        have : q = ([a], v) := by simpa using hq
        rw [this]; exact ma
      obtain ⟨f1, f2⟩ := (fix_iff hp fo).mp hc
      have ea : csum c [a] = v := f2 ([a], v) (by simp)
      obtain ⟨ac, fc⟩ := feas_list hp hN f1
      refine ⟨_, (mem_some hp hN).mpr ⟨ac, (feas_shows hp hN ac).mp fc⟩, ?_⟩
      have r : ∀ x : Int, 0 ≤ x → x < p.n → rw_ ((List.range p.n.toNat).map fun (i : Nat) => c (i : Int)) x.toNat = csum c [x] := fun x x0 x1 => by
        rw [rw_range (by omega), Int.toNat_of_nonneg x0]; simp [csum]
      rw [r a ha.1 ha.2, r b hb.1 hb.2, ea, ec]
  -- and none of all is less
  have bwd : ∀ c ∈ someL p N, ∃ v ∈ spanL (bdOf p N a.toNat), ldAt p N a b v ≤ rw_ c a.toNat - rw_ c b.toNat := fun c hc => by
    obtain ⟨ac, sc⟩ := (mem_some hp hN).mp hc
    have hv := (bd_is hp hN h (i := a.toNat) (by omega)).1 c ac sc
    have hv' : rw_ c a.toNat ∈ spanL (bdOf p N a.toNat) := mem_span.mpr hv
    refine ⟨rw_ c a.toNat, hv', ?_⟩
    unfold ldAt
    by_cases e : a = b
    · rw [if_pos e, e]; exact Int.le_refl _
    · rw [if_neg e]
      have ok := (fix_one hp hN h ha hv').1
      have fo : ∀ q ∈ [([a], rw_ c a.toNat)], q.1 ∈ allLots p := fun q hq => by
        have : q = ([a], rw_ c a.toNat) := by simpa using hq
        rw [this]; exact ma
      have t1 := (rg_all hp ok mb).2.1 (cOf c) ((fix_iff hp fo).mpr ⟨(feas_shows hp hN ac).mpr sc, fun q hq => by
        have : q = ([a], rw_ c a.toNat) := by simpa using hq
        rw [this]
        simp [csum, cOf]⟩)
      have e2 : csum (cOf c) [b] = rw_ c b.toNat := by simp [csum, cOf]
      rw [e2] at t1
      omega
  have ne : ((spanL (bdOf p N a.toNat)).map (ldAt p N a b)) ≠ [] := fun z => by
    have : (bdOf p N a.toNat).1 ∈ spanL (bdOf p N a.toNat) := mem_span.mpr ⟨Int.le_refl _, bl⟩
    rw [List.map_eq_nil_iff] at z
    rw [z] at this; cases this
  obtain ⟨m1, m2⟩ := minL_mem ne
  unfold leadOf
  obtain ⟨v, hv, ev⟩ := List.mem_map.mp m1
  obtain ⟨c, hc, ec⟩ := fwd v hv
  refine (minL_is (List.mem_map.mpr ⟨c, hc, by rw [ec, ev]⟩) fun y hy => ?_).symm
  obtain ⟨c', hc', rfl⟩ := List.mem_map.mp hy
  obtain ⟨v', hv', le⟩ := bwd c' hc'
  have := m2 _ (List.mem_map.mpr ⟨v', hv', rfl⟩)
  omega
end
end Ly
namespace Ly
open PySem L2
/-- what is joined up to some part is no less than 0 -/
theorem row_here {n : Int} {L : List (List Int)} {en : List Int → Int × Int} {N : Nat} {R : List Int → List Int} (l : Lam n L) {k : List Int} (hk : k ∈ L) (h2 : 1 < k.length) (hr : ∀ q ∈ partsOf L k, RowOk N L en q (R q)) (j : Nat) :
    (hereOf N R ((partsOf L k).take j) (here0 N k)).length = N + 1 ∧ ∀ x ∈ hereOf N R ((partsOf L k).take j) (here0 N k), 0 ≤ x := by
  have ds := (l.parts hk).2.1
  obtain ⟨a, b⟩ := here_fold (en := en) ((partsOf L k).take j) [] (here0 N k) (here0_len N k) (by simpa using ds.sublist (List.take_sublist j _)) (fun s hs => by
      unfold here0
      rw [if_neg (by omega)]
      cases s with
      | zero => exact (Card.one (a := fun _ : Int => (0 : Int)) fun v => by rw [inP_nil]; simp : Card (InP L en [] 0) 1)
      | succ s =>
        have e : rw_ (1 :: List.replicate N 0) (s + 1) = 0 := by
          unfold rw_
          rw [List.getD_cons_succ, List.getD_eq_getElem?_getD, List.getElem?_replicate]
          split <;> rfl
        rw [e]
        exact Card.none fun v => by rw [inP_nil]; simp) fun q hq => hr q (List.mem_of_mem_take hq)
  refine ⟨a, fun x hx => ?_⟩
  obtain ⟨s, hs, rfl⟩ := List.getElem_of_mem hx
  have := (b s (by omega)).nonneg
  unfold rw_ at this
  rw [List.getD_eq_getElem?_getD, List.getElem?_eq_getElem hs] at this
  exact this
end Ly
namespace Ly
open PySem L2
theorem ends_in {p : Pol} {n : Int} (hn : 0 ≤ n) (k : List Int) : 0 ≤ (endsAt p n k).1 ∧ (endsAt p n k).2 ≤ n := by
  have go : ∀ (ts : List Tld) (e : Int × Int), 0 ≤ e.1 ∧ e.2 ≤ n → 0 ≤ (ts.foldl (endStep n k) e).1 ∧ (ts.foldl (endStep n k) e).2 ≤ n := fun ts => by
    induction ts with
    | nil => exact fun e h => h
    | cons t ts ih =>
      intro e h
      rw [List.foldl_cons]
      refine ih _ ?_
      unfold endStep
      split
      · exact ⟨by show 0 ≤ max _ _; omega, by show min _ _ ≤ n; omega⟩
      · exact h
  unfold endsAt
  refine go _ _ ?_
  unfold end0
  split
  · exact ⟨hn, Int.le_refl _⟩
  · exact ⟨Int.le_refl _, Int.le_refl _⟩
end Ly
namespace Ly
open PySem L2
theorem min_snoc_none {ls : List Int} {v : Int} (h : ls.min? = none) : (ls ++ [v]).min? = some v := by
  rw [List.min?_eq_none_iff] at h
  subst h; rfl
theorem min_snoc_some {ls : List Int} {v m : Int} (h : ls.min? = some m) : (ls ++ [v]).min? = some (min m v) := by
  cases ls with
  | nil => cases h
  | cons a l =>
    rw [List.min?_cons'] at h
    rw [List.cons_append, List.min?_cons', List.foldl_append]
    cases h; rfl
theorem bd_in {p : Pol} (hp : GP p) {N : Int} (hN : 1 ≤ N) (h : canOf p N = true) {i : Nat} (hi : i < p.n.toNat) : 0 ≤ (bdOf p N i).1 ∧ (bdOf p N i).2 ≤ N := by
  have bl := bd_le hp hN h hi
  obtain ⟨_, b2⟩ := bd_is hp hN h hi
  have g : ∀ cs, AreC p N cs → 0 ≤ rw_ cs i ∧ rw_ cs i ≤ N := fun cs a => a.bd _ (List.mem_of_getElem? (rw_get (by have := a.len; omega)))
  obtain ⟨cs, a, _, e⟩ := b2 _ (Int.le_refl _) bl
  obtain ⟨cs', a', _, e'⟩ := b2 _ bl (Int.le_refl _)
  have := g cs a
  have := g cs' a'
  omega
end Ly
namespace Ly
open PySem L2
def c__law_all : Ct := fun ds r => ∃ p N, ds = [Pol.d p, .int N] ∧ GP p ∧ p.n ≤ 4 ∧ (1 ≤ N ∧ N ≤ 12) ∧ r = .ok (.list ((someL p N).map itup))
def c__law_cant : Ct := fun ds r => ∃ way p N, ds = [.int way, Pol.d p, .int N] ∧ GP p ∧ (1 ≤ N ∧ N ≤ 100000) ∧ canOf p N = false ∧ r = .ok (.str "cant")
theorem eqD_itup (a b : List Int) : eqD (itup a) (itup b) = decide (a = b) := by
  unfold eqD itup
  simp only [toPy, PyData.eqv]
  exact eqvs_ints a b
theorem in_itups (c : List Int) (l : List (List Int)) : inD (itup c) (l.map itup) = decide (c ∈ l) := by
  rw [inD, List.any_map, Bool.eq_iff_iff]
  simp only [List.any_eq_true, Function.comp, eqD_itup, decide_eq_true_eq]
  constructor
  · rintro ⟨x, hx, rfl⟩; exact hx
  · intro h; exact ⟨c, h, rfl⟩
theorem shp_lotsL (ks : List (List Int)) : shp (.list (ks.map itup)) = true := by rw [← shp_tl]; exact shp_lots ks
theorem eqvs_ends (f : Nat → Int × Int) : ∀ l : List Nat, PyData.eqvAll (toPys (l.map fun i => endD (f i))) (toPys (l.map fun i => endD (f i))) = true
  | [] => by simp [toPys, PyData.eqvAll]
  | i :: l => by
    have := eqvs_ends f l
    have e : PyData.eqv (toPy (endD (f i))) (toPy (endD (f i))) = true := eqD_gd (d := endD (f i)) rfl
    simp only [List.map_cons, toPys, PyData.eqvAll, this, e, Bool.and_true]
theorem eqD_ends (f : Nat → Int × Int) (l : List Nat) : eqD (.list (l.map fun i => endD (f i))) (.list (l.map fun i => endD (f i))) = true := by
  unfold eqD
  simp only [toPy, PyData.eqv]
  exact eqvs_ends f l
theorem lay_ends (f : Nat → Int × Int) : ∀ l : List Nat, PyData.canLayAll0 (toPys (l.map fun i => endD (f i))) = true ∧ PyData.depthAll (toPys (l.map fun i => endD (f i))) ≤ 1
  | [] => ⟨by simp [toPys, PyData.canLayAll0], by simp [toPys, PyData.depthAll]⟩
  | i :: l => by
    obtain ⟨h1, h2⟩ := lay_ends f l
    have e : toPy (endD (f i)) = .tuple [.int (f i).1, .int (f i).2] := by simp [endD, pairD, toPy, toPys]
    rw [List.map_cons, toPys, e]
    refine ⟨by simp [PyData.canLayAll0, PyData.canLay0, h1], ?_⟩
    simp only [PyData.depthAll, PyData.depth]
    omega
theorem shp_ends (f : Nat → Int × Int) (l : List Nat) : shp (.list (l.map fun i => endD (f i))) = true := by
  obtain ⟨h1, h2⟩ := lay_ends f l
  unfold shp SeqAt.shaped
  rw [toPy]
  simp [PyData.canLay0, PyData.depth, h1]
  omega
end Ly

namespace Ly
open PySem L2
/-! ### lots, sorted by a set of their lengths and themselves -/
def lq (k : List Int) : Int × List Int := ((k.length : Int), k)
theorem srtQ_lots {fs : List (List Int)} {out : List (Int × List Int)} (h : SrtQ (fs.map lq) out) : out = (sortLots (nub fs)).map lq := by
  have e : ∀ q ∈ out, q = lq q.2 := fun q hq => by
    obtain ⟨k, _, rfl⟩ := List.mem_map.mp ((h.mem q).mp hq)
    rfl
  have e2 : out = (out.map (·.2)).map lq := by
    rw [List.map_map]
    conv => lhs; rw [← List.map_id out]
    exact List.map_congr_left fun q hq => e q hq
  have nd : (out.map (·.2)).Nodup := by
    unfold List.Nodup
    rw [List.pairwise_map]
    exact List.Pairwise.imp_of_mem (fun {q r} hq hr hne z => hne (by rw [e q hq, e r hr, z])) h.nd
  have pm : (out.map (·.2)).Perm (nub fs) := (List.perm_ext_iff_of_nodup nd (nodup_nub fs)).mpr fun k => by
    rw [mem_nub]
    constructor
    · intro hk
      obtain ⟨q, hq, rfl⟩ := List.mem_map.mp hk
      obtain ⟨k, hk, e3⟩ := List.mem_map.mp ((h.mem q).mp hq)
      rw [← e3]; exact hk
    · intro hk
      exact List.mem_map.mpr ⟨lq k, (h.mem _).mpr (List.mem_map.mpr ⟨k, hk, rfl⟩), rfl⟩
  have up : (out.map (·.2)).Pairwise fun a b => PySem.W.dataLe false lotKey a b = true := by
    rw [List.pairwise_map]
    refine List.Pairwise.imp_of_mem (fun {q r} hq hr hle => ?_) h.up
    rw [e q hq, e r hr] at hle
    exact hle
  rw [e2, sortLots_is pm up]
theorem evn_sortSetLots {K : Fg} {env : Evn} {te : TE} {P : Program} {w : World} {fs : List (List Int)} (h : EvD K te env (.list (fs.map fun k => pD (lq k)))) (hl : fs.length < 64) : EvN K (tCB (rSortSetQ K P w) (tCons (tCB (rSetOfQ K P w) (tCons te tNil)) tNil)) env ((sortLots (nub fs)).map fun k => pD (lq k)) := fun G0 B G H σ s Q q =>
  evp_sortSetQ (ks := fs.map lq) (by rw [List.map_map]; exact h) (by rw [List.length_map]; exact hl) G0 B G H σ s Q fun ds p xs G2 H2 ⟨out, ho, e⟩ => by
    subst e
    rw [srtQ_lots ho, List.map_map]
    exact q p xs G2 H2
def lotsIn (p : Pol) : List (List Int) := singles p.n.toNat ++ keys0 p ++ p.shs.flatMap shLots
theorem lotsIn_is (p : Pol) : sortLots (nub (lotsIn p)) = allLots p := by
  have t := PySem.W.sortLe_total (PyProof.Rows.listOrd PyProof.Rows.itemOrd) false fun b : List Int => PySem.W.keyToks (lotKey b)
  refine sortLots_is ((List.perm_ext_iff_of_nodup (nodup_allLots p) (nodup_nub _)).mpr fun k => ?_) (List.pairwise_mergeSort (fun a b c h1 h2 => t.trans a b c h1 h2) (fun a b => by have := t.total a b; simpa using this) (allKeys p))
  rw [mem_nub]
  unfold allLots sortLots allKeys lotsIn
  rw [(List.mergeSort_perm _ _).mem_iff, mem_fold]
  simp only [List.mem_append]
  constructor
  · rintro (h | h | h)
    · exact .inl (.inr h)
    · exact .inl (.inl h)
    · exact .inr h
  · rintro ((h | h) | h)
    · exact .inr (.inl h)
    · exact .inl h
    · exact .inr (.inr h)
def c__law_lots : Ct := fun ds r => ∃ p, ds = [Pol.d p] ∧ GP p ∧ (lotsIn p).length < 64 ∧ r = .ok (.list ((allLots p).map itup))
theorem lotsIn_len {p : Pol} (hn : p.n ≤ 6) (hs : p.shs.length ≤ 2) (few : ∀ s ∈ p.shs, s.parts.length ≤ 20) : (lotsIn p).length < 64 := by
  have f := flat_le shLots (m := 20) (l := p.shs) fun s hs => by unfold shLots; rw [List.length_map]; exact few s hs
  unfold lotsIn singles keys0
  rw [List.length_append, List.length_append, List.length_map, List.length_range]
  split <;> simp only [List.length_cons, List.length_nil] <;> omega
/-! ### ends -/
def endOkD (p : Pol) (d : D) : Bool := isLotD p.n d && decide (lotOf d ∈ allLots p)
def c_ends : Ct := fun ds r => ∃ p x d, ds = [Pol.d p, x, d] ∧ GP p ∧ noObj x = true ∧ gd d = true ∧ r = if within x 1 100000 = true then (if endOkD p d = true then .ok (endD (endsAt p (intOf x) (lotOf d))) else .err "BadLot") else .err "BadNumber"
theorem lotD_is {n : Int} {d : D} (h : isLotD n d = true) : d = itup (lotOf d) := by
  cases d with
  | tuple ds =>
    simp only [isLotD, Bool.and_eq_true, List.all_eq_true] at h
    show D.tuple ds = itup (ds.map intOf)
    unfold itup
    rw [List.map_map]
    congr 1
    conv => lhs; rw [← List.map_id ds]
    refine List.map_congr_left fun x hx => ?_
    obtain ⟨a, rfl, _⟩ := within_int (h.2.1 x hx)
    rfl
  | _ => simp [isLotD] at h
def lawStep (n : Int) (k : List Int) (e : Int × Int) (t : Tld) : Int × Int := if t.k = k then (max e.1 (lowOf n t.u t.w t.q), min e.2 (highOf n t.u t.w t.q)) else e
def law0 (p : Pol) (n : Int) (k : List Int) : Int × Int := (if p.kind = "one" ∧ (k.length : Int) = p.n then n else 0, n)
theorem law_ends {n : Int} (hn : 0 ≤ n) (k : List Int) : ∀ (ts : List Tld) (e : Int × Int), 0 ≤ e.1 ∧ e.2 ≤ n → ts.foldl (lawStep n k) e = ts.foldl (endStep n k) e
  | [], _, _ => rfl
  | t :: ts, e, h => by
    have s : lawStep n k e t = endStep n k e t := by
      unfold lawStep endStep stLow stHigh
      split
      · exact Prod.ext (by show max _ _ = max _ _; omega) (by show min _ _ = min _ _; omega)
      · rfl
    rw [List.foldl_cons, List.foldl_cons, s]
    refine law_ends hn k ts _ ?_
    unfold endStep stLow stHigh
    split
    · exact ⟨by show 0 ≤ max _ _; omega, by show min _ _ ≤ n; omega⟩
    · exact h
theorem full_iff {p : Pol} (hp : GP p) {k : List Int} (hk : k ∈ allLots p) : (k.length : Int) = p.n ↔ k = rgI p.n := by
  have hn := hp.n
  have l := gp_lam hp
  constructor
  · intro h
    refine ris_eq (l.ris k hk) (rgI_facts hp p.n).1 fun x => ⟨fun hx => mem_rgI.mpr (l.rg k hk x hx), fun hx => ?_⟩
    refine Classical.byContradiction fun z => ?_
    have := nodup_len (l := x :: k) (m := rgI p.n) (List.nodup_cons.mpr ⟨z, l.nodup hk⟩) fun y hy => by
      rcases List.mem_cons.mp hy with rfl | hy
      · exact hx
      · exact mem_rgI.mpr (l.rg k hk y hy)
    rw [List.length_cons, rgI_len] at this
    omega
  · intro h; rw [h, rgI_len]; omega
theorem law0_is {p : Pol} (hp : GP p) {n : Int} {k : List Int} (hk : k ∈ allLots p) : law0 p n k = end0 p n k := by
  unfold law0 end0
  have := full_iff hp hk
  by_cases h : p.kind = "one" ∧ k = rgI p.n
  · rw [if_pos h, if_pos ⟨h.1, this.mpr h.2⟩]
  · rw [if_neg h, if_neg (fun z => h ⟨z.1, this.mp z.2⟩)]
def c__law_ends : Ct := fun ds r => ∃ p n k, ds = [Pol.d p, .int n, itup k] ∧ GP p ∧ k ∈ allLots p ∧ (1 ≤ n ∧ n ≤ 100000) ∧ r = .ok (endD (endsAt p n k))
theorem law_endsAt {p : Pol} (hp : GP p) {n : Int} {k : List Int} (hn : 0 ≤ n) (hk : k ∈ allLots p) : (tolds p).foldl (lawStep n k) (law0 p n k) = endsAt p n k := by
  rw [law0_is hp hk]
  refine law_ends hn k _ _ ?_
  unfold end0
  split
  · exact ⟨hn, Int.le_refl _⟩
  · exact ⟨Int.le_refl _, Int.le_refl _⟩
/-- counts between the ends -/
def goodB (p : Pol) (n : Int) (k : List Int) (c : Int) : Bool := (decide (p.kind = "some") || (decide ((k.length : Int) < p.n) || decide (c = n))) && (tolds p).all fun t => !(decide (t.k = k) && !decide (lawShare c n t.u t.w = t.q))
theorem good_iff {p : Pol} (hp : GP p) {n : Int} (hn : 1 ≤ n) {k : List Int} (hk : k ∈ allLots p) {c : Int} (hc : 0 ≤ c ∧ c ≤ n) : goodB p n k c = (decide ((endsAt p n k).1 ≤ c) && decide (c ≤ (endsAt p n k).2)) := by
  have kd := gp_kind hp
  have fu := full_iff hp hk
  have ll := lot_len hp hk
  rw [Bool.eq_iff_iff, Bool.and_eq_true, decide_eq_true_eq, decide_eq_true_eq, ends_iff]
  unfold goodB
  rw [Bool.and_eq_true, List.all_eq_true]
  have h0 : (decide (p.kind = "some") || (decide ((k.length : Int) < p.n) || decide (c = n))) = true ↔ ((end0 p n k).1 ≤ c ∧ c ≤ (end0 p n k).2) := by
    simp only [Bool.or_eq_true, decide_eq_true_eq]
    unfold end0
    by_cases h : p.kind = "one" ∧ k = rgI p.n
    · rw [if_pos h]
      have := fu.mpr h.2
      constructor
      · rintro (z | z | z)
        · exact absurd z (kind_not hp h.1)
        · omega
        · exact ⟨by show n ≤ c; omega, by show c ≤ n; omega⟩
      · rintro ⟨z1, z2⟩
        have z1' : n ≤ c := z1
        exact .inr (.inr (by omega))
    · rw [if_neg h]
      refine ⟨fun _ => hc, fun _ => ?_⟩
      rcases kd with z | z
      · have : k ≠ rgI p.n := fun y => h ⟨z, y⟩
        have : ¬ (k.length : Int) = p.n := fun y => this (fu.mp y)
        exact .inr (.inl (by omega))
      · exact .inl z
  rw [h0]
  constructor
  · rintro ⟨g1, g2⟩
    refine ⟨g1, fun t ht e => ?_⟩
    have to := tolds_ok hp t ht
    have := g2 t ht
    simp only [e, decide_true, Bool.true_and, Bool.not_not, decide_eq_true_eq] at this
    exact (share_inU to.w hn (by have := to.u; omega) hc).mp this
  · rintro ⟨g1, g2⟩
    refine ⟨g1, fun t ht => ?_⟩
    have to := tolds_ok hp t ht
    by_cases e : t.k = k
    · have := (share_inU to.w hn (by have := to.u; omega) hc).mpr (g2 t ht e)
      simp [e, this]
    · simp [e]
/-! the word of ends -/
def endW (p : Pol) (x d : D) : Str := if within x 1 100000 = true then (if endOkD p d = true then "none" else "lot") else "number"
def c__law_ends_word : Ct := fun ds r => ∃ p x d, ds = [Pol.d p, x, d] ∧ GP p ∧ noObj x = true ∧ gd d = true ∧ r = .ok (.str (endW p x d))
theorem pPol_two {row : List Int} {most : Int} (hR : Row row) : (pPol row most).shs.length ≤ 2 := by
  show ((List.range (1 + rw_ row 5 % 2).toNat).map (pShw row most)).length ≤ 2
  rw [List.length_map, List.length_range]
  omega
end Ly

namespace Ly
open PySem L2 He
/-! ### the head's facts -/
abbrev AlE : Type := AlD × Bool
def obsE (fa : List Fa) (fn : List DefD) (ex : PySem.W.Frag → Bool) (K : PySem.W.Frag) : AlE := (obsD fa fn K, ex K)
def valE (fn : List DefD) : AlE := (valD fn, true)
def SaysE (fa : List Fa) (fn : List DefD) (ex : PySem.W.Frag → Bool) (K : PySem.W.Frag) : Prop := obsE fa fn ex K = valE fn
def obsEG (n : Nat) (fa : List Fa) (fn : List DefD) (ex : PySem.W.Frag → Bool) (g : Addr → Option Obj) : AlE := obsE fa fn ex (frG g (asD g n))
def hookE (n : Nat) (fa : List Fa) (fn : List DefD) (ex : PySem.W.Frag → Bool) : PySem.W.Hook where
  α := AlE
  obs := fun s => obsEG n fa fn ex s.heap.get?
  val := fun _ => valE fn
  says := fun _ h => ∃ K : PySem.W.Frag, K.In h ∧ SaysE fa fn ex K
  of := fun _ _ e => ⟨_, frG_in, e⟩
  keeps := fun _ _ _ ⟨K, hK, c⟩ k => ⟨K, PySem.W.Frag.In.keeps hK k, c⟩
theorem obsEG_eq {n : Nat} {fa : List Fa} {fn : List DefD} {ex : PySem.W.Frag → Bool} {g : Addr → Option Obj} {s : Shared} (h : ∀ a, g a = s.heap.get? a) : obsEG n fa fn ex g = (hookE n fa fn ex).obs s := by
  have e : g = s.heap.get? := funext h
  rw [e] <;> rfl
theorem SaysE.d {fa : List Fa} {fn : List DefD} {ex : PySem.W.Frag → Bool} {K : PySem.W.Frag} (c : SaysE fa fn ex K) : SaysD fa fn K := congrArg (fun z : AlE => z.1) c
theorem SaysE.x {fa : List Fa} {fn : List DefD} {ex : PySem.W.Frag → Bool} {K : PySem.W.Frag} (c : SaysE fa fn ex K) : ex K = true := congrArg (fun z : AlE => z.2) c
theorem saysD_fact {fa : List Fa} {fn : List DefD} {K : PySem.W.Frag} (c : SaysD fa fn K) {f : Fa} (h : f ∈ fa) : f.ok K = true := by
  have c1 := (ba (show ((fa.all fun f => f.ok K) && fn.all fun d => d.ok K) = true from congrArg (fun z : AlD => z.1) c)).1
  exact List.all_eq_true.mp c1 f h
/-! errors -/
def excCB (K : Fg) (C : Addr) : Bool := eqO (PySem.W.findIn K (.ref C) "__getattribute__") (some (some (.builtin "BaseException.__getattribute__"))) && (eqO (PySem.W.findIn K (.ref C) "__getattr__") (some none) && (decide (PySem.W.subIn K (.ref C) (.type "BaseException") = some true) && (PySem.W.hasDictIn K C && (eqO (PySem.W.findIn K (.ref C) "__class__") (some (some (.builtin "object.__class__"))) &&
  (decide (PySem.W.specialIn K (.builtin "object.__class__") "__get__" = some (some (.builtin "getset_descriptor.__get__"))) && (decide (PySem.W.takesIn K (.builtin "object.__class__") = some true) && decide (PySem.W.mroIn K C (.type "object") = some true)))))))
theorem excCB_ok {K : Fg} {C : Addr} (h : excCB K C = true) : ExcC K C := by
  obtain ⟨h1, h⟩ := ba h
  obtain ⟨h2, h⟩ := ba h
  obtain ⟨h3, h⟩ := ba h
  obtain ⟨h4, h⟩ := ba h
  obtain ⟨h5, h⟩ := ba h
  obtain ⟨h6, h⟩ := ba h
  obtain ⟨h7, h8⟩ := ba h
  exact ⟨eqO_ok h1, eqO_ok h2, of_decide_eq_true h3, h4, eqO_ok h5, of_decide_eq_true h6, of_decide_eq_true h7, of_decide_eq_true h8⟩
def excAllB (xs : List Str) (K : Fg) : Bool := xs.all fun x => (Fa.glo x).ok K && (excCB K (ga K x) && xs.all fun y => decide (PySem.W.exmOne K (.ref (ga K x)) (.ref (ga K y)) = some (subOf x y)) && decide (PySem.W.kitOne K (.ref (ga K x)) (.ref (ga K y)) = some (subOf x y)))
theorem excAll_of {K : Fg} {h : Heap} {mg : Str → Option Value} {xs : List Str} (X : K.In h) (G : h.Ns mainGlobals mg) (c : excAllB xs K = true) : ExcAll K mg xs := by
  have one : ∀ x, x ∈ xs → mg x = some (.ref (ga K x)) ∧ excCB K (ga K x) = true ∧ ∀ y, y ∈ xs → PySem.W.exmOne K (.ref (ga K x)) (.ref (ga K y)) = some (subOf x y) ∧ PySem.W.kitOne K (.ref (ga K x)) (.ref (ga K y)) = some (subOf x y) := fun x hx => by
    have c1 := List.all_eq_true.mp c x hx
    obtain ⟨h1, h2⟩ := ba c1
    obtain ⟨h3, h4⟩ := ba h2
    refine ⟨glo_ok X G h1, h3, fun y hy => ?_⟩
    obtain ⟨h5, h6⟩ := ba (List.all_eq_true.mp h4 y hy)
    exact ⟨of_decide_eq_true h5, of_decide_eq_true h6⟩
  have at_ : ∀ x, x ∈ xs → ∀ C, mg x = some (.ref C) → C = ga K x := fun x hx C m => by
    rw [(one x hx).1] at m; cases m; rfl
  refine ⟨fun x hx => ⟨_, (one x hx).1⟩, fun x hx C m => ?_, fun x y hx hy C E m m' => ?_, fun x y hx hy C E m m' => ?_⟩
  · rw [at_ x hx C m]; exact excCB_ok (one x hx).2.1
  · rw [at_ x hx C m, at_ y hy E m']; exact ((one x hx).2.2 y hy).1
  · rw [at_ x hx C m, at_ y hy E m']; exact ((one x hx).2.2 y hy).2
theorem excH_of {K : Fg} {h : Heap} {mg : Str → Option Value} {x : Str} (X : K.In h) (G : h.Ns mainGlobals mg) (c1 : (Fa.glo x).ok K = true) (c : (Fa.exc x).ok K = true) : ExcH K mg x := by
  obtain ⟨h1, h⟩ := ba c
  obtain ⟨h2, h⟩ := ba h
  obtain ⟨h3, h4⟩ := ba h
  exact ⟨ga K x, veBase, h1, ⟨_, _, PySem.F.excBase_ValueError⟩, glo_ok X G c1, h2, of_decide_eq_true h3, of_decide_eq_true h4⟩
/-! constants -/
theorem gc_int {K : Fg} {h : Heap} {mg : Str → Option Value} {x : Str} {i : Int} (X : K.In h) (G : h.Ns mainGlobals mg) (c : (Fa.int x i).ok K = true) : GcH K mg x (.int i) := by
  obtain ⟨t, m⟩ := int_ok X G c
  exact ⟨.int i, _, m, ⟨t, rfl⟩, fun H => .int i⟩
theorem gc_str {K : Fg} {h : Heap} {mg : Str → Option Value} {x z : Str} (X : K.In h) (G : h.Ns mainGlobals mg) (c : (Fa.str x z).ok K = true) : GcH K mg x (.str z) := by
  obtain ⟨t, m⟩ := str_ok X G c
  exact ⟨.str z, _, m, ⟨t, rfl⟩, fun H => .str z⟩
theorem rpl_strs {K : Fg} {H : Hp} : ∀ zs : List Str, RpL K H ((zs.map Dv.str).map (Dv.v K)) (zs.map D.str)
  | [] => .nil
  | z :: zs => .cons (.str z) (rpl_strs zs)
theorem gc_tup {K : Fg} {h : Heap} {mg : Str → Option Value} {x : Str} {zs : List Str} (X : K.In h) (G : h.Ns mainGlobals mg) (c1 : (Fa.glo x).ok K = true) (c : tupB K x (zs.map Dv.str) = true) : GcH K mg x (.kst (zs.map D.str)) :=
  ⟨.ref (ga K x), _, glo_ok X G c1, rfl, fun H => .kst (tupB_ok c H) (rpl_strs zs)⟩
def noBs : List Fa := [.free "isinstance", .free "len", .free "max", .free "min", .free "sum", .free "sorted", .free "int", .free "bool", .free "str", .free "tuple", .free "list", .free "set", .free "range", .free "zip", .free "enumerate"]
theorem noB_of {K : Fg} {h : Heap} {mg : Str → Option Value} (X : K.In h) (G : h.Ns mainGlobals mg) (c : ∀ f, f ∈ noBs → f.ok K = true) : NoB mg :=
  ⟨free_ok X G (c _ (by simp [noBs])), free_ok X G (c _ (by simp [noBs])), free_ok X G (c _ (by simp [noBs])), free_ok X G (c _ (by simp [noBs])), free_ok X G (c _ (by simp [noBs])), free_ok X G (c _ (by simp [noBs])), free_ok X G (c _ (by simp [noBs])), free_ok X G (c _ (by simp [noBs])), free_ok X G (c _ (by simp [noBs])), free_ok X G (c _ (by simp [noBs])), free_ok X G (c _ (by simp [noBs])), free_ok X G (c _ (by simp [noBs])), free_ok X G (c _ (by simp [noBs])), free_ok X G (c _ (by simp [noBs])), free_ok X G (c _ (by simp [noBs]))⟩
/-! defs -/
theorem defAt_of {K : Fg} {h : Heap} {mg : Str → Option Value} {x : Str} {st : Stmt} {ps : List Str} {fd : FuncData} (X : K.In h) (G : h.Ns mainGlobals mg) (c : (Fa.glo x).ok K = true)
    (F : FunD K x x (defArgs st) (defBody st) (defScope st) [] [] (ga K x) fd)
    (hb : ∀ (kV doc pm : Value) (an : Option Addr) (cdv ct : Value) (us : List Value), us.length = ps.length → bindArgs (PySem.W.fnOf x x (defArgs st) (defBody st) (defScope st) .none kV doc pm an cdv ct) ⟨us, []⟩ = pure (ps.zip us)) : DefAt K mg x x st ps :=
  ⟨ga K x, fd, F, glo_ok X G c, F.bindsN hb⟩
section
variable {P : Program} {w : World} {K : Fg} {mg : Str → Option Value} {base : Heap} {x qual : Str} {st : Stmt} {N ps : List Str} {k : Nat} {C : Ct} {f : Addr} {fd : FuncData}
theorem fno (F : FunD K x qual (defArgs st) (defBody st) (defScope st) [] [] f fd) (S : FnScope N ps (defScope st)) (len : ∀ ds r, C ds r → ds.length = ps.length)
    (hbody : ∀ (f : Addr) (cdv : Value) (A : Around) (outer : List PySem.Env) (s : Shared) (H : Hp) (E : XK), Room k (A.deeper (PyProof.Rows.envOfC qual (defScope st) s.heap.objs.size f cdv)) →
      ∃ t, PSs (cxOf CX0 P w K mg base N qual (defScope st) f cdv A outer s H E).nox (defBody st) t ∧ ∀ ds r, C ds r → SD K mg E t (startE N ds) (enOf r)) : FnOk P w K mg base CX0 (k + 1) f fd ps (spD K mg C) := by
  refine F.ok S (fun vs H Q E h => ?_) (fun cdv A outer s H vs Q E hr h => ?_)
  · obtain ⟨G, ds, r, e1, _, rp, c, _⟩ := h
    rw [rp.length]; exact len ds r c
  · obtain ⟨t, h1, h2⟩ := hbody f cdv A outer s H E hr
    exact ⟨t, h1.nox, run_sd h2 h⟩
end
theorem defAtT_of {K : Fg} {h : Heap} {mg : Str → Option Value} {x : Str} {st : Stmt} {ps : List Str} {fd : FuncData} (X : K.In h) (G : h.Ns mainGlobals mg) (c : (Fa.glo x).ok K = true)
    (F : FunD K x x (defArgs st) (defBody st) (defScope st) [] [] (ga K x) fd)
    (hb : ∀ (kV doc pm : Value) (an : Option Addr) (cdv ct : Value) (us : List Value), us.length = ps.length → bindArgs (PySem.W.fnOf x x (defArgs st) (defBody st) (defScope st) .none kV doc pm an cdv ct) ⟨us, []⟩ = pure (ps.zip us)) : DefAtT K mg x x st ps (cT K (x, none)).1 := by
  have b := F.bindsN hb
  obtain ⟨oc, od, dV, kV, doc, pm, an, cdv, ct, osl, e, lk, hcd, _, _⟩ := F.ex
  obtain ⟨cc, rfl⟩ := codeIn_ref hcd
  have e2 : fd.code = .ref cc := by rw [e] <;> rfl
  have e3 : codeOf K (x, none) = cc := codeOf_eq lk e2
  exact ⟨ga K x, fd, F, glo_ok X G c, b, by rw [e2]; exact congrArg Value.ref e3.symm⟩
/-- the law's promise, at the script -/
theorem law_sp {K : Fg} {mg : Str → Option Value} {H : Hp} {a : Addr} {ns : List Int} {C : Ct} (h : C [.scr ns] (.ok (.bool true))) (tk : TbK K H) (hS : SqL K H a (ns.map V.int)) : spD K mg C [.ref a] H (fun v _ => v = .bl true) fun _ _ _ => False :=
  ⟨H, [.scr ns], .ok (.bool true), Ex.refl H, tk, .cons (.scr hS) .nil, h, fun d e v G2 H2 f r => by cases e; cases r; rfl, (fun x e => nomatch e), (fun x e => nomatch e)⟩
end Ly

set_option maxHeartbeats 4000000
open Ly
local macro_rules | `(tactic| walk_at "ev") => `(tactic| first
  | exact ev_int | exact ev_str | exact ev_bl | exact ev_non | exact ev_gc | exact ea_nil
  | exact ev_var rfl
  | (refine ea_cons ?_ ?_ <;> walk_at "ev")
  | (refine ev_addI ?_ ?_ <;> walk_at "ev")
  | (refine ev_sub ?_ ?_ <;> walk_at "ev")
  | (refine ev_neg ?_ <;> walk_at "ev")
  | (refine ev_lst ?_ <;> walk_at "ev")
  | (refine ev_tup ?_ <;> walk_at "ev"))
namespace LW
open PySem L2 Ly
def top (i : Nat) : Stmt := PySem.Challenge.pw_shownshares_k03_ends_of_lots.main.body.getD i (.Pass ⟨0, 0, 0, 0⟩)
abbrev XS : List Str := ["ShareError", "BadPoll", "BadNumber", "BadLot"]
abbrev N_is_within : List Str := ["thing", "low", "high"]
abbrev s_is_within : Stmt := top 12
theorem sc_is_within : FnScope N_is_within ["thing", "low", "high"] (defScope s_is_within) := ⟨rfl, rfl, rfl, by decide +kernel, rfl, by decide +kernel, by decide +kernel⟩
abbrev N_rises : List Str := ["thing", "one", "other"]
abbrev s_rises : Stmt := top 13
theorem sc_rises : FnScope N_rises ["thing"] (defScope s_rises) := ⟨rfl, rfl, rfl, by decide +kernel, rfl, by decide +kernel, by decide +kernel⟩
abbrev N_is_lot : List Str := ["things", "thing", "one"]
abbrev s_is_lot : Stmt := top 14
theorem sc_is_lot : FnScope N_is_lot ["things", "thing"] (defScope s_is_lot) := ⟨rfl, rfl, rfl, by decide +kernel, rfl, by decide +kernel, by decide +kernel⟩
abbrev N_is_part : List Str := ["things", "units", "thing"]
abbrev s_is_part : Stmt := top 15
theorem sc_is_part : FnScope N_is_part ["things", "units", "thing"] (defScope s_is_part) := ⟨rfl, rfl, rfl, by decide +kernel, rfl, by decide +kernel, by decide +kernel⟩
abbrev N_is_showing_of : List Str := ["things", "thing", "one", "part"]
abbrev s_is_showing_of : Stmt := top 16
theorem sc_is_showing_of : FnScope N_is_showing_of ["things", "thing"] (defScope s_is_showing_of) := ⟨rfl, rfl, rfl, by decide +kernel, rfl, by decide +kernel, by decide +kernel⟩
abbrev N_common : List Str := ["one", "other"]
abbrev s_common : Stmt := top 18
theorem sc_common : FnScope N_common ["one", "other"] (defScope s_common) := ⟨rfl, rfl, rfl, by decide +kernel, rfl, by decide +kernel, by decide +kernel⟩
abbrev N_turn_of : List Str := ["showings", "found", "units", "word", "parts", "one"]
abbrev s_turn_of : Stmt := top 17
theorem sc_turn_of : FnScope N_turn_of ["showings"] (defScope s_turn_of) := ⟨rfl, rfl, rfl, by decide +kernel, rfl, by decide +kernel, by decide +kernel⟩
abbrev N_all_lots : List Str := ["poll", "found", "thing", "units", "word", "parts", "lot", "share"]
abbrev s_all_lots : Stmt := top 19
theorem sc_all_lots : FnScope N_all_lots ["poll"] (defScope s_all_lots) := ⟨rfl, rfl, rfl, by decide +kernel, rfl, by decide +kernel, by decide +kernel⟩
abbrev N_do_nest : List Str := ["lots", "at", "lot", "other", "both", "one"]
abbrev s_do_nest : Stmt := top 20
theorem sc_do_nest : FnScope N_do_nest ["lots"] (defScope s_do_nest) := ⟨rfl, rfl, rfl, by decide +kernel, rfl, by decide +kernel, by decide +kernel⟩
abbrev N_is_poll : List Str := ["thing", "one", "showing", "lot", "share"]
abbrev s_is_poll : Stmt := top 21
theorem sc_is_poll : FnScope N_is_poll ["thing"] (defScope s_is_poll) := ⟨rfl, rfl, rfl, by decide +kernel, rfl, by decide +kernel, by decide +kernel⟩
abbrev N_look : List Str := ["poll"]
abbrev s_look : Stmt := top 22
theorem sc_look : FnScope N_look ["poll"] (defScope s_look) := ⟨rfl, rfl, rfl, by decide +kernel, rfl, by decide +kernel, by decide +kernel⟩
abbrev N_look_number : List Str := ["number"]
abbrev s_look_number : Stmt := top 25
theorem sc_look_number : FnScope N_look_number ["number"] (defScope s_look_number) := ⟨rfl, rfl, rfl, by decide +kernel, rfl, by decide +kernel, by decide +kernel⟩
abbrev N_up_over : List Str := ["top", "bottom"]
abbrev s_up_over : Stmt := top 26
theorem sc_up_over : FnScope N_up_over ["top", "bottom"] (defScope s_up_over) := ⟨rfl, rfl, rfl, by decide +kernel, rfl, by decide +kernel, by decide +kernel⟩
abbrev N_stretch : List Str := ["number", "units", "word", "part", "low", "high"]
abbrev s_stretch : Stmt := top 27
theorem sc_stretch : FnScope N_stretch ["number", "units", "word", "part"] (defScope s_stretch) := ⟨rfl, rfl, rfl, by decide +kernel, rfl, by decide +kernel, by decide +kernel⟩
abbrev N_ends_of : List Str := ["poll", "number", "found", "lot", "units", "word", "parts", "part", "low", "high"]
abbrev s_ends_of : Stmt := top 28
theorem sc_ends_of : FnScope N_ends_of ["poll", "number"] (defScope s_ends_of) := ⟨rfl, rfl, rfl, by decide +kernel, rfl, by decide +kernel, by decide +kernel⟩
abbrev N_ends : List Str := ["poll", "number", "lot"]
abbrev s_ends : Stmt := top 29
theorem sc_ends : FnScope N_ends ["poll", "number", "lot"] (defScope s_ends) := ⟨rfl, rfl, rfl, by decide +kernel, rfl, by decide +kernel, by decide +kernel⟩
abbrev N__law_cell : List Str := ["script", "k"]
abbrev s__law_cell : Stmt := top 31
theorem sc__law_cell : FnScope N__law_cell ["script", "k"] (defScope s__law_cell) := ⟨rfl, rfl, rfl, by decide +kernel, rfl, by decide +kernel, by decide +kernel⟩
abbrev N__law_row : List Str := ["script", "at", "cell", "found", "time"]
abbrev s__law_row : Stmt := top 32
theorem sc__law_row : FnScope N__law_row ["script", "at"] (defScope s__law_row) := ⟨rfl, rfl, rfl, by decide +kernel, rfl, by decide +kernel, by decide +kernel⟩
abbrev N__law_share : List Str := ["count", "asked", "units", "word"]
abbrev s__law_share : Stmt := top 33
theorem sc__law_share : FnScope N__law_share ["count", "asked", "units", "word"] (defScope s__law_share) := ⟨rfl, rfl, rfl, by decide +kernel, rfl, by decide +kernel, by decide +kernel⟩
abbrev N__law_spread : List Str := ["row", "at", "asked", "things", "kind", "thing", "found", "time"]
abbrev s__law_spread : Stmt := top 34
theorem sc__law_spread : FnScope N__law_spread ["row", "at", "asked", "things", "kind"] (defScope s__law_spread) := ⟨rfl, rfl, rfl, by decide +kernel, rfl, by decide +kernel, by decide +kernel⟩
abbrev N__law_nest : List Str := ["row", "at", "things", "kind", "order", "thing", "found", "many", "half", "lot"]
abbrev s__law_nest : Stmt := top 35
theorem sc__law_nest : FnScope N__law_nest ["row", "at", "things", "kind"] (defScope s__law_nest) := ⟨rfl, rfl, rfl, by decide +kernel, rfl, by decide +kernel, by decide +kernel⟩
abbrev N__law_poll : List Str := ["script", "at", "most", "row", "things", "kind", "asked", "some", "showings", "time", "units", "word", "parts", "spot", "lot", "told", "thing"]
abbrev s__law_poll : Stmt := top 36
theorem sc__law_poll : FnScope N__law_poll ["script", "at", "most"] (defScope s__law_poll) := ⟨rfl, rfl, rfl, by decide +kernel, rfl, by decide +kernel, by decide +kernel⟩
abbrev N__law_asked : List Str := ["row", "at", "most"]
abbrev s__law_asked : Stmt := top 37
theorem sc__law_asked : FnScope N__law_asked ["row", "at", "most"] (defScope s__law_asked) := ⟨rfl, rfl, rfl, by decide +kernel, rfl, by decide +kernel, by decide +kernel⟩
abbrev N__law_lots : List Str := ["poll", "found", "thing", "units", "word", "parts", "lot", "told", "size"]
abbrev s__law_lots : Stmt := top 38
theorem sc__law_lots : FnScope N__law_lots ["poll"] (defScope s__law_lots) := ⟨rfl, rfl, rfl, by decide +kernel, rfl, by decide +kernel, by decide +kernel⟩
abbrev N__law_ends : List Str := ["poll", "asked", "lot", "low", "high", "units", "word", "parts", "other", "told", "least_one", "most_one"]
abbrev s__law_ends : Stmt := top 39
theorem sc__law_ends : FnScope N__law_ends ["poll", "asked", "lot"] (defScope s__law_ends) := ⟨rfl, rfl, rfl, by decide +kernel, rfl, by decide +kernel, by decide +kernel⟩
abbrev N__law_ends_word : List Str := ["poll", "asked", "lot", "e"]
abbrev s__law_ends_word : Stmt := top 40
theorem sc__law_ends_word : FnScope N__law_ends_word ["poll", "asked", "lot"] (defScope s__law_ends_word) := ⟨rfl, rfl, rfl, by decide +kernel, rfl, by decide +kernel, by decide +kernel⟩
abbrev N_law : List Str := ["script", "row", "poll", "asked", "lot", "low", "high", "time", "count", "good", "units", "word", "parts", "other", "told", "odd"]
abbrev s_law : Stmt := top 41
theorem sc_law : FnScope N_law ["script"] (defScope s_law) := ⟨rfl, rfl, rfl, by decide +kernel, rfl, by decide +kernel, by decide +kernel⟩
section
variable {P : Program} {w : World} {K : Fg} {mg : Str → Option Value} {base : Heap}
theorem f_is_within (hD : DefAt K mg "is_within" "is_within" s_is_within ["thing", "low", "high"]) (nb : NoB mg) : FnH P w K mg base "is_within" CX0 1 ["thing", "low", "high"] c_is_within := by
  refine fnh hD sc_is_within (fun ds r c => by obtain ⟨x, lo, hi, rfl, ho, rfl⟩ := c; rfl) (fun f cdv A outer s H E hr => ⟨_, (pss_one (ps_ret (pe_and (pe_callB call_isi rfl nb.isinstance_ b_isinstance (pa_cons (pv 0) (pa_cons (pe_bltn (v := .ty "int") rfl nb.int_ b_int rfl) pa_nil))) (pe_and (pe_notT (pe_callB call_isi rfl nb.isinstance_ b_isinstance (pa_cons (pv 0) (pa_cons (pe_bltn (v := .ty "bool") rfl nb.bool_ b_bool rfl) pa_nil)))) (pe_one (pe_chain (op_leU hr.units0) (op_leU hr.units0) (pv 1) (pv 0) (pv 2))))))), fun ds r c => ?_⟩)
  try dsimp only [L2.cxOf, Cx.nox, Cx.wish]
  obtain ⟨x, lo, hi, rfl, ho, rfl⟩ := c
  refine sd_ret (ev_is (ev_and (y := !isB x && within x lo hi) (ev_isiI (ev_var rfl) ho) fun h1 => ev_and (y := within x lo hi) (ev_is (ev_notT (ev_isiB (ev_var rfl) ho)) rfl) fun h2 => ?_) rfl) ?_
  · cases x with
    | int i => exact ev_chain (ev_var rfl) (ev_var rfl) (fun _ => ev_var rfl) rd_cmpI fun _ => rd_cmpI
    | _ => first | (cases h1; done) | (cases h2; done)
  · show Res.ok _ = Res.ok _
    cases x <;> rfl
theorem f_rises (hD : DefAt K mg "rises" "rises" s_rises ["thing"]) (nb : NoB mg) : FnH P w K mg base "rises" CX0 1 ["thing"] c_rises := by
  refine fnh hD sc_rises (fun ds r c => by obtain ⟨d, xs, rfl, hd, hl, hx⟩ := c; rfl) (fun f cdv A outer s H E hr => ⟨_, (pss_one (ps_ret (pe_notT (pe_lc (own := [("one", 1), ("other", 2)]) rfl sc_rises.nd (RZ.pi_zipA rfl nb.zip_ (pa_cons (pv 0) (pa_cons (pe_slice sl_U (pv 0) (po_some pe_int) po_none) pa_nil))) (blkOk_by (own := [("one", 1), ("other", 2)]) (N := N_rises) (sc := (defScope s_rises)) (by decide +kernel)) (fun _ _ _ _ _ => Ly.PG.eqv (by exact (pg_tup (n := 2) rfl (pgs_cons (pg_name (i := 1) sc_rises.nd rfl (Or.inl rfl)) (pgs_cons (pg_name (i := 2) sc_rises.nd rfl (Or.inl rfl)) pgs_nil)))) (by first | (dsimp only [L2.cxOf, Cx.nox, Cx.wish, Cx.blk] <;> exact rfl) | exact rfl)) (fun _ _ _ _ _ => Ly.PTs.eqv (by exact (pts_one (pt_cmpR (op_geU hr.units0) (pv 1) (pv 2) (nomark _)))) (by first | (dsimp only [L2.cxOf, Cx.nox, Cx.wish, Cx.blk] <;> exact rfl) | exact rfl)) (fun _ _ _ _ _ => pe_int))))), fun ds r c => ?_⟩)
  try dsimp only [L2.cxOf, Cx.nox, Cx.wish]
  obtain ⟨d, xs, rfl, hd, hl, hx⟩ := c
  have mil := million
  obtain ⟨f, hf, hr'⟩ : ∃ f : D × D → Bool, (∀ x y, (x, y) ∈ xs.zip xs.tail → RD K (rGeU K) x y (.bool (f (x, y)))) ∧ r = .ok (.bool (((xs.zip xs.tail).filter f).isEmpty)) := by
    rcases hx with ⟨ns, rfl, rfl⟩ | ⟨ks, rfl, rfl⟩
    · refine ⟨fun p => decide (intOf p.2 ≤ intOf p.1), fun x y hm => ?_, ?_⟩
      · obtain ⟨i, _, rfl⟩ := List.mem_map.mp (List.of_mem_zip hm).1
        obtain ⟨j, _, rfl⟩ := List.mem_map.mp (List.mem_of_mem_tail (List.of_mem_zip hm).2)
        exact rd_cmpI
      · rw [risesI, ← List.map_tail, List.zip_map, List.filter_map]
        simp only [List.isEmpty_map]
        rfl
    · refine ⟨fun p => lexGe (lotOf p.1) (lotOf p.2), fun x y hm => ?_, ?_⟩
      · obtain ⟨i, _, rfl⟩ := List.mem_map.mp (List.of_mem_zip hm).1
        obtain ⟨j, _, rfl⟩ := List.mem_map.mp (List.mem_of_mem_tail (List.of_mem_zip hm).2)
        show RD K (rGeU K) _ _ (.bool (lexGe (lotOf (itup i)) (lotOf (itup j))))
        rw [lotOf_itup, lotOf_itup]
        exact rd_cmpT
      · rw [risesT, ← List.map_tail, List.zip_map, List.filter_map]
        simp only [List.isEmpty_map, Function.comp_def, Prod.map, lotOf_itup]
  have st : ∀ x y, (x, y) ∈ xs.zip xs.tail → ∃ env2 js, TGt K (gTup K 2 (gCons (gName 1) (gCons (gName 2) gNil))) (.tuple [x, y]) (wipeE (startE N_rises [d]) [1, 2]) env2 js ∧ (∀ j ∈ js, j ∈ [1, 2]) ∧ EvT K (tTest (tOp (rGeU K) (tVar 1) (tVar 2))) env2 (f (x, y)) ∧ (f (x, y) = true → EvD K (tC (.int 1)) env2 (.int 1)) := fun x y hm =>
    ⟨_, _, tg_tup (tgs_cons tg_name (tgs_cons tg_name tgs_nil)) rfl, by decide, et_test (ev_op (ev_var rfl) (ev_var rfl) (hf x y hm)), fun _ => ev_int⟩
  have nt : ∀ l : List (D × D), (!truD (.list (l.map fun _ => D.int 1))) = l.isEmpty := fun l => by cases l <;> rfl
  cases d with
  | tuple ds =>
    cases hd
    have ha := evn_lcZT (K := K) (env := startE N_rises [.tuple xs]) (t := tTest (tOp (rGeU K) (tVar 1) (tVar 2))) (te := tC (.int 1)) f (fun _ => .int 1) (ea_cons (ev_var (i := 0) rfl) (ea_cons (ev_is (ev_slT (ev_var (i := 0) rfl) (eo_some (ev_int (i := 1))) eo_none) (by rw [cut_tail])) ea_nil)) (by omega) st
    exact sd_ret (ev_is (ev_notT (ev_ofN ha)) (by rw [nt])) hr'
  | list ds =>
    cases hd
    have ha := evn_lcZL (K := K) (env := startE N_rises [.list xs]) (t := tTest (tOp (rGeU K) (tVar 1) (tVar 2))) (te := tC (.int 1)) f (fun _ => .int 1) (ea_cons (ev_var (i := 0) rfl) (ea_cons (ev_is (ev_slL (ev_var (i := 0) rfl) (eo_some (ev_int (i := 1))) eo_none) (by rw [cut_tail])) ea_nil)) (by omega) st
    exact sd_ret (ev_is (ev_notT (ev_ofN ha)) (by rw [nt])) hr'
  | _ => cases hd
theorem f_is_lot (hD : DefAt K mg "is_lot" "is_lot" s_is_lot ["things", "thing"]) (nb : NoB mg) (h_is_within : FnH P w K mg base "is_within" CX0 1 ["thing", "low", "high"] c_is_within) (h_rises : FnH P w K mg base "rises" CX0 1 ["thing"] c_rises) : FnH P w K mg base "is_lot" CX0 2 ["things", "thing"] c_is_lot := by
  refine fnh hD sc_is_lot (fun ds r c => by obtain ⟨n, d, rfl, hg, rfl⟩ := c; rfl) (fun f cdv A outer s H E hr => ⟨_, (pss_cons (ps_if (PW.pt (pw_or (pt_not (pt_truth (pe_callB call_isi rfl nb.isinstance_ b_isinstance (pa_cons (pv 1) (pa_cons (pe_bltn (v := .ty "tuple") rfl nb.tuple_ b_tuple rfl) pa_nil))) (by intro _; rfl))) (pw_or (pt_not (pt_truth (pv 1) (by intro _; rfl))) (pw_or1 (pt_truth (pe_lc (own := [("one", 2)]) rfl sc_is_lot.nd (pi_seq (pv 1)) (blkOk_by (own := [("one", 2)]) (N := N_is_lot) (sc := (defScope s_is_lot)) (by decide +kernel)) (fun _ _ _ _ _ => (pg_name (i := 2) sc_is_lot.nd rfl (Or.inl rfl))) (fun _ _ _ _ _ => Ly.PTs.eqv (by exact (pts_one (pt_not (pt_truth (pe_fn h_is_within (hr.mono (by decide)) rfl (pa_cons (pv 2) (pa_cons pe_int (pa_cons (pe_op op_sub (pv 0) pe_int) pa_nil)))) (by intro _; rfl))))) (by first | (dsimp only [L2.cxOf, Cx.nox, Cx.wish, Cx.blk] <;> exact rfl) | exact rfl)) (fun _ _ _ _ _ => (pv 2))) (by intro _; rfl)))))) (pss_one (ps_ret pe_bl)) pss_nil)
      (pss_one (ps_ret (pe_fn h_rises (hr.mono (by decide)) rfl (pa_cons (pv 1) pa_nil))))), fun ds r c => ?_⟩)
  try dsimp only [L2.cxOf, Cx.nox, Cx.wish]
  obtain ⟨n, d, rfl, hg, rfl⟩ := c
  have mil := million
  cases d with
  | tuple ds =>
    obtain ⟨hl, hg'⟩ := gd_tup hg
    have ea : (ds.filter fun x => !within x 0 (n - 1)).isEmpty = ds.all fun x => within x 0 (n - 1) := by
      rw [Bool.eq_iff_iff]; simp [List.filter_eq_nil_iff]
    refine sd_seq (sd_if (x := ds.isEmpty || !(ds.all fun x => within x 0 (n - 1))) (et_is (et_or (x := false) (y := ds.isEmpty || !(ds.all fun x => within x 0 (n - 1))) (et_is (et_not (et_tru (ev_isiU (ev_var rfl) rfl))) rfl) fun _ => et_is (et_or (x := ds.isEmpty) (y := !(ds.all fun x => within x 0 (n - 1))) (et_is (et_not (et_tru (ev_var rfl))) (by cases ds <;> rfl)) fun _ => et_is (et_tru (ev_ofN (evn_lcS (fun x => !within x 0 (n - 1)) (fun x => x) (ev_var rfl) rfl (by omega) fun x hx => ⟨_, _, tg_name, by decide, et_is (et_not (et_is (et_tru (ev_call (ea_cons (ev_var rfl) (ea_cons ev_int (ea_cons (ev_sub (ev_var rfl) ev_int) ea_nil))) ⟨_, _, _, rfl, gd_noObj (gds_mem hg' x hx), rfl⟩)) rfl)) rfl, fun _ => ev_var rfl⟩))) (by rw [← ea]; simp [truD])) rfl) rfl) (fun h => ?_) (fun h => ?_))
    · refine sd_ret ev_bl ?_
      show Res.ok _ = Res.ok _
      simp only [isLotD]
      rcases Bool.or_eq_true_iff.mp h with h | h
      · simp [h]
      · simp only [Bool.not_eq_true'] at h; simp [h]
    · have h' : ds.isEmpty = false ∧ (ds.all fun x => within x 0 (n - 1)) = true := by simpa using h
      have hi : ds = (ds.map intOf).map D.int := by
        rw [List.map_map]
        conv => lhs; rw [← List.map_id ds]
        refine List.map_congr_left fun x hx => ?_
        have := List.all_eq_true.mp h'.2 x hx
        cases x <;> first | rfl | (simp [within] at this)
      refine sd_next (sd_ret (ev_call (ea_cons (ev_var rfl) ea_nil) ⟨_, ds, rfl, rfl, hl, .inl ⟨ds.map intOf, hi, rfl⟩⟩) ?_)
      show Res.ok _ = Res.ok _
      simp [isLotD, h'.1, h'.2]
  | _ => first
    | (simp [gd] at hg; done)
    | exact sd_seq (sd_if (x := true) (et_is (et_or (x := true) (y := true) (et_is (et_not (et_tru (ev_isiU (ev_var rfl) rfl))) rfl) (fun h => nomatch h)) rfl) (fun _ => sd_ret ev_bl rfl) (fun h => nomatch h))
theorem f_is_part (hD : DefAt K mg "is_part" "is_part" s_is_part ["things", "units", "thing"]) (nb : NoB mg) (h_is_lot : FnH P w K mg base "is_lot" CX0 2 ["things", "thing"] c_is_lot) (h_is_within : FnH P w K mg base "is_within" CX0 1 ["thing", "low", "high"] c_is_within) : FnH P w K mg base "is_part" CX0 3 ["things", "units", "thing"] c_is_part := by
  refine fnh hD sc_is_part (fun ds r c => by obtain ⟨n, u, d, rfl, hg, rfl⟩ := c; rfl) (fun f cdv A outer s H E hr => ⟨_, (pss_one (ps_ret (pe_and (pe_callB call_isi rfl nb.isinstance_ b_isinstance (pa_cons (pv 2) (pa_cons (pe_bltn (v := .ty "tuple") rfl nb.tuple_ b_tuple rfl) pa_nil))) (pe_and (pe_cmpR (op_eqD hr.units) (pe_callB call_len rfl nb.len b_len (pa_cons (pv 2) pa_nil)) pe_int (nomark _)) (pe_and (pe_fn h_is_lot (hr.mono (by decide)) rfl (pa_cons (pv 0) (pa_cons (pe_ix ix_seq (pv 2) pe_int (fun _ _ => rfl)) pa_nil))) (pe_one (pe_fn h_is_within (hr.mono (by decide)) rfl (pa_cons (pe_ix ix_seq (pv 2) pe_int (fun _ _ => rfl)) (pa_cons pe_int (pa_cons (pv 1) pa_nil)))))))))), fun ds r c => ?_⟩)
  try dsimp only [L2.cxOf, Cx.nox, Cx.wish]
  obtain ⟨n, u, d, rfl, hg, rfl⟩ := c
  cases d with
  | tuple ds =>
    obtain ⟨hl, hg'⟩ := gd_tup hg
    refine sd_ret (ev_is (ev_and (x := true) (y := isPartD n u (.tuple ds)) (ev_is (ev_isiU (ev_var rfl) rfl) rfl) fun _ => ?_) rfl) rfl
    by_cases h2 : ds.length = 2
    · obtain ⟨a, b, rfl⟩ : ∃ a b, ds = [a, b] := by
        match ds, h2 with
        | [a, b], _ => exact ⟨a, b, rfl⟩
      refine ev_is (ev_and (x := true) (y := isPartD n u (.tuple [a, b])) (ev_is (ev_op (ev_len (ev_var rfl)) ev_int (rd_eq (shp_int _) (shp_int _))) (by rw [eqD_int]; rfl)) fun _ => ?_) rfl
      exact ev_is (ev_and (ev_call (ea_cons (ev_var rfl) (ea_cons (ev_ix (ev_var rfl) ev_int rfl) ea_nil)) ⟨_, _, rfl, gds_mem hg' a (by simp), rfl⟩) fun _ => ev_call (ea_cons (ev_ix (ev_var rfl) ev_int rfl) (ea_cons ev_int (ea_cons (ev_var rfl) ea_nil))) ⟨_, _, _, rfl, gd_noObj (gds_mem hg' b (by simp)), rfl⟩) rfl
    · refine ev_is (ev_and (x := false) (y := false) (ev_is (ev_op (ev_len (ev_var rfl)) ev_int (rd_eq (shp_int _) (shp_int _))) (by rw [eqD_int, decide_eq_false (show ¬ ((lenD (.tuple ds) : Nat) : Int) = 2 by simp only [lenD]; omega)])) fun h => nomatch h) ?_
      match ds, h2 with
      | [], _ => rfl
      | [_], _ => rfl
      | [_, _], h => exact absurd rfl h
      | _ :: _ :: _ :: _, _ => rfl
  | _ => first
    | (simp [gd] at hg; done)
    | exact sd_ret (ev_is (ev_and (x := false) (y := false) (ev_is (ev_isiU (ev_var rfl) rfl) rfl) (fun h => nomatch h)) rfl) rfl
theorem f_is_showing_of (hD : DefAt K mg "is_showing_of" "is_showing_of" s_is_showing_of ["things", "thing"]) (nb : NoB mg) (g_MOST_UNITS : GcH K mg "MOST_UNITS" (.int 100)) (g_WORDS : GcH K mg "WORDS" wordsD) (h_is_part : FnH P w K mg base "is_part" CX0 3 ["things", "units", "thing"] c_is_part) (h_is_within : FnH P w K mg base "is_within" CX0 1 ["thing", "low", "high"] c_is_within) (h_rises : FnH P w K mg base "rises" CX0 1 ["thing"] c_rises) : FnH P w K mg base "is_showing_of" CX0 4 ["things", "thing"] c_is_showing_of := by
  refine fnh hD sc_is_showing_of (fun ds r c => by obtain ⟨n, d, rfl, hg, rfl⟩ := c; rfl) (fun f cdv A outer s H E hr => ⟨_, (pss_cons (ps_if (PW.pt (pw_or (pt_not (pt_truth (pe_callB call_isi rfl nb.isinstance_ b_isinstance (pa_cons (pv 1) (pa_cons (pe_bltn (v := .ty "tuple") rfl nb.tuple_ b_tuple rfl) pa_nil))) (by intro _; rfl))) (pw_or (pt_cmpR (op_neD hr.units) (pe_callB call_len rfl nb.len b_len (pa_cons (pv 1) pa_nil)) pe_int (nomark _)) (pw_or1 (pt_not (pt_truth (pe_fn h_is_within (hr.mono (by decide)) rfl (pa_cons (pe_ix ix_seq (pv 1) pe_int (fun _ _ => rfl)) (pa_cons pe_int (pa_cons (pe_gc g_MOST_UNITS rfl) pa_nil)))) (by intro _; rfl))))))) (pss_one (ps_ret pe_bl)) pss_nil)
      (pss_cons (ps_if (PW.pt (pw_or (pt_not (pt_truth (pe_callB call_isi rfl nb.isinstance_ b_isinstance (pa_cons (pe_ix ix_seq (pv 1) pe_int (fun _ _ => rfl)) (pa_cons (pe_bltn (v := .ty "str") rfl nb.str_ b_str rfl) pa_nil))) (by intro _; rfl))) (pw_or (pt_cmpR (op_notInU (u65 hr)) (pe_ix ix_seq (pv 1) pe_int (fun _ _ => rfl)) (pe_gc g_WORDS rfl) (by rfl)) (pw_or (pt_not (pt_truth (pe_callB call_isi rfl nb.isinstance_ b_isinstance (pa_cons (pe_ix ix_seq (pv 1) pe_int (fun _ _ => rfl)) (pa_cons (pe_bltn (v := .ty "tuple") rfl nb.tuple_ b_tuple rfl) pa_nil))) (by intro _; rfl))) (pw_or1 (pt_not (pt_truth (pe_ix ix_seq (pv 1) pe_int (fun _ _ => rfl)) (by intro _; rfl)))))))) (pss_one (ps_ret pe_bl)) pss_nil)
      (pss_cons (ps_if (pt_truth (pe_lc (own := [("one", 2)]) rfl sc_is_showing_of.nd (pi_seq (pe_ix ix_seq (pv 1) pe_int (fun _ _ => rfl))) (blkOk_by (own := [("one", 2)]) (N := N_is_showing_of) (sc := (defScope s_is_showing_of)) (by decide +kernel)) (fun _ _ _ _ _ => (pg_name (i := 2) sc_is_showing_of.nd rfl (Or.inl rfl))) (fun _ _ _ _ _ => Ly.PTs.eqv (by exact (pts_one (pt_not (pt_truth (pe_fn h_is_part (hr.mono (by decide)) rfl (pa_cons (pv 0) (pa_cons (pe_ix ix_seq (pv 1) pe_int (fun _ _ => rfl)) (pa_cons (pv 2) pa_nil)))) (by intro _; rfl))))) (by first | (dsimp only [L2.cxOf, Cx.nox, Cx.wish, Cx.blk] <;> exact rfl) | exact rfl)) (fun _ _ _ _ _ => (pv 2))) (by intro _; rfl)) (pss_one (ps_ret pe_bl)) pss_nil)
      (pss_one (ps_ret (pe_fn h_rises (hr.mono (by decide)) rfl (pa_cons (pe_lc (own := [("part", 3)]) rfl sc_is_showing_of.nd (pi_seq (pe_ix ix_seq (pv 1) pe_int (fun _ _ => rfl))) (blkOk_by (own := [("part", 3)]) (N := N_is_showing_of) (sc := (defScope s_is_showing_of)) (by decide +kernel)) (fun _ _ _ _ _ => (pg_name (i := 3) sc_is_showing_of.nd rfl (Or.inl rfl))) (fun _ _ _ _ _ => pts_nil) (fun _ _ _ _ _ => Ly.PE.eqv (by exact (pe_ix ix_seq (pv 3) pe_int (fun _ _ => rfl))) (by first | (dsimp only [L2.cxOf, Cx.nox, Cx.wish, Cx.blk] <;> exact rfl) | exact rfl))) pa_nil))))))), fun ds r c => ?_⟩)
  try dsimp only [L2.cxOf, Cx.nox, Cx.wish]
  obtain ⟨n, d, rfl, hg, rfl⟩ := c
  have mil := million
  cases d with
  | tuple ds =>
    obtain ⟨hl, hg'⟩ := gd_tup hg
    by_cases h3 : ds.length = 3
    case neg =>
      have hn : isShwD n (.tuple ds) = false := by
        match ds, h3 with
        | [], _ => rfl
        | [_], _ => rfl
        | [_, _], _ => rfl
        | [_, _, _], h => exact absurd rfl h
        | _ :: _ :: _ :: _ :: _, _ => rfl
      rw [hn]
      exact sd_seq (sd_if (x := true) (et_is (et_or (x := false) (y := true) (et_is (et_not (et_tru (ev_isiU (ev_var rfl) rfl))) rfl) fun _ => et_is (et_or (x := true) (y := true) (et_is (et_test (ev_op (ev_len (ev_var rfl)) ev_int (rd_ne (shp_int _) (shp_int _)))) (by rw [eqD_int, decide_eq_false (show ¬ ((lenD (.tuple ds) : Nat) : Int) = 3 by simp only [lenD]; omega)]; rfl)) (fun h => nomatch h)) rfl) rfl) (fun _ => sd_ret ev_bl rfl) (fun h => nomatch h))
    obtain ⟨u, w, p, rfl⟩ : ∃ u w p, ds = [u, w, p] := by
      match ds, h3 with
      | [u, w, p], _ => exact ⟨u, w, p, rfl⟩
    have gu := gds_mem hg' u (by simp)
    have gw := gds_mem hg' w (by simp)
    have gp := gds_mem hg' p (by simp)
    refine sd_seq (sd_if (x := !within u 2 100) (et_is (et_or (x := false) (y := !within u 2 100) (et_is (et_not (et_tru (ev_isiU (ev_var rfl) rfl))) rfl) fun _ => et_is (et_or (x := false) (y := !within u 2 100) (et_is (et_test (ev_op (ev_len (ev_var rfl)) ev_int (rd_ne (shp_int _) (shp_int _)))) (by rw [eqD_int]; rfl)) fun _ => et_is (et_not (et_is (et_tru (ev_call (ea_cons (ev_ix (ev_var rfl) ev_int rfl) (ea_cons ev_int (ea_cons ev_gc ea_nil))) ⟨_, _, _, rfl, gd_noObj gu, rfl⟩)) rfl)) rfl) rfl) rfl) (fun h => ?_) (fun h => sd_next ?_))
    · refine sd_ret ev_bl ?_
      have h' : within u 2 100 = false := by simpa using h
      show Res.ok _ = Res.ok _
      simp [isShwD, h']
    have hu : within u 2 100 = true := by simpa using h
    obtain ⟨ui, rfl⟩ : ∃ i, u = .int i := by cases u <;> first | exact ⟨_, rfl⟩ | (simp [within] at hu)
    -- the word, and the parts' form
    have hw : ∀ x : Str, PyData.strOk x = true → inD (.str x) [.str "cut", .str "near", .str "up"] = isWord (.str x) := fun x hx => by
      simp only [inD, List.any_cons, List.any_nil, eqD_str, Bool.or_false, isWord, eq_comm]
    refine sd_seq (sd_if (x := !(isWord w && (isU p && truD p))) (et_is (et_or (x := !isS w) (y := !(isWord w && (isU p && truD p))) (et_is (et_not (et_tru (ev_isiS (ev_ix (ev_var rfl) ev_int rfl) (gd_noObj gw)))) rfl) fun hs => et_is (et_or (x := !isWord w) (y := !(isU p && truD p)) (et_is (et_test (ev_op (ev_ix (ev_var rfl) ev_int rfl) ev_gc (rd_inK ?shw (by decide +kernel)))) ?hin) fun _ => et_is (et_or (x := !isU p) (y := !truD p) (et_is (et_not (et_tru (ev_isiU (ev_ix (ev_var rfl) ev_int rfl) (gd_noObj gp)))) rfl) fun hp => et_not (et_tru (ev_ix (ev_var rfl) ev_int rfl) ?ok)) ?b1) ?b2) ?b3) (fun h => ?_) (fun h => sd_next ?_))
    case shw =>
      cases w <;> first | (cases hs; done) | (rw [shp_str]; simpa [gd] using gw)
    case hin =>
      cases w with
      | str x =>
        show (true ^^ inD (.str x) _) = _
        rw [hw x (by simpa [gd] using gw)]; simp
      | _ => cases hs
    case ok => cases p <;> first | rfl | (cases hp; done)
    case b1 => cases isU p <;> cases truD p <;> rfl
    case b2 => cases isWord w <;> cases isU p <;> cases truD p <;> rfl
    case b3 =>
      cases w <;> first | rfl | (simp [isS]; done) | (simp [isS, isWord])
    · refine sd_ret ev_bl ?_
      show Res.ok _ = Res.ok _
      cases p with
      | tuple ps =>
        simp only [isU, truD, Bool.true_and, Bool.not_eq_true', Bool.and_eq_false_iff] at h
        simp only [isShwD]
        rcases h with h | h
        · simp [h]
        · have : ps.isEmpty = true := by simpa using h
          simp [this]
      | _ => simp [isShwD]
    have h' : isWord w = true ∧ isU p = true ∧ truD p = true := by simpa using h
    obtain ⟨ps, rfl⟩ : ∃ ps, p = .tuple ps := by cases p <;> first | exact ⟨_, rfl⟩ | (cases h'.2.1)
    obtain ⟨pl, gps⟩ := gd_tup gp
    have hne : ps.isEmpty = false := by simpa [truD] using h'.2.2
    have ea : (ps.filter fun x => !isPartD n ui x).isEmpty = ps.all fun x => isPartD n ui x := by
      rw [Bool.eq_iff_iff]; simp [List.filter_eq_nil_iff]
    refine sd_seq (sd_if (x := !(ps.all fun x => isPartD n ui x)) (et_is (et_tru (ev_ofN (evn_lcS (fun x => !isPartD n ui x) (fun x => x) (ev_ix (ev_var rfl) ev_int rfl) rfl (by omega) fun x hx => ⟨_, _, tg_name, by decide, et_not (et_is (et_tru (ev_call (ea_cons (ev_var rfl) (ea_cons (ev_ix (ev_var rfl) ev_int rfl) (ea_cons (ev_var rfl) ea_nil))) ⟨_, _, _, rfl, gds_mem gps x hx, rfl⟩)) rfl), fun _ => ev_var rfl⟩))) (by rw [← ea]; simp [truD])) (fun h => ?_) (fun h => sd_next ?_))
    · refine sd_ret ev_bl ?_
      have h2 : (ps.all fun x => isPartD n ui x) = false := by simpa using h
      show Res.ok _ = Res.ok _
      simp [isShwD, intOf, h2]
    have hall : (ps.all fun x => isPartD n ui x) = true := by simpa using h
    have hp2 : ∀ x ∈ ps, ∃ k v, x = .tuple [itup k, v] ∧ headOf x = itup k := fun x hx => by
      have q := List.all_eq_true.mp hall x hx
      match x, q with
      | .tuple [a, b], q =>
        have q' : isLotD n a = true ∧ within b 0 ui = true := by simpa [isPartD] using q
        cases a with
        | tuple zs =>
          have q2 : (zs.all fun x => within x 0 (n - 1)) = true := by
            have := q'.1; simp only [isLotD, Bool.and_eq_true] at this; exact this.2.1
          have hz : D.tuple zs = itup (zs.map intOf) := by
            simp only [itup, List.map_map]
            congr 1
            conv => lhs; rw [← List.map_id zs]
            refine List.map_congr_left fun y hy => ?_
            have := List.all_eq_true.mp q2 y hy
            cases y <;> first | rfl | (simp [within] at this)
          exact ⟨zs.map intOf, b, by rw [hz], by rw [headOf, hz]⟩
        | _ => simp [isLotD] at q'
    have hmap : ps.map headOf = (ps.map fun q => lotOf (headOf q)).map itup := by
      rw [List.map_map]
      refine List.map_congr_left fun x hx => ?_
      obtain ⟨k, v, _, h2⟩ := hp2 x hx
      show headOf x = itup (lotOf (headOf x))
      rw [h2, lotOf_itup]
    refine sd_ret (ev_call (ea_cons (ev_ofN (evn_is (evn_lcS (fun _ => true) headOf (ev_ix (ev_var rfl) ev_int rfl) rfl (by omega) fun x hx => ⟨_, _, tg_name, by decide, et_yes, fun _ => ?_⟩) (show (ps.filter fun _ => true).map headOf = ps.map headOf by rw [List.filter_eq_self.mpr (fun _ _ => rfl)]))) ea_nil) ⟨_, ps.map headOf, rfl, rfl, by rw [List.length_map]; exact pl, .inr ⟨ps.map fun q => lotOf (headOf q), hmap, rfl⟩⟩) ?_
    · obtain ⟨k, v, rfl, h2⟩ := hp2 x hx
      exact ev_ix (ev_var rfl) ev_int rfl
    · show Res.ok _ = Res.ok _
      simp [isShwD, intOf, hu, h'.1, hne, hall]
  | _ => first
    | (simp [gd] at hg; done)
    | exact sd_seq (sd_if (x := true) (et_is (et_or (x := true) (y := true) (et_is (et_not (et_tru (ev_isiU (ev_var rfl) rfl))) rfl) (fun h => nomatch h)) rfl) (fun _ => sd_ret ev_bl rfl) (fun h => nomatch h))
theorem f_common (hD : DefAt K mg "common" "common" s_common ["one", "other"]) (nb : NoB mg) : FnH P w K mg base "common" CX0 1 ["one", "other"] c_common := by
  refine fnh hD sc_common (fun ds r c => by obtain ⟨a, b, rfl, ha, hb, ha2, hb2, rfl⟩ := c; rfl) (fun f cdv A outer s H E hr => ⟨_, (pss_cons (ps_while PassesOwn.never (pt_cmpR (op_neD hr.units) (pv 1) pe_int (nomark _)) (pss_one (ps_par (i := 0) (j := 1) rfl sc_common.nd rfl rfl (by decide) rfl rfl (pa_cons (pv 1) (pa_cons (pe_op op_mod (pv 0) (pv 1)) pa_nil)) (by rfl))))
      (pss_one (ps_ret (pv 0)))), fun ds r c => ?_⟩)
  try dsimp only [L2.cxOf, Cx.nox, Cx.wish]
  obtain ⟨a, b, rfl, ha, hb, ha2, hb2, rfl⟩ := c
  refine sd_seq (sd_while (fun m env => ∃ x y : Int, env = [.dat (.int x), .dat (.int y)] ∧ 0 ≤ x ∧ 0 ≤ y ∧ x < 1073741824 ∧ y < 1073741824 ∧ gcdI x y = gcdI a b ∧ m = y.toNat) b.toNat ⟨a, b, rfl, ha, hb, ha2, hb2, rfl, rfl⟩ ?_)
  rintro m env ⟨x, y, rfl, hx, hy, hx2, hy2, hg, rfl⟩
  refine ⟨!decide (y = 0), et_is (et_test (ev_op (ev_var rfl) ev_int (rd_ne (shp_int _) (shp_int _)))) (by rw [eqD_int]), fun h => ?_, fun h => ?_⟩
  · have hy0 : y ≠ 0 := by simpa using h
    refine sd_par (ea_cons (ev_var rfl) (ea_cons (ev_mod (ev_var rfl) (ev_var rfl) (by omega)) ea_nil)) ⟨(x % y).toNat, ?_, y, x % y, rfl, hy, Int.emod_nonneg _ hy0, hy2, ?_, ?_, rfl⟩
    · have := Int.emod_lt_of_pos x (show 0 < y by omega)
      have := Int.emod_nonneg x hy0
      omega
    · have := Int.emod_lt_of_pos x (show 0 < y by omega)
      omega
    · rw [← hg]
      unfold gcdI
      rw [gcd_step hx hy]
  · have hy0 : y = 0 := by simpa using h
    subst hy0
    refine sd_ret (ev_var rfl) ?_
    show Res.ok _ = Res.ok _
    rw [← hg]
    unfold gcdI
    rw [Int.gcd_zero_right]
    congr 2
    omega
theorem f_turn_of (hD : DefAt K mg "turn_of" "turn_of" s_turn_of ["showings"]) (nb : NoB mg) (h_common : FnH P w K mg base "common" CX0 1 ["one", "other"] c_common) : FnH P w K mg base "turn_of" CX0 2 ["showings"] c_turn_of := by
  refine fnh hD sc_turn_of (fun ds r c => by obtain ⟨ss, rfl, hs, rfl⟩ := c; rfl) (fun f cdv A outer s H E hr => ⟨_, (pss_cons (ps_set (i := 1) sc_turn_of.nd rfl (Or.inl rfl) pe_int)
      (pss_cons (ps_for PassesOwn.never rfl (pi_seq (pv 0)) (pg_tup (n := 3) rfl (pgs_cons (pg_name (i := 2) sc_turn_of.nd rfl (Or.inl rfl)) (pgs_cons (pg_name (i := 3) sc_turn_of.nd rfl (Or.inl rfl)) (pgs_cons (pg_name (i := 4) sc_turn_of.nd rfl (Or.inl rfl)) pgs_nil)))) (pss_cons (ps_set (i := 5) sc_turn_of.nd rfl (Or.inl rfl) (pe_ifExp (pt_cmpR (op_eqD hr.units) (pv 3) pe_str (nomark _)) (pe_op op_mulU pe_int (pv 2)) (pv 2)))
      (pss_one (ps_set (i := 1) sc_turn_of.nd rfl (Or.inl rfl) (pe_op op_mulU (pe_op op_fdiv (pv 1) (pe_fn h_common (hr.mono (by decide)) rfl (pa_cons (pv 1) (pa_cons (pv 5) pa_nil)))) (pv 5))))))
      (pss_one (ps_ret (pv 1))))), fun ds r c => ?_⟩)
  try dsimp only [L2.cxOf, Cx.nox, Cx.wish]
  obtain ⟨ss, rfl, hs, rfl⟩ := c
  have bd : ∀ n, n ≤ ss.length → 1 ≤ turnOf (ss.take n) ∧ turnOf (ss.take n) ≤ 200 ^ n := turn_bd hs.2
  refine sd_seq (sd_asg ev_int ?_)
  refine sd_seq (sd_forS (ev_var rfl) rfl (fun i env => ∃ a b c d, env = [.dat (shsD ss), .dat (.int (turnOf (ss.take i))), a, b, c, d]) ⟨_, _, _, _, rfl⟩ ?_ ?_)
  · rintro i d env hd ⟨a, b, c, e, rfl⟩
    rw [List.getElem?_map] at hd
    cases hq : ss[i]? with
    | none => rw [hq] at hd; cases hd
    | some s =>
      rw [hq] at hd; cases hd
      have hi : i < ss.length := (List.getElem?_eq_some_iff.mp hq).1
      have hm := hs.2 s (List.mem_of_getElem? hq)
      obtain ⟨b1, b2⟩ := bd i (by omega)
      have h3 := hs.1
      have b3 : (200 : Int) ^ i ≤ 40000 := by
        have : i = 0 ∨ i = 1 ∨ i = 2 := by omega
        rcases this with rfl | rfl | rfl <;> decide
      refine ⟨_, _, tg_tup (tgs_cons tg_name (tgs_cons tg_name (tgs_cons tg_name tgs_nil))) rfl, ?_⟩
      refine sd_seq (sd_asg (d := .int (if s.word = "near" then 2 * s.units else s.units)) (ev_if (x := decide (s.word = "near")) (et_is (et_test (ev_op (ev_var rfl) ev_str (rd_eq (by rw [shp_str]; exact hm.2.2) (by decide +kernel)))) (by rw [eqD_str])) (fun h => ?_) (fun h => ?_)) ?_)
      · rw [if_pos (of_decide_eq_true h)]
        exact ev_mulI ev_int (ev_var rfl) (Or.inl ⟨by decide, by decide⟩)
      · rw [if_neg (of_decide_eq_false h)]
        exact ev_var rfl
      · have ho : 1 ≤ (if s.word = "near" then 2 * s.units else s.units) ∧ (if s.word = "near" then 2 * s.units else s.units) ≤ 200 := by split <;> omega
        generalize ho' : (if s.word = "near" then 2 * s.units else s.units) = one at *
        have gp := gcd_pos b1 ho.1
        refine sd_asg (ev_mulI (ev_div (ev_var rfl) (ev_call (ea_cons (ev_var rfl) (ea_cons (ev_var rfl) ea_nil)) ⟨_, _, rfl, by omega, by omega, by omega, by omega, rfl⟩) ⟨gp.1, by omega⟩) (ev_var rfl) (Or.inr ⟨by omega, by omega⟩)) ?_
        have et : turnOf (ss.take (i + 1)) = turnOf (ss.take i) / gcdI (turnOf (ss.take i)) one * one := by rw [turn_take hq, turnStep, ho']
        exact ⟨.dat (.int s.units), .dat (.str s.word), .dat (.tuple (s.parts.map partD)), .dat (.int one), by rw [et]; rfl⟩
  · rintro env ⟨a, b, c, e, rfl⟩
    refine sd_ret (ev_var rfl) ?_
    show Res.ok _ = Res.ok _
    rw [List.length_map, List.take_length]
theorem f_all_lots {cc PP : Addr} (hT : PySem.W.tabIn K "all_lots" = some (cc, PP)) (TB : LamX.TabB base mg cc PP) (hD : DefAtT K mg "all_lots" "all_lots" s_all_lots ["poll"] cc) (nb : NoB mg) : FnH P w K mg base "all_lots" CX0 1 ["poll"] c_all_lots := by
  refine fnhT hD sc_all_lots (fun ds r c => by obtain ⟨p, rfl, hp, rfl⟩ := c; rfl) (fun f A outer s H E hr => ⟨_, (pss_cons (ps_set (i := 1) sc_all_lots.nd rfl (Or.inl rfl) (pe_ifExp (pt_cmpR (op_eqD hr.units) (pe_ix ix_seq (pv 0) pe_int (fun _ _ => rfl)) pe_str (nomark _)) (pe_dispT (hu_of hr) (pe_tupRg rfl rfl nb.tuple_ (prg_1 rfl nb.range_ (pe_ix ix_seq (pv 0) pe_int (fun _ _ => rfl)))) pe_bl) pe_dnewT))
      (pss_cons (ps_for PassesOwn.never rfl (pi_range1 rfl nb.range_ (pa_cons (pe_ix ix_seq (pv 0) pe_int (fun _ _ => rfl)) pa_nil)) (pg_name (i := 2) sc_all_lots.nd rfl (Or.inl rfl)) (pss_one (ps_dput (hu_of hr) (pv 1) (pe_tup (pa_cons (pv 2) pa_nil)) pe_bl rfl)))
      (pss_cons (ps_for PassesOwn.never rfl (pi_seq (pe_ix ix_seq (pv 0) pe_int (fun _ _ => rfl))) (pg_tup (n := 3) rfl (pgs_cons (pg_name (i := 3) sc_all_lots.nd rfl (Or.inl rfl)) (pgs_cons (pg_name (i := 4) sc_all_lots.nd rfl (Or.inl rfl)) (pgs_cons (pg_name (i := 5) sc_all_lots.nd rfl (Or.inl rfl)) pgs_nil)))) (pss_one (ps_for PassesOwn.never rfl (pi_seq (pv 5)) (pg_tup (n := 2) rfl (pgs_cons (pg_name (i := 6) sc_all_lots.nd rfl (Or.inl rfl)) (pgs_cons (pg_name (i := 7) sc_all_lots.nd rfl (Or.inl rfl)) pgs_nil))) (pss_one (ps_dput (hu_of hr) (pv 1) (pv 6) pe_bl rfl)))))
      (pss_one (ps_ret (pe_sortLam TB rfl rfl rfl (hr.mono (Nat.le_refl _)) rfl nb.sorted_ nb.len (pa_cons (pv 1) pa_nil) ⟨rfl, rfl, rfl, by decide, by decide, rfl, rfl, fun _ _ _ _ _ => rfl⟩ rfl)))))), fun ds r c => ?_⟩)
  try dsimp only [L2.cxOf, Cx.nox, Cx.wish]
  obtain ⟨p, rfl, hp, rfl⟩ := c
  obtain ⟨n0, n1, kd, ln, ls⟩ := hp
  have sz := sizeLine_eq
  have l0 : (keys0 p).length ≤ 1 := by unfold keys0; split <;> simp
  -- the new dict
  refine sd_seq (sd_asgK (al := yesD (keys0 p)) (evk_if (x := decide (p.kind = "one")) (et_is (et_test (ev_op (ev_ix (ev_var rfl) ev_int rfl) ev_str (rd_eq (by rw [shp_str]; exact kd) (by decide +kernel)))) (by rw [eqD_str])) (fun h => ?_) (fun h => ?_)) ?_)
  · rw [keys0, if_pos (of_decide_eq_true h)]
    exact evk_disp (ev_tupRg (ev_ix (ev_var rfl) ev_int rfl) n0 (by omega)) ev_bl
  · rw [keys0, if_neg (of_decide_eq_false h)]
    exact evk_new
  -- single things
  refine sd_seq (sd_forR1 (n := p.n) (ea_cons (ev_ix (ev_var rfl) ev_int rfl) ea_nil) ⟨by omega, by omega⟩ (fun i env => ∃ a, env = [.dat (Pol.d p), .dic (yesD ((singles i).foldl addK (keys0 p))), a, .no, .no, .no, .no, .no]) ⟨_, rfl⟩ ?_ ?_)
  · rintro i env hi ⟨a, rfl⟩
    refine ⟨_, _, tg_name, ?_⟩
    have hl := length_fold (singles i) (keys0 p)
    have hs : (singles i).length = i := by simp [singles]
    refine sd_dput (k := [(i : Int)]) rfl ev_bl (ev_tup (ds := [.int (i : Int)]) (ea_cons (ev_var rfl) ea_nil)) (by simp only [yesD, List.length_map]; omega) ⟨.dat (.int (i : Int)), ?_⟩
    rw [putA_yes, show singles (i + 1) = singles i ++ [[(i : Int)]] by simp [singles, List.range_succ], List.foldl_append]
    rfl
  rintro env ⟨a, rfl⟩
  -- shown lots
  have hls : ((singles p.n.toNat).foldl addK (keys0 p)).length ≤ 1 + 1000 := by
    have hl := length_fold (singles p.n.toNat) (keys0 p)
    have hs : (singles p.n.toNat).length = p.n.toNat := by simp [singles]
    omega
  refine sd_seq (sd_forS (ev_ix (ev_var rfl) ev_int rfl) rfl (fun i env => ∃ a b c d e g, env = [.dat (Pol.d p), .dic (yesD (((p.shs.take i).flatMap shLots).foldl addK ((singles p.n.toNat).foldl addK (keys0 p)))), a, b, c, d, e, g]) ⟨_, _, _, _, _, _, rfl⟩ ?_ ?_)
  · rintro i d env hd ⟨a, b, c, d', e, g, rfl⟩
    rw [List.getElem?_map] at hd
    cases hq : p.shs[i]? with
    | none => rw [hq] at hd; cases hd
    | some s =>
      rw [hq] at hd; cases hd
      refine ⟨_, _, tg_tup (tgs_cons tg_name (tgs_cons tg_name (tgs_cons tg_name tgs_nil))) rfl, ?_⟩
      have tot : ∀ j, j ≤ s.parts.length → (((p.shs.take i).flatMap shLots) ++ ((s.parts.take j).map (·.1))).length < 4000000 := fun j hj => by
        have e1 : p.shs.flatMap shLots = ((p.shs.take i).flatMap shLots) ++ (shLots s ++ (p.shs.drop (i + 1)).flatMap shLots) := by
          obtain ⟨h1, h2⟩ := List.getElem?_eq_some_iff.mp hq
          conv => lhs; rw [← List.take_append_drop i p.shs, List.drop_eq_getElem_cons h1, h2]
          rw [List.flatMap_append, List.flatMap_cons]
        have := congrArg List.length e1
        simp only [List.length_append, shLots, List.length_map, List.length_take] at this ⊢
        omega
      refine sd_forS (ev_var rfl) rfl (fun j env => ∃ e g, env = [.dat (Pol.d p), .dic (yesD ((((p.shs.take i).flatMap shLots) ++ ((s.parts.take j).map (·.1))).foldl addK ((singles p.n.toNat).foldl addK (keys0 p)))), a, .dat (.int s.units), .dat (.str s.word), .dat (.tuple (s.parts.map partD)), e, g]) ⟨e, g, by simp⟩ ?_ ?_
      · rintro j d env hd ⟨e, g, rfl⟩
        rw [List.getElem?_map] at hd
        cases hr2 : s.parts[j]? with
        | none => rw [hr2] at hd; cases hd
        | some q =>
          rw [hr2] at hd; cases hd
          have hj : j < s.parts.length := (List.getElem?_eq_some_iff.mp hr2).1
          have t1 := tot j (by omega)
          have hl := length_fold (((p.shs.take i).flatMap shLots) ++ ((s.parts.take j).map (·.1))) ((singles p.n.toNat).foldl addK (keys0 p))
          refine ⟨_, _, tg_tup (tgs_cons tg_name (tgs_cons tg_name tgs_nil)) rfl, ?_⟩
          refine sd_dput (k := q.1) rfl ev_bl (ev_var rfl) (by simp only [yesD, List.length_map]; omega) ⟨.dat (itup q.1), .dat (.int q.2), ?_⟩
          rw [putA_yes, List.take_add_one, hr2]
          simp only [Option.toList, List.map_append, List.map_cons, List.map_nil, ← List.append_assoc]
          rw [List.foldl_append (l' := [q.1])]
          rfl
      · rintro env ⟨e, g, rfl⟩
        have ek : (p.shs.take (i + 1)).flatMap shLots = (p.shs.take i).flatMap shLots ++ s.parts.map (·.1) := by
          rw [List.take_add_one, hq, List.flatMap_append]; simp [shLots]
        exact ⟨a, .dat (.int s.units), .dat (.str s.word), .dat (.tuple (s.parts.map partD)), e, g, by rw [List.length_map, List.take_length, ek]⟩
  · rintro env ⟨a, b, c, d', e, g, rfl⟩
    rw [List.length_map, List.take_length]
    refine sd_ret (ev_ofN (evn_sortLam hT (i := 1) rfl)) ?_
    show Res.ok _ = Res.ok _
    rw [allLots, allKeys, List.foldl_append]
    simp [yesD, List.map_map, Function.comp_def]
theorem f_do_nest (hD : DefAt K mg "do_nest" "do_nest" s_do_nest ["lots"]) (nb : NoB mg) : FnH P w K mg base "do_nest" CX0 1 ["lots"] c_do_nest := by
  refine fnh hD sc_do_nest (fun ds r c => by obtain ⟨ks, rfl, hl, hk, rfl⟩ := c; rfl) (fun f cdv A outer s H E hr => ⟨_, (pss_cons (ps_for PassesOwn.never rfl (pi_enum rfl nb.enumerate_ (pa_cons (pv 0) pa_nil)) (pg_tup (n := 2) rfl (pgs_cons (pg_name (i := 1) sc_do_nest.nd rfl (Or.inl rfl)) (pgs_cons (pg_name (i := 2) sc_do_nest.nd rfl (Or.inl rfl)) pgs_nil))) (pss_one (ps_for PassesOwn.never rfl (pi_seq (pe_slice sl_U (pv 0) (po_some (pe_op op_addU (pv 1) pe_int)) po_none)) (pg_name (i := 3) sc_do_nest.nd rfl (Or.inr rfl)) (pss_cons (ps_setLc (i := 4) (own := [("one", 5)]) rfl sc_do_nest.nd rfl rfl (sw_true rfl rfl rfl (by decide +kernel)) (pi_seq (pv 2)) (blkOk_by (own := [("one", 5)]) (N := N_do_nest) (sc := defScope s_do_nest) (by decide +kernel)) (fun _ _ _ _ _ => (pg_name (i := 5) sc_do_nest.nd rfl (Or.inl rfl))) (fun _ _ _ _ _ => Ly.PTs.eqv (by exact (pts_one (pt_cmpR (op_inU (u65 hr)) (pv 5) (pv 3) (by rfl)))) (by first | (dsimp only [L2.cxOf, Cx.nox, Cx.wish, Cx.blk] <;> exact rfl) | exact rfl)) (fun _ _ _ _ _ => (pv 5)))
      (pss_one (ps_if (PW.pt (pw_and (pt_truth (pv 4) (by intro _; rfl)) (pw_and1 (pt_cmpR (op_neD hr.units) (pe_callB call_len rfl nb.len b_len (pa_cons (pv 4) pa_nil)) (pe_callB call_len rfl nb.len b_len (pa_cons (pv 2) pa_nil)) (nomark _))))) (pss_one (ps_ret pe_bl)) pss_nil))))))
      (pss_one (ps_ret pe_bl))), fun ds r c => ?_⟩)
  try dsimp only [L2.cxOf, Cx.nox, Cx.wish]
  obtain ⟨ks, rfl, hl, hk, rfl⟩ := c
  have sz := sizeLine_eq
  refine sd_seq (sd_forE (ea_cons (ev_var rfl) ea_nil) (fun i env => doNest (ks.drop i) = doNest ks ∧ ∃ a b c d e, env = [.dat (.list (ks.map itup)), a, b, c, d, e]) ⟨rfl, _, _, _, _, _, rfl⟩ ?_ ?_)
  · rintro i d env hd ⟨hn, a, b, c, d', e, rfl⟩
    rw [List.getElem?_map] at hd
    cases hq : ks[i]? with
    | none => rw [hq] at hd; cases hd
    | some k =>
      rw [hq] at hd; cases hd
      have hkl := hk k (List.mem_of_getElem? hq)
      refine ⟨_, _, tg_tup (tgs_cons tg_name (tgs_cons tg_name tgs_nil)) rfl, ?_⟩
      refine sd_forS (ev_is (ev_slL (ev_var rfl) (eo_some (ev_addI (ev_var rfl) ev_int)) eo_none) (by rw [cut_drop, ← List.map_drop])) rfl (fun j env => ((ks.drop (i + 1)).take j).all (okPair k) = true ∧ ∃ c d e, env = [.dat (.list (ks.map itup)), .dat (.int (i : Nat)), .dat (itup k), c, d, e]) ⟨rfl, _, _, _, rfl⟩ ?_ ?_
      · rintro j d env hd ⟨hall, c, d', e, rfl⟩
        rw [List.getElem?_map] at hd
        cases hr2 : (ks.drop (i + 1))[j]? with
        | none => rw [hr2] at hd; cases hd
        | some o =>
          rw [hr2] at hd; cases hd
          have ho := hk o (List.mem_of_mem_drop (List.mem_of_getElem? hr2))
          refine ⟨_, _, tg_name, ?_⟩
          have bl : (bothOf k o).map D.int = ((k.map D.int).filter fun x => inD x (o.map D.int)).map fun x => x := by
            rw [List.map_id', List.filter_map, bothOf]
            congr 1
            refine List.filter_congr fun x _ => ?_
            rw [Function.comp, in_ints]
          refine sd_seq (sd_asg (d := .list ((bothOf k o).map .int)) (ev_is (ev_ofN (evn_lcS (d := itup k) (ds := k.map .int) (fun x => inD x (o.map D.int)) (fun x => x) (ev_var rfl) rfl (by rw [List.length_map]; omega) fun x hx => ⟨_, _, tg_name, by decide, et_is (et_test (ev_op (ev_var rfl) (ev_var rfl) (rd_inT (neg := false) (ds := o.map .int) ?sx ?so))) (by simp), fun _ => ev_var rfl⟩)) (by rw [bl])) ?_)
          case sx =>
            obtain ⟨y, _, rfl⟩ := List.mem_map.mp hx
            exact shp_int y
          case so => exact shp_itup o
          have eL : truD (.list ((bothOf k o).map .int)) = !(bothOf k o).isEmpty := by simp [truD]
          refine sd_if (x := !okPair k o) (et_is (et_and (x := !(bothOf k o).isEmpty) (y := !decide ((bothOf k o).length = k.length)) (et_is (et_tru (ev_var rfl)) eL) fun _ => et_is (et_test (ev_op (ev_len (ev_var rfl)) (ev_len (ev_var rfl)) (rd_ne (shp_int _) (shp_int _)))) (by rw [eqD_int]; simp [lenD, itup]; omega)) (by unfold okPair; cases (bothOf k o).isEmpty <;> simp)) (fun h => ?_) (fun h => sd_next ?_)
          · refine sd_ret ev_bl ?_
            show Res.ok _ = Res.ok _
            rw [← hn, doNest_drop hq]
            have : (ks.drop (i + 1)).all (okPair k) = false := by
              rw [List.all_eq_false]
              exact ⟨o, List.mem_of_getElem? hr2, by simpa using h⟩
            rw [this]; rfl
          · refine ⟨?_, _, _, _, rfl⟩
            rw [List.take_add_one, hr2, List.all_append, hall]
            simpa using h
      · rintro env ⟨hall, c, d', e, rfl⟩
        rw [List.length_map, List.take_length] at hall
        refine ⟨?_, _, _, _, _, _, rfl⟩
        rw [← hn, doNest_drop hq, hall]; rfl
  · rintro env ⟨hn, a, b, c, d', e, rfl⟩
    refine sd_ret ev_bl ?_
    show Res.ok _ = Res.ok _
    rw [← hn, List.length_map, List.drop_length]; rfl
theorem f_is_poll (hD : DefAt K mg "is_poll" "is_poll" s_is_poll ["thing"]) (nb : NoB mg) (g_KINDS : GcH K mg "KINDS" kindsD) (g_MOST_SHOWINGS : GcH K mg "MOST_SHOWINGS" (.int 3)) (g_MOST_THINGS : GcH K mg "MOST_THINGS" (.int 6)) (g_MOST_TURN : GcH K mg "MOST_TURN" (.int 1000)) (h_all_lots : FnH P w K mg base "all_lots" CX0 1 ["poll"] c_all_lots) (h_do_nest : FnH P w K mg base "do_nest" CX0 1 ["lots"] c_do_nest) (h_is_showing_of : FnH P w K mg base "is_showing_of" CX0 4 ["things", "thing"] c_is_showing_of) (h_is_within : FnH P w K mg base "is_within" CX0 1 ["thing", "low", "high"] c_is_within) (h_turn_of : FnH P w K mg base "turn_of" CX0 2 ["showings"] c_turn_of) : FnH P w K mg base "is_poll" CX0 5 ["thing"] c_is_poll := by
  refine fnh hD sc_is_poll (fun ds r c => by obtain ⟨d, rfl, hg, rfl⟩ := c; rfl) (fun f cdv A outer s H E hr => ⟨_, (pss_cons (ps_if (PW.pt (pw_or (pt_not (pt_truth (pe_callB call_isi rfl nb.isinstance_ b_isinstance (pa_cons (pv 0) (pa_cons (pe_bltn (v := .ty "tuple") rfl nb.tuple_ b_tuple rfl) pa_nil))) (by intro _; rfl))) (pw_or (pt_cmpR (op_neD hr.units) (pe_callB call_len rfl nb.len b_len (pa_cons (pv 0) pa_nil)) pe_int (nomark _)) (pw_or1 (pt_not (pt_truth (pe_fn h_is_within (hr.mono (by decide)) rfl (pa_cons (pe_ix ix_seq (pv 0) pe_int (fun _ _ => rfl)) (pa_cons pe_int (pa_cons (pe_gc g_MOST_THINGS rfl) pa_nil)))) (by intro _; rfl))))))) (pss_one (ps_ret pe_bl)) pss_nil)
      (pss_cons (ps_if (PW.pt (pw_or (pt_not (pt_truth (pe_callB call_isi rfl nb.isinstance_ b_isinstance (pa_cons (pe_ix ix_seq (pv 0) pe_int (fun _ _ => rfl)) (pa_cons (pe_bltn (v := .ty "str") rfl nb.str_ b_str rfl) pa_nil))) (by intro _; rfl))) (pw_or (pt_cmpR (op_notInU (u65 hr)) (pe_ix ix_seq (pv 0) pe_int (fun _ _ => rfl)) (pe_gc g_KINDS rfl) (by rfl)) (pw_or1 (pt_not (pt_truth (pe_callB call_isi rfl nb.isinstance_ b_isinstance (pa_cons (pe_ix ix_seq (pv 0) pe_int (fun _ _ => rfl)) (pa_cons (pe_bltn (v := .ty "tuple") rfl nb.tuple_ b_tuple rfl) pa_nil))) (by intro _; rfl))))))) (pss_one (ps_ret pe_bl)) pss_nil)
      (pss_cons (ps_if (PW.pt (pw_or (pt_not (pt_chain (op_leU hr.units0) (op_leU hr.units0) pe_int (pe_callB call_len rfl nb.len b_len (pa_cons (pe_ix ix_seq (pv 0) pe_int (fun _ _ => rfl)) pa_nil)) (pe_gc g_MOST_SHOWINGS rfl))) (pw_or1 (pt_truth (pe_lc (own := [("one", 1)]) rfl sc_is_poll.nd (pi_seq (pe_ix ix_seq (pv 0) pe_int (fun _ _ => rfl))) (blkOk_by (own := [("one", 1)]) (N := N_is_poll) (sc := (defScope s_is_poll)) (by decide +kernel)) (fun _ _ _ _ _ => (pg_name (i := 1) sc_is_poll.nd rfl (Or.inl rfl))) (fun _ _ _ _ _ => Ly.PTs.eqv (by exact (pts_one (pt_not (pt_truth (pe_fn h_is_showing_of (hr.mono (by decide)) rfl (pa_cons (pe_ix ix_seq (pv 0) pe_int (fun _ _ => rfl)) (pa_cons (pv 1) pa_nil))) (by intro _; rfl))))) (by first | (dsimp only [L2.cxOf, Cx.nox, Cx.wish, Cx.blk] <;> exact rfl) | exact rfl)) (fun _ _ _ _ _ => (pv 1))) (by intro _; rfl))))) (pss_one (ps_ret pe_bl)) pss_nil)
      (pss_cons (ps_if (pt_cmpR (op_gtU hr.units0) (pe_fn h_turn_of (hr.mono (by decide)) rfl (pa_cons (pe_ix ix_seq (pv 0) pe_int (fun _ _ => rfl)) pa_nil)) (pe_gc g_MOST_TURN rfl) (nomark _)) (pss_one (ps_ret pe_bl)) pss_nil)
      (pss_cons (ps_if (pt_cmpR (op_eqD hr.units) (pe_ix ix_seq (pv 0) pe_int (fun _ _ => rfl)) pe_str (nomark _)) (pss_one (ps_ret (pe_notT (pe_lc2 (own := [("showing", 2), ("lot", 3), ("share", 4)]) (vs1 := [3, 4]) rfl sc_is_poll.nd (pi_seq (pe_ix ix_seq (pv 0) pe_int (fun _ _ => rfl))) (blkOk_by (own := [("showing", 2), ("lot", 3), ("share", 4)]) (N := N_is_poll) (sc := (defScope s_is_poll)) (by decide +kernel)) (by decide) (fun _ _ _ _ _ => (pg_name (i := 2) sc_is_poll.nd rfl (Or.inl rfl))) (fun _ _ _ _ _ => pts_nil) (fun _ _ _ _ _ => Ly.PI.eqv (by exact (pi_seq (pe_ix ix_seq (pv 2) pe_int (fun _ _ => rfl)))) (by first | (dsimp only [L2.cxOf, Cx.nox, Cx.wish, Cx.blk] <;> exact rfl) | exact rfl)) (fun _ _ _ _ _ => Ly.PG.eqv (by exact (pg_tup (n := 2) rfl (pgs_cons (pg_name (i := 3) sc_is_poll.nd rfl (Or.inl rfl)) (pgs_cons (pg_name (i := 4) sc_is_poll.nd rfl (Or.inl rfl)) pgs_nil)))) (by first | (dsimp only [L2.cxOf, Cx.nox, Cx.wish, Cx.blk] <;> exact rfl) | exact rfl)) (fun _ _ _ _ _ => Ly.PTs.eqv (by exact (pts_one (pt_cmpR (op_gtU hr.units0) (pe_callB call_len rfl nb.len b_len (pa_cons (pv 3) pa_nil)) pe_int (nomark _)))) (by first | (dsimp only [L2.cxOf, Cx.nox, Cx.wish, Cx.blk] <;> exact rfl) | exact rfl)) (fun _ _ _ _ _ => pe_int))))) pss_nil)
      (pss_one (ps_ret (pe_fn h_do_nest (hr.mono (by decide)) rfl (pa_cons (pe_fn h_all_lots (hr.mono (by decide)) rfl (pa_cons (pv 0) pa_nil)) pa_nil))))))))), fun ds r c => ?_⟩)
  try dsimp only [L2.cxOf, Cx.nox, Cx.wish]
  obtain ⟨d, rfl, hg, rfl⟩ := c
  have sz := sizeLine_eq
  cases d with
  | tuple ds =>
    obtain ⟨hl, hg'⟩ := gd_tup hg
    by_cases h3 : ds.length = 3
    case neg =>
      have hn : isPollD (.tuple ds) = false := by
        match ds, h3 with
        | [], _ => rfl
        | [_], _ => rfl
        | [_, _], _ => rfl
        | [_, _, _], h => exact absurd rfl h
        | _ :: _ :: c :: _ :: _, _ => cases c <;> rfl
      rw [hn]
      exact sd_seq (sd_if (x := true) (et_is (et_or (x := false) (y := true) (et_is (et_not (et_tru (ev_isiU (ev_var rfl) rfl))) rfl) fun _ => et_is (et_or (x := true) (y := true) (et_is (et_test (ev_op (ev_len (ev_var rfl)) ev_int (rd_ne (shp_int _) (shp_int _)))) (by rw [eqD_int, decide_eq_false (show ¬ ((lenD (.tuple ds) : Nat) : Int) = 3 by simp only [lenD]; omega)]; rfl)) (fun h => nomatch h)) rfl) rfl) (fun _ => sd_ret ev_bl rfl) (fun h => nomatch h))
    obtain ⟨n, k, p, rfl⟩ : ∃ n k p, ds = [n, k, p] := by
      match ds, h3 with
      | [u, w, p], _ => exact ⟨u, w, p, rfl⟩
    have gn := gds_mem hg' n (by simp)
    have gk := gds_mem hg' k (by simp)
    have gp := gds_mem hg' p (by simp)
    refine sd_seq (sd_if (x := !within n 1 6) (et_is (et_or (x := false) (y := !within n 1 6) (et_is (et_not (et_tru (ev_isiU (ev_var rfl) rfl))) rfl) fun _ => et_is (et_or (x := false) (y := !within n 1 6) (et_is (et_test (ev_op (ev_len (ev_var rfl)) ev_int (rd_ne (shp_int _) (shp_int _)))) (by rw [eqD_int]; rfl)) fun _ => et_is (et_not (et_is (et_tru (ev_call (ea_cons (ev_ix (ev_var rfl) ev_int rfl) (ea_cons ev_int (ea_cons ev_gc ea_nil))) ⟨_, _, _, rfl, gd_noObj gn, rfl⟩)) rfl)) rfl) rfl) rfl) (fun h => ?_) (fun h => sd_next ?_))
    · refine sd_ret ev_bl ?_
      have h' : within n 1 6 = false := by simpa using h
      show Res.ok _ = Res.ok _
      cases p <;> simp [isPollD, h']
    have hn : within n 1 6 = true := by simpa using h
    obtain ⟨ni, rfl⟩ : ∃ i, n = .int i := by cases n <;> first | exact ⟨_, rfl⟩ | (simp [within] at hn)
    have hni : 1 ≤ ni ∧ ni ≤ 6 := by simpa [within] using hn
    have hkw : ∀ x : Str, inD (.str x) [.str "one", .str "some"] = isKind (.str x) := fun x => by
      simp only [inD, List.any_cons, List.any_nil, eqD_str, Bool.or_false, isKind, eq_comm]
    refine sd_seq (sd_if (x := !(isKind k && isU p)) (et_is (et_or (x := !isS k) (y := !(isKind k && isU p)) (et_is (et_not (et_tru (ev_isiS (ev_ix (ev_var rfl) ev_int rfl) (gd_noObj gk)))) rfl) fun hs => et_is (et_or (x := !isKind k) (y := !isU p) (et_is (et_test (ev_op (ev_ix (ev_var rfl) ev_int rfl) ev_gc (rd_inK ?shw (by decide +kernel)))) ?hin) fun _ => et_is (et_not (et_tru (ev_isiU (ev_ix (ev_var rfl) ev_int rfl) (gd_noObj gp)))) rfl) ?b2) ?b3) (fun h => ?_) (fun h => sd_next ?_))
    case shw =>
      cases k <;> first | (cases hs; done) | (rw [shp_str]; simpa [gd] using gk)
    case hin =>
      cases k with
      | str x =>
        show (true ^^ inD (.str x) _) = _
        rw [hkw x]; simp
      | _ => cases hs
    case b2 => cases isKind k <;> cases isU p <;> rfl
    case b3 => cases k <;> first | rfl | (simp [isS]; done) | (simp [isS, isKind])
    · refine sd_ret ev_bl ?_
      show Res.ok _ = Res.ok _
      cases p with
      | tuple ps =>
        have h' : isKind k = false := by simpa [isU] using h
        simp [isPollD, h']
      | _ => simp [isPollD]
    have h' : isKind k = true ∧ isU p = true := by simpa using h
    obtain ⟨ss, rfl⟩ : ∃ ps, p = .tuple ps := by cases p <;> first | exact ⟨_, rfl⟩ | (cases h'.2)
    obtain ⟨kw, rfl⟩ : ∃ x, k = .str x := by cases k <;> first | exact ⟨_, rfl⟩ | (simp [isKind] at h')
    obtain ⟨pl, gps⟩ := gd_tup gp
    have ea : (ss.filter fun x => !isShwD ni x).isEmpty = ss.all fun x => isShwD ni x := by
      rw [Bool.eq_iff_iff]; simp [List.filter_eq_nil_iff]
    refine sd_seq (sd_if (x := !(decide (1 ≤ ss.length ∧ ss.length ≤ 3) && ss.all fun x => isShwD ni x)) (et_is (et_or (x := !decide (1 ≤ ss.length ∧ ss.length ≤ 3)) (y := !(ss.all fun x => isShwD ni x)) (et_is (et_not (et_B (ev_chain ev_int (ev_len (ev_ix (ev_var rfl) ev_int rfl)) (fun _ => ev_gc) rd_cmpI fun _ => rd_cmpI))) ?c1) fun _ => et_is (et_tru (ev_ofN (evn_lcS (fun x => !isShwD ni x) (fun x => x) (ev_ix (ev_var rfl) ev_int rfl) rfl (by omega) fun x hx => ⟨_, _, tg_name, by decide, et_not (et_is (et_tru (ev_call (ea_cons (ev_ix (ev_var rfl) ev_int rfl) (ea_cons (ev_var rfl) ea_nil)) ⟨_, _, rfl, gds_mem gps x hx, rfl⟩)) rfl), fun _ => ev_var rfl⟩))) (by rw [← ea]; simp [truD])) (by cases decide (1 ≤ ss.length ∧ ss.length ≤ 3) <;> simp)) (fun h => ?_) (fun h => sd_next ?_))
    case c1 =>
      have a1 : decide ((1 : Int) ≤ ((ss.length : Nat) : Int)) = decide (1 ≤ ss.length) := by simp only [decide_eq_decide]; omega
      have a2 : decide (((ss.length : Nat) : Int) ≤ 3) = decide (ss.length ≤ 3) := by simp only [decide_eq_decide]; omega
      show (!(decide ((1 : Int) ≤ ((ss.length : Nat) : Int)) && decide (((ss.length : Nat) : Int) ≤ 3))) = _
      rw [a1, a2, Bool.decide_and]
    · refine sd_ret ev_bl ?_
      show Res.ok _ = Res.ok _
      simp only [isPollD, intOf]
      have h2 : (decide (1 ≤ ss.length ∧ ss.length ≤ 3) && ss.all fun x => isShwD ni x) = false := by rw [Bool.not_eq_true'] at h; exact h
      rw [← Bool.and_assoc (decide (1 ≤ ss.length ∧ ss.length ≤ 3)), show (ss.all (isShwD ni)) = ss.all fun x => isShwD ni x from rfl, h2]
      simp
    have h2 : (1 ≤ ss.length ∧ ss.length ≤ 3) ∧ (ss.all fun x => isShwD ni x) = true := by simpa using h
    obtain ⟨e1, e2⟩ := shs_d h2.2
    have hPol : D.tuple [.int ni, .str kw, .tuple ss] = Pol.d (polOf (.int ni) (.str kw) ss) := by
      show _ = D.tuple [.int ni, .str kw, .tuple ((ss.map shwOf).map Shw.d)]
      rw [← e1]
    have hS : D.tuple ss = shsD (ss.map shwOf) := by rw [shsD, ← e1]
    have lots : ∀ s ∈ ss.map shwOf, s.parts.length < 1000000 ∧ ∀ q ∈ s.parts, q.1.length < 1000000 := fun s hs => by
      refine gd_lots (gds_mem gps _ ?_)
      rw [e1]; exact List.mem_map.mpr ⟨s, hs, rfl⟩
    have lenS : (ss.map shwOf).length ≤ 3 := by rw [List.length_map]; exact h2.1.2
    have pok : PolOk (polOf (.int ni) (.str kw) ss) := ⟨by show 0 ≤ ni; omega, by show ni ≤ 1000; omega, kind_ok h'.1, flat_len (fun s hs => (lots s hs).1) lenS, by show (ss.map shwOf).length < 1000000; omega⟩
    have eP : isPollD (.tuple [.int ni, .str kw, .tuple ss]) = pollEnd (polOf (.int ni) (.str kw) ss) := by
      simp only [isPollD, hn, h'.1, intOf, Bool.true_and]
      rw [decide_eq_true h2.1, show (ss.all (isShwD ni)) = true from h2.2]; rfl
    rw [eP]
    refine sd_seq (sd_if (x := decide (1000 < turnOf (ss.map shwOf))) (et_is (et_test (ev_op (ev_call (ea_cons (ev_is (ev_ix (ev_var rfl) ev_int rfl) hS) ea_nil) ⟨_, rfl, ⟨lenS, fun s hs => ⟨(e2 s hs).u0, (e2 s hs).u1, word_ok (e2 s hs).w⟩⟩, rfl⟩) ev_gc rd_cmpI)) rfl) (fun h => ?_) (fun h => sd_next ?_))
    · refine sd_ret ev_bl ?_
      show Res.ok _ = Res.ok _
      have : ¬ turnOf (ss.map shwOf) ≤ 1000 := by have := of_decide_eq_true h; omega
      simp [pollEnd, polOf, this]
    have hT : turnOf (ss.map shwOf) ≤ 1000 := by have := of_decide_eq_false h; omega
    refine sd_seq (sd_if (x := decide (kw = "some")) (et_is (et_test (ev_op (ev_ix (ev_var rfl) ev_int rfl) ev_str (rd_eq (by rw [shp_str]; exact kind_ok h'.1) (by decide +kernel)))) (by rw [eqD_str])) (fun h => ?_) (fun h => sd_next ?_))
    · have hk := of_decide_eq_true h
      subst hk
      have seqs : ∀ x ∈ ss, ∃ s ∈ ss.map shwOf, x = s.d ∧ shwOf x = s := fun x hx => ⟨shwOf x, List.mem_map.mpr ⟨x, hx, rfl⟩, (shw_d (List.all_eq_true.mp h2.2 x hx)).1, rfl⟩
      have hln := flat_len (fun s hs => (lots s hs).1) lenS
      refine sd_ret (ev_is (ev_notT (ev_ofN (evn_lc2 (fun x => (shwOf x).parts.map partD) (fun _ z => decide (1 < (lotOf (headOf z)).length)) (fun _ _ => .int 1) (d := .tuple ss) rfl (ev_ix (ev_var rfl) ev_int rfl) ?len fun x hx => ⟨_, _, tg_name, by decide, et_yes, .tuple ((shwOf x).parts.map partD), rfl, ?inner, fun z hz => ?_⟩))) ?fin) rfl
      case len =>
        have : ∀ l : List D, (l.flatMap fun x => (shwOf x).parts.map partD).length = ((l.map shwOf).flatMap shLots).length := fun l => by
          induction l with
          | nil => rfl
          | cons y l ih => simp only [List.flatMap_cons, List.map_cons, List.length_append, ih]; simp [shLots]
        rw [this]; omega
      case inner =>
        obtain ⟨s, hs, hx2, hs2⟩ := seqs x hx
        rw [hs2, hx2]
        exact ev_ix (ev_var rfl) ev_int rfl
      · obtain ⟨q, hq, rfl⟩ := List.mem_map.mp hz
        refine ⟨_, _, tg_tup (tgs_cons tg_name (tgs_cons tg_name tgs_nil)) rfl, by decide, et_is (et_test (ev_op (ev_len (ev_var rfl)) ev_int rd_cmpI)) ?_, fun _ => ev_int⟩
        show decide (1 < ((lenD (itup q.1) : Nat) : Int)) = decide (1 < (lotOf (itup q.1)).length)
        rw [lotOf_itup]
        simp only [lenD, itup, List.length_map]
        rw [Bool.eq_iff_iff]; simp only [decide_eq_true_eq]; omega
      case fin =>
        have e3 : pollEnd (polOf (.int ni) (.str "some") ss) = (ss.map shwOf).all fun s => s.parts.all fun q => decide (q.1.length ≤ 1) := by
          simp [pollEnd, polOf, strOf, hT]
        rw [e3]
        have e4 : ∀ l : List D, (!truD (.list (l.flatMap fun x => (((shwOf x).parts.map partD).filter fun z => decide (1 < (lotOf (headOf z)).length)).map fun _ => D.int 1))) = (l.map shwOf).all fun s => s.parts.all fun q => decide (q.1.length ≤ 1) := fun l => by
          rw [Bool.eq_iff_iff]
          simp only [truD, Bool.not_not, List.isEmpty_iff, List.flatMap_eq_nil_iff, List.map_eq_nil_iff, List.filter_eq_nil_iff, List.mem_map, List.all_eq_true, decide_eq_true_eq, forall_exists_index, and_imp]
          constructor
          · rintro hh s y hy rfl q hq
            have := hh y hy (partD q) q hq rfl
            rw [show headOf (partD q) = itup q.1 from rfl, lotOf_itup] at this
            omega
          · rintro hh y hy z q hq rfl
            have := hh _ y hy rfl q hq
            rw [show headOf (partD q) = itup q.1 from rfl, lotOf_itup]
            omega
        rw [e4]
    · have hk := of_decide_eq_false h
      have l1 := length_allLots (polOf (.int ni) (.str kw) ss)
      have l2 := pok.ln
      have l3 : (polOf (.int ni) (.str kw) ss).n = ni := rfl
      refine sd_ret (ev_call (ea_cons (ev_call (ea_cons (ev_is (ev_var rfl) hPol) ea_nil) ⟨_, rfl, pok, rfl⟩) ea_nil) ⟨allLots (polOf (.int ni) (.str kw) ss), rfl, by rw [l3] at l1; omega, fun q hq => ?_, rfl⟩) ?_
      · rcases mem_allLots.mp hq with ⟨_, rfl⟩ | ⟨i, _, rfl⟩ | ⟨s, hs, z, hz, rfl⟩
        · simp only [rgI, List.length_map, List.length_range, l3]; omega
        · simp
        · exact (lots s hs).2 z hz
      · show Res.ok _ = Res.ok _
        simp [pollEnd, polOf, strOf, hT, hk]
  | _ => first
    | (simp [gd] at hg; done)
    | exact sd_seq (sd_if (x := true) (et_is (et_or (x := true) (y := true) (et_is (et_not (et_tru (ev_isiU (ev_var rfl) rfl))) rfl) (fun h => nomatch h)) rfl) (fun _ => sd_ret ev_bl rfl) (fun h => nomatch h))
theorem f_look (hD : DefAt K mg "look" "look" s_look ["poll"]) (nb : NoB mg) (x_BadPoll : ExcH K mg "BadPoll") (h_is_poll : FnH P w K mg base "is_poll" CX0 5 ["thing"] c_is_poll) : FnH P w K mg base "look" (L2.CX P w) 6 ["poll"] c_look := by
  refine fnhX hD sc_look (fun ds r c => by obtain ⟨d, rfl, hg, rfl⟩ := c; rfl) (fun f cdv A outer s H E hr => ⟨_, (pss_one (ps_if (pt_not (pt_truth (pe_fn h_is_poll (hr.mono (by decide)) rfl (pa_cons (pv 0) pa_nil)) (by intro _; rfl))) (pss_one (ps_rz x_BadPoll (takes_of rfl rfl rfl rfl) rfl rfl)) pss_nil)), fun ds r c => ?_⟩)
  try dsimp only [L2.cxOf, Cx.nox, Cx.wish]
  obtain ⟨d, rfl, hg, rfl⟩ := c
  refine sd_if (x := !isPollD d) (et_is (et_not (et_is (et_tru (ev_call (ea_cons (ev_var rfl) ea_nil) ⟨_, rfl, hg, rfl⟩)) rfl)) rfl) (fun h => ?_) (fun h => sd_next ?_)
  · have h' : isPollD d = false := by simpa using h
    rw [h']
    exact sd_raise rfl
  · have h' : isPollD d = true := by simpa using h
    rw [h']
    rfl
theorem f_look_number (hD : DefAt K mg "look_number" "look_number" s_look_number ["number"]) (nb : NoB mg) (g_MOST_ASKED : GcH K mg "MOST_ASKED" (.int 100000)) (x_BadNumber : ExcH K mg "BadNumber") (h_is_within : FnH P w K mg base "is_within" CX0 1 ["thing", "low", "high"] c_is_within) : FnH P w K mg base "look_number" (L2.CX P w) 2 ["number"] c_look_number := by
  refine fnhX hD sc_look_number (fun ds r c => by obtain ⟨x, rfl, ho, rfl⟩ := c; rfl) (fun f cdv A outer s H E hr => ⟨_, (pss_one (ps_if (pt_not (pt_truth (pe_fn h_is_within (hr.mono (by decide)) rfl (pa_cons (pv 0) (pa_cons pe_int (pa_cons (pe_gc g_MOST_ASKED rfl) pa_nil)))) (by intro _; rfl))) (pss_one (ps_rz x_BadNumber (takes_of rfl rfl rfl rfl) rfl rfl)) pss_nil)), fun ds r c => ?_⟩)
  try dsimp only [L2.cxOf, Cx.nox, Cx.wish]
  obtain ⟨x, rfl, ho, rfl⟩ := c
  refine sd_if (et_not (et_tru (ev_call (ea_cons (ev_var rfl) (ea_cons ev_int (ea_cons ev_gc ea_nil))) ⟨_, _, _, rfl, ho, rfl⟩))) (fun h => sd_raise ?_) (fun h => sd_next ?_)
  · have e : within x 1 100000 = false := by simpa [truD] using h
    show (if within x 1 100000 = true then Res.ok .none else .err "BadNumber") = .err "BadNumber"
    rw [e]; rfl
  · have e : within x 1 100000 = true := by simpa [truD] using h
    show (if within x 1 100000 = true then Res.ok .none else .err "BadNumber") = .ok .none
    rw [e]; rfl
theorem f_up_over (hD : DefAt K mg "up_over" "up_over" s_up_over ["top", "bottom"]) (nb : NoB mg) : FnH P w K mg base "up_over" CX0 1 ["top", "bottom"] c_up_over := by
  refine fnh hD sc_up_over (fun ds r c => by obtain ⟨t, b, rfl, h1, h2, rfl⟩ := c; rfl) (fun f cdv A outer s H E hr => ⟨_, (pss_one (ps_ret (pe_un un_neg (pe_op op_fdiv (pe_un un_neg (pv 0)) (pv 1))))), fun ds r c => ?_⟩)
  try dsimp only [L2.cxOf, Cx.nox, Cx.wish]
  obtain ⟨t, b, rfl, h1, h2, rfl⟩ := c
  exact sd_ret (ev_neg (ev_div (ev_neg (ev_var rfl)) (ev_var rfl) ⟨h1, h2⟩)) rfl
theorem f_stretch (hD : DefAt K mg "stretch" "stretch" s_stretch ["number", "units", "word", "part"]) (nb : NoB mg) (h_up_over : FnH P w K mg base "up_over" CX0 1 ["top", "bottom"] c_up_over) : FnH P w K mg base "stretch" CX0 2 ["number", "units", "word", "part"] c_stretch := by
  refine fnh hD sc_stretch (fun ds r c => by obtain ⟨n, u, w, p, rfl, hn, hu, hw, hp, rfl⟩ := c; rfl) (fun f cdv A outer s H E hr => ⟨_, (pss_cons (ps_if (pt_cmpR (op_eqD hr.units) (pv 2) pe_str (nomark _)) (pss_one (ps_par (i := 4) (j := 5) rfl sc_stretch.nd rfl rfl (by decide) rfl rfl (pa_cons (pe_fn h_up_over (hr.mono (by decide)) rfl (pa_cons (pe_op op_mulU (pv 3) (pv 0)) (pa_cons (pv 1) pa_nil))) (pa_cons (pe_op op_sub (pe_fn h_up_over (hr.mono (by decide)) rfl (pa_cons (pe_op op_mulU (pe_op op_addU (pv 3) pe_int) (pv 0)) (pa_cons (pv 1) pa_nil))) pe_int) pa_nil)) (by rfl))) (pss_one (ps_if (pt_cmpR (op_eqD hr.units) (pv 2) pe_str (nomark _)) (pss_one (ps_par (i := 4) (j := 5) rfl sc_stretch.nd rfl rfl (by decide) rfl rfl (pa_cons (pe_op op_addU (pe_op op_fdiv (pe_op op_mulU (pe_op op_sub (pv 3) pe_int) (pv 0)) (pv 1)) pe_int) (pa_cons (pe_op op_fdiv (pe_op op_mulU (pv 3) (pv 0)) (pv 1)) pa_nil)) (by rfl))) (pss_one (ps_par (i := 4) (j := 5) rfl sc_stretch.nd rfl rfl (by decide) rfl rfl (pa_cons (pe_fn h_up_over (hr.mono (by decide)) rfl (pa_cons (pe_op op_mulU (pe_op op_sub (pe_op op_mulU pe_int (pv 3)) pe_int) (pv 0)) (pa_cons (pe_op op_mulU pe_int (pv 1)) pa_nil))) (pa_cons (pe_op op_sub (pe_fn h_up_over (hr.mono (by decide)) rfl (pa_cons (pe_op op_mulU (pe_op op_addU (pe_op op_mulU pe_int (pv 3)) pe_int) (pv 0)) (pa_cons (pe_op op_mulU pe_int (pv 1)) pa_nil))) pe_int) pa_nil)) (by rfl))))))
      (pss_one (ps_ret (pe_tup (pa_cons (pe_callB (call_max2 rfl) rfl nb.max_ b_max (pa_cons (pv 4) (pa_cons pe_int pa_nil))) (pa_cons (pe_callB (call_min2 rfl) rfl nb.min_ b_min (pa_cons (pv 5) (pa_cons (pv 0) pa_nil))) pa_nil)))))), fun ds r c => ?_⟩)
  try dsimp only [L2.cxOf, Cx.nox, Cx.wish]
  obtain ⟨n, u, w, p, rfl, hn, hu, hw, hp, rfl⟩ := c
  have m1 : ∀ {a : Int}, -1000 ≤ a → a ≤ 1000 → CMul a n := fun h1 h2 => Or.inr ⟨by omega, by omega⟩
  refine sd_seq (sd_if (x := decide (w = "cut")) (et_is (et_test (ev_op (ev_var rfl) ev_str (rd_eq (by rw [shp_str]; exact hw) (by decide +kernel)))) (by rw [eqD_str])) (fun h => ?_) (fun h => ?_))
  · have h' := of_decide_eq_true h
    refine sd_par (ea_cons (ev_call (ea_cons (ev_mulI (ev_var rfl) (ev_var rfl) (m1 (by omega) (by omega))) (ea_cons (ev_var rfl) ea_nil)) ⟨_, _, rfl, by omega, by omega, rfl⟩) (ea_cons (ev_sub (ev_call (ea_cons (ev_mulI (ev_addI (ev_var rfl) ev_int) (ev_var rfl) (m1 (by omega) (by omega))) (ea_cons (ev_var rfl) ea_nil)) ⟨_, _, rfl, by omega, by omega, rfl⟩) ev_int) ea_nil)) ?_
    refine sd_ret (ev_tup (ea_cons (ev_max (ev_var rfl) ev_int) (ea_cons (ev_min (ev_var rfl) (ev_var rfl)) ea_nil))) ?_
    show Res.ok _ = Res.ok _
    simp only [pairD, stLow, stHigh, lowOf, highOf, if_pos h', upOver]
  · have h' := of_decide_eq_false h
    refine sd_if (x := decide (w = "up")) (et_is (et_test (ev_op (ev_var rfl) ev_str (rd_eq (by rw [shp_str]; exact hw) (by decide +kernel)))) (by rw [eqD_str])) (fun h => ?_) (fun h => ?_)
    · have h2 := of_decide_eq_true h
      refine sd_par (ea_cons (ev_addI (ev_div (ev_mulI (ev_sub (ev_var rfl) ev_int) (ev_var rfl) (m1 (by omega) (by omega))) (ev_var rfl) ⟨by omega, by omega⟩) ev_int) (ea_cons (ev_div (ev_mulI (ev_var rfl) (ev_var rfl) (m1 (by omega) (by omega))) (ev_var rfl) ⟨by omega, by omega⟩) ea_nil)) ?_
      refine sd_ret (ev_tup (ea_cons (ev_max (ev_var rfl) ev_int) (ea_cons (ev_min (ev_var rfl) (ev_var rfl)) ea_nil))) ?_
      show Res.ok _ = Res.ok _
      simp only [pairD, stLow, stHigh, lowOf, highOf, if_neg h', if_pos h2]
    · have h2 := of_decide_eq_false h
      refine sd_par (ea_cons (ev_call (ea_cons (ev_mulI (ev_sub (ev_mulI ev_int (ev_var rfl) (Or.inl ⟨by decide, by decide⟩)) ev_int) (ev_var rfl) (m1 (by omega) (by omega))) (ea_cons (ev_mulI ev_int (ev_var rfl) (Or.inl ⟨by decide, by decide⟩)) ea_nil)) ⟨_, _, rfl, by omega, by omega, rfl⟩) (ea_cons (ev_sub (ev_call (ea_cons (ev_mulI (ev_addI (ev_mulI ev_int (ev_var rfl) (Or.inl ⟨by decide, by decide⟩)) ev_int) (ev_var rfl) (m1 (by omega) (by omega))) (ea_cons (ev_mulI ev_int (ev_var rfl) (Or.inl ⟨by decide, by decide⟩)) ea_nil)) ⟨_, _, rfl, by omega, by omega, rfl⟩) ev_int) ea_nil)) ?_
      refine sd_ret (ev_tup (ea_cons (ev_max (ev_var rfl) ev_int) (ea_cons (ev_min (ev_var rfl) (ev_var rfl)) ea_nil))) ?_
      show Res.ok _ = Res.ok _
      simp only [pairD, stLow, stHigh, lowOf, highOf, if_neg h', if_neg h2, upOver]
theorem f_ends_of (hD : DefAt K mg "ends_of" "ends_of" s_ends_of ["poll", "number"]) (nb : NoB mg) (h_all_lots : FnH P w K mg base "all_lots" CX0 1 ["poll"] c_all_lots) (h_stretch : FnH P w K mg base "stretch" CX0 2 ["number", "units", "word", "part"] c_stretch) : FnH P w K mg base "ends_of" CX0 3 ["poll", "number"] c_ends_of := by
  refine fnh hD sc_ends_of (fun ds r c => by obtain ⟨p, n, rfl, hp, hs, hpn, hn, rfl⟩ := c; rfl) (fun f cdv A outer s H E hr => ⟨_, (pss_cons (ps_setDcT (i := 2) (own := [("lot", 3)]) hr.units0 rfl sc_ends_of.nd rfl rfl (swd_true rfl rfl rfl (by decide +kernel)) (pi_seq (pe_fn h_all_lots (hr.mono (by decide)) rfl (pa_cons (pv 0) pa_nil))) (blkOk_by (own := [("lot", 3)]) (N := N_ends_of) (sc := (defScope s_ends_of)) (by decide +kernel)) (fun _ _ _ _ _ => (pg_name (i := 3) sc_ends_of.nd rfl (Or.inl rfl))) (fun _ _ _ _ _ => pts_nil) (fun _ _ _ _ _ => (pv 3)) (fun _ _ _ _ _ => Ly.PE.eqv (by exact (pe_tup (pa_cons pe_int (pa_cons (pv 1) pa_nil)))) (by first | (dsimp only [L2.cxOf, Cx.nox, Cx.wish, Cx.blk] <;> exact rfl) | exact rfl)))
      (pss_cons (ps_if (pt_cmpR (op_eqD hr.units) (pe_ix ix_seq (pv 0) pe_int (fun _ _ => rfl)) pe_str (nomark _)) (pss_one (ps_dput (hu_of hr) (pv 2) (pe_tupRg rfl rfl nb.tuple_ (prg_1 rfl nb.range_ (pe_ix ix_seq (pv 0) pe_int (fun _ _ => rfl)))) (pe_tup (pa_cons (pv 1) (pa_cons (pv 1) pa_nil))) rfl)) pss_nil)
      (pss_cons (ps_for PassesOwn.never rfl (pi_seq (pe_ix ix_seq (pv 0) pe_int (fun _ _ => rfl))) (pg_tup (n := 3) rfl (pgs_cons (pg_name (i := 4) sc_ends_of.nd rfl (Or.inl rfl)) (pgs_cons (pg_name (i := 5) sc_ends_of.nd rfl (Or.inl rfl)) (pgs_cons (pg_name (i := 6) sc_ends_of.nd rfl (Or.inl rfl)) pgs_nil)))) (pss_one (ps_for PassesOwn.never rfl (pi_seq (pv 6)) (pg_tup (n := 2) rfl (pgs_cons (pg_name (i := 3) sc_ends_of.nd rfl (Or.inl rfl)) (pgs_cons (pg_name (i := 7) sc_ends_of.nd rfl (Or.inl rfl)) pgs_nil))) (pss_cons (ps_asg (pe_fn h_stretch (hr.mono (by decide)) rfl (pa_cons (pv 1) (pa_cons (pv 4) (pa_cons (pv 5) (pa_cons (pv 7) pa_nil))))) (pg_tup (n := 2) rfl (pgs_cons (pg_name (i := 8) sc_ends_of.nd rfl (Or.inl rfl)) (pgs_cons (pg_name (i := 9) sc_ends_of.nd rfl (Or.inl rfl)) pgs_nil))))
      (pss_one (ps_dput (hu_of hr) (pv 2) (pv 3) (pe_tup (pa_cons (pe_callB (call_max2 rfl) rfl nb.max_ b_max (pa_cons (pv 8) (pa_cons (pe_ix ix_seq (pe_dget (hu_of hr) (pv 2) (pv 3) (fun _ _ => rfl)) pe_int (fun _ _ => rfl)) pa_nil))) (pa_cons (pe_callB (call_min2 rfl) rfl nb.min_ b_min (pa_cons (pv 9) (pa_cons (pe_ix ix_seq (pe_dget (hu_of hr) (pv 2) (pv 3) (fun _ _ => rfl)) pe_int (fun _ _ => rfl)) pa_nil))) pa_nil))) rfl))))))
      (pss_one (ps_ret (pv 2)))))), fun ds r c => ?_⟩)
  try dsimp only [L2.cxOf, Cx.nox, Cx.wish]
  obtain ⟨p, n, rfl, hp, hs, hpn, hn, rfl⟩ := c
  have sz := sizeLine_eq
  have hl := length_allLots p
  have hln := hp.ln
  have hn1 := hp.n1
  have al : (allLots p).length < 5000000 := by omega
  -- the table's start
  refine sd_seq (sd_asgK (al := tabD (allLots p) fun _ => pairD 0 n) (evk_is (evk_dc (d := .list ((allLots p).map itup)) lotOf (fun _ => pairD 0 n) rfl (ev_call (ea_cons (ev_var rfl) ea_nil) ⟨p, rfl, hp, rfl⟩) (by rw [List.length_map]; omega) fun x hx => ⟨_, _, tg_name, by decide, et_yes, ?_, ev_tup (ea_cons ev_int (ea_cons (ev_var rfl) ea_nil))⟩) ?_) ?_)
  · obtain ⟨k, _, rfl⟩ := List.mem_map.mp hx
    rw [lotOf_itup]
    exact ev_var rfl
  · rw [List.map_map]
    have q := putAll_tab (f := fun _ => pairD 0 n) (allLots p) [] (nodup_allLots p)
    simp only [Function.comp_def, lotOf_itup]
    exact q
  have hk0 : ∀ k, (if p.kind = "one" ∧ k = rgI p.n then pairD n n else pairD 0 n) = endD (end0 p n k) := fun k => by
    unfold end0 endD; split <;> rfl
  -- all things together
  refine sd_seq (sd_mono (e := { nx := fun env => env = [.dat (Pol.d p), .dat (.int n), .dic (tabD (allLots p) fun k => endD (end0 p n k)), .no, .no, .no, .no, .no, .no, .no] }) (sd_if (x := decide (p.kind = "one")) (et_is (et_test (ev_op (ev_ix (ev_var rfl) ev_int rfl) ev_str (rd_eq (by rw [shp_str]; exact hp.kd) (by decide +kernel)))) (by rw [eqD_str])) (fun h => ?_) (fun h => sd_next ?_)) (fun v q => ?_) (fun _ q => q.elim) (fun _ q => q.elim) (fun _ q => q.elim) (fun _ q => q.elim) (fun _ _ q => q.elim) (fun _ _ q => q.elim))
  · have hk := of_decide_eq_true h
    refine sd_dput (k := rgI p.n) rfl (ev_tup (ea_cons (ev_var rfl) (ea_cons (ev_var rfl) ea_nil))) (ev_tupRg (ev_ix (ev_var rfl) ev_int rfl) hp.n0 (by omega)) (by simp only [tabD, List.length_map]; omega) ?_
    rw [putA_tab (mem_allLots.mpr (.inl ⟨hk, rfl⟩))]
    have : (fun x => if x = rgI p.n then D.tuple [.int n, .int n] else pairD 0 n) = fun k => endD (end0 p n k) := by
      funext k
      rw [← hk0 k]
      simp only [hk, true_and]
      rfl
    rw [this]; rfl
  · have hk := of_decide_eq_false h
    have : (fun _ => pairD 0 n) = fun k => endD (end0 p n k) := by
      funext k
      rw [← hk0 k, if_neg (fun z => hk z.1)]
    show _ = _
    rw [← this]; rfl
  subst q
  -- the shares told
  have inl : ∀ s ∈ p.shs, ∀ q ∈ s.parts, q.1 ∈ allLots p := fun s hs q hq => mem_allLots.mpr (.inr (.inr ⟨s, hs, q, hq, rfl⟩))
  let tl : Shw → List Tld := fun s => s.parts.map fun q => ⟨s.units, s.word, q.1, q.2⟩
  refine sd_seq (sd_forS (ev_ix (ev_var rfl) ev_int rfl) rfl (fun i env => ∃ a b c d e g h, env = [.dat (Pol.d p), .dat (.int n), .dic (tabD (allLots p) fun k => endD (((p.shs.take i).flatMap tl).foldl (endStep n k) (end0 p n k))), a, b, c, d, e, g, h]) ⟨_, _, _, _, _, _, _, rfl⟩ ?_ ?_)
  · rintro i d env hd ⟨a, b, c, d', e, g, h, rfl⟩
    rw [List.getElem?_map] at hd
    cases hq : p.shs[i]? with
    | none => rw [hq] at hd; cases hd
    | some s =>
      rw [hq] at hd; cases hd
      have sm := List.mem_of_getElem? hq
      have so := hs s sm
      refine ⟨_, _, tg_tup (tgs_cons tg_name (tgs_cons tg_name (tgs_cons tg_name tgs_nil))) rfl, ?_⟩
      refine sd_forS (ev_var rfl) rfl (fun j env => ∃ a e g h, env = [.dat (Pol.d p), .dat (.int n), .dic (tabD (allLots p) fun k => endD (((p.shs.take i).flatMap tl ++ (tl s).take j).foldl (endStep n k) (end0 p n k))), a, .dat (.int s.units), .dat (.str s.word), .dat (.tuple (s.parts.map partD)), e, g, h]) ⟨a, e, g, h, by simp⟩ ?_ ?_
      · rintro j d env hd ⟨a, e, g, h, rfl⟩
        rw [List.getElem?_map] at hd
        cases hr2 : s.parts[j]? with
        | none => rw [hr2] at hd; cases hd
        | some q =>
          rw [hr2] at hd; cases hd
          have qm := List.mem_of_getElem? hr2
          obtain ⟨_, q0, q1⟩ := so.lots q qm
          have qi := inl s sm q qm
          generalize hF : (fun k => ((p.shs.take i).flatMap tl ++ (tl s).take j).foldl (endStep n k) (end0 p n k)) = F
          have hF' : ∀ k, ((p.shs.take i).flatMap tl ++ (tl s).take j).foldl (endStep n k) (end0 p n k) = F k := fun k => by rw [← hF]
          simp only [hF']
          refine ⟨_, _, tg_tup (tgs_cons tg_name (tgs_cons tg_name tgs_nil)) rfl, ?_⟩
          have hu1 := so.u1
          refine sd_seq (sd_asgT (ev_call (ea_cons (ev_var rfl) (ea_cons (ev_var rfl) (ea_cons (ev_var rfl) (ea_cons (ev_var rfl) ea_nil)))) ⟨_, _, _, _, rfl, hn, ⟨so.u0, so.u1⟩, word_ok so.w, ⟨q0, by omega⟩, rfl⟩) (tg_tup (tgs_cons tg_name (tgs_cons tg_name tgs_nil)) rfl) ?_)
          have gt : ∀ {env : Evn} {te : TE}, EvD K te env (.dct ((tabD (allLots p) fun k => endD (F k)).map (·.1)) ((tabD (allLots p) fun k => endD (F k)).map (·.2))) → ∀ {tk : TE}, EvD K tk env (itup q.1) → EvD K (tDGet te tk) env (endD (F q.1)) := fun h1 _ h2 => ev_dget h1 h2 (by rw [zip_tab]; exact getA_tab qi)
          refine sd_dput (k := q.1) (d := pairD (max (stLow n s.units s.word q.2) (F q.1).1) (min (stHigh n s.units s.word q.2) (F q.1).2)) rfl (ev_tup (ds := [.int (max (stLow n s.units s.word q.2) (F q.1).1), .int (min (stHigh n s.units s.word q.2) (F q.1).2)]) (ea_cons (ev_max (ev_var rfl) ?_) (ea_cons (ev_min (ev_var rfl) ?_) ea_nil))) (ev_var rfl) (by simp only [tabD, List.length_map]; omega) ⟨.dat (itup q.1), .dat (.int q.2), .dat (.int (stLow n s.units s.word q.2)), .dat (.int (stHigh n s.units s.word q.2)), ?_⟩
          · exact ev_thaw (i := 2) rfl rfl rfl (ev_ix (gt (ev_var rfl) (ev_var rfl)) ev_int rfl)
          · exact ev_thaw (i := 2) rfl rfl rfl (ev_ix (gt (ev_var rfl) (ev_var rfl)) ev_int rfl)
          · rw [putA_tab qi]
            have ht : (tl s)[j]? = some ⟨s.units, s.word, q.1, q.2⟩ := by simp only [tl, List.getElem?_map, hr2]; rfl
            have : (fun x => if x = q.1 then pairD (max (stLow n s.units s.word q.2) (F q.1).1) (min (stHigh n s.units s.word q.2) (F q.1).2) else endD (F x)) = fun k => endD (((p.shs.take i).flatMap tl ++ (tl s).take (j + 1)).foldl (endStep n k) (end0 p n k)) := by
              funext k
              rw [List.take_add_one, ht, ← List.append_assoc, List.foldl_append, hF' k]
              simp only [Option.toList, List.foldl_cons, List.foldl_nil, endStep]
              by_cases z : k = q.1
              · subst z; rw [if_pos rfl, if_pos rfl]; rfl
              · rw [if_neg z, if_neg (fun w => z w.symm)]
            rw [this]; rfl
      · rintro env ⟨a, e, g, h, rfl⟩
        have e1 : (p.shs.take (i + 1)).flatMap tl = (p.shs.take i).flatMap tl ++ (tl s).take (s.parts.map partD).length := by
          rw [show (tl s).take (s.parts.map partD).length = tl s from List.take_of_length_le (by simp [tl]), List.take_add_one, hq, List.flatMap_append]
          simp
        exact ⟨a, .dat (.int s.units), .dat (.str s.word), .dat (.tuple (s.parts.map partD)), e, g, h, by rw [e1]⟩
  · rintro env ⟨a, b, c, d', e, g, h, rfl⟩
    rw [List.length_map, List.take_length]
    exact sd_retI (i := 2) rfl rfl ⟨_, rfl, rfl⟩
theorem f_ends (hD : DefAt K mg "ends" "ends" s_ends ["poll", "number", "lot"]) (nb : NoB mg) (x_BadLot : ExcH K mg "BadLot") (h_all_lots : FnH P w K mg base "all_lots" CX0 1 ["poll"] c_all_lots) (h_ends_of : FnH P w K mg base "ends_of" CX0 3 ["poll", "number"] c_ends_of) (h_is_lot : FnH P w K mg base "is_lot" CX0 2 ["things", "thing"] c_is_lot) (h_look : FnH P w K mg base "look" (L2.CX P w) 6 ["poll"] c_look) (h_look_number : FnH P w K mg base "look_number" (L2.CX P w) 2 ["number"] c_look_number) : FnH P w K mg base "ends" (L2.CX P w) 7 ["poll", "number", "lot"] c_ends := by
  refine fnhX hD sc_ends (fun ds r c => by obtain ⟨p, x, d, rfl, hp, hx, hg, rfl⟩ := c; rfl) (fun f cdv A outer s H E hr => ⟨_, (pss_cons (ps_expr (pe_fnX h_look (hr.mono (by decide)) (takes_of rfl rfl rfl rfl) rfl (pa_cons (pv 0) pa_nil)))
      (pss_cons (ps_expr (pe_fnX h_look_number (hr.mono (by decide)) (takes_of rfl rfl rfl rfl) rfl (pa_cons (pv 1) pa_nil)))
      (pss_cons (ps_if (PW.pt (pw_or (pt_not (pt_truth (pe_fn h_is_lot (hr.mono (by decide)) rfl (pa_cons (pe_ix ix_seq (pv 0) pe_int (fun _ _ => rfl)) (pa_cons (pv 2) pa_nil))) (by intro _; rfl))) (pw_or1 (pt_cmpR (op_notInU (u65 hr)) (pv 2) (pe_fn h_all_lots (hr.mono (by decide)) rfl (pa_cons (pv 0) pa_nil)) (by rfl))))) (pss_one (ps_rz x_BadLot (takes_of rfl rfl rfl rfl) rfl rfl)) pss_nil)
      (pss_one (ps_ret (pe_dget (hu_of hr) (pe_fn h_ends_of (hr.mono (by decide)) rfl (pa_cons (pv 0) (pa_cons (pv 1) pa_nil))) (pv 2) (fun _ _ => rfl))))))), fun ds r c => ?_⟩)
  try dsimp only [L2.cxOf, Cx.nox, Cx.wish]
  obtain ⟨p, x, d, rfl, hp, hx, hg, rfl⟩ := c
  have hn := hp.n
  refine sd_seq (sd_drop (ev_call (d := .none) (ea_cons (ev_var rfl) ea_nil) ⟨_, rfl, hp.gd, by rw [if_pos hp.is]⟩) ?_)
  by_cases h : Ly.within x 1 100000 = true
  case neg =>
    rw [if_neg h]
    exact sd_seq (sd_dropX (x := "BadNumber") (ex_call (ea_cons (ev_var rfl) ea_nil) ⟨_, rfl, hx, by rw [if_neg h]⟩) rfl)
  rw [if_pos h]
  obtain ⟨n, rfl, h1, h2⟩ := within_int h
  refine sd_seq (sd_drop (ev_call (d := .none) (ea_cons (ev_var rfl) ea_nil) ⟨_, rfl, rfl, by rw [if_pos h]⟩) ?_)
  show SD K mg E _ _ (enOf (if endOkD p d = true then Res.ok (endD (endsAt p n (lotOf d))) else Res.err "BadLot"))
  refine sd_seq (sd_if (x := !endOkD p d) (et_is (et_or (x := !isLotD p.n d) (y := !decide (lotOf d ∈ allLots p)) (et_is (et_not (et_is (et_tru (ev_call (ea_cons (ev_ix (ev_var rfl) ev_int rfl) (ea_cons (ev_var rfl) ea_nil)) ⟨p.n, d, rfl, hg, rfl⟩)) rfl)) rfl) fun hl => ?_) (by unfold endOkD; cases isLotD p.n d <;> simp)) (fun h => ?_) (fun h => sd_next ?_))
  · have hl' : isLotD p.n d = true := by simpa using hl
    have e := lotD_is hl'
    exact et_is (et_test (ev_op (ev_is (ev_var rfl) e) (ev_call (ea_cons (ev_var rfl) ea_nil) ⟨p, rfl, hp.ok, rfl⟩) (rd_inL (neg := true) (shp_itup _) (shp_lotsL _)))) (by rw [in_itups, Bool.true_xor])
  · have h' : endOkD p d = false := by simpa using h
    rw [h']
    exact sd_raise rfl
  · have h' : endOkD p d = true := by simpa using h
    rw [if_pos h']
    unfold endOkD at h'
    rw [Bool.and_eq_true, decide_eq_true_eq] at h'
    have e := lotD_is h'.1
    exact sd_ret (ev_dget (ks := (endsD p n).map fun (q : List Int × Ly.D) => q.1) (vs := (endsD p n).map fun (q : List Int × Ly.D) => q.2) (k := lotOf d) (ev_ofK (evk_call (ea_cons (ev_var rfl) (ea_cons (ev_var rfl) ea_nil)) ⟨p, n, rfl, hp.ok, hp.sh, hn.1, ⟨h1, h2⟩, rfl⟩)) (ev_is (ev_var rfl) e) (get_tab h'.2)) rfl
theorem f__law_cell (hD : DefAt K mg "_law_cell" "_law_cell" s__law_cell ["script", "k"]) (nb : NoB mg) : FnH P w K mg base "_law_cell" CX0 1 ["script", "k"] c__law_cell := by
  refine fnh hD sc__law_cell (fun ds r c => by obtain ⟨ns, k, rfl, hk, rfl⟩ := c; rfl) (fun f cdv A outer s H E hr => ⟨_, (pss_cons (ps_if (pt_cmpR (op_ltU hr.units0) (pv 1) (pe_callB call_len rfl nb.len b_len (pa_cons (pv 0) pa_nil)) (nomark _)) (pss_one (ps_ret (pe_ix ix_seq (pv 0) (pv 1) (fun _ _ => rfl)))) pss_nil)
      (pss_one (ps_ret pe_int))), fun ds r c => ?_⟩)
  try dsimp only [L2.cxOf, Cx.nox, Cx.wish]
  obtain ⟨ns, k, rfl, hk, rfl⟩ := c
  refine sd_seq (sd_if (x := decide (k < (ns.length : Int))) (et_test (ev_op (ev_var rfl) (ev_len (ev_var rfl)) rd_cmpI)) (fun h => sd_ret (ev_ix (d := .int (cellAt ns k.toNat)) (ev_var rfl) (ev_var rfl) ?_) rfl) (fun h => sd_next ?_))
  · have h' : k < (ns.length : Int) := of_decide_eq_true h
    obtain ⟨j, rfl⟩ := Int.eq_ofNat_of_zero_le hk
    have hl : j < ns.length := by omega
    show (atI ns (j : Int)).map D.int = _
    rw [atI_nat (List.getElem?_eq_getElem hl)]
    unfold cellAt
    rw [List.getD_eq_getElem?_getD, Int.toNat_natCast, List.getElem?_eq_getElem hl]
    rfl
  · have h' : ¬ k < (ns.length : Int) := of_decide_eq_false h
    refine sd_ret ev_int ?_
    show Res.ok (.int (cellAt ns k.toNat)) = _
    unfold cellAt
    rw [List.getD_eq_getElem?_getD, List.getElem?_eq_none (by omega)]
    rfl
theorem f__law_row (hD : DefAt K mg "_law_row" "_law_row" s__law_row ["script", "at"]) (nb : NoB mg) (h__law_cell : FnH P w K mg base "_law_cell" CX0 1 ["script", "k"] c__law_cell) : FnH P w K mg base "_law_row" CX0 2 ["script", "at"] c__law_row := by
  refine fnh hD sc__law_row (fun ds r c => by obtain ⟨ns, at_, rfl, h0, rfl⟩ := c; rfl) (fun f cdv A outer s H E hr => ⟨_, (pss_cons (ps_set (i := 2) sc__law_row.nd rfl (Or.inl rfl) (pe_fn h__law_cell (hr.mono (by decide)) rfl (pa_cons (pv 0) (pa_cons (pv 1) pa_nil))))
      (pss_cons (ps_set (i := 3) sc__law_row.nd rfl (Or.inl rfl) (pe_lst pa_nil))
      (pss_cons (ps_for PassesOwn.never rfl (pi_range1 rfl nb.range_ (pa_cons pe_int pa_nil)) (pg_name (i := 4) sc__law_row.nd rfl (Or.inl rfl)) (pss_one (ps_if (pt_cmpR (op_ltU hr.units0) (pe_fn h__law_cell (hr.mono (by decide)) rfl (pa_cons (pv 0) (pa_cons (pv 1) pa_nil))) (pe_op op_pow pe_int pe_int) (nomark _)) (pss_cons (ps_set (i := 2) sc__law_row.nd rfl (Or.inl rfl) (pe_op op_mod (pe_op op_addU (pe_op op_addU (pe_op op_addU (pe_op op_mulU (pv 2) pe_int) (pe_op op_mulU pe_int (pv 4))) pe_int) (pe_fn h__law_cell (hr.mono (by decide)) rfl (pa_cons (pv 0) (pa_cons (pe_op op_mod (pe_op op_addU (pe_op op_addU (pv 1) pe_int) (pv 4)) pe_int) pa_nil)))) pe_int))
      (pss_one (ps_expr (pe_bm PySem.F.plainAttrs_list PySem.F.slot_list_append PySem.F.type_list_append mt_append (pv 3) (pa_cons (pe_op op_mod (pe_op op_fdiv (pv 2) pe_int) pe_int) pa_nil))))) (pss_cons (ps_expr (pe_bm PySem.F.plainAttrs_list PySem.F.slot_list_append PySem.F.type_list_append mt_append (pv 3) (pa_cons (pe_op op_mod (pv 2) pe_int) pa_nil)))
      (pss_one (ps_set (i := 2) sc__law_row.nd rfl (Or.inl rfl) (pe_op op_fdiv (pv 2) pe_int)))))))
      (pss_one (ps_ret (pv 3)))))), fun ds r c => ?_⟩)
  try dsimp only [L2.cxOf, Cx.nox, Cx.wish]
  obtain ⟨ns, at_, rfl, h0, rfl⟩ := c
  refine sd_seq (sd_asg (ev_call (ea_cons (ev_var rfl) (ea_cons (ev_var rfl) ea_nil)) ⟨_, _, rfl, h0, rfl⟩) ?_)
  refine sd_seq (sd_asgN (evn_lst ea_nil) ?_)
  refine sd_seq (sd_forR1 (n := 60) (ea_cons ev_int ea_nil) ⟨by decide, by decide⟩ (fun i env => ∃ y, env = [.dat (.scr ns), .dat (.int at_), .dat (.int (rowState ns at_ i).1), .lst ((rowState ns at_ i).2.map D.int), y]) ⟨_, rfl⟩ ?_ ?_)
  · rintro i env hi ⟨y, rfl⟩
    refine ⟨_, _, tg_name, ?_⟩
    have hlen := (rowState_ok ns at_ i).1
    have hz : ((rowState ns at_ i).2.map D.int).length < sizeLine := by rw [List.length_map, hlen, sizeLine_eq]; have : i < 60 := hi; omega
    refine sd_if (x := decide (cellAt ns at_.toNat < 10 ^ 18)) (et_is (et_test (ev_op (ev_call (ea_cons (ev_var rfl) (ea_cons (ev_var rfl) ea_nil)) ⟨_, _, rfl, h0, rfl⟩) (ev_pow ev_int ev_int ⟨by decide, by decide, by decide⟩) rd_cmpI)) rfl) (fun h => ?_) (fun h => ?_)
    · have h' := of_decide_eq_true h
      refine sd_seq (sd_asg (ev_mod (ev_addI (ev_addI (ev_addI (ev_mulI (ev_var rfl) ev_int (Or.inr ⟨by decide, by decide⟩)) (ev_mulI ev_int (ev_var rfl) (Or.inl ⟨by decide, by decide⟩))) ev_int) (ev_call (ea_cons (ev_var rfl) (ea_cons (ev_mod (ev_addI (ev_addI (ev_var rfl) ev_int) (ev_var rfl)) ev_int (by decide)) ea_nil)) ⟨_, _, rfl, Int.emod_nonneg _ (by decide), rfl⟩)) ev_int (by decide)) ?_)
      refine sd_app rfl (ev_mod (ev_div (ev_var rfl) ev_int ⟨by decide, by decide⟩) ev_int (by decide)) hz ⟨.dat (.int (i : Int)), ?_⟩
      rw [rowState_succ, rowStep, if_pos h']
      simp only [List.map_append]
      rfl
    · have h' := of_decide_eq_false h
      refine sd_seq (sd_app rfl (ev_mod (ev_var rfl) ev_int (by decide)) hz ?_)
      refine sd_asg (ev_div (ev_var rfl) ev_int ⟨by decide, by decide⟩) ⟨.dat (.int (i : Int)), ?_⟩
      rw [rowState_succ, rowStep, if_neg h']
      simp only [List.map_append]
      rfl
  · rintro env ⟨y, rfl⟩
    exact sd_freeze (i := 3) rfl rfl (sd_ret (ev_var rfl) rfl)
theorem f__law_share (hD : DefAt K mg "_law_share" "_law_share" s__law_share ["count", "asked", "units", "word"]) (nb : NoB mg) : FnH P w K mg base "_law_share" CX0 1 ["count", "asked", "units", "word"] c__law_share := by
  refine fnh hD sc__law_share (fun ds r c => by obtain ⟨c, n, u, w, rfl, hc, ⟨n1, n2⟩, ⟨u1, u2⟩, hw, rfl⟩ := c; rfl) (fun f cdv A outer s H E hr => ⟨_, (pss_cons (ps_if (pt_cmpR (op_eqD hr.units) (pv 3) pe_str (nomark _)) (pss_one (ps_ret (pe_op op_fdiv (pe_op op_mulU (pv 2) (pv 0)) (pv 1)))) pss_nil)
      (pss_cons (ps_if (pt_cmpR (op_eqD hr.units) (pv 3) pe_str (nomark _)) (pss_one (ps_ret (pe_op op_fdiv (pe_op op_sub (pe_op op_addU (pe_op op_mulU (pv 2) (pv 0)) (pv 1)) pe_int) (pv 1)))) pss_nil)
      (pss_one (ps_ret (pe_op op_fdiv (pe_op op_addU (pe_op op_mulU (pe_op op_mulU pe_int (pv 2)) (pv 0)) (pv 1)) (pe_op op_mulU pe_int (pv 1))))))), fun ds r c => ?_⟩)
  try dsimp only [L2.cxOf, Cx.nox, Cx.wish]
  obtain ⟨c, n, u, w, rfl, hc, ⟨n1, n2⟩, ⟨u1, u2⟩, hw, rfl⟩ := c
  have sw : shp (.str w) = true := by rw [shp_str]; exact hw
  refine sd_seq (sd_if (et_is (et_test (ev_op (ev_var rfl) ev_str (rd_eq sw (by decide +kernel)))) (eqD_str w "cut")) (fun h => sd_ret (ev_div (ev_mulI (ev_var rfl) (ev_var rfl) (Or.inl ⟨by omega, by omega⟩)) (ev_var rfl) ⟨n1, by omega⟩) ?_) (fun h => sd_next ?_))
  · show Res.ok _ = Res.ok _
    rw [lawShare, if_pos (of_decide_eq_true h)]
  refine sd_seq (sd_if (et_is (et_test (ev_op (ev_var rfl) ev_str (rd_eq sw (by decide +kernel)))) (eqD_str w "up")) (fun h2 => sd_ret (ev_div (ev_sub (ev_addI (ev_mulI (ev_var rfl) (ev_var rfl) (Or.inl ⟨by omega, by omega⟩)) (ev_var rfl)) ev_int) (ev_var rfl) ⟨n1, by omega⟩) ?_) (fun h2 => sd_next ?_))
  · show Res.ok _ = Res.ok _
    rw [lawShare, if_neg (of_decide_eq_false h), if_pos (of_decide_eq_true h2)]
  · refine sd_ret (ev_div (ev_addI (ev_mulI (ev_mulI ev_int (ev_var rfl) (Or.inl ⟨by decide, by decide⟩)) (ev_var rfl) (Or.inl ⟨by omega, by omega⟩)) (ev_var rfl)) (ev_mulI ev_int (ev_var rfl) (Or.inl ⟨by decide, by decide⟩)) ⟨by omega, by omega⟩) ?_
    show Res.ok _ = Res.ok _
    rw [lawShare, if_neg (of_decide_eq_false h), if_neg (of_decide_eq_false h2)]
theorem f__law_spread (hD : DefAt K mg "_law_spread" "_law_spread" s__law_spread ["row", "at", "asked", "things", "kind"]) (nb : NoB mg) : FnH P w K mg base "_law_spread" CX0 1 ["row", "at", "asked", "things", "kind"] c__law_spread := by
  refine fnh hD sc__law_spread (fun ds r c => by obtain ⟨row, at_, asked, things, kind, rfl, hR, ha, hk, ht, hw, rfl⟩ := c; rfl) (fun f cdv A outer s H E hr => ⟨_, (pss_cons (ps_if (pt_cmpR (op_eqD hr.units) (pv 4) pe_str (nomark _)) (pss_one (ps_ret (pe_lc (own := [("thing", 5)]) rfl sc__law_spread.nd (pi_range1 rfl nb.range_ (pa_cons (pv 3) pa_nil)) (blkOk_by (own := [("thing", 5)]) (N := N__law_spread) (sc := (defScope s__law_spread)) (by decide +kernel)) (fun _ _ _ _ _ => (pg_name (i := 5) sc__law_spread.nd rfl (Or.inl rfl))) (fun _ _ _ _ _ => pts_nil) (fun _ _ _ _ _ => Ly.PE.eqv (by exact (pe_op op_mod (pe_ix ix_seq (pv 0) (pe_op op_mod (pe_op op_addU (pv 1) (pv 5)) pe_int) (fun _ _ => rfl)) (pe_op op_addU (pv 2) pe_int))) (by first | (dsimp only [L2.cxOf, Cx.nox, Cx.wish, Cx.blk] <;> exact rfl) | exact rfl))))) pss_nil)
      (pss_cons (ps_set (i := 6) sc__law_spread.nd rfl (Or.inl rfl) (pe_op op_mulU (pe_lst (pa_cons pe_int pa_nil)) (pv 3)))
      (pss_cons (ps_for PassesOwn.never rfl (pi_range1 rfl nb.range_ (pa_cons (pv 2) pa_nil)) (pg_name (i := 7) sc__law_spread.nd rfl (Or.inl rfl)) (pss_one (ps_augS (pv 6) (pe_op op_mod (pe_ix ix_seq (pv 0) (pe_op op_mod (pe_op op_addU (pv 1) (pe_op op_mulU (pv 7) (pe_op op_addU pe_int (pe_op op_mod (pe_ix ix_seq (pv 0) (pe_op op_mod (pv 1) pe_int) (fun _ _ => rfl)) pe_int)))) pe_int) (fun _ _ => rfl)) (pv 3)) get_listU pe_int ip_add set_list)))
      (pss_one (ps_ret (pv 6)))))), fun ds r c => ?_⟩)
  try dsimp only [L2.cxOf, Cx.nox, Cx.wish]
  obtain ⟨row, at_, asked, things, kind, rfl, hR, ha, hk, ht, hw, rfl⟩ := c
  have sz := sizeLine_eq
  have sw : shp (.str kind) = true := by rw [shp_str]; exact hw
  have ix : ∀ z : Int, 0 ≤ z % 60 ∧ z % 60 < 60 := fun z => by omega
  refine sd_seq (sd_if (x := decide (kind = "some")) (et_is (et_test (ev_op (ev_var rfl) ev_str (rd_eq sw (by decide +kernel)))) (by rw [eqD_str])) (fun h => ?_) (fun h => sd_next ?_))
  · refine sd_ret (d := lst (spreadOf row at_ asked things kind)) (ev_is (ev_ofN (evn_lcR1 (n := things) (fun _ => true) (fun i => .int (rw_ row ((at_ + i) % 60).toNat % (asked + 1))) (ea_cons (ev_var rfl) ea_nil) (by omega) fun i hi => ⟨_, _, tg_name, by decide, et_yes, fun _ => ev_mod (ev_ix (ev_var rfl) (ev_mod (ev_addI (ev_var rfl) (ev_var rfl)) ev_int (by decide)) (item_row hR (ix _).1 (ix _).2)) (ev_addI (ev_var rfl) ev_int) (by omega)⟩)) ?_) rfl
    rw [List.filter_eq_self.mpr (fun _ _ => rfl), spreadOf, if_pos (of_decide_eq_true h), lst, List.map_map]
    rfl
  · have hn := of_decide_eq_false h
    refine sd_seq (sd_asgN (ds := (spRun row at_ things 0).map .int) (evn_is (evn_mulL (xs := [.int 0]) (ev_lst (ea_cons ev_int ea_nil)) (ev_var rfl) ⟨by omega, by omega⟩ (by simp only [List.length_cons, List.length_nil]; omega)) ?_) ?_)
    · simp only [spRun, List.range_zero, List.foldl_nil, List.map_replicate]
      generalize things.toNat = n
      induction n with
      | zero => rfl
      | succ n ih => rw [List.replicate_succ, List.flatten_cons, ih, List.replicate_succ]; rfl
    refine sd_seq (sd_forR1 (n := asked) (ea_cons (ev_var rfl) ea_nil) ⟨by omega, by omega⟩ (fun i env => ∃ y, env = [.dat (lst row), .dat (.int at_), .dat (.int asked), .dat (.int things), .dat (.str kind), .no, .lst ((spRun row at_ things i).map .int), y]) ⟨_, rfl⟩ ?_ ?_)
    · rintro i env hi ⟨y, rfl⟩
      refine ⟨_, _, tg_name, ?_⟩
      have hl := spRun_len row at_ things i
      have b := Int.emod_nonneg (rw_ row ((at_ + (i : Int) * (1 + rw_ row (at_ % 60).toNat % 3)) % 60).toNat) (show things ≠ 0 by omega)
      have b2 := Int.emod_lt_of_pos (rw_ row ((at_ + (i : Int) * (1 + rw_ row (at_ % 60).toNat % 3)) % 60).toNat) (show 0 < things by omega)
      have hc : (0 : Int) ≤ 1 + rw_ row (at_ % 60).toNat % 3 ∧ 1 + rw_ row (at_ % 60).toNat % 3 < 4 := by omega
      refine sd_augL (n := (rw_ row ((at_ + (i : Int) * (1 + rw_ row (at_ % 60).toNat % 3)) % 60).toNat % things).toNat) (x := rw_ (spRun row at_ things i) (rw_ row ((at_ + (i : Int) * (1 + rw_ row (at_ % 60).toNat % 3)) % 60).toNat % things).toNat) (y := 1) rfl (ev_is (ev_mod (ev_ix (ev_var rfl) (ev_mod (ev_addI (ev_var rfl) (ev_mulI (ev_var rfl) (ev_addI ev_int (ev_mod (ev_ix (ev_var rfl) (ev_mod (ev_var rfl) ev_int (by decide)) (item_row hR (ix _).1 (ix _).2)) ev_int (by decide))) (Or.inl ⟨by omega, by omega⟩))) ev_int (by decide)) (item_row hR (ix _).1 (ix _).2)) (ev_var rfl) (by omega)) (by rw [Int.toNat_of_nonneg b])) (by rw [List.getElem?_map, rw_get (by rw [hl]; omega)]; rfl) ev_int ⟨.dat (.int (i : Int)), ?_⟩
      rw [spRun_succ, spStep, List.map_set]
      rfl
    · rintro env ⟨y, rfl⟩
      refine sd_freeze (i := 6) rfl rfl (sd_ret (ev_var rfl) ?_)
      show Res.ok _ = Res.ok _
      rw [spreadOf, if_neg hn]; rfl
theorem f__law_nest (hD : DefAt K mg "_law_nest" "_law_nest" s__law_nest ["row", "at", "things", "kind"]) (nb : NoB mg) : FnH P w K mg base "_law_nest" CX0 1 ["row", "at", "things", "kind"] c__law_nest := by
  refine fnh hD sc__law_nest (fun ds r c => by obtain ⟨row, at_, things, kind, rfl, hR, ha, ht, hw, rfl⟩ := c; rfl) (fun f cdv A outer s H E hr => ⟨_, (pss_cons (ps_set (i := 4) sc__law_nest.nd rfl (Or.inr rfl) (pe_lc (own := [("thing", 5)]) rfl sc__law_nest.nd (pi_range1 rfl nb.range_ (pa_cons (pv 2) pa_nil)) (blkOk_by (own := [("thing", 5)]) (N := N__law_nest) (sc := (defScope s__law_nest)) (by decide +kernel)) (fun _ _ _ _ _ => (pg_name (i := 5) sc__law_nest.nd rfl (Or.inl rfl))) (fun _ _ _ _ _ => pts_nil) (fun _ _ _ _ _ => Ly.PE.eqv (by exact (pe_op op_mod (pe_op op_addU (pv 5) (pe_ix ix_seq (pv 0) (pe_op op_mod (pv 1) pe_int) (fun _ _ => rfl))) (pv 2))) (by first | (dsimp only [L2.cxOf, Cx.nox, Cx.wish, Cx.blk] <;> exact rfl) | exact rfl))))
      (pss_cons (ps_setLc (i := 6) (own := [("thing", 5)]) rfl sc__law_nest.nd rfl rfl (sw_true rfl rfl rfl (by decide +kernel)) (pi_range1 rfl nb.range_ (pa_cons (pv 2) pa_nil)) (blkOk_by (own := [("thing", 5)]) (N := N__law_nest) (sc := defScope s__law_nest) (by decide +kernel)) (fun _ _ _ _ _ => (pg_name (i := 5) sc__law_nest.nd rfl (Or.inl rfl))) (fun _ _ _ _ _ => pts_nil) (fun _ _ _ _ _ => Ly.PE.eqv (by exact (pe_tup (pa_cons (pv 5) pa_nil))) (by first | (dsimp only [L2.cxOf, Cx.nox, Cx.wish, Cx.blk] <;> exact rfl) | exact rfl)))
      (pss_cons (ps_if (pt_cmpR (op_eqD hr.units) (pv 3) pe_str (nomark _)) (pss_one (ps_ret (pv 6))) pss_nil)
      (pss_cons (ps_if (pt_cmpR (op_eqD hr.units) (pe_op op_mod (pe_ix ix_seq (pv 0) (pe_op op_mod (pe_op op_addU (pv 1) pe_int) pe_int) (fun _ _ => rfl)) pe_int) pe_int (nomark _)) (pss_one (ps_set (i := 6) sc__law_nest.nd rfl (Or.inl rfl) (pe_op op_addU (pv 6) (pe_lc (own := [("many", 7)]) rfl sc__law_nest.nd (pi_range2 rfl nb.range_ (pa_cons pe_int (pa_cons (pe_op op_addU (pv 2) pe_int) pa_nil))) (blkOk_by (own := [("many", 7)]) (N := N__law_nest) (sc := (defScope s__law_nest)) (by decide +kernel)) (fun _ _ _ _ _ => (pg_name (i := 7) sc__law_nest.nd rfl (Or.inl rfl))) (fun _ _ _ _ _ => pts_nil) (fun _ _ _ _ _ => Ly.PE.eqv (by exact (pe_callTy call_tuple_of rfl nb.tuple_ b_tuple (pa_cons (pe_callB (cr_sortD hr) rfl nb.sorted_ b_sorted (pa_cons (pe_slice sl_U (pv 4) po_none (po_some (pv 7))) pa_nil)) pa_nil))) (by first | (dsimp only [L2.cxOf, Cx.nox, Cx.wish, Cx.blk] <;> exact rfl) | exact rfl)))))) (pss_cons (ps_set (i := 8) sc__law_nest.nd rfl (Or.inl rfl) (pe_op op_fdiv (pe_op op_addU (pv 2) pe_int) pe_int))
      (pss_one (ps_set (i := 6) sc__law_nest.nd rfl (Or.inl rfl) (pe_op op_addU (pv 6) (pe_lst (pa_cons (pe_callTy call_tuple_of rfl nb.tuple_ b_tuple (pa_cons (pe_callB (cr_sortD hr) rfl nb.sorted_ b_sorted (pa_cons (pe_slice sl_U (pv 4) po_none (po_some (pv 8))) pa_nil)) pa_nil)) (pa_cons (pe_callTy call_tuple_of rfl nb.tuple_ b_tuple (pa_cons (pe_callB (cr_sortD hr) rfl nb.sorted_ b_sorted (pa_cons (pe_slice sl_U (pv 4) (po_some (pv 8)) po_none) pa_nil)) pa_nil)) (pa_cons (pe_tupRg rfl rfl nb.tuple_ (prg_1 rfl nb.range_ (pv 2))) pa_nil)))))))))
      (pss_one (ps_ret (pe_callB (cr_sortSet hr rfl) rfl nb.sorted_ b_sorted (pa_cons (pe_callTy (cr_setOfT rfl (u64 hr)) rfl nb.set_ b_set (pa_cons (pe_lc (own := [("lot", 9)]) rfl sc__law_nest.nd (pi_seq (pv 6)) (blkOk_by (own := [("lot", 9)]) (N := N__law_nest) (sc := (defScope s__law_nest)) (by decide +kernel)) (fun _ _ _ _ _ => (pg_name (i := 9) sc__law_nest.nd rfl (Or.inl rfl))) (fun _ _ _ _ _ => Ly.PTs.eqv (by exact (pts_one (pt_cmpR (op_neD hr.units) (pv 9) (pe_tup pa_nil) (nomark _)))) (by first | (dsimp only [L2.cxOf, Cx.nox, Cx.wish, Cx.blk] <;> exact rfl) | exact rfl)) (fun _ _ _ _ _ => (pv 9))) pa_nil)) pa_nil)))))))), fun ds r c => ?_⟩)
  try dsimp only [L2.cxOf, Cx.nox, Cx.wish]
  obtain ⟨row, at_, things, kind, rfl, hR, ha, ht, hw, rfl⟩ := c
  have sz := sizeLine_eq
  have sw : shp (.str kind) = true := by rw [shp_str]; exact hw
  have ix : ∀ z : Int, 0 ≤ z % 60 ∧ z % 60 < 60 := fun z => by omega
  refine sd_seq (sd_asg (d := lst (orderOf (rw_ row (at_ % 60).toNat) things)) (ev_is (ev_ofN (evn_lcR1 (n := things) (fun _ => true) (fun i => .int ((i + rw_ row (at_ % 60).toNat) % things)) (ea_cons (ev_var rfl) ea_nil) (by omega) fun i hi => ⟨_, _, tg_name, by decide, et_yes, fun _ => ev_mod (ev_addI (ev_var rfl) (ev_ix (ev_var rfl) (ev_mod (ev_var rfl) ev_int (by decide)) (item_row hR (ix _).1 (ix _).2))) (ev_var rfl) (by omega)⟩)) (by rw [List.filter_eq_self.mpr (fun _ _ => rfl), orderOf, lst, List.map_map]; rfl)) ?_)
  refine sd_seq (sd_asg (d := .list ((singles things.toNat).map itup)) (ev_is (ev_ofN (evn_lcR1 (n := things) (fun _ => true) (fun i => .tuple [.int i]) (ea_cons (ev_var rfl) ea_nil) (by omega) fun i hi => ⟨_, _, tg_name, by decide, et_yes, fun _ => ev_tup (ea_cons (ev_var rfl) ea_nil)⟩)) (by rw [List.filter_eq_self.mpr (fun _ _ => rfl), singles, List.map_map]; rfl)) ?_)
  refine sd_seq (sd_if (x := decide (kind = "some")) (et_is (et_test (ev_op (ev_var rfl) ev_str (rd_eq sw (by decide +kernel)))) (by rw [eqD_str])) (fun h => ?_) (fun h => sd_next ?_))
  · refine sd_ret (ev_var rfl) ?_
    show Res.ok _ = Res.ok _
    rw [nestOf, if_pos (of_decide_eq_true h)]
  have hn := of_decide_eq_false h
  rw [nestOf, if_neg hn]
  have hol : (orderOf (rw_ row (at_ % 60).toNat) things).length ≤ 6 := by simp [orderOf]; omega
  have hsl : (singles things.toNat).length ≤ 6 := by simp [singles]; omega
  unfold nestAll
  generalize orderOf (rw_ row (at_ % 60).toNat) things = order at *
  have hcl : (chainOf order things (decide (rw_ row ((at_ + 1) % 60).toNat % 2 = 0))).length ≤ 6 := by
    unfold chainOf; split
    · simp; omega
    · simp
  refine sd_cut (fun env => ∃ y y2, env = [.dat (lst row), .dat (.int at_), .dat (.int things), .dat (.str kind), .dat (lst order), .no, .dat (.list ((singles things.toNat ++ chainOf order things (decide (rw_ row ((at_ + 1) % 60).toNat % 2 = 0))).map itup)), y, y2, .no]) ?_ ?_
  · refine sd_if (x := decide (rw_ row ((at_ + 1) % 60).toNat % 2 = 0)) (et_is (et_test (ev_op (ev_mod (ev_ix (ev_var rfl) (ev_mod (ev_addI (ev_var rfl) ev_int) ev_int (by decide)) (item_row hR (ix _).1 (ix _).2)) ev_int (by decide)) ev_int (rd_eq (shp_int _) (shp_int _)))) (by rw [eqD_int])) (fun h2 => ?_) (fun h2 => ?_)
    · refine sd_asg (d := .list ((singles things.toNat ++ chainOf order things (decide (rw_ row ((at_ + 1) % 60).toNat % 2 = 0))).map itup)) (ev_is (ev_addL (xs := (singles things.toNat).map itup) (ys := (chainOf order things (decide (rw_ row ((at_ + 1) % 60).toNat % 2 = 0))).map itup) (ev_var rfl) (ev_is (ev_ofN (evn_lcR2 (lo := 2) (hi := things + 1) (fun _ => true) (fun i => itup (isort (order.take i.toNat))) (ea_cons ev_int (ea_cons (ev_addI (ev_var rfl) ev_int) ea_nil)) ⟨by omega, by omega, by omega, by omega, by omega⟩ fun i hi => ⟨_, _, tg_name, by decide, et_yes, fun _ => ev_tupL (ev_ofN (evn_sortI (ns := order.take (2 + (i : Int)).toNat) (ev_is (ev_slL (ev_var rfl) eo_none (eo_some (ev_var rfl))) (by rw [cut_take _ (by omega), ← List.map_take]))))⟩)) ?_) (by rw [List.length_map, List.length_map]; omega)) (by rw [List.map_append])) ⟨_, _, rfl⟩
      rw [List.filter_eq_self.mpr (fun _ _ => rfl), chainOf, if_pos h2, List.map_map]
      congr 1
    · refine sd_seq (sd_asg (ev_div (ev_addI (ev_var rfl) ev_int) ev_int ⟨by decide, by decide⟩) ?_)
      have hh : 0 ≤ (things + 1) / 2 := by omega
      refine sd_asg (d := .list ((singles things.toNat ++ chainOf order things (decide (rw_ row ((at_ + 1) % 60).toNat % 2 = 0))).map itup)) (ev_is (ev_addL (xs := (singles things.toNat).map itup) (ys := (chainOf order things (decide (rw_ row ((at_ + 1) % 60).toNat % 2 = 0))).map itup) (ev_var rfl) (ev_is (ev_lst (ea_cons (ev_tupL (ev_ofN (evn_sortI (ns := order.take ((things + 1) / 2).toNat) (ev_is (ev_slL (ev_var rfl) eo_none (eo_some (ev_var rfl))) (by rw [cut_take _ hh, ← List.map_take]))))) (ea_cons (ev_tupL (ev_ofN (evn_sortI (ns := order.drop ((things + 1) / 2).toNat) (ev_is (ev_slL (ev_var rfl) (eo_some (ev_var rfl)) eo_none) (by rw [cut_drop' _ hh, ← List.map_drop]))))) (ea_cons (ev_tupRg (ev_var rfl) (by omega) (by omega)) ea_nil)))) ?_) (by rw [List.length_map, List.length_map]; omega)) (by rw [List.map_append])) ⟨_, _, rfl⟩
      rw [chainOf, if_neg (by rw [h2]; exact Bool.false_ne_true)]
      rfl
  · rintro env ⟨y, y2, rfl⟩
    generalize chainOf order things (decide (rw_ row ((at_ + 1) % 60).toNat % 2 = 0)) = ch at *
    have hal : (singles things.toNat ++ ch).length ≤ 12 := by rw [List.length_append]; omega
    generalize singles things.toNat ++ ch = al at *
    refine sd_ret (ev_ofN (evn_sortSet (ks := al.filter fun k => !k.isEmpty) (ev_is (ev_ofN (evn_lcS (d := .list (al.map itup)) (ds := al.map itup) (fun x => !(lotOf x).isEmpty) (fun x => x) (ev_var rfl) rfl (by rw [List.length_map]; omega) fun x hx => ?_)) ?_) ?_ ?_)) rfl
    · obtain ⟨k, _, rfl⟩ := List.mem_map.mp hx
      exact ⟨_, _, tg_name, by decide, et_is (et_test (ev_op (ev_var rfl) (ev_tup ea_nil) (rd_ne (shp_itup k) (by decide +kernel)))) (by rw [eqD_empty, lotOf_itup]), fun _ => ev_var rfl⟩
    · rw [List.map_id', List.filter_map]
      congr 2
      refine List.filter_congr fun k _ => ?_
      simp only [Function.comp, lotOf_itup]
    · have := List.length_filter_le (fun k : List Int => !k.isEmpty) al
      omega
    · intro k hk z
      subst z
      have := (List.mem_filter.mp hk).2
      simp at this
theorem f__law_poll (hD : DefAt K mg "_law_poll" "_law_poll" s__law_poll ["script", "at", "most"]) (nb : NoB mg) (h__law_nest : FnH P w K mg base "_law_nest" CX0 1 ["row", "at", "things", "kind"] c__law_nest) (h__law_row : FnH P w K mg base "_law_row" CX0 2 ["script", "at"] c__law_row) (h__law_share : FnH P w K mg base "_law_share" CX0 1 ["count", "asked", "units", "word"] c__law_share) (h__law_spread : FnH P w K mg base "_law_spread" CX0 1 ["row", "at", "asked", "things", "kind"] c__law_spread) : FnH P w K mg base "_law_poll" CX0 3 ["script", "at", "most"] c__law_poll := by
  refine fnh hD sc__law_poll (fun ds r c => by obtain ⟨ns, at_, most, rfl, h0, hm, rfl⟩ := c; rfl) (fun f cdv A outer s H E hr => ⟨_, (pss_cons (ps_set (i := 3) sc__law_poll.nd rfl (Or.inl rfl) (pe_fn h__law_row (hr.mono (by decide)) rfl (pa_cons (pv 0) (pa_cons (pv 1) pa_nil))))
      (pss_cons (ps_set (i := 4) sc__law_poll.nd rfl (Or.inl rfl) (pe_op op_addU pe_int (pe_op op_mod (pe_ix ix_seq (pv 3) pe_int (fun _ _ => rfl)) (pv 2))))
      (pss_cons (ps_set (i := 5) sc__law_poll.nd rfl (Or.inl rfl) (pe_ifExp (pt_cmpR (op_eqD hr.units) (pe_op op_mod (pe_ix ix_seq (pv 3) pe_int (fun _ _ => rfl)) pe_int) pe_int (nomark _)) pe_str pe_str))
      (pss_cons (ps_set (i := 6) sc__law_poll.nd rfl (Or.inl rfl) (pe_op op_addU pe_int (pe_op op_mod (pe_ix ix_seq (pv 3) pe_int (fun _ _ => rfl)) (pe_ix ix_seq (pe_lst (pa_cons pe_int (pa_cons pe_int (pa_cons pe_int pa_nil)))) (pe_op op_mod (pe_ix ix_seq (pv 3) pe_int (fun _ _ => rfl)) pe_int) (fun _ _ => rfl)))))
      (pss_cons (ps_set (i := 7) sc__law_poll.nd rfl (Or.inr rfl) (pe_fn h__law_spread (hr.mono (by decide)) rfl (pa_cons (pv 3) (pa_cons pe_int (pa_cons (pv 6) (pa_cons (pv 4) (pa_cons (pv 5) pa_nil)))))))
      (pss_cons (ps_set (i := 8) sc__law_poll.nd rfl (Or.inl rfl) (pe_lst pa_nil))
      (pss_cons (ps_for PassesOwn.never rfl (pi_range1 rfl nb.range_ (pa_cons (pe_op op_addU pe_int (pe_op op_mod (pe_ix ix_seq (pv 3) pe_int (fun _ _ => rfl)) pe_int)) pa_nil)) (pg_name (i := 9) sc__law_poll.nd rfl (Or.inl rfl)) (pss_cons (ps_set (i := 10) sc__law_poll.nd rfl (Or.inl rfl) (pe_ix ix_seq (pe_lst (pa_cons pe_int (pa_cons pe_int (pa_cons pe_int (pa_cons pe_int (pa_cons pe_int (pa_cons pe_int (pa_cons pe_int (pa_cons pe_int pa_nil))))))))) (pe_op op_mod (pe_ix ix_seq (pv 3) (pe_op op_addU pe_int (pv 9)) (fun _ _ => rfl)) (pe_ifExp (PW.pt (pw_and (pt_cmpR (op_eqD hr.units) (pv 9) pe_int (nomark _)) (pw_and1 (pt_cmpR (op_eqD hr.units) (pe_op op_mod (pe_ix ix_seq (pv 3) pe_int (fun _ _ => rfl)) pe_int) pe_int (nomark _))))) pe_int pe_int)) (fun _ _ => rfl)))
      (pss_cons (ps_set (i := 11) sc__law_poll.nd rfl (Or.inl rfl) (pe_ix ix_seq (pe_lst (pa_cons pe_str (pa_cons pe_str (pa_cons pe_str (pa_cons pe_str pa_nil))))) (pe_op op_mod (pe_ix ix_seq (pv 3) (pe_op op_addU pe_int (pv 9)) (fun _ _ => rfl)) pe_int) (fun _ _ => rfl)))
      (pss_cons (ps_set (i := 12) sc__law_poll.nd rfl (Or.inl rfl) (pe_lst pa_nil))
      (pss_cons (ps_for PassesOwn.never rfl (pi_enum rfl nb.enumerate_ (pa_cons (pe_fn h__law_nest (hr.mono (by decide)) rfl (pa_cons (pv 3) (pa_cons pe_int (pa_cons (pv 4) (pa_cons (pv 5) pa_nil))))) pa_nil)) (pg_tup (n := 2) rfl (pgs_cons (pg_name (i := 13) sc__law_poll.nd rfl (Or.inl rfl)) (pgs_cons (pg_name (i := 14) sc__law_poll.nd rfl (Or.inl rfl)) pgs_nil))) (pss_cons (ps_set (i := 15) sc__law_poll.nd rfl (Or.inl rfl) (pe_fn h__law_share (hr.mono (by decide)) rfl (pa_cons (pe_callB (call_sumU rfl) rfl nb.sum_ b_sum (pa_cons (pe_lc (own := [("thing", 16)]) rfl sc__law_poll.nd (pi_seq (pv 14)) (blkOk_by (own := [("thing", 16)]) (N := N__law_poll) (sc := (defScope s__law_poll)) (by decide +kernel)) (fun _ _ _ _ _ => (pg_name (i := 16) sc__law_poll.nd rfl (Or.inl rfl))) (fun _ _ _ _ _ => pts_nil) (fun _ _ _ _ _ => Ly.PE.eqv (by exact (pe_ix ix_seq (pv 7) (pv 16) (fun _ _ => rfl))) (by first | (dsimp only [L2.cxOf, Cx.nox, Cx.wish, Cx.blk] <;> exact rfl) | exact rfl))) pa_nil)) (pa_cons (pv 6) (pa_cons (pv 10) (pa_cons (pv 11) pa_nil))))))
      (pss_cons (ps_if (pt_cmpR (op_eqD hr.units) (pe_op op_mod (pe_ix ix_seq (pv 3) (pe_op op_mod (pe_op op_addU (pe_op op_addU pe_int (pe_op op_mulU pe_int (pv 9))) (pv 13)) pe_int) (fun _ _ => rfl)) pe_int) pe_int (nomark _)) (pss_one (ps_set (i := 15) sc__law_poll.nd rfl (Or.inl rfl) (pe_op op_mod (pe_op op_addU (pv 15) pe_int) (pe_op op_addU (pv 10) pe_int)))) pss_nil)
      (pss_one (ps_if (pt_cmpR (op_gtU hr.units0) (pe_op op_mod (pe_ix ix_seq (pv 3) (pe_op op_mod (pe_op op_addU (pe_op op_addU pe_int (pe_op op_mulU pe_int (pv 9))) (pv 13)) pe_int) (fun _ _ => rfl)) pe_int) pe_int (nomark _)) (pss_one (ps_expr (pe_bm PySem.F.plainAttrs_list PySem.F.slot_list_append PySem.F.type_list_append mt_append (pv 12) (pa_cons (pe_tup (pa_cons (pv 14) (pa_cons (pv 15) pa_nil))) pa_nil)))) pss_nil)))))
      (pss_cons (ps_if (pt_cmpR (op_eqD hr.units) (pv 12) (pe_lst pa_nil) (nomark _)) (pss_one (ps_set (i := 12) sc__law_poll.nd rfl (Or.inl rfl) (pe_lst (pa_cons (pe_tup (pa_cons (pe_tup (pa_cons pe_int pa_nil)) (pa_cons (pe_fn h__law_share (hr.mono (by decide)) rfl (pa_cons (pe_ix ix_seq (pv 7) pe_int (fun _ _ => rfl)) (pa_cons (pv 6) (pa_cons (pv 10) (pa_cons (pv 11) pa_nil))))) pa_nil))) pa_nil)))) pss_nil)
      (pss_one (ps_expr (pe_bm PySem.F.plainAttrs_list PySem.F.slot_list_append PySem.F.type_list_append mt_append (pv 8) (pa_cons (pe_tup (pa_cons (pv 10) (pa_cons (pv 11) (pa_cons (pe_callTy call_tuple_of rfl nb.tuple_ b_tuple (pa_cons (pv 12) pa_nil)) pa_nil)))) pa_nil))))))))))
      (pss_one (ps_ret (pe_tup (pa_cons (pv 4) (pa_cons (pv 5) (pa_cons (pe_callTy call_tuple_of rfl nb.tuple_ b_tuple (pa_cons (pv 8) pa_nil)) pa_nil))))))))))))), fun ds r c => ?_⟩)
  try dsimp only [L2.cxOf, Cx.nox, Cx.wish]
  obtain ⟨ns, at_, most, rfl, h0, hm, rfl⟩ := c
  have sz := sizeLine_eq
  have hR := lawRow_row ns at_
  refine sd_seq (sd_asg (ev_call (ea_cons (ev_var rfl) (ea_cons (ev_var rfl) ea_nil)) ⟨_, _, rfl, h0, rfl⟩) ?_)
  generalize lawRow ns at_ = row at *
  have ix : ∀ z : Int, 0 ≤ z % 60 ∧ z % 60 < 60 := fun z => by omega
  have ht := pThings_bd (row := row) hm.1
  have ha := pAsked_bd hR
  refine sd_seq (sd_asg (d := .int (pThings row most)) (ev_addI ev_int (ev_mod (ev_ix (ev_var rfl) ev_int (item_row hR (by decide) (by decide))) (ev_var rfl) (by omega))) ?_)
  refine sd_seq (sd_asg (d := .str (pKind row)) (ev_if (x := decide (rw_ row 1 % 4 = 0)) (et_is (et_test (ev_op (ev_mod (ev_ix (ev_var rfl) ev_int (item_row hR (by decide) (by decide))) ev_int (by decide)) ev_int (rd_eq (shp_int _) (shp_int _)))) (by rw [eqD_int]; rfl)) (fun h => by rw [pKind, if_pos (of_decide_eq_true h)]; exact ev_str) (fun h => by rw [pKind, if_neg (of_decide_eq_false h)]; exact ev_str)) ?_)
  refine sd_seq (sd_asg (d := .int (pAsked row)) (ev_addI ev_int (ev_mod (ev_ix (ev_var rfl) ev_int (item_row hR (by decide) (by decide))) (ev_ix (d := .int (rw_ [8, 30, 60] (rw_ row 3 % 3).toNat)) (ev_lst (ea_cons ev_int (ea_cons ev_int (ea_cons ev_int ea_nil)))) (ev_mod (ev_ix (ev_var rfl) ev_int (item_row hR (by decide) (by decide))) ev_int (by decide)) (atI_ints (row := [8, 30, 60]) (Int.emod_nonneg _ (by decide)) (Int.emod_lt_of_pos _ (by decide)))) askIx.2)) ?_)
  refine sd_seq (sd_asg (d := lst (pSome row most)) (ev_call (ea_cons (ev_var rfl) (ea_cons ev_int (ea_cons (ev_var rfl) (ea_cons (ev_var rfl) (ea_cons (ev_var rfl) ea_nil))))) ⟨row, 4, pAsked row, pThings row most, pKind row, rfl, hR, by omega, by omega, by omega, pKind_ok row, rfl⟩) ?_)
  obtain ⟨s1, s2, s3⟩ := pSome_ok hR hm
  refine sd_seq (sd_asgN (evn_lst ea_nil) ?_)
  have h5 := hR.bd 5
  refine sd_seq (sd_forR1 (n := 1 + rw_ row 5 % 2) (ea_cons (ev_addI ev_int (ev_mod (ev_ix (ev_var rfl) ev_int (item_row hR (by decide) (by decide))) ev_int (by decide))) ea_nil) ⟨by omega, by omega⟩ (fun i env => ∃ y9 y10 y11 y12 y13 y14 y15 y16, env = [.dat (.scr ns), .dat (.int at_), .dat (.int most), .dat (lst row), .dat (.int (pThings row most)), .dat (.str (pKind row)), .dat (.int (pAsked row)), .dat (lst (pSome row most)), .lst ((List.range i).map fun t => (pShw row most t).d), y9, y10, y11, y12, y13, y14, y15, y16]) ⟨_, _, _, _, _, _, _, _, rfl⟩ ?_ ?_)
  · rintro t env hi ⟨y9, y10, y11, y12, y13, y14, y15, y16, rfl⟩
    have ht2 : t < 2 := by omega
    refine ⟨_, _, tg_name, ?_⟩
    have hu := pUnits_bd row t
    have et : (6 + (t : Int)).toNat = 6 + t := by omega
    have e8 : (8 + (t : Int)).toNat = 8 + t := by omega
    have mb : ∀ z : Int, 0 ≤ z % (if t = 0 ∧ rw_ row 5 % 2 = 0 then 8 else 6) ∧ z % (if t = 0 ∧ rw_ row 5 % 2 = 0 then 8 else 6) < 8 ∧ (0 : Int) < (if t = 0 ∧ rw_ row 5 % 2 = 0 then 8 else 6) := fun z => by split <;> omega
    refine sd_seq (sd_asg (d := .int (pUnits row t)) (ev_ix (i := rw_ row (6 + t) % (if t = 0 ∧ rw_ row 5 % 2 = 0 then 8 else 6)) (ev_lst (ea_cons ev_int (ea_cons ev_int (ea_cons ev_int (ea_cons ev_int (ea_cons ev_int (ea_cons ev_int (ea_cons ev_int (ea_cons ev_int ea_nil))))))))) (ev_mod (ev_ix (ev_var rfl) (ev_addI ev_int (ev_var rfl)) (by rw [← et]; exact item_row hR (by omega) (by omega))) (ev_if (x := decide (t = 0) && decide (rw_ row 5 % 2 = 0)) (et_and (et_is (et_test (ev_op (ev_var rfl) ev_int (rd_eq (shp_int _) (shp_int _)))) (by rw [eqD_int]; exact decide_eq_decide.mpr (by omega))) fun _ => et_is (et_test (ev_op (ev_mod (ev_ix (ev_var rfl) ev_int (item_row hR (by decide) (by decide))) ev_int (by decide)) ev_int (rd_eq (shp_int _) (shp_int _)))) (by rw [eqD_int]; rfl)) (fun h => by
      rw [if_pos (by simpa using h)]; exact ev_int) (fun h => by
      rw [if_neg (by simpa using h)]; exact ev_int)) (mb 0).2.2) (atI_ints (row := [2, 3, 4, 5, 7, 10, 20, 100]) (mb _).1 (mb _).2.1)) ?_)
    refine sd_seq (sd_asg (d := .str (pWord row t)) (ev_ix (ev_lst (ea_cons ev_str (ea_cons ev_str (ea_cons ev_str (ea_cons ev_str ea_nil))))) (ev_mod (ev_ix (ev_var rfl) (ev_addI ev_int (ev_var rfl)) (by rw [← e8]; exact item_row hR (by omega) (by omega))) ev_int (by decide)) (item_words _)) ?_)
    have wo := word_ok (pWord_is row t)
    refine sd_seq (sd_asgN (evn_lst ea_nil) ?_)
    have nf := nest_few (row := row) (at_ := 10) (kind := pKind row) (show 1 ≤ pThings row most ∧ pThings row most ≤ 6 by omega)
    have nl : ∀ k ∈ nestOf row 10 (pThings row most) (pKind row), lotB (pThings row most) k = true ∧ (0 ≤ cnt (pSome row most) k ∧ cnt (pSome row most) k ≤ pAsked row) := fun k hk => by
      obtain ⟨l1, l2⟩ := nest_lotB hR hm hk
      exact ⟨l1, (cnt_le (fun x hx => (s1 x hx).1) l1).1, cnt_asked hR hm l1 l2⟩
    have n0 := zero_nest hR hm
    have esh : (pShw row most t).d = .tuple [.int (pUnits row t), .str (pWord row t), .tuple ((pParts row (pSome row most) (pAsked row) (pUnits row t) (pWord row t) t (nestOf row 10 (pThings row most) (pKind row))).map partD)] := rfl
    have esr : (List.range (t + 1)).map (fun t => (pShw row most t).d) = (List.range t).map (fun t => (pShw row most t).d) ++ [(pShw row most t).d] := by rw [List.range_succ, List.map_append]; rfl
    rw [esr, esh]
    unfold pParts
    generalize hks : nestOf row 10 (pThings row most) (pKind row) = ks at *
    refine sd_seq (sd_forE (ds := ks.map itup) (ea_cons (ev_call (ea_cons (ev_var rfl) (ea_cons ev_int (ea_cons (ev_var rfl) (ea_cons (ev_var rfl) ea_nil)))) ⟨row, 10, pThings row most, pKind row, rfl, hR, by omega, by omega, pKind_ok row, by rw [hks]⟩) ea_nil) (fun j env => ∃ y13 y14 y15, env = [.dat (.scr ns), .dat (.int at_), .dat (.int most), .dat (lst row), .dat (.int (pThings row most)), .dat (.str (pKind row)), .dat (.int (pAsked row)), .dat (lst (pSome row most)), .lst ((List.range t).map fun t => (pShw row most t).d), .dat (.int (t : Int)), .dat (.int (pUnits row t)), .dat (.str (pWord row t)), .lst ((pRun row (pSome row most) (pAsked row) (pUnits row t) (pWord row t) t ks j).map partD), y13, y14, y15, y16]) ⟨_, _, _, rfl⟩ ?_ ?_)
    · rintro j d env hd ⟨y13, y14, y15, rfl⟩
      rw [List.getElem?_map] at hd
      cases hk : ks[j]? with
      | none => rw [hk] at hd; cases hd
      | some k =>
        rw [hk] at hd; cases hd
        have hj : j < ks.length := (List.getElem?_eq_some_iff.mp hk).1
        have km := List.mem_of_getElem? hk
        obtain ⟨lb, c0, c1⟩ := nl k km
        have hlot : ∀ x ∈ k, 0 ≤ x ∧ x < ((pSome row most).length : Int) := fun x hx => by
          unfold lotB at lb
          simp only [Bool.and_eq_true, List.all_eq_true, decide_eq_true_eq] at lb
          have := lb.2.1 x hx
          rw [s3]; omega
        refine ⟨_, _, tg_tup (tgs_cons tg_name (tgs_cons tg_name tgs_nil)) rfl, ?_⟩
        have rl : (pRun row (pSome row most) (pAsked row) (pUnits row t) (pWord row t) t ks j).length ≤ 12 := by
          have := (pRun_sub (row := row) (sm := pSome row most) (asked := pAsked row) (u := pUnits row t) (w := pWord row t) (t := t) (ks := ks) j (by omega)).1.length_le
          rw [List.length_map, List.length_take] at this
          omega
        have kl : k.length < 1000 := by
          have q := length_allLots (pPol row most)
          unfold lotB at lb
          simp only [Bool.and_eq_true, List.all_eq_true, decide_eq_true_eq] at lb
          have := nat_nodup_len (k.map Int.toNat) (List.range 6) (by
            unfold List.Nodup
            rw [List.pairwise_map]
            refine List.Pairwise.imp_of_mem (fun {a b} ha hb hlt => ?_) (risesI_pair lb.2.2)
            have h1 := (lb.2.1 a ha).1
            have h2 := (lb.2.1 b hb).1
            omega) fun x hx => by
              obtain ⟨y, hy, rfl⟩ := List.mem_map.mp hx
              have := lb.2.1 y hy
              exact List.mem_range.mpr (by omega)
          rw [List.length_map, List.length_range] at this
          omega
        refine sd_seq (sd_asg (d := .int (lawShare (cnt (pSome row most) k) (pAsked row) (pUnits row t) (pWord row t))) (ev_call (ea_cons (ev_sumL (ns := k.map fun (i : Int) => rw_ (pSome row most) i.toNat) (ev_is (ev_ofN (evn_lcS (d := itup k) (ds := k.map .int) (fun _ => true) (fun x => .int (rw_ (pSome row most) (intOf x).toNat)) (ev_var rfl) rfl (by rw [List.length_map]; omega) fun x hx => ?_)) ?_)) (ea_cons (ev_var rfl) (ea_cons (ev_var rfl) (ea_cons (ev_var rfl) ea_nil)))) ⟨_, _, _, _, rfl, ⟨c0, by show cnt _ _ ≤ 100000; omega⟩, by omega, by omega, wo, rfl⟩) ?_)
        · obtain ⟨i, hi, rfl⟩ := List.mem_map.mp hx
          exact ⟨_, _, tg_name, by decide, et_yes, fun _ => ev_ix (ev_var rfl) (ev_var rfl) (atI_ints (hlot i hi).1 (hlot i hi).2)⟩
        · rw [List.filter_eq_self.mpr (fun _ _ => rfl), List.map_map, List.map_map]; rfl
        have q2 : ∀ a : Int, 0 ≤ a → a ≤ 60 → CMul 7 (t : Int) := fun _ _ _ => Or.inl ⟨by decide, by decide⟩
        refine sd_cut (fun env => env = [.dat (.scr ns), .dat (.int at_), .dat (.int most), .dat (lst row), .dat (.int (pThings row most)), .dat (.str (pKind row)), .dat (.int (pAsked row)), .dat (lst (pSome row most)), .lst ((List.range t).map fun t => (pShw row most t).d), .dat (.int (t : Int)), .dat (.int (pUnits row t)), .dat (.str (pWord row t)), .lst ((pRun row (pSome row most) (pAsked row) (pUnits row t) (pWord row t) t ks j).map partD), .dat (.int (j : Int)), .dat (itup k), .dat (.int (pTold row (pSome row most) (pAsked row) (pUnits row t) (pWord row t) t j k)), y16]) ?_ ?_
        · refine sd_if (x := decide (rw_ row ((20 + 7 * (t : Int) + (j : Int)) % 60).toNat % 17 = 0)) (et_is (et_test (ev_op (ev_mod (ev_ix (ev_var rfl) (ev_mod (ev_addI (ev_addI ev_int (ev_mulI ev_int (ev_var rfl) (q2 0 (by decide) (by decide)))) (ev_var rfl)) ev_int (by decide)) (item_row hR (ix _).1 (ix _).2)) ev_int (by decide)) ev_int (rd_eq (shp_int _) (shp_int _)))) (by rw [eqD_int])) (fun h => ?_) (fun h => sd_next ?_)
          · refine sd_asg (d := .int (pTold row (pSome row most) (pAsked row) (pUnits row t) (pWord row t) t j k)) ?_ rfl
            rw [pTold, if_pos (of_decide_eq_true h)]
            exact ev_mod (ev_addI (ev_var rfl) ev_int) (ev_addI (ev_var rfl) ev_int) (by omega)
          · rw [pTold, if_neg (of_decide_eq_false h)]
            rfl
        · rintro env rfl
          refine sd_if (x := decide (0 < rw_ row ((40 + 7 * (t : Int) + (j : Int)) % 60).toNat % 4)) (et_is (et_test (ev_op (ev_mod (ev_ix (ev_var rfl) (ev_mod (ev_addI (ev_addI ev_int (ev_mulI ev_int (ev_var rfl) (q2 0 (by decide) (by decide)))) (ev_var rfl)) ev_int (by decide)) (item_row hR (ix _).1 (ix _).2)) ev_int (by decide)) ev_int rd_cmpI)) rfl) (fun h => ?_) (fun h => sd_next ?_)
          · refine sd_app rfl (ev_tup (ea_cons (ev_var rfl) (ea_cons (ev_var rfl) ea_nil))) (by rw [List.length_map]; omega) ⟨.dat (.int (j : Int)), .dat (itup k), .dat (.int (pTold row (pSome row most) (pAsked row) (pUnits row t) (pWord row t) t j k)), ?_⟩
            rw [pRun_succ hk, pStep, if_pos (of_decide_eq_true h), List.map_append]
            rfl
          · refine ⟨.dat (.int (j : Int)), .dat (itup k), .dat (.int (pTold row (pSome row most) (pAsked row) (pUnits row t) (pWord row t) t j k)), ?_⟩
            rw [pRun_succ hk, pStep, if_neg (of_decide_eq_false h)]
    · rintro env ⟨y13, y14, y15, rfl⟩
      rw [List.length_map]
      obtain ⟨r1, r2⟩ := pRun_sub (row := row) (sm := pSome row most) (asked := pAsked row) (u := pUnits row t) (w := pWord row t) (t := t) (ks := ks) ks.length (Nat.le_refl _)
      have rb : ∀ q ∈ pRun row (pSome row most) (pAsked row) (pUnits row t) (pWord row t) t ks ks.length, True := fun _ _ => trivial
      generalize pRun row (pSome row most) (pAsked row) (pUnits row t) (pWord row t) t ks ks.length = ps at *
      refine sd_freeze (i := 12) rfl rfl ?_
      refine sd_cut (fun env => env = [.dat (.scr ns), .dat (.int at_), .dat (.int most), .dat (lst row), .dat (.int (pThings row most)), .dat (.str (pKind row)), .dat (.int (pAsked row)), .dat (lst (pSome row most)), .lst ((List.range t).map fun t => (pShw row most t).d), .dat (.int (t : Int)), .dat (.int (pUnits row t)), .dat (.str (pWord row t)), .dat (.list ((if ps.isEmpty = true then [([0], lawShare (rw_ (pSome row most) 0) (pAsked row) (pUnits row t) (pWord row t))] else ps).map partD)), y13, y14, y15, y16]) ?_ ?_
      · refine sd_if (x := ps.isEmpty) (et_is (et_test (ev_op (ev_var rfl) (ev_lst ea_nil) (rd_eq (shp_parts ps) (by decide +kernel)))) (by show eqD (.list (ps.map partD)) (.list []) = _; rw [eqD_nil, List.isEmpty_map])) (fun h => ?_) (fun h => sd_next ?_)
        · obtain ⟨_, z0, z1⟩ := nl _ n0
          have e : cnt (pSome row most) [0] = rw_ (pSome row most) 0 := by simp [cnt]
          rw [e] at z0 z1
          refine sd_asg (ev_lst (ea_cons (ev_tup (ea_cons (ev_tup (ea_cons ev_int ea_nil)) (ea_cons (ev_call (ea_cons (ev_ix (ev_var rfl) ev_int (atI_ints (by decide) (by rw [s3]; omega))) (ea_cons (ev_var rfl) (ea_cons (ev_var rfl) (ea_cons (ev_var rfl) ea_nil)))) ⟨rw_ (pSome row most) 0, _, _, _, rfl, ⟨z0, by omega⟩, by omega, by omega, wo, rfl⟩) ea_nil))) ea_nil)) ?_
          rw [if_pos h]; rfl
        · rw [if_neg (by rw [h]; exact Bool.false_ne_true)]; rfl
      · rintro env rfl
        refine sd_app rfl (ev_tup (ea_cons (ev_var rfl) (ea_cons (ev_var rfl) (ea_cons (ev_tupL (ev_var rfl)) ea_nil)))) (by rw [List.length_map, List.length_range]; omega) ⟨_, _, _, _, _, _, _, _, rfl⟩
  · rintro env ⟨y9, y10, y11, y12, y13, y14, y15, y16, rfl⟩
    refine sd_freeze (i := 8) rfl rfl (sd_ret (ev_tup (ea_cons (ev_var rfl) (ea_cons (ev_var rfl) (ea_cons (ev_tupL (ev_var rfl)) ea_nil)))) ?_)
    show Res.ok _ = Res.ok _
    simp [Pol.d, pPol, shsD, List.map_map, Function.comp_def]
theorem f__law_asked (hD : DefAt K mg "_law_asked" "_law_asked" s__law_asked ["row", "at", "most"]) (nb : NoB mg) : FnH P w K mg base "_law_asked" CX0 1 ["row", "at", "most"] c__law_asked := by
  refine fnh hD sc__law_asked (fun ds r c => by obtain ⟨row, at_, most, rfl, hr_, hm, rfl⟩ := c; rfl) (fun f cdv A outer s H E hr => ⟨_, (pss_one (ps_ret (pe_op op_addU pe_int (pe_op op_mod (pe_ix ix_seq (pv 0) (pe_op op_mod (pv 1) pe_int) (fun _ _ => rfl)) (pe_ix ix_seq (pe_lst (pa_cons pe_int (pa_cons pe_int (pa_cons (pv 2) pa_nil)))) (pe_op op_mod (pe_ix ix_seq (pv 0) (pe_op op_mod (pe_op op_addU (pv 1) pe_int) pe_int) (fun _ _ => rfl)) pe_int) (fun _ _ => rfl)))))), fun ds r c => ?_⟩)
  try dsimp only [L2.cxOf, Cx.nox, Cx.wish]
  obtain ⟨row, at_, most, rfl, hr_, hm, rfl⟩ := c
  have b1 := Int.emod_nonneg at_ (show (60 : Int) ≠ 0 by decide)
  have b2 := Int.emod_lt_of_pos at_ (show (0 : Int) < 60 by decide)
  have b3 := Int.emod_nonneg (at_ + 1) (show (60 : Int) ≠ 0 by decide)
  have b4 := Int.emod_lt_of_pos (at_ + 1) (show (0 : Int) < 60 by decide)
  have b5 := hr_.bd ((at_ + 1) % 60).toNat
  have b6 := Int.emod_nonneg (rw_ row ((at_ + 1) % 60).toNat) (show (3 : Int) ≠ 0 by decide)
  have b7 := Int.emod_lt_of_pos (rw_ row ((at_ + 1) % 60).toNat) (show (0 : Int) < 3 by decide)
  refine sd_ret (ev_addI ev_int (ev_mod (ev_ix (ev_var rfl) (ev_mod (ev_var rfl) ev_int (by decide)) (item_row hr_ b1 b2)) (ev_ix (d := .int (rw_ [6, 30, most] (rw_ row ((at_ + 1) % 60).toNat % 3).toNat)) (ev_lst (ea_cons ev_int (ea_cons ev_int (ea_cons (ev_var rfl) ea_nil)))) (ev_mod (ev_ix (ev_var rfl) (ev_mod (ev_addI (ev_var rfl) ev_int) ev_int (by decide)) (item_row hr_ b3 b4)) ev_int (by decide)) ?_) ?_)) rfl
  · exact atI_ints (row := [6, 30, most]) b6 b7
  · generalize rw_ row ((at_ + 1) % 60).toNat % 3 = z at *
    have : z = 0 ∨ z = 1 ∨ z = 2 := by omega
    rcases this with rfl | rfl | rfl
    · exact (by decide : (0 : Int) < 6)
    · exact (by decide : (0 : Int) < 30)
    · exact hm
theorem f__law_lots (hD : DefAt K mg "_law_lots" "_law_lots" s__law_lots ["poll"]) (nb : NoB mg) : FnH P w K mg base "_law_lots" CX0 1 ["poll"] c__law_lots := by
  refine fnh hD sc__law_lots (fun ds r c => by obtain ⟨p, rfl, hp, hl, rfl⟩ := c; rfl) (fun f cdv A outer s H E hr => ⟨_, (pss_cons (ps_setLc (i := 1) (own := [("thing", 2)]) rfl sc__law_lots.nd rfl rfl (sw_true rfl rfl rfl (by decide +kernel)) (pi_range1 rfl nb.range_ (pa_cons (pe_ix ix_seq (pv 0) pe_int (fun _ _ => rfl)) pa_nil)) (blkOk_by (own := [("thing", 2)]) (N := N__law_lots) (sc := defScope s__law_lots) (by decide +kernel)) (fun _ _ _ _ _ => (pg_name (i := 2) sc__law_lots.nd rfl (Or.inl rfl))) (fun _ _ _ _ _ => pts_nil) (fun _ _ _ _ _ => Ly.PE.eqv (by exact (pe_tup (pa_cons (pv 2) pa_nil))) (by first | (dsimp only [L2.cxOf, Cx.nox, Cx.wish, Cx.blk] <;> exact rfl) | exact rfl)))
      (pss_cons (ps_if (pt_cmpR (op_eqD hr.units) (pe_ix ix_seq (pv 0) pe_int (fun _ _ => rfl)) pe_str (nomark _)) (pss_one (ps_expr (pe_bm PySem.F.plainAttrs_list PySem.F.slot_list_append PySem.F.type_list_append mt_append (pv 1) (pa_cons (pe_tupRg rfl rfl nb.tuple_ (prg_1 rfl nb.range_ (pe_ix ix_seq (pv 0) pe_int (fun _ _ => rfl)))) pa_nil)))) pss_nil)
      (pss_cons (ps_for PassesOwn.never rfl (pi_seq (pe_ix ix_seq (pv 0) pe_int (fun _ _ => rfl))) (pg_tup (n := 3) rfl (pgs_cons (pg_name (i := 3) sc__law_lots.nd rfl (Or.inl rfl)) (pgs_cons (pg_name (i := 4) sc__law_lots.nd rfl (Or.inl rfl)) (pgs_cons (pg_name (i := 5) sc__law_lots.nd rfl (Or.inl rfl)) pgs_nil)))) (pss_one (ps_set (i := 1) sc__law_lots.nd rfl (Or.inl rfl) (pe_op op_addU (pv 1) (pe_lc (own := [("lot", 6), ("told", 7)]) rfl sc__law_lots.nd (pi_seq (pv 5)) (blkOk_by (own := [("lot", 6), ("told", 7)]) (N := N__law_lots) (sc := (defScope s__law_lots)) (by decide +kernel)) (fun _ _ _ _ _ => Ly.PG.eqv (by exact (pg_tup (n := 2) rfl (pgs_cons (pg_name (i := 6) sc__law_lots.nd rfl (Or.inl rfl)) (pgs_cons (pg_name (i := 7) sc__law_lots.nd rfl (Or.inl rfl)) pgs_nil)))) (by first | (dsimp only [L2.cxOf, Cx.nox, Cx.wish, Cx.blk] <;> exact rfl) | exact rfl)) (fun _ _ _ _ _ => pts_nil) (fun _ _ _ _ _ => (pv 6)))))))
      (pss_one (ps_ret (pe_lc (own := [("size", 8), ("lot", 6)]) rfl sc__law_lots.nd (pi_seq (pe_callB (cr_sortSetQ hr rfl) rfl nb.sorted_ b_sorted (pa_cons (pe_callTy (cr_setOfQ rfl (u64 hr)) rfl nb.set_ b_set (pa_cons (pe_lc (own := [("lot", 6)]) rfl sc__law_lots.nd (pi_seq (pv 1)) (blkOk_by (own := [("lot", 6)]) (N := N__law_lots) (sc := (defScope s__law_lots)) (by decide +kernel)) (fun _ _ _ _ _ => (pg_name (i := 6) sc__law_lots.nd rfl (Or.inl rfl))) (fun _ _ _ _ _ => pts_nil) (fun _ _ _ _ _ => Ly.PE.eqv (by exact (pe_tup (pa_cons (pe_callB call_len rfl nb.len b_len (pa_cons (pv 6) pa_nil)) (pa_cons (pv 6) pa_nil)))) (by first | (dsimp only [L2.cxOf, Cx.nox, Cx.wish, Cx.blk] <;> exact rfl) | exact rfl))) pa_nil)) pa_nil))) (blkOk_by (own := [("size", 8), ("lot", 6)]) (N := N__law_lots) (sc := (defScope s__law_lots)) (by decide +kernel)) (fun _ _ _ _ _ => Ly.PG.eqv (by exact (pg_tup (n := 2) rfl (pgs_cons (pg_name (i := 8) sc__law_lots.nd rfl (Or.inl rfl)) (pgs_cons (pg_name (i := 6) sc__law_lots.nd rfl (Or.inl rfl)) pgs_nil)))) (by first | (dsimp only [L2.cxOf, Cx.nox, Cx.wish, Cx.blk] <;> exact rfl) | exact rfl)) (fun _ _ _ _ _ => pts_nil) (fun _ _ _ _ _ => (pv 6)))))))), fun ds r c => ?_⟩)
  try dsimp only [L2.cxOf, Cx.nox, Cx.wish]
  obtain ⟨p, rfl, hp, hl, rfl⟩ := c
  have sz := sizeLine_eq
  have hn := hp.n
  have s3 := hp.shs
  have kok := hp.ok.kd
  refine sd_seq (sd_asgN (ds := (singles p.n.toNat).map itup) (evn_is (evn_lcR1 (n := p.n) (fun _ => true) (fun i => itup [i]) (ea_cons (ev_ix (ev_var rfl) ev_int rfl) ea_nil) (by omega) fun i hi => ⟨_, _, tg_name, by decide, et_yes, fun _ => ev_tup (ds := [.int (i : Int)]) (ea_cons (ev_var rfl) ea_nil)⟩) ?_) ?_)
  · rw [List.filter_eq_self.mpr (fun _ _ => rfl), singles, List.map_map]; rfl
  have len1 : (singles p.n.toNat ++ keys0 p).length ≤ 7 := by
    unfold singles keys0
    split <;> simp <;> omega
  refine sd_cut (fun env => env = [.dat (Pol.d p), .lst ((singles p.n.toNat ++ keys0 p).map itup), .no, .no, .no, .no, .no, .no, .no]) ?_ ?_
  · refine sd_if (x := decide (p.kind = "one")) (et_is (et_test (ev_op (ev_ix (ev_var rfl) ev_int rfl) ev_str (rd_eq (by rw [shp_str]; exact kok) (by decide +kernel)))) (by rw [eqD_str])) (fun h => ?_) (fun h => sd_next ?_)
    · refine sd_app rfl (d := itup (rgI p.n)) (ev_tupRg (ev_ix (ev_var rfl) ev_int rfl) (by omega) (by omega)) (by rw [List.length_map]; unfold singles; simp; omega) ?_
      show _ = _
      unfold keys0
      rw [if_pos (of_decide_eq_true h), List.map_append]; rfl
    · show _ = _
      unfold keys0
      rw [if_neg (of_decide_eq_false h), List.append_nil]; rfl
  rintro env rfl
  refine sd_seq (sd_forS (d := shsD p.shs) (ds := p.shs.map Shw.d) (ev_ix (ev_var rfl) ev_int rfl) rfl (fun i env => ∃ y3 y4 y5, env = [.dat (Pol.d p), .lst ((singles p.n.toNat ++ keys0 p ++ (p.shs.take i).flatMap shLots).map itup), .no, y3, y4, y5, .no, .no, .no]) ⟨.no, .no, .no, by simp⟩ ?_ ?_)
  · rintro i d env hd ⟨y3, y4, y5, rfl⟩
    rw [List.getElem?_map] at hd
    cases hs : p.shs[i]? with
    | none => rw [hs] at hd; cases hd
    | some s =>
      rw [hs] at hd; cases hd
      have sm := List.mem_of_getElem? hs
      have tk : (p.shs.take (i + 1)).flatMap shLots = (p.shs.take i).flatMap shLots ++ shLots s := by rw [List.take_add_one, hs, List.flatMap_append]; simp
      have pl : ((p.shs.take (i + 1)).flatMap shLots).length ≤ (p.shs.flatMap shLots).length := by
        conv => rhs; rw [← List.take_append_drop (i + 1) p.shs, List.flatMap_append, List.length_append]
        omega
      have tl : (lotsIn p).length = (singles p.n.toNat ++ keys0 p).length + (p.shs.flatMap shLots).length := by unfold lotsIn; rw [List.length_append]
      have sl : (shLots s).length = s.parts.length := by unfold shLots; rw [List.length_map]
      rw [tk, List.length_append, sl] at pl
      refine ⟨_, _, tg_tup (tgs_cons tg_name (tgs_cons tg_name (tgs_cons tg_name tgs_nil))) rfl, ?_⟩
      refine sd_freeze (i := 1) rfl rfl (sd_asgN (ds := (singles p.n.toNat ++ keys0 p ++ (p.shs.take (i + 1)).flatMap shLots).map itup) (evn_is (evn_addL (xs := (singles p.n.toNat ++ keys0 p ++ (p.shs.take i).flatMap shLots).map itup) (ys := (shLots s).map itup) (ev_var rfl) (ev_is (ev_ofN (evn_lcS (d := .tuple (s.parts.map partD)) (ds := s.parts.map partD) (fun _ => true) (fun y => headOf y) (ev_var rfl) rfl (by rw [List.length_map]; omega) fun y hy => ?_)) ?_) (by rw [List.length_map, List.length_map, List.length_append, sl]; omega)) (by rw [tk, ← List.append_assoc, List.map_append (l₂ := shLots s)])) ⟨.dat (.int s.units), .dat (.str s.word), .dat (.tuple (s.parts.map partD)), rfl⟩)
      · obtain ⟨q, qm, rfl⟩ := List.mem_map.mp hy
        exact ⟨_, _, tg_tup (tgs_cons tg_name (tgs_cons tg_name tgs_nil)) rfl, by decide, et_yes, fun _ => ev_var rfl⟩
      · rw [List.filter_eq_self.mpr (fun _ _ => rfl), List.map_map, shLots, List.map_map]; rfl
  · rintro env ⟨y3, y4, y5, rfl⟩
    rw [List.length_map, List.take_length]
    show SD K mg E _ [.dat (Pol.d p), .lst ((lotsIn p).map itup), .no, y3, y4, y5, .no, .no, .no] _
    refine sd_freeze (i := 1) rfl rfl (sd_ret (d := .list ((allLots p).map itup)) (ev_is (ev_ofN (evn_lcS (d := .list ((sortLots (nub (lotsIn p))).map fun k => pD (lq k))) (ds := (sortLots (nub (lotsIn p))).map fun k => pD (lq k)) (fun _ => true) (fun y => tailOf y) (ev_ofN (evn_sortSetLots (fs := lotsIn p) (ev_is (ev_ofN (evn_lcS (d := .list ((lotsIn p).map itup)) (ds := (lotsIn p).map itup) (fun _ => true) (fun y => pD (lq (lotOf y))) (ev_var rfl) rfl (by rw [List.length_map]; omega) fun y hy => ?_)) ?_) hl)) rfl ?_ fun y hy => ?_)) ?_) rfl)
    · obtain ⟨k, km, rfl⟩ := List.mem_map.mp hy
      rw [lotOf_itup]
      exact ⟨_, _, tg_name, by decide, et_yes, fun _ => ev_tup (ea_cons (ev_is (ev_len (ev_var rfl)) (by simp [itup, lenD, lq])) (ea_cons (ev_var rfl) ea_nil))⟩
    · rw [List.filter_eq_self.mpr (fun _ _ => rfl), List.map_map]
      congr 1
      refine List.map_congr_left fun k _ => ?_
      simp [lotOf_itup]
    · rw [lotsIn_is, List.length_map]; have := hp.few; omega
    · obtain ⟨k, km, rfl⟩ := List.mem_map.mp hy
      exact ⟨_, _, tg_tup (tgs_cons tg_name (tgs_cons tg_name tgs_nil)) rfl, by decide, et_yes, fun _ => ev_var rfl⟩
    · rw [lotsIn_is, List.filter_eq_self.mpr (fun _ _ => rfl), List.map_map]; rfl
theorem f__law_ends (hD : DefAt K mg "_law_ends" "_law_ends" s__law_ends ["poll", "asked", "lot"]) (nb : NoB mg) : FnH P w K mg base "_law_ends" CX0 1 ["poll", "asked", "lot"] c__law_ends := by
  refine fnh hD sc__law_ends (fun ds r c => by obtain ⟨p, n, k, rfl, hp, hk, hn, rfl⟩ := c; rfl) (fun f cdv A outer s H E hr => ⟨_, (pss_cons (ps_par (i := 3) (j := 4) rfl sc__law_ends.nd rfl rfl (by decide) rfl rfl (pa_cons pe_int (pa_cons (pv 1) pa_nil)) (by rfl))
      (pss_cons (ps_if (PW.pt (pw_and (pt_cmpR (op_eqD hr.units) (pe_ix ix_seq (pv 0) pe_int (fun _ _ => rfl)) pe_str (nomark _)) (pw_and1 (pt_cmpR (op_eqD hr.units) (pe_callB call_len rfl nb.len b_len (pa_cons (pv 2) pa_nil)) (pe_ix ix_seq (pv 0) pe_int (fun _ _ => rfl)) (nomark _))))) (pss_one (ps_set (i := 3) sc__law_ends.nd rfl (Or.inl rfl) (pv 1))) pss_nil)
      (pss_cons (ps_for PassesOwn.never rfl (pi_seq (pe_ix ix_seq (pv 0) pe_int (fun _ _ => rfl))) (pg_tup (n := 3) rfl (pgs_cons (pg_name (i := 5) sc__law_ends.nd rfl (Or.inl rfl)) (pgs_cons (pg_name (i := 6) sc__law_ends.nd rfl (Or.inl rfl)) (pgs_cons (pg_name (i := 7) sc__law_ends.nd rfl (Or.inl rfl)) pgs_nil)))) (pss_one (ps_for PassesOwn.never rfl (pi_seq (pv 7)) (pg_tup (n := 2) rfl (pgs_cons (pg_name (i := 8) sc__law_ends.nd rfl (Or.inl rfl)) (pgs_cons (pg_name (i := 9) sc__law_ends.nd rfl (Or.inl rfl)) pgs_nil))) (pss_one (ps_if (pt_cmpR (op_eqD hr.units) (pv 8) (pv 2) (nomark _)) (pss_cons (ps_if (pt_cmpR (op_eqD hr.units) (pv 6) pe_str (nomark _)) (pss_cons (ps_set (i := 10) sc__law_ends.nd rfl (Or.inl rfl) (pe_un un_neg (pe_op op_fdiv (pe_op op_mulU (pe_un un_neg (pv 9)) (pv 1)) (pv 5))))
      (pss_one (ps_set (i := 11) sc__law_ends.nd rfl (Or.inl rfl) (pe_op op_sub (pe_un un_neg (pe_op op_fdiv (pe_op op_mulU (pe_un un_neg (pe_op op_addU (pv 9) pe_int)) (pv 1)) (pv 5))) pe_int)))) (pss_one (ps_if (pt_cmpR (op_eqD hr.units) (pv 6) pe_str (nomark _)) (pss_cons (ps_set (i := 10) sc__law_ends.nd rfl (Or.inl rfl) (pe_op op_addU (pe_op op_fdiv (pe_op op_mulU (pe_op op_sub (pv 9) pe_int) (pv 1)) (pv 5)) pe_int))
      (pss_one (ps_set (i := 11) sc__law_ends.nd rfl (Or.inl rfl) (pe_op op_fdiv (pe_op op_mulU (pv 9) (pv 1)) (pv 5))))) (pss_cons (ps_set (i := 10) sc__law_ends.nd rfl (Or.inl rfl) (pe_un un_neg (pe_op op_fdiv (pe_op op_mulU (pe_un un_neg (pe_op op_sub (pe_op op_mulU pe_int (pv 9)) pe_int)) (pv 1)) (pe_op op_mulU pe_int (pv 5)))))
      (pss_one (ps_set (i := 11) sc__law_ends.nd rfl (Or.inl rfl) (pe_op op_sub (pe_un un_neg (pe_op op_fdiv (pe_op op_mulU (pe_un un_neg (pe_op op_addU (pe_op op_mulU pe_int (pv 9)) pe_int)) (pv 1)) (pe_op op_mulU pe_int (pv 5)))) pe_int)))))))
      (pss_one (ps_par (i := 3) (j := 4) rfl sc__law_ends.nd rfl rfl (by decide) rfl rfl (pa_cons (pe_callB (call_max2 rfl) rfl nb.max_ b_max (pa_cons (pv 3) (pa_cons (pv 10) pa_nil))) (pa_cons (pe_callB (call_min2 rfl) rfl nb.min_ b_min (pa_cons (pv 4) (pa_cons (pv 11) pa_nil))) pa_nil)) (by rfl)))) pss_nil)))))
      (pss_one (ps_ret (pe_tup (pa_cons (pv 3) (pa_cons (pv 4) pa_nil)))))))), fun ds r c => ?_⟩)
  try dsimp only [L2.cxOf, Cx.nox, Cx.wish]
  obtain ⟨p, n, k, rfl, hp, hk, hn, rfl⟩ := c
  have sz := sizeLine_eq
  have hpn := hp.n
  have kok := hp.ok.kd
  have m1 : ∀ {a : Int}, CMul a n := Or.inr ⟨by omega, by omega⟩
  let tl : Shw → List Tld := fun s => s.parts.map fun q => ⟨s.units, s.word, q.1, q.2⟩
  have rs : endsAt p n k = (p.shs.flatMap tl).foldl (lawStep n k) (law0 p n k) := (law_endsAt hp (by omega) hk).symm
  rw [rs]
  refine sd_seq (sd_par (ea_cons ev_int (ea_cons (ev_var rfl) ea_nil)) ?_)
  refine sd_cut (fun env => env = [.dat (Pol.d p), .dat (.int n), .dat (itup k), .dat (.int (law0 p n k).1), .dat (.int (law0 p n k).2), .no, .no, .no, .no, .no, .no, .no]) ?_ ?_
  · refine sd_if (x := decide (p.kind = "one") && decide ((k.length : Int) = p.n)) (et_and (et_is (et_test (ev_op (ev_ix (ev_var rfl) ev_int rfl) ev_str (rd_eq (by rw [shp_str]; exact kok) (by decide +kernel)))) (by rw [eqD_str])) fun _ => et_is (et_test (ev_op (ev_len (ev_var rfl)) (ev_ix (ev_var rfl) ev_int rfl) (rd_eq (shp_int _) (shp_int _)))) (by rw [eqD_int]; simp [itup, lenD])) (fun h => ?_) (fun h => sd_next ?_)
    · have h' : p.kind = "one" ∧ (k.length : Int) = p.n := by simpa using h
      refine sd_asg (ev_var rfl) ?_
      show _ = _
      unfold law0
      rw [if_pos h']; rfl
    · have h' : ¬ (p.kind = "one" ∧ (k.length : Int) = p.n) := fun z => by simp [z.1, z.2] at h
      show _ = _
      unfold law0
      rw [if_neg h']; rfl
  rintro env rfl
  refine sd_seq (sd_forS (d := shsD p.shs) (ds := p.shs.map Shw.d) (ev_ix (ev_var rfl) ev_int rfl) rfl (fun i env => ∃ y5 y6 y7 y8 y9 y10 y11, env = [.dat (Pol.d p), .dat (.int n), .dat (itup k), .dat (.int (((p.shs.take i).flatMap tl).foldl (lawStep n k) (law0 p n k)).1), .dat (.int (((p.shs.take i).flatMap tl).foldl (lawStep n k) (law0 p n k)).2), y5, y6, y7, y8, y9, y10, y11]) ⟨_, _, _, _, _, _, _, rfl⟩ ?_ ?_)
  · rintro i d env hd ⟨y5, y6, y7, y8, y9, y10, y11, rfl⟩
    rw [List.getElem?_map] at hd
    cases hs : p.shs[i]? with
    | none => rw [hs] at hd; cases hd
    | some s =>
      rw [hs] at hd; cases hd
      have sm := List.mem_of_getElem? hs
      have so := hp.sh s sm
      have u0 := so.u0
      have u1 := so.u1
      have wok := gp_words hp s sm
      have tk : (p.shs.take (i + 1)).flatMap tl = (p.shs.take i).flatMap tl ++ tl s := by rw [List.take_add_one, hs, List.flatMap_append]; simp
      rw [tk, List.foldl_append]
      generalize ((p.shs.take i).flatMap tl).foldl (lawStep n k) (law0 p n k) = e0 at *
      refine ⟨_, _, tg_tup (tgs_cons tg_name (tgs_cons tg_name (tgs_cons tg_name tgs_nil))) rfl, ?_⟩
      refine sd_forS (d := .tuple (s.parts.map partD)) (ds := s.parts.map partD) (ev_var rfl) rfl (fun j env => ∃ y8 y9 y10 y11, env = [.dat (Pol.d p), .dat (.int n), .dat (itup k), .dat (.int (((tl s).take j).foldl (lawStep n k) e0).1), .dat (.int (((tl s).take j).foldl (lawStep n k) e0).2), .dat (.int s.units), .dat (.str s.word), .dat (.tuple (s.parts.map partD)), y8, y9, y10, y11]) ⟨_, _, _, _, rfl⟩ ?_ ?_
      · rintro j d env hd ⟨y8, y9, y10, y11, rfl⟩
        rw [List.getElem?_map] at hd
        cases hq : s.parts[j]? with
        | none => rw [hq] at hd; cases hd
        | some q =>
          rw [hq] at hd; cases hd
          have hq2 : (tl s)[j]? = some ⟨s.units, s.word, q.1, q.2⟩ := by
            show (s.parts.map _)[j]? = _
            rw [List.getElem?_map, hq]; rfl
          have tk2 : ((tl s).take (j + 1)).foldl (lawStep n k) e0 = lawStep n k (((tl s).take j).foldl (lawStep n k) e0) ⟨s.units, s.word, q.1, q.2⟩ := by
            rw [List.take_add_one, hq2, List.foldl_append]; rfl
          rw [tk2]
          generalize ((tl s).take j).foldl (lawStep n k) e0 = e1 at *
          refine ⟨_, _, tg_tup (tgs_cons tg_name (tgs_cons tg_name tgs_nil)) rfl, ?_⟩
          refine sd_if (x := decide (q.1 = k)) (et_is (et_test (ev_op (ev_var rfl) (ev_var rfl) (rd_eq (shp_itup _) (shp_itup _)))) (by rw [eqD_itup])) (fun h => ?_) (fun h => sd_next ?_)
          · have hk' := of_decide_eq_true h
            have st : lawStep n k e1 ⟨s.units, s.word, q.1, q.2⟩ = (max e1.1 (lowOf n s.units s.word q.2), min e1.2 (highOf n s.units s.word q.2)) := by unfold lawStep; rw [if_pos hk']
            rw [st]
            refine sd_cut (fun env => env = [.dat (Pol.d p), .dat (.int n), .dat (itup k), .dat (.int e1.1), .dat (.int e1.2), .dat (.int s.units), .dat (.str s.word), .dat (.tuple (s.parts.map partD)), .dat (itup q.1), .dat (.int q.2), .dat (.int (lowOf n s.units s.word q.2)), .dat (.int (highOf n s.units s.word q.2))]) ?_ ?_
            · refine sd_if (x := decide (s.word = "cut")) (et_is (et_test (ev_op (ev_var rfl) ev_str (rd_eq (by rw [shp_str]; exact wok) (by decide +kernel)))) (by rw [eqD_str])) (fun h => ?_) (fun h => ?_)
              · have hw := of_decide_eq_true h
                refine sd_seq (sd_asg (ev_neg (ev_div (ev_mulI (ev_neg (ev_var rfl)) (ev_var rfl) m1) (ev_var rfl) ⟨by omega, by omega⟩)) ?_)
                refine sd_asg (ev_sub (ev_neg (ev_div (ev_mulI (ev_neg (ev_addI (ev_var rfl) ev_int)) (ev_var rfl) m1) (ev_var rfl) ⟨by omega, by omega⟩)) ev_int) ?_
                show _ = _
                rw [lowOf, highOf, if_pos hw, if_pos hw, upOver, upOver, Int.neg_mul, Int.neg_mul]; rfl
              · have hw := of_decide_eq_false h
                refine sd_if (x := decide (s.word = "up")) (et_is (et_test (ev_op (ev_var rfl) ev_str (rd_eq (by rw [shp_str]; exact wok) (by decide +kernel)))) (by rw [eqD_str])) (fun h => ?_) (fun h => ?_)
                · have hw2 := of_decide_eq_true h
                  refine sd_seq (sd_asg (ev_addI (ev_div (ev_mulI (ev_sub (ev_var rfl) ev_int) (ev_var rfl) m1) (ev_var rfl) ⟨by omega, by omega⟩) ev_int) ?_)
                  refine sd_asg (ev_div (ev_mulI (ev_var rfl) (ev_var rfl) m1) (ev_var rfl) ⟨by omega, by omega⟩) ?_
                  show _ = _
                  rw [lowOf, highOf, if_neg hw, if_neg hw, if_pos hw2, if_pos hw2]; rfl
                · have hw2 := of_decide_eq_false h
                  refine sd_seq (sd_asg (ev_neg (ev_div (ev_mulI (ev_neg (ev_sub (ev_mulI ev_int (ev_var rfl) (Or.inl ⟨by decide, by decide⟩)) ev_int)) (ev_var rfl) m1) (ev_mulI ev_int (ev_var rfl) (Or.inl ⟨by decide, by decide⟩)) ⟨by omega, by omega⟩)) ?_)
                  refine sd_asg (ev_sub (ev_neg (ev_div (ev_mulI (ev_neg (ev_addI (ev_mulI ev_int (ev_var rfl) (Or.inl ⟨by decide, by decide⟩)) ev_int)) (ev_var rfl) m1) (ev_mulI ev_int (ev_var rfl) (Or.inl ⟨by decide, by decide⟩)) ⟨by omega, by omega⟩)) ev_int) ?_
                  show _ = _
                  rw [lowOf, highOf, if_neg hw, if_neg hw, if_neg hw2, if_neg hw2, upOver, upOver, Int.neg_mul, Int.neg_mul]; rfl
            rintro env rfl
            exact sd_par (ea_cons (ev_max (ev_var rfl) (ev_var rfl)) (ea_cons (ev_min (ev_var rfl) (ev_var rfl)) ea_nil)) ⟨.dat (itup q.1), .dat (.int q.2), .dat (.int (lowOf n s.units s.word q.2)), .dat (.int (highOf n s.units s.word q.2)), rfl⟩
          · have hk' := of_decide_eq_false h
            have st : lawStep n k e1 ⟨s.units, s.word, q.1, q.2⟩ = e1 := by unfold lawStep; rw [if_neg hk']
            rw [st]
            exact ⟨.dat (itup q.1), .dat (.int q.2), y10, y11, rfl⟩
      · rintro env ⟨y8, y9, y10, y11, rfl⟩
        have tf : (tl s).take (s.parts.map partD).length = tl s := by
          rw [List.take_of_length_le]
          show (s.parts.map _).length ≤ _
          simp
        rw [tf]
        exact ⟨_, _, _, y8, y9, y10, y11, rfl⟩
  · rintro env ⟨y5, y6, y7, y8, y9, y10, y11, rfl⟩
    rw [List.length_map, List.take_length]
    exact sd_ret (ev_tup (ea_cons (ev_var rfl) (ea_cons (ev_var rfl) ea_nil))) rfl
theorem f__law_ends_word (hD : DefAt K mg "_law_ends_word" "_law_ends_word" s__law_ends_word ["poll", "asked", "lot"]) (nb : NoB mg) (XC : ExcAll K mg XS) (h_ends : FnH P w K mg base "ends" (L2.CX P w) 7 ["poll", "number", "lot"] c_ends) : FnH P w K mg base "_law_ends_word" CX0 8 ["poll", "asked", "lot"] c__law_ends_word := by
  obtain ⟨C_BadLot, m_BadLot⟩ := XC.m "BadLot" (by decide +kernel)
  obtain ⟨C_BadNumber, m_BadNumber⟩ := XC.m "BadNumber" (by decide +kernel)
  obtain ⟨C_BadPoll, m_BadPoll⟩ := XC.m "BadPoll" (by decide +kernel)
  obtain ⟨C_ShareError, m_ShareError⟩ := XC.m "ShareError" (by decide +kernel)
  refine fnh hD sc__law_ends_word (fun ds r c => by obtain ⟨p, x, d, rfl, hp, hx, hg, rfl⟩ := c; rfl) (fun f cdv A outer s H E hr => ⟨_, (pss_cons (ps_try_mix sc__law_ends_word.nd rfl rfl takes0 (fun W pn xe tk _ => Ly.PSs.eqv (by exact (pss_one (ps_expr (pe_fnS h_ends (hr.mono (by decide)) tk (by rfl) (pa_cons (pv 0) (pa_cons (pv 1) (pa_cons (pv 2) pa_nil))))))) (by first | (dsimp only [L2.cxOf, Cx.nox, Cx.wish, Cx.tr] <;> exact rfl) | exact rfl))
      (.consN (c := .ref C_BadLot) (i := 3) ⟨rfl, by decide, .inl m_BadLot⟩ rfl rfl (fun a oe cls d pn hz hf => Ly.PSs.eqv (by exact (pss_one (ps_ret (pe_ifExp (PW.pt (pw_and (pt_truth (pe_callB (call_isE' hz hf) (by rfl) nb.isinstance_ b_isinstance (pa_cons (pv 3) (pa_cons (pe_glob (v := .ref C_ShareError) (by rfl) m_ShareError rfl) pa_nil))) (by intro _; rfl)) (pw_and1 (pt_not (pt_truth (pe_callB (call_isE' hz hf) (by rfl) nb.isinstance_ b_isinstance (pa_cons (pv 3) (pa_cons (pe_glob (v := .ref C_BadPoll) (by rfl) m_BadPoll rfl) pa_nil))) (by intro _; rfl)))))) pe_str pe_str)))) (by first | (dsimp only [L2.cxOf, Cx.nox, Cx.wish, Cx.suite] <;> exact rfl) | exact rfl))
      (.consN (c := .ref C_BadNumber) (i := 3) ⟨rfl, by decide, .inl m_BadNumber⟩ rfl rfl (fun a oe cls d pn hz hf => Ly.PSs.eqv (by exact (pss_one (ps_ret (pe_ifExp (PW.pt (pw_and (pt_truth (pe_callB (call_isE' hz hf) (by rfl) nb.isinstance_ b_isinstance (pa_cons (pv 3) (pa_cons (pe_glob (v := .ref C_ShareError) (by rfl) m_ShareError rfl) pa_nil))) (by intro _; rfl)) (pw_and1 (pt_not (pt_truth (pe_callB (call_isE' hz hf) (by rfl) nb.isinstance_ b_isinstance (pa_cons (pv 3) (pa_cons (pe_glob (v := .ref C_BadPoll) (by rfl) m_BadPoll rfl) pa_nil))) (by intro _; rfl)))))) pe_str pe_str)))) (by first | (dsimp only [L2.cxOf, Cx.nox, Cx.wish, Cx.suite] <;> exact rfl) | exact rfl))
      .nil)))
      (pss_one (ps_ret pe_str))), fun ds r c => ?_⟩)
  try dsimp only [L2.cxOf, Cx.nox, Cx.wish]
  obtain ⟨p, x, d, rfl, hp, hx, hg, rfl⟩ := c
  unfold endW
  by_cases h : Ly.within x 1 100000 = true
  · rw [if_pos h]
    by_cases h2 : endOkD p d = true
    · rw [if_pos h2]
      refine sd_seq (sd_try (ex := fun _ => False) (fun W => sds_drop (ev_callS (ea_cons (ev_var rfl) (ea_cons (ev_var rfl) (ea_cons (ev_var rfl) ea_nil))) ⟨p, x, d, rfl, hp, hx, hg, by rw [if_pos h, if_pos h2]⟩) ?_) (fun z C m hz => hz.elim))
      exact sd_ret ev_str rfl
    · rw [if_neg h2]
      refine sd_seq (sd_try (ex := fun z => z = "BadLot") (fun W => sds_dropX (exs_call (ea_cons (ev_var rfl) (ea_cons (ev_var rfl) (ea_cons (ev_var rfl) ea_nil))) ⟨p, x, d, rfl, hp, hx, hg, by rw [if_pos h, if_neg h2]⟩) rfl) (fun z C m hz => ?_))
      subst hz
      exact hn_takeN (XC.exm "BadLot" "BadLot" (by decide +kernel) (by decide +kernel) C C_BadLot m m_BadLot) fun a => sd_ret (d := .str "lot") (ev_if (x := true) (et_and (x := true) (et_tru (ev_isE rfl (XC.ec _ (by decide +kernel) C m) (XC.kit "BadLot" "ShareError" (by decide +kernel) (by decide +kernel) C _ m m_ShareError))) fun _ => et_not (et_tru (ev_isE rfl (XC.ec _ (by decide +kernel) C m) (XC.kit "BadLot" "BadPoll" (by decide +kernel) (by decide +kernel) C _ m m_BadPoll)))) (fun _ => ev_str) (fun h => nomatch h)) rfl
  · rw [if_neg h]
    refine sd_seq (sd_try (ex := fun z => z = "BadNumber") (fun W => sds_dropX (exs_call (ea_cons (ev_var rfl) (ea_cons (ev_var rfl) (ea_cons (ev_var rfl) ea_nil))) ⟨p, x, d, rfl, hp, hx, hg, by rw [if_neg h]⟩) rfl) (fun z C m hz => ?_))
    subst hz
    exact hn_skip (XC.exm "BadNumber" "BadLot" (by decide +kernel) (by decide +kernel) C C_BadLot m m_BadLot) (hn_takeN (XC.exm "BadNumber" "BadNumber" (by decide +kernel) (by decide +kernel) C C_BadNumber m m_BadNumber) fun a => sd_ret (d := .str "number") (ev_if (x := true) (et_and (x := true) (et_tru (ev_isE rfl (XC.ec _ (by decide +kernel) C m) (XC.kit "BadNumber" "ShareError" (by decide +kernel) (by decide +kernel) C _ m m_ShareError))) fun _ => et_not (et_tru (ev_isE rfl (XC.ec _ (by decide +kernel) C m) (XC.kit "BadNumber" "BadPoll" (by decide +kernel) (by decide +kernel) C _ m m_BadPoll)))) (fun _ => ev_str) (fun h => nomatch h)) rfl)
theorem f_law {f0 : Addr} {fd0 : FuncData} (hD : FunD K "law" "law" (defArgs s_law) (defBody s_law) (defScope s_law) [] [] f0 fd0) (nb : NoB mg) (h__law_asked : FnH P w K mg base "_law_asked" CX0 1 ["row", "at", "most"] c__law_asked) (h__law_ends : FnH P w K mg base "_law_ends" CX0 1 ["poll", "asked", "lot"] c__law_ends) (h__law_ends_word : FnH P w K mg base "_law_ends_word" CX0 8 ["poll", "asked", "lot"] c__law_ends_word) (h__law_lots : FnH P w K mg base "_law_lots" CX0 1 ["poll"] c__law_lots) (h__law_poll : FnH P w K mg base "_law_poll" CX0 3 ["script", "at", "most"] c__law_poll) (h__law_row : FnH P w K mg base "_law_row" CX0 2 ["script", "at"] c__law_row) (h__law_share : FnH P w K mg base "_law_share" CX0 1 ["count", "asked", "units", "word"] c__law_share) (h_ends : FnH P w K mg base "ends" (L2.CX P w) 7 ["poll", "number", "lot"] c_ends) : FnOk P w K mg base CX0 9 f0 fd0 ["script"] (spD K mg c_law) := by
  refine fno hD sc_law (fun ds r c => by obtain ⟨ns, rfl, rfl⟩ := c; rfl) (fun f cdv A outer s H E hr => ⟨_, (pss_cons (ps_set (i := 1) sc_law.nd rfl (Or.inl rfl) (pe_fn h__law_row (hr.mono (by decide)) rfl (pa_cons (pv 0) (pa_cons pe_int pa_nil))))
      (pss_cons (ps_set (i := 2) sc_law.nd rfl (Or.inl rfl) (pe_fn h__law_poll (hr.mono (by decide)) rfl (pa_cons (pv 0) (pa_cons pe_int (pa_cons pe_int pa_nil)))))
      (pss_cons (ps_set (i := 3) sc_law.nd rfl (Or.inl rfl) (pe_fn h__law_asked (hr.mono (by decide)) rfl (pa_cons (pv 1) (pa_cons pe_int (pa_cons pe_int pa_nil)))))
      (pss_cons (ps_for PassesOwn.never rfl (pi_seq (pe_fn h__law_lots (hr.mono (by decide)) rfl (pa_cons (pv 2) pa_nil))) (pg_name (i := 4) sc_law.nd rfl (Or.inl rfl)) (pss_cons (ps_asg (pe_fnN h_ends (hr.mono (by decide)) rfl (pa_cons (pv 2) (pa_cons (pv 3) (pa_cons (pv 4) pa_nil)))) (pg_tup (n := 2) rfl (pgs_cons (pg_name (i := 5) sc_law.nd rfl (Or.inl rfl)) (pgs_cons (pg_name (i := 6) sc_law.nd rfl (Or.inl rfl)) pgs_nil))))
      (pss_cons (ps_if (pt_cmpR (op_neD hr.units) (pe_tup (pa_cons (pv 5) (pa_cons (pv 6) pa_nil))) (pe_fn h__law_ends (hr.mono (by decide)) rfl (pa_cons (pv 2) (pa_cons (pv 3) (pa_cons (pv 4) pa_nil)))) (nomark _)) (pss_one (ps_ret pe_bl)) pss_nil)
      (pss_one (ps_for PassesOwn.never rfl (pi_range1 rfl nb.range_ (pa_cons pe_int pa_nil)) (pg_name (i := 7) sc_law.nd rfl (Or.inl rfl)) (pss_cons (ps_set (i := 8) sc_law.nd rfl (Or.inl rfl) (pe_ix ix_seq (pe_lst (pa_cons (pe_op op_mod (pe_ix ix_seq (pv 1) (pe_op op_addU pe_int (pv 7)) (fun _ _ => rfl)) (pe_op op_addU (pv 3) pe_int)) (pa_cons (pv 5) (pa_cons (pv 6) (pa_cons (pe_op op_sub (pv 5) pe_int) pa_nil))))) (pv 7) (fun _ _ => rfl)))
      (pss_one (ps_if (pt_chain (op_leU hr.units0) (op_leU hr.units0) pe_int (pv 8) (pv 3)) (pss_cons (ps_set (i := 9) sc_law.nd rfl (Or.inl rfl) (pe_or (pe_cmpR (op_eqD hr.units) (pe_ix ix_seq (pv 2) pe_int (fun _ _ => rfl)) pe_str (nomark _)) (pe_or (pe_cmpR (op_ltU hr.units0) (pe_callB call_len rfl nb.len b_len (pa_cons (pv 4) pa_nil)) (pe_ix ix_seq (pv 2) pe_int (fun _ _ => rfl)) (nomark _)) (pe_one (pe_cmpR (op_eqD hr.units) (pv 8) (pv 3) (nomark _))))))
      (pss_cons (ps_for PassesOwn.never rfl (pi_seq (pe_ix ix_seq (pv 2) pe_int (fun _ _ => rfl))) (pg_tup (n := 3) rfl (pgs_cons (pg_name (i := 10) sc_law.nd rfl (Or.inl rfl)) (pgs_cons (pg_name (i := 11) sc_law.nd rfl (Or.inl rfl)) (pgs_cons (pg_name (i := 12) sc_law.nd rfl (Or.inl rfl)) pgs_nil)))) (pss_one (ps_for PassesOwn.never rfl (pi_seq (pv 12)) (pg_tup (n := 2) rfl (pgs_cons (pg_name (i := 13) sc_law.nd rfl (Or.inl rfl)) (pgs_cons (pg_name (i := 14) sc_law.nd rfl (Or.inl rfl)) pgs_nil))) (pss_one (ps_if (PW.pt (pw_and (pt_cmpR (op_eqD hr.units) (pv 13) (pv 4) (nomark _)) (pw_and1 (pt_cmpR (op_neD hr.units) (pe_fn h__law_share (hr.mono (by decide)) rfl (pa_cons (pv 8) (pa_cons (pv 3) (pa_cons (pv 10) (pa_cons (pv 11) pa_nil))))) (pv 14) (nomark _))))) (pss_one (ps_set (i := 9) sc_law.nd rfl (Or.inl rfl) pe_bl)) pss_nil)))))
      (pss_one (ps_if (pt_cmpR (op_neD hr.units) (pe_chain (op_leU hr.units0) (op_leU hr.units0) (pv 5) (pv 8) (pv 6)) (pv 9) (nomark _)) (pss_one (ps_ret pe_bl)) pss_nil)))) pss_nil))))))))
      (pss_cons (ps_set (i := 15) sc_law.nd rfl (Or.inl rfl) (pe_ix ix_seq (pe_lst (pa_cons pe_non (pa_cons (pe_tup pa_nil) (pa_cons (pe_tup (pa_cons (pe_ix ix_seq (pv 2) pe_int (fun _ _ => rfl)) pa_nil)) (pa_cons (pe_lst (pa_cons pe_int pa_nil)) (pa_cons (pe_tup (pa_cons pe_bl pa_nil)) (pa_cons (pe_tup (pa_cons pe_int (pa_cons pe_int pa_nil))) pa_nil))))))) (pe_op op_mod (pe_ix ix_seq (pv 1) pe_int (fun _ _ => rfl)) pe_int) (fun _ _ => rfl)))
      (pss_cons (ps_if (pt_cmpR (op_neD hr.units) (pe_fn h__law_ends_word (hr.mono (by decide)) rfl (pa_cons (pv 2) (pa_cons (pv 3) (pa_cons (pv 15) pa_nil)))) pe_str (nomark _)) (pss_one (ps_ret pe_bl)) pss_nil)
      (pss_one (ps_ret (pe_cmpR (op_eqD hr.units) (pe_fn h__law_ends_word (hr.mono (by decide)) rfl (pa_cons (pv 2) (pa_cons (pe_ix ix_seq (pe_lst (pa_cons pe_non (pa_cons pe_int (pa_cons pe_int (pa_cons pe_bl pa_nil))))) (pe_op op_mod (pe_ix ix_seq (pv 1) pe_int (fun _ _ => rfl)) pe_int) (fun _ _ => rfl)) (pa_cons (pe_tup (pa_cons pe_int pa_nil)) pa_nil)))) pe_str (nomark _)))))))))), fun ds r c => ?_⟩)
  try dsimp only [L2.cxOf, Cx.nox, Cx.wish]
  obtain ⟨ns, rfl, rfl⟩ := c
  have sz := sizeLine_eq
  have hR := lawRow_row ns 4
  refine sd_seq (sd_asg (ev_call (ea_cons (ev_var rfl) (ea_cons ev_int ea_nil)) ⟨_, _, rfl, by decide, rfl⟩) ?_)
  generalize lawRow ns 4 = row at *
  have hp := pPol_good (most := 5) (lawRow_row ns 2) ⟨by decide, by decide⟩
  have few := pPol_few (most := 5) (lawRow_row ns 2) ⟨by decide, by decide⟩
  have two : (pPol (lawRow ns 2) 5).shs.length ≤ 2 := pPol_two (lawRow_row ns 2)
  refine sd_seq (sd_asg (ev_call (ea_cons (ev_var rfl) (ea_cons ev_int (ea_cons ev_int ea_nil))) ⟨_, _, _, rfl, by decide, ⟨by decide, by decide⟩, rfl⟩) ?_)
  generalize pPol (lawRow ns 2) 5 = p at *
  have hn := hp.n
  have kok := hp.ok.kd
  have s3 := hp.shs
  have fl := hp.few
  have ll := lotsIn_len hn.2 two few
  have bA := lawAsked_bd (row := row) (at_ := 0) (most := 400) hR (by decide)
  refine sd_seq (sd_asg (ev_call (ea_cons (ev_var rfl) (ea_cons ev_int (ea_cons ev_int ea_nil))) ⟨row, 0, 400, rfl, hR, by decide, rfl⟩) ?_)
  generalize lawAsked row 0 400 = N at *
  have hN : 1 ≤ N ∧ N ≤ 100000 := ⟨bA.1, by omega⟩
  have hw : Ly.within (.int N) 1 100000 = true := by simp [Ly.within]; omega
  let tl : Shw → List Tld := fun s => s.parts.map fun q => ⟨s.units, s.word, q.1, q.2⟩
  refine sd_seq (sd_forS (d := .list ((allLots p).map itup)) (ds := (allLots p).map itup) (ev_call (ea_cons (ev_var rfl) ea_nil) ⟨p, rfl, hp, ll, rfl⟩) rfl (fun i env => ∃ y4 y5 y6 y7 y8 y9 y10 y11 y12 y13 y14, env = [.dat (.scr ns), .dat (lst row), .dat (Pol.d p), .dat (.int N), y4, y5, y6, y7, y8, y9, y10, y11, y12, y13, y14, .no]) ⟨_, _, _, _, _, _, _, _, _, _, _, rfl⟩ ?_ ?_)
  · rintro i d env hd ⟨y4, y5, y6, y7, y8, y9, y10, y11, y12, y13, y14, rfl⟩
    rw [List.getElem?_map] at hd
    cases hk : (allLots p)[i]? with
    | none => rw [hk] at hd; cases hd
    | some k =>
      rw [hk] at hd; cases hd
      have km := List.mem_of_getElem? hk
      have lb := lot_lotB hp km
      have lD : endOkD p (itup k) = true := by
        unfold endOkD
        rw [lotOf_itup, Bool.and_eq_true, decide_eq_true_eq]
        exact ⟨lotB_is lb, km⟩
      have gk : gd (itup k) = true := gd_itup (by have := lot_small hn.2 lb; omega)
      refine ⟨_, _, tg_name, ?_⟩
      refine sd_seq (sd_asgT (d := endD (endsAt p N k)) (ev_call (ea_cons (ev_var rfl) (ea_cons (ev_var rfl) (ea_cons (ev_var rfl) ea_nil))) ⟨p, .int N, itup k, rfl, hp, rfl, gk, by rw [if_pos hw, if_pos lD, lotOf_itup]; rfl⟩) (tg_tup (tgs_cons tg_name (tgs_cons tg_name tgs_nil)) rfl) ?_)
      refine sd_seq (sd_if (x := false) (et_is (et_test (ev_op (a := endD (endsAt p N k)) (b := endD (endsAt p N k)) (ev_tup (ea_cons (ev_var rfl) (ea_cons (ev_var rfl) ea_nil))) (ev_call (ea_cons (ev_var rfl) (ea_cons (ev_var rfl) (ea_cons (ev_var rfl) ea_nil))) ⟨p, N, k, rfl, hp, km, hN, rfl⟩) (rd_ne (shp_end _) (shp_end _)))) (by rw [eqD_gd rfl]; rfl)) (fun h => nomatch h) (fun _ => sd_next ?_))
      generalize he : endsAt p N k = e at *
      refine sd_forR1 (n := 4) (ea_cons ev_int ea_nil) ⟨by decide, by decide⟩ (fun t env => ∃ y7 y8 y9 y10 y11 y12 y13 y14, env = [.dat (.scr ns), .dat (lst row), .dat (Pol.d p), .dat (.int N), .dat (itup k), .dat (.int e.1), .dat (.int e.2), y7, y8, y9, y10, y11, y12, y13, y14, .no]) ⟨_, _, _, _, _, _, _, _, rfl⟩ ?_ ?_
      · rintro t env ht ⟨y7, y8, y9, y10, y11, y12, y13, y14, rfl⟩
        have ht4 : t < 4 := ht
        refine ⟨_, _, tg_name, ?_⟩
        obtain ⟨c, hc⟩ : ∃ c : Int, itemD (.list [.int (rw_ row (5 + t) % (N + 1)), .int e.1, .int e.2, .int (e.1 - 1)]) (t : Int) = some (.int c) := by
          match t, ht4 with
          | 0, _ => exact ⟨_, rfl⟩
          | 1, _ => exact ⟨_, rfl⟩
          | 2, _ => exact ⟨_, rfl⟩
          | 3, _ => exact ⟨_, rfl⟩
        refine sd_seq (sd_asg (d := .int c) (ev_ix (ev_lst (ds := [.int (rw_ row (5 + t) % (N + 1)), .int e.1, .int e.2, .int (e.1 - 1)]) (ea_cons (ev_mod (ev_ix (ev_var rfl) (ev_addI ev_int (ev_var rfl)) (by
          have := item_row hR (i := 5 + (t : Int)) (by omega) (by omega)
          rw [this]
          congr 3)) (ev_addI (ev_var rfl) ev_int) (by omega)) (ea_cons (ev_var rfl) (ea_cons (ev_var rfl) (ea_cons (ev_sub (ev_var rfl) ev_int) ea_nil))))) (ev_var rfl) hc) ?_)
        refine sd_if (x := decide (0 ≤ c) && decide (c ≤ N)) (et_B (ev_chain ev_int (ev_var rfl) (fun _ => ev_var rfl) rd_cmpI fun _ => rd_cmpI)) (fun h => ?_) (fun h => sd_next ⟨.dat (.int (t : Int)), .dat (.int c), y9, y10, y11, y12, y13, y14, rfl⟩)
        have hc2 : 0 ≤ c ∧ c ≤ N := by simpa using h
        have gi := good_iff hp hN.1 km hc2
        rw [he] at gi
        let g0 : Bool := decide (p.kind = "some") || (decide ((k.length : Int) < p.n) || decide (c = N))
        let okT : Tld → Bool := fun t => !(decide (t.k = k) && !decide (lawShare c N t.u t.w = t.q))
        have gd0 : goodB p N k c = (g0 && (p.shs.flatMap tl).all okT) := rfl
        refine sd_seq (sd_asg (d := .bool g0) (ev_or (ev_is (ev_op (ev_ix (ev_var rfl) ev_int rfl) ev_str (rd_eq (by rw [shp_str]; exact kok) (by decide +kernel))) (by rw [eqD_str])) fun _ => ev_or (ev_is (ev_op (ev_len (ev_var rfl)) (ev_ix (ev_var rfl) ev_int rfl) rd_cmpI) (by simp [itup, lenD])) fun _ => ev_is (ev_op (ev_var rfl) (ev_var rfl) (rd_eq (shp_int _) (shp_int _))) (by rw [eqD_int])) ?_)
        refine sd_seq (sd_forS (d := shsD p.shs) (ds := p.shs.map Shw.d) (ev_ix (ev_var rfl) ev_int rfl) rfl (fun i env => ∃ y10 y11 y12 y13 y14, env = [.dat (.scr ns), .dat (lst row), .dat (Pol.d p), .dat (.int N), .dat (itup k), .dat (.int e.1), .dat (.int e.2), .dat (.int (t : Int)), .dat (.int c), .dat (.bool (g0 && ((p.shs.take i).flatMap tl).all okT)), y10, y11, y12, y13, y14, .no]) ⟨y10, y11, y12, y13, y14, by simp⟩ ?_ ?_)
        · rintro i2 d env hd ⟨y10, y11, y12, y13, y14, rfl⟩
          rw [List.getElem?_map] at hd
          cases hs : p.shs[i2]? with
          | none => rw [hs] at hd; cases hd
          | some s =>
            rw [hs] at hd; cases hd
            have sm := List.mem_of_getElem? hs
            have so := hp.sh s sm
            have u0 := so.u0
            have u1 := so.u1
            have wok := gp_words hp s sm
            have tk : ((p.shs.take (i2 + 1)).flatMap tl).all okT = (((p.shs.take i2).flatMap tl).all okT && (tl s).all okT) := by rw [List.take_add_one, hs, List.flatMap_append, List.all_append]; simp
            rw [tk, ← Bool.and_assoc]
            generalize (g0 && ((p.shs.take i2).flatMap tl).all okT) = b0 at *
            refine ⟨_, _, tg_tup (tgs_cons tg_name (tgs_cons tg_name (tgs_cons tg_name tgs_nil))) rfl, ?_⟩
            refine sd_forS (d := .tuple (s.parts.map partD)) (ds := s.parts.map partD) (ev_var rfl) rfl (fun j env => ∃ y13 y14, env = [.dat (.scr ns), .dat (lst row), .dat (Pol.d p), .dat (.int N), .dat (itup k), .dat (.int e.1), .dat (.int e.2), .dat (.int (t : Int)), .dat (.int c), .dat (.bool (b0 && ((tl s).take j).all okT)), .dat (.int s.units), .dat (.str s.word), .dat (.tuple (s.parts.map partD)), y13, y14, .no]) ⟨y13, y14, by simp⟩ ?_ ?_
            · rintro j d env hd ⟨y13, y14, rfl⟩
              rw [List.getElem?_map] at hd
              cases hq : s.parts[j]? with
              | none => rw [hq] at hd; cases hd
              | some q =>
                rw [hq] at hd; cases hd
                have hq2 : (tl s)[j]? = some ⟨s.units, s.word, q.1, q.2⟩ := by
                  show (s.parts.map _)[j]? = _
                  rw [List.getElem?_map, hq]; rfl
                have tk2 : ((tl s).take (j + 1)).all okT = (((tl s).take j).all okT && okT ⟨s.units, s.word, q.1, q.2⟩) := by rw [List.take_add_one, hq2, List.all_append]; simp
                rw [tk2, ← Bool.and_assoc]
                generalize (b0 && ((tl s).take j).all okT) = b1 at *
                refine ⟨_, _, tg_tup (tgs_cons tg_name (tgs_cons tg_name tgs_nil)) rfl, ?_⟩
                refine sd_if (x := decide (q.1 = k) && !decide (lawShare c N s.units s.word = q.2)) (et_and (et_is (et_test (ev_op (ev_var rfl) (ev_var rfl) (rd_eq (shp_itup _) (shp_itup _)))) (by rw [eqD_itup])) fun _ => et_is (et_test (ev_op (ev_call (ea_cons (ev_var rfl) (ea_cons (ev_var rfl) (ea_cons (ev_var rfl) (ea_cons (ev_var rfl) ea_nil)))) ⟨c, N, s.units, s.word, rfl, ⟨hc2.1, by omega⟩, hN, by omega, wok, rfl⟩) (ev_var rfl) (rd_ne (shp_int _) (shp_int _)))) (by rw [eqD_int])) (fun h => ?_) (fun h => sd_next ?_)
                · refine sd_asg ev_bl ⟨.dat (itup q.1), .dat (.int q.2), ?_⟩
                  have : okT ⟨s.units, s.word, q.1, q.2⟩ = false := by
                    show (!(decide (q.1 = k) && !decide (lawShare c N s.units s.word = q.2))) = false
                    rw [h]; rfl
                  rw [this, Bool.and_false]; rfl
                · have : okT ⟨s.units, s.word, q.1, q.2⟩ = true := by
                    show (!(decide (q.1 = k) && !decide (lawShare c N s.units s.word = q.2))) = true
                    rw [h]; rfl
                  rw [this, Bool.and_true]
                  exact ⟨.dat (itup q.1), .dat (.int q.2), rfl⟩
            · rintro env ⟨y13, y14, rfl⟩
              have tf : (tl s).take (s.parts.map partD).length = tl s := by
                rw [List.take_of_length_le]
                show (s.parts.map _).length ≤ _
                simp
              rw [tf]
              exact ⟨_, _, _, y13, y14, rfl⟩
        · rintro env ⟨y10, y11, y12, y13, y14, rfl⟩
          rw [List.length_map, List.take_length, ← gd0, gi]
          exact sd_if (x := false) (et_is (et_test (ev_op (a := .bool (decide (e.1 ≤ c) && decide (c ≤ e.2))) (ev_chain (ev_var rfl) (ev_var rfl) (fun _ => ev_var rfl) rd_cmpI fun _ => rd_cmpI) (ev_var rfl) (rd_ne (shp_bool _) (shp_bool _)))) (by rw [eqD_bool]; simp)) (fun h => nomatch h) (fun _ => sd_next ⟨.dat (.int (t : Int)), .dat (.int c), _, y10, y11, y12, y13, y14, rfl⟩)
      · rintro env ⟨y7, y8, y9, y10, y11, y12, y13, y14, rfl⟩
        exact ⟨_, _, _, y7, y8, y9, y10, y11, y12, y13, y14, rfl⟩
  rintro env ⟨y4, y5, y6, y7, y8, y9, y10, y11, y12, y13, y14, rfl⟩
  obtain ⟨od, ho, hob, hog⟩ : ∃ od, itemD (.list [.none, .tuple [], .tuple [.int p.n], .list [.int 0], .tuple [.bool true], .tuple [.int 0, .int 0]]) (rw_ row 10 % 6) = some od ∧ isLotD p.n od = false ∧ gd od = true := by
    have : rw_ row 10 % 6 = 0 ∨ rw_ row 10 % 6 = 1 ∨ rw_ row 10 % 6 = 2 ∨ rw_ row 10 % 6 = 3 ∨ rw_ row 10 % 6 = 4 ∨ rw_ row 10 % 6 = 5 := by omega
    rcases this with h | h | h | h | h | h <;> rw [h]
    · exact ⟨_, rfl, rfl, rfl⟩
    · exact ⟨_, rfl, rfl, rfl⟩
    · exact ⟨_, rfl, by simp [isLotD, Ly.within]; omega, rfl⟩
    · exact ⟨_, rfl, rfl, rfl⟩
    · exact ⟨_, rfl, rfl, rfl⟩
    · exact ⟨_, rfl, by simp [isLotD, risesI, Ly.intOf], rfl⟩
  have w1 : endW p (.int N) od = "lot" := by
    unfold endW endOkD
    rw [if_pos hw, hob]; rfl
  refine sd_seq (sd_asg (d := od) (ev_ix (ev_lst (ea_cons ev_non (ea_cons (ev_tup ea_nil) (ea_cons (ev_tup (ea_cons (ev_ix (ev_var rfl) ev_int rfl) ea_nil)) (ea_cons (ev_lst (ea_cons ev_int ea_nil)) (ea_cons (ev_tup (ea_cons ev_bl ea_nil)) (ea_cons (ev_tup (ea_cons ev_int (ea_cons ev_int ea_nil))) ea_nil))))))) (ev_mod (ev_ix (ev_var rfl) ev_int (item_row hR (by decide) (by decide))) ev_int (by decide)) ho) ?_)
  refine sd_seq (sd_if (x := false) (et_is (et_test (ev_op (ev_call (d := .str "lot") (ea_cons (ev_var rfl) (ea_cons (ev_var rfl) (ea_cons (ev_var rfl) ea_nil))) ⟨p, .int N, od, rfl, hp, rfl, hog, by rw [w1]⟩) ev_str (rd_ne (by decide +kernel) (by decide +kernel)))) (by rw [eqD_str]; rfl)) (fun h => nomatch h) (fun _ => sd_next ?_))
  obtain ⟨on, hn2, hnb, hno⟩ : ∃ od, itemD (.list [.none, .int 0, .int 100001, .bool true]) (rw_ row 11 % 4) = some od ∧ Ly.within od 1 100000 = false ∧ noObj od = true := by
    have : rw_ row 11 % 4 = 0 ∨ rw_ row 11 % 4 = 1 ∨ rw_ row 11 % 4 = 2 ∨ rw_ row 11 % 4 = 3 := by omega
    rcases this with h | h | h | h <;> rw [h] <;> exact ⟨_, rfl, rfl, rfl⟩
  have w2 : endW p on (.tuple [.int 0]) = "number" := by
    unfold endW
    rw [hnb]; rfl
  refine sd_ret (d := .bool true) (ev_is (ev_op (ev_call (d := .str "number") (ea_cons (ev_var rfl) (ea_cons (ev_ix (ev_lst (ea_cons ev_non (ea_cons ev_int (ea_cons ev_int (ea_cons ev_bl ea_nil))))) (ev_mod (ev_ix (ev_var rfl) ev_int (item_row hR (by decide) (by decide))) ev_int (by decide)) hn2) (ea_cons (ev_tup (ea_cons ev_int ea_nil)) ea_nil))) ⟨p, on, .tuple [.int 0], rfl, hp, hno, rfl, by rw [w2]⟩) ev_str (rd_eq (by decide +kernel) (by decide +kernel))) (by rw [eqD_str]; rfl)) rfl
end
end LW
namespace LW
open PySem L2 Ly He
def d_is_within : DefD := ⟨("is_within", none), "is_within", "is_within", defArgs s_is_within, defBody s_is_within, defScope s_is_within, [], []⟩
def d_rises : DefD := ⟨("rises", none), "rises", "rises", defArgs s_rises, defBody s_rises, defScope s_rises, [], []⟩
def d_is_lot : DefD := ⟨("is_lot", none), "is_lot", "is_lot", defArgs s_is_lot, defBody s_is_lot, defScope s_is_lot, [], []⟩
def d_is_part : DefD := ⟨("is_part", none), "is_part", "is_part", defArgs s_is_part, defBody s_is_part, defScope s_is_part, [], []⟩
def d_is_showing_of : DefD := ⟨("is_showing_of", none), "is_showing_of", "is_showing_of", defArgs s_is_showing_of, defBody s_is_showing_of, defScope s_is_showing_of, [], []⟩
def d_common : DefD := ⟨("common", none), "common", "common", defArgs s_common, defBody s_common, defScope s_common, [], []⟩
def d_turn_of : DefD := ⟨("turn_of", none), "turn_of", "turn_of", defArgs s_turn_of, defBody s_turn_of, defScope s_turn_of, [], []⟩
def d_all_lots : DefD := ⟨("all_lots", none), "all_lots", "all_lots", defArgs s_all_lots, defBody s_all_lots, defScope s_all_lots, [], []⟩
def d_do_nest : DefD := ⟨("do_nest", none), "do_nest", "do_nest", defArgs s_do_nest, defBody s_do_nest, defScope s_do_nest, [], []⟩
def d_is_poll : DefD := ⟨("is_poll", none), "is_poll", "is_poll", defArgs s_is_poll, defBody s_is_poll, defScope s_is_poll, [], []⟩
def d_look : DefD := ⟨("look", none), "look", "look", defArgs s_look, defBody s_look, defScope s_look, [], []⟩
def d_look_number : DefD := ⟨("look_number", none), "look_number", "look_number", defArgs s_look_number, defBody s_look_number, defScope s_look_number, [], []⟩
def d_up_over : DefD := ⟨("up_over", none), "up_over", "up_over", defArgs s_up_over, defBody s_up_over, defScope s_up_over, [], []⟩
def d_stretch : DefD := ⟨("stretch", none), "stretch", "stretch", defArgs s_stretch, defBody s_stretch, defScope s_stretch, [], []⟩
def d_ends_of : DefD := ⟨("ends_of", none), "ends_of", "ends_of", defArgs s_ends_of, defBody s_ends_of, defScope s_ends_of, [], []⟩
def d_ends : DefD := ⟨("ends", none), "ends", "ends", defArgs s_ends, defBody s_ends, defScope s_ends, [], []⟩
def d__law_cell : DefD := ⟨("_law_cell", none), "_law_cell", "_law_cell", defArgs s__law_cell, defBody s__law_cell, defScope s__law_cell, [], []⟩
def d__law_row : DefD := ⟨("_law_row", none), "_law_row", "_law_row", defArgs s__law_row, defBody s__law_row, defScope s__law_row, [], []⟩
def d__law_share : DefD := ⟨("_law_share", none), "_law_share", "_law_share", defArgs s__law_share, defBody s__law_share, defScope s__law_share, [], []⟩
def d__law_spread : DefD := ⟨("_law_spread", none), "_law_spread", "_law_spread", defArgs s__law_spread, defBody s__law_spread, defScope s__law_spread, [], []⟩
def d__law_nest : DefD := ⟨("_law_nest", none), "_law_nest", "_law_nest", defArgs s__law_nest, defBody s__law_nest, defScope s__law_nest, [], []⟩
def d__law_poll : DefD := ⟨("_law_poll", none), "_law_poll", "_law_poll", defArgs s__law_poll, defBody s__law_poll, defScope s__law_poll, [], []⟩
def d__law_asked : DefD := ⟨("_law_asked", none), "_law_asked", "_law_asked", defArgs s__law_asked, defBody s__law_asked, defScope s__law_asked, [], []⟩
def d__law_lots : DefD := ⟨("_law_lots", none), "_law_lots", "_law_lots", defArgs s__law_lots, defBody s__law_lots, defScope s__law_lots, [], []⟩
def d__law_ends : DefD := ⟨("_law_ends", none), "_law_ends", "_law_ends", defArgs s__law_ends, defBody s__law_ends, defScope s__law_ends, [], []⟩
def d__law_ends_word : DefD := ⟨("_law_ends_word", none), "_law_ends_word", "_law_ends_word", defArgs s__law_ends_word, defBody s__law_ends_word, defScope s__law_ends_word, [], []⟩
def d_law : DefD := ⟨("law", none), "law", "law", defArgs s_law, defBody s_law, defScope s_law, [], []⟩
def fnL : List DefD := [d_is_within, d_rises, d_is_lot, d_is_part, d_is_showing_of, d_common, d_turn_of, d_all_lots, d_do_nest, d_is_poll, d_look, d_look_number, d_up_over, d_stretch, d_ends_of, d_ends, d__law_cell, d__law_row, d__law_share, d__law_spread, d__law_nest, d__law_poll, d__law_asked, d__law_lots, d__law_ends, d__law_ends_word, d_law]
def faL : List Fa := noBs ++ [Fa.glo "is_within", Fa.glo "rises", Fa.glo "is_lot", Fa.glo "is_part", Fa.glo "is_showing_of", Fa.glo "common", Fa.glo "turn_of", Fa.glo "all_lots", Fa.glo "do_nest", Fa.glo "is_poll", Fa.glo "look", Fa.glo "look_number", Fa.glo "up_over", Fa.glo "stretch", Fa.glo "ends_of", Fa.glo "ends", Fa.glo "_law_cell", Fa.glo "_law_row", Fa.glo "_law_share", Fa.glo "_law_spread", Fa.glo "_law_nest", Fa.glo "_law_poll", Fa.glo "_law_asked", Fa.glo "_law_lots", Fa.glo "_law_ends", Fa.glo "_law_ends_word", Fa.glo "law", Fa.glo "BadLot", Fa.exc "BadLot", Fa.glo "BadNumber", Fa.exc "BadNumber", Fa.glo "BadPoll", Fa.exc "BadPoll", Fa.glo "KINDS", Fa.int "MOST_ASKED" 100000, Fa.int "MOST_SHOWINGS" 3, Fa.int "MOST_THINGS" 6, Fa.int "MOST_TURN" 1000, Fa.int "MOST_UNITS" 100, Fa.glo "WORDS"]
def exL (K : PySem.W.Frag) : Bool := decide (PySem.W.tabIn K "all_lots" = some (cT K ("all_lots", none))) && (excAllB XS K && (tupB K "KINDS" ((["one", "some"] : List Str).map Dv.str) && (tupB K "WORDS" ((["cut", "near", "up"] : List Str).map Dv.str))))
abbrev R : PySem.W.OpenRow := PySem.W.OpenLaw.row PySem.Challenge.rw_shownshares_k03_ends_of_lots
abbrev hk : PySem.W.Hook := hookX 5 faL fnL [] [("all_lots", none)] exL
def ob (s : PySem.W.SharedT) : AlX := obsX 5 faL fnL [] [("all_lots", none)] exL (HandSHeadRun.getT s)
theorem ob_eq (s : PySem.W.SharedT) : ob s = hk.obs s.abs := obsX_eq (HandSHeadRun.getT_eq s)
def loose : List Str := (["ShareError", "BadPoll", "BadNumber", "BadLot", "MOST_THINGS", "MOST_UNITS", "MOST_SHOWINGS", "MOST_TURN", "WORDS", "KINDS", "is_within", "rises", "is_lot", "is_part", "is_showing_of"] : List Str) ++ (["turn_of", "common", "all_lots", "do_nest", "is_poll", "look", "MOST_ASKED", "look_number", "up_over", "stretch", "ends_of", "ends", "_law_cell", "_law_row", "_law_share"] : List Str) ++ (["_law_spread", "_law_nest", "_law_poll", "_law_asked", "_law_lots", "_law_ends", "_law_ends_word"] : List Str)
theorem run (w : World) : HandSHeadRun.RunEq R (PySem.W.view R.prog [41]) hk ob 20000 loose w := by
  intro os
  kernel_rfl
theorem facts {P : Program} {w : World} {K : PySem.W.Frag} {h : Heap} {mg : Str → Option Value} {fa : Addr} (X : K.In h) (G : h.Ns mainGlobals mg) (hfa : mg ("law" : Str) = some (.ref fa)) (c : SaysX faL fnL [] [("all_lots", none)] exL w h K) :
    ∃ fd : FuncData, (∀ (s : Shared) (v : Value), BindsTo s fd ⟨[v], []⟩ [("script", v)]) ∧ ∀ base : Heap, K.In base → base.Ns mainGlobals mg → LamX.TabB base mg (cT K ("all_lots", none)).1 (cT K ("all_lots", none)).2 → FnOk P w K mg base CX0 9 fa fd ["script"] (spD K mg c_law) := by
  have cf : ∀ f, f ∈ faL → f.ok K = true := fun f hf => saysD_fact c.t.d hf
  have nb : NoB mg := noB_of X G fun f hf => cf f (List.mem_append_left _ hf)
  have cx := c.more
  unfold exL at cx
  obtain ⟨cx0, cx⟩ := ba cx
  obtain ⟨cx1, cx⟩ := ba cx
  obtain ⟨cx2, cx⟩ := ba cx
  have cx3 := cx
  have XC : ExcAll K mg XS := excAll_of X G cx1
  have x_BadLot : ExcH K mg "BadLot" := excH_of X G (cf (Fa.glo "BadLot") (List.mem_append_right _ (by simp))) (cf (Fa.exc "BadLot") (List.mem_append_right _ (by simp)))
  have x_BadNumber : ExcH K mg "BadNumber" := excH_of X G (cf (Fa.glo "BadNumber") (List.mem_append_right _ (by simp))) (cf (Fa.exc "BadNumber") (List.mem_append_right _ (by simp)))
  have x_BadPoll : ExcH K mg "BadPoll" := excH_of X G (cf (Fa.glo "BadPoll") (List.mem_append_right _ (by simp))) (cf (Fa.exc "BadPoll") (List.mem_append_right _ (by simp)))
  have g_KINDS : GcH K mg "KINDS" kindsD := gc_tup X G (cf (Fa.glo "KINDS") (List.mem_append_right _ (by simp))) cx2
  have g_MOST_ASKED : GcH K mg "MOST_ASKED" (.int 100000) := gc_int X G (cf (Fa.int "MOST_ASKED" 100000) (List.mem_append_right _ (by simp)))
  have g_MOST_SHOWINGS : GcH K mg "MOST_SHOWINGS" (.int 3) := gc_int X G (cf (Fa.int "MOST_SHOWINGS" 3) (List.mem_append_right _ (by simp)))
  have g_MOST_THINGS : GcH K mg "MOST_THINGS" (.int 6) := gc_int X G (cf (Fa.int "MOST_THINGS" 6) (List.mem_append_right _ (by simp)))
  have g_MOST_TURN : GcH K mg "MOST_TURN" (.int 1000) := gc_int X G (cf (Fa.int "MOST_TURN" 1000) (List.mem_append_right _ (by simp)))
  have g_MOST_UNITS : GcH K mg "MOST_UNITS" (.int 100) := gc_int X G (cf (Fa.int "MOST_UNITS" 100) (List.mem_append_right _ (by simp)))
  have g_WORDS : GcH K mg "WORDS" wordsD := gc_tup X G (cf (Fa.glo "WORDS") (List.mem_append_right _ (by simp))) cx3
  obtain ⟨fd_is_within, F_is_within⟩ := c.t.d.def_ 0 (d := d_is_within) rfl
  have D_is_within : DefAt K mg "is_within" "is_within" s_is_within ["thing", "low", "high"] := defAt_of X G (cf (Fa.glo "is_within") (List.mem_append_right _ (by simp))) F_is_within fun _ _ _ _ _ _ us hl => match us, hl with | [_, _, _], _ => rfl
  obtain ⟨fd_rises, F_rises⟩ := c.t.d.def_ 1 (d := d_rises) rfl
  have D_rises : DefAt K mg "rises" "rises" s_rises ["thing"] := defAt_of X G (cf (Fa.glo "rises") (List.mem_append_right _ (by simp))) F_rises fun _ _ _ _ _ _ us hl => match us, hl with | [_], _ => rfl
  obtain ⟨fd_is_lot, F_is_lot⟩ := c.t.d.def_ 2 (d := d_is_lot) rfl
  have D_is_lot : DefAt K mg "is_lot" "is_lot" s_is_lot ["things", "thing"] := defAt_of X G (cf (Fa.glo "is_lot") (List.mem_append_right _ (by simp))) F_is_lot fun _ _ _ _ _ _ us hl => match us, hl with | [_, _], _ => rfl
  obtain ⟨fd_is_part, F_is_part⟩ := c.t.d.def_ 3 (d := d_is_part) rfl
  have D_is_part : DefAt K mg "is_part" "is_part" s_is_part ["things", "units", "thing"] := defAt_of X G (cf (Fa.glo "is_part") (List.mem_append_right _ (by simp))) F_is_part fun _ _ _ _ _ _ us hl => match us, hl with | [_, _, _], _ => rfl
  obtain ⟨fd_is_showing_of, F_is_showing_of⟩ := c.t.d.def_ 4 (d := d_is_showing_of) rfl
  have D_is_showing_of : DefAt K mg "is_showing_of" "is_showing_of" s_is_showing_of ["things", "thing"] := defAt_of X G (cf (Fa.glo "is_showing_of") (List.mem_append_right _ (by simp))) F_is_showing_of fun _ _ _ _ _ _ us hl => match us, hl with | [_, _], _ => rfl
  obtain ⟨fd_common, F_common⟩ := c.t.d.def_ 5 (d := d_common) rfl
  have D_common : DefAt K mg "common" "common" s_common ["one", "other"] := defAt_of X G (cf (Fa.glo "common") (List.mem_append_right _ (by simp))) F_common fun _ _ _ _ _ _ us hl => match us, hl with | [_, _], _ => rfl
  obtain ⟨fd_turn_of, F_turn_of⟩ := c.t.d.def_ 6 (d := d_turn_of) rfl
  have D_turn_of : DefAt K mg "turn_of" "turn_of" s_turn_of ["showings"] := defAt_of X G (cf (Fa.glo "turn_of") (List.mem_append_right _ (by simp))) F_turn_of fun _ _ _ _ _ _ us hl => match us, hl with | [_], _ => rfl
  obtain ⟨fd_all_lots, F_all_lots⟩ := c.t.d.def_ 7 (d := d_all_lots) rfl
  have D_all_lots : DefAtT K mg "all_lots" "all_lots" s_all_lots ["poll"] (cT K ("all_lots", none)).1 := defAtT_of X G (cf (Fa.glo "all_lots") (List.mem_append_right _ (by simp))) F_all_lots fun _ _ _ _ _ _ us hl => match us, hl with | [_], _ => rfl
  obtain ⟨fd_do_nest, F_do_nest⟩ := c.t.d.def_ 8 (d := d_do_nest) rfl
  have D_do_nest : DefAt K mg "do_nest" "do_nest" s_do_nest ["lots"] := defAt_of X G (cf (Fa.glo "do_nest") (List.mem_append_right _ (by simp))) F_do_nest fun _ _ _ _ _ _ us hl => match us, hl with | [_], _ => rfl
  obtain ⟨fd_is_poll, F_is_poll⟩ := c.t.d.def_ 9 (d := d_is_poll) rfl
  have D_is_poll : DefAt K mg "is_poll" "is_poll" s_is_poll ["thing"] := defAt_of X G (cf (Fa.glo "is_poll") (List.mem_append_right _ (by simp))) F_is_poll fun _ _ _ _ _ _ us hl => match us, hl with | [_], _ => rfl
  obtain ⟨fd_look, F_look⟩ := c.t.d.def_ 10 (d := d_look) rfl
  have D_look : DefAt K mg "look" "look" s_look ["poll"] := defAt_of X G (cf (Fa.glo "look") (List.mem_append_right _ (by simp))) F_look fun _ _ _ _ _ _ us hl => match us, hl with | [_], _ => rfl
  obtain ⟨fd_look_number, F_look_number⟩ := c.t.d.def_ 11 (d := d_look_number) rfl
  have D_look_number : DefAt K mg "look_number" "look_number" s_look_number ["number"] := defAt_of X G (cf (Fa.glo "look_number") (List.mem_append_right _ (by simp))) F_look_number fun _ _ _ _ _ _ us hl => match us, hl with | [_], _ => rfl
  obtain ⟨fd_up_over, F_up_over⟩ := c.t.d.def_ 12 (d := d_up_over) rfl
  have D_up_over : DefAt K mg "up_over" "up_over" s_up_over ["top", "bottom"] := defAt_of X G (cf (Fa.glo "up_over") (List.mem_append_right _ (by simp))) F_up_over fun _ _ _ _ _ _ us hl => match us, hl with | [_, _], _ => rfl
  obtain ⟨fd_stretch, F_stretch⟩ := c.t.d.def_ 13 (d := d_stretch) rfl
  have D_stretch : DefAt K mg "stretch" "stretch" s_stretch ["number", "units", "word", "part"] := defAt_of X G (cf (Fa.glo "stretch") (List.mem_append_right _ (by simp))) F_stretch fun _ _ _ _ _ _ us hl => match us, hl with | [_, _, _, _], _ => rfl
  obtain ⟨fd_ends_of, F_ends_of⟩ := c.t.d.def_ 14 (d := d_ends_of) rfl
  have D_ends_of : DefAt K mg "ends_of" "ends_of" s_ends_of ["poll", "number"] := defAt_of X G (cf (Fa.glo "ends_of") (List.mem_append_right _ (by simp))) F_ends_of fun _ _ _ _ _ _ us hl => match us, hl with | [_, _], _ => rfl
  obtain ⟨fd_ends, F_ends⟩ := c.t.d.def_ 15 (d := d_ends) rfl
  have D_ends : DefAt K mg "ends" "ends" s_ends ["poll", "number", "lot"] := defAt_of X G (cf (Fa.glo "ends") (List.mem_append_right _ (by simp))) F_ends fun _ _ _ _ _ _ us hl => match us, hl with | [_, _, _], _ => rfl
  obtain ⟨fd__law_cell, F__law_cell⟩ := c.t.d.def_ 16 (d := d__law_cell) rfl
  have D__law_cell : DefAt K mg "_law_cell" "_law_cell" s__law_cell ["script", "k"] := defAt_of X G (cf (Fa.glo "_law_cell") (List.mem_append_right _ (by simp))) F__law_cell fun _ _ _ _ _ _ us hl => match us, hl with | [_, _], _ => rfl
  obtain ⟨fd__law_row, F__law_row⟩ := c.t.d.def_ 17 (d := d__law_row) rfl
  have D__law_row : DefAt K mg "_law_row" "_law_row" s__law_row ["script", "at"] := defAt_of X G (cf (Fa.glo "_law_row") (List.mem_append_right _ (by simp))) F__law_row fun _ _ _ _ _ _ us hl => match us, hl with | [_, _], _ => rfl
  obtain ⟨fd__law_share, F__law_share⟩ := c.t.d.def_ 18 (d := d__law_share) rfl
  have D__law_share : DefAt K mg "_law_share" "_law_share" s__law_share ["count", "asked", "units", "word"] := defAt_of X G (cf (Fa.glo "_law_share") (List.mem_append_right _ (by simp))) F__law_share fun _ _ _ _ _ _ us hl => match us, hl with | [_, _, _, _], _ => rfl
  obtain ⟨fd__law_spread, F__law_spread⟩ := c.t.d.def_ 19 (d := d__law_spread) rfl
  have D__law_spread : DefAt K mg "_law_spread" "_law_spread" s__law_spread ["row", "at", "asked", "things", "kind"] := defAt_of X G (cf (Fa.glo "_law_spread") (List.mem_append_right _ (by simp))) F__law_spread fun _ _ _ _ _ _ us hl => match us, hl with | [_, _, _, _, _], _ => rfl
  obtain ⟨fd__law_nest, F__law_nest⟩ := c.t.d.def_ 20 (d := d__law_nest) rfl
  have D__law_nest : DefAt K mg "_law_nest" "_law_nest" s__law_nest ["row", "at", "things", "kind"] := defAt_of X G (cf (Fa.glo "_law_nest") (List.mem_append_right _ (by simp))) F__law_nest fun _ _ _ _ _ _ us hl => match us, hl with | [_, _, _, _], _ => rfl
  obtain ⟨fd__law_poll, F__law_poll⟩ := c.t.d.def_ 21 (d := d__law_poll) rfl
  have D__law_poll : DefAt K mg "_law_poll" "_law_poll" s__law_poll ["script", "at", "most"] := defAt_of X G (cf (Fa.glo "_law_poll") (List.mem_append_right _ (by simp))) F__law_poll fun _ _ _ _ _ _ us hl => match us, hl with | [_, _, _], _ => rfl
  obtain ⟨fd__law_asked, F__law_asked⟩ := c.t.d.def_ 22 (d := d__law_asked) rfl
  have D__law_asked : DefAt K mg "_law_asked" "_law_asked" s__law_asked ["row", "at", "most"] := defAt_of X G (cf (Fa.glo "_law_asked") (List.mem_append_right _ (by simp))) F__law_asked fun _ _ _ _ _ _ us hl => match us, hl with | [_, _, _], _ => rfl
  obtain ⟨fd__law_lots, F__law_lots⟩ := c.t.d.def_ 23 (d := d__law_lots) rfl
  have D__law_lots : DefAt K mg "_law_lots" "_law_lots" s__law_lots ["poll"] := defAt_of X G (cf (Fa.glo "_law_lots") (List.mem_append_right _ (by simp))) F__law_lots fun _ _ _ _ _ _ us hl => match us, hl with | [_], _ => rfl
  obtain ⟨fd__law_ends, F__law_ends⟩ := c.t.d.def_ 24 (d := d__law_ends) rfl
  have D__law_ends : DefAt K mg "_law_ends" "_law_ends" s__law_ends ["poll", "asked", "lot"] := defAt_of X G (cf (Fa.glo "_law_ends") (List.mem_append_right _ (by simp))) F__law_ends fun _ _ _ _ _ _ us hl => match us, hl with | [_, _, _], _ => rfl
  obtain ⟨fd__law_ends_word, F__law_ends_word⟩ := c.t.d.def_ 25 (d := d__law_ends_word) rfl
  have D__law_ends_word : DefAt K mg "_law_ends_word" "_law_ends_word" s__law_ends_word ["poll", "asked", "lot"] := defAt_of X G (cf (Fa.glo "_law_ends_word") (List.mem_append_right _ (by simp))) F__law_ends_word fun _ _ _ _ _ _ us hl => match us, hl with | [_, _, _], _ => rfl
  obtain ⟨fd_law, F_law⟩ := c.t.d.def_ 26 (d := d_law) rfl
  have hT : PySem.W.tabIn K "all_lots" = some ((cT K ("all_lots", none)).1, (cT K ("all_lots", none)).2) := of_decide_eq_true cx0
  have e := hfa.symm.trans (glo_ok X G (cf (Fa.glo "law") (List.mem_append_right _ (by simp))))
  cases e
  have b := FunD.bindsA (ps := ["script"]) F_law fun _ _ _ _ _ _ us hl => match us, hl with | [_], _ => rfl
  refine ⟨fd_law, fun s v => b s [v] rfl, fun base _ _ TB => ?_⟩
  have h_is_within : FnH P w K mg base "is_within" CX0 1 ["thing", "low", "high"] c_is_within := f_is_within D_is_within nb
  have h_rises : FnH P w K mg base "rises" CX0 1 ["thing"] c_rises := f_rises D_rises nb
  have h_is_lot : FnH P w K mg base "is_lot" CX0 2 ["things", "thing"] c_is_lot := f_is_lot D_is_lot nb h_is_within h_rises
  have h_is_part : FnH P w K mg base "is_part" CX0 3 ["things", "units", "thing"] c_is_part := f_is_part D_is_part nb h_is_lot h_is_within
  have h_is_showing_of : FnH P w K mg base "is_showing_of" CX0 4 ["things", "thing"] c_is_showing_of := f_is_showing_of D_is_showing_of nb g_MOST_UNITS g_WORDS h_is_part h_is_within h_rises
  have h_common : FnH P w K mg base "common" CX0 1 ["one", "other"] c_common := f_common D_common nb
  have h_turn_of : FnH P w K mg base "turn_of" CX0 2 ["showings"] c_turn_of := f_turn_of D_turn_of nb h_common
  have h_all_lots : FnH P w K mg base "all_lots" CX0 1 ["poll"] c_all_lots := f_all_lots hT TB D_all_lots nb
  have h_do_nest : FnH P w K mg base "do_nest" CX0 1 ["lots"] c_do_nest := f_do_nest D_do_nest nb
  have h_is_poll : FnH P w K mg base "is_poll" CX0 5 ["thing"] c_is_poll := f_is_poll D_is_poll nb g_KINDS g_MOST_SHOWINGS g_MOST_THINGS g_MOST_TURN h_all_lots h_do_nest h_is_showing_of h_is_within h_turn_of
  have h_look : FnH P w K mg base "look" (L2.CX P w) 6 ["poll"] c_look := f_look D_look nb x_BadPoll h_is_poll
  have h_look_number : FnH P w K mg base "look_number" (L2.CX P w) 2 ["number"] c_look_number := f_look_number D_look_number nb g_MOST_ASKED x_BadNumber h_is_within
  have h_up_over : FnH P w K mg base "up_over" CX0 1 ["top", "bottom"] c_up_over := f_up_over D_up_over nb
  have h_stretch : FnH P w K mg base "stretch" CX0 2 ["number", "units", "word", "part"] c_stretch := f_stretch D_stretch nb h_up_over
  have h_ends_of : FnH P w K mg base "ends_of" CX0 3 ["poll", "number"] c_ends_of := f_ends_of D_ends_of nb h_all_lots h_stretch
  have h_ends : FnH P w K mg base "ends" (L2.CX P w) 7 ["poll", "number", "lot"] c_ends := f_ends D_ends nb x_BadLot h_all_lots h_ends_of h_is_lot h_look h_look_number
  have h__law_cell : FnH P w K mg base "_law_cell" CX0 1 ["script", "k"] c__law_cell := f__law_cell D__law_cell nb
  have h__law_row : FnH P w K mg base "_law_row" CX0 2 ["script", "at"] c__law_row := f__law_row D__law_row nb h__law_cell
  have h__law_share : FnH P w K mg base "_law_share" CX0 1 ["count", "asked", "units", "word"] c__law_share := f__law_share D__law_share nb
  have h__law_spread : FnH P w K mg base "_law_spread" CX0 1 ["row", "at", "asked", "things", "kind"] c__law_spread := f__law_spread D__law_spread nb
  have h__law_nest : FnH P w K mg base "_law_nest" CX0 1 ["row", "at", "things", "kind"] c__law_nest := f__law_nest D__law_nest nb
  have h__law_poll : FnH P w K mg base "_law_poll" CX0 3 ["script", "at", "most"] c__law_poll := f__law_poll D__law_poll nb h__law_nest h__law_row h__law_share h__law_spread
  have h__law_asked : FnH P w K mg base "_law_asked" CX0 1 ["row", "at", "most"] c__law_asked := f__law_asked D__law_asked nb
  have h__law_lots : FnH P w K mg base "_law_lots" CX0 1 ["poll"] c__law_lots := f__law_lots D__law_lots nb
  have h__law_ends : FnH P w K mg base "_law_ends" CX0 1 ["poll", "asked", "lot"] c__law_ends := f__law_ends D__law_ends nb
  have h__law_ends_word : FnH P w K mg base "_law_ends_word" CX0 8 ["poll", "asked", "lot"] c__law_ends_word := f__law_ends_word D__law_ends_word nb XC h_ends
  exact f_law F_law nb h__law_asked h__law_ends h__law_ends_word h__law_lots h__law_poll h__law_row h__law_share h_ends
theorem facts_tab {w : World} {K : PySem.W.Frag} {h : Heap} (c : SaysX faL fnL [] [("all_lots", none)] exL w h K) : PySem.W.tabIn K "all_lots" = some (cT K ("all_lots", none)) := by
  have cx := c.more
  unfold exL at cx
  exact of_decide_eq_true ((ba cx).1)
end LW
open PySem PySem.W PySem.Calls PyProof.Rows
set_option maxHeartbeats 0 in
theorem PySem.Challenge.cw_shownshares_k03_ends_of_lots_holds : PySem.Challenge.rw_shownshares_k03_ends_of_lots.Holds := by
  w_on; o_law
  refine HandSHeadRun.head_any (r := OpenLaw.row PySem.Challenge.rw_shownshares_k03_ends_of_lots) (q := view (OpenLaw.row PySem.Challenge.rw_shownshares_k03_ends_of_lots).prog [41]) (H := LW.hk) (ob := LW.ob) (M := 20000) (loose := LW.loose) (d := HandSHeadRun.topDef (OpenLaw.row PySem.Challenge.rw_shownshares_k03_ends_of_lots).prog 41) (kwd := []) LW.ob_eq
    (by kernel_rfl) (fun s => by kernel_rfl) LW.run (by kernel_rfl) (by kernel_rfl) (by kernel_rfl) (by rfl) (by first | assumption | decide +kernel) (by decide +kernel) ⟨rfl, rfl, rfl, rfl, rfl, by decide +kernel⟩ ?hw ?hc
  case hw => w_witness2
  case hc =>
    refine LamX.walk_ofTsE (l := PySem.Challenge.rw_shownshares_k03_ends_of_lots) (n := 63) (k := 9) (x := "script") (CX := fun _ => L2.CX0) rfl (by decide) (by kernel_rfl) ⟨rfl, by decide, by decide⟩ ?F (fun _ _ _ _ _ z => z)
    intro w mg fa h Y G hmg0
    obtain ⟨K, KX, c⟩ := Y
    have hmg : mg ("law" : PySem.Str) = some (.ref fa) := by
      have e : (HandSHeadRun.topDef (OpenLaw.row PySem.Challenge.rw_shownshares_k03_ends_of_lots).prog 41).name = ("law" : PySem.Str) := by kernel_rfl
      rw [← e]
      exact hmg0
    obtain ⟨fd, hb, hF⟩ := LW.facts (P := (PySem.Challenge.rw_shownshares_k03_ends_of_lots).prog) (w := w) KX G hmg c
    have ht := LW.facts_tab c
    refine ⟨K, KX, fd, [He.cT K ("all_lots", none)], Ly.spD K mg Ly.c_law, ?_, ?_, ?_, hb, ?_, ?_⟩
    · intro p hp; cases List.mem_singleton.1 hp; exact c.empty _ (List.mem_singleton.2 rfl)
    · intro p hp; cases List.mem_singleton.1 hp; exact c.out _ (List.mem_singleton.2 rfl)
    · intro p hp; cases List.mem_singleton.1 hp; exact PySem.W.codeHd_of_K KX (c.hd _ (List.mem_singleton.2 rfl))
    · intro H a ns hl _ hH hS
      exact Ly.law_sp ⟨ns, rfl, rfl⟩ (fun c2 P2 e2 => by
        rw [ht] at e2
        cases e2
        exact LamX.TabS.nil (hH _ (List.mem_singleton.2 rfl))) hS
    · intro base hB hG hT
      exact hF base hB hG (hT _ (List.mem_singleton.2 rfl))
#print axioms PySem.Challenge.cw_shownshares_k03_ends_of_lots_holds
