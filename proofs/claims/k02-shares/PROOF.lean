import PyProof.Rows.All
import Wide.All
import OpenK.AllK
import Wide.FinOn
import HandS.ForMost
import HandS.IsInst
import HandS.ForExc
import HandS.Conv
import HandS.Zip
import HandS.TupAny
import HandS.Flow
import HandS.Deep
import HandS.TupLe
import HandS.TupMul
import HandS.ExcIs
import HandS.TryMany
import HandS.Defaults
import HandS.HeadHook2
import HandS.Head0
import HandS.Head1
import HandS.Head2
import HandS.HeadEnd
import HandS.HeadHook1
import PySem.Challenge.RW_shownshares_k02_shares
set_option Elab.async false
set_option linter.all false
set_option maxRecDepth 100000
set_option maxHeartbeats 1000000
namespace Ly
open PySem L2
abbrev Fg := PySem.W.Frag
/-- data: what stands still. scr: the script; dct: a dict by tuples of ints; obj: an instance of the class at C -/
inductive D where
  | none
  | bool (b : Bool)
  | int (i : Int)
  | str (s : Str)
  | list (xs : List D)
  | tuple (xs : List D)
  | scr (ns : List Int)
  | dct (ks : List (List Int)) (vs : List D)
  | obj (C : Addr) (ns : List Str) (vs : List D)
mutual
def toPy : D → PyData
  | .none => .none
  | .bool b => .bool b
  | .int i => .int i
  | .str s => .str s
  | .list xs => .list (toPys xs)
  | .tuple xs => .tuple (toPys xs)
  | .scr _ => .dict []
  | .dct _ _ => .dict []
  | .obj _ _ _ => .dict []
def toPys : List D → List PyData
  | [] => []
  | d :: ds => toPy d :: toPys ds
end
/-- the keys of a dict by tuples of ints -/
def keyT (k : List Int) : List Key := k.map Sum.inl

/-! ### heaps -/
def Ex (H H' : Hp) : Prop := ∀ a o, H a = some o → H' a = some o
theorem Ex.refl (H : Hp) : Ex H H := fun _ _ h => h
theorem Ex.trans {H H1 H2 : Hp} (a : Ex H H1) (b : Ex H1 H2) : Ex H H2 := fun x o h => b x o (a x o h)
theorem Ex.new {H : Hp} {p : Addr} {o : HO} (h : H p = none) : Ex H (upd H p o) := fun a u e => by
  rw [upd_ne (ne_of_none e h)]; exact e
theorem Ex.mut {H H' : Hp} {p : Addr} {o : HO} (e : Ex H H') (h : H p = none) : Ex H (upd H' p o) := fun a u ha => by
  rw [upd_ne (ne_of_none ha h)]; exact e a u ha
theorem Ex.back {H H' : Hp} {p : Addr} (e : Ex H H') (h : H' p = none) : H p = none := by
  cases h1 : H p with
  | none => rfl
  | some o => rw [e p o h1] at h; cases h
theorem ex_rd {H H' : Hp} {a : Addr} {u : HO} (e : Ex H H') (h : Rd H a u) : Rd H' a u := by
  rcases h with h | ⟨o, h⟩
  · exact Or.inl (e a _ h)
  · exact Or.inr ⟨o, e a _ h⟩
theorem ex_t {K : Fg} {H H' : Hp} {a : Addr} {xs : List V} (e : Ex H H') (h : SqT K H a xs) : SqT K H' a xs := by
  rcases h with h | h
  · exact Or.inl (ex_rd e h)
  · exact Or.inr h
theorem ex_l {K : Fg} {H H' : Hp} {a : Addr} {xs : List V} (e : Ex H H') (h : SqL K H a xs) : SqL K H' a xs := by
  rcases h with h | h
  · exact Or.inl (ex_rd e h)
  · exact Or.inr h

/-! ### data in a heap -/
mutual
inductive Rp (K : Fg) (H : Hp) : V → D → Prop
  | non : Rp K H .non .none
  | bl (b : Bool) : Rp K H (.bl b) (.bool b)
  | int (i : Int) : Rp K H (.int i) (.int i)
  | str (x : Str) : Rp K H (.str x) (.str x)
  | lst {a : Addr} {xs : List V} {ds : List D} : H a = some (.lst xs) → RpL K H xs ds → Rp K H (.ref a) (.list ds)
  | tup {a : Addr} {xs : List V} {ds : List D} : SqT K H a xs → RpL K H xs ds → Rp K H (.ref a) (.tuple ds)
  | scr {a : Addr} {ns : List Int} : SqL K H a (ns.map V.int) → Rp K H (.ref a) (.scr ns)
  | dct {a : Addr} {kvs : List (List Key × V)} {ks : List (List Int)} {ds : List D} : H a = some (.dT kvs) → kvs.map (·.1) = ks.map keyT → RpL K H (kvs.map (·.2)) ds → Rp K H (.ref a) (.dct ks ds)
  | obj {a C dx : Addr} {fs : List (Str × V)} {ns : List Str} {ds : List D} : H a = some (.ins C dx fs) → fs.map (·.1) = ns → RpL K H (fs.map (·.2)) ds → Rp K H (.ref a) (.obj C ns ds)
inductive RpL (K : Fg) (H : Hp) : List V → List D → Prop
  | nil : RpL K H [] []
  | cons {v : V} {vs : List V} {d : D} {ds : List D} : Rp K H v d → RpL K H vs ds → RpL K H (v :: vs) (d :: ds)
end
mutual
theorem Rp.mono {K : Fg} {H H' : Hp} (e : Ex H H') : ∀ (d : D) (v : V), Rp K H v d → Rp K H' v d
  | .none, _, h => by cases h; exact .non
  | .bool b, _, h => by cases h; exact .bl b
  | .int i, _, h => by cases h; exact .int i
  | .str x, _, h => by cases h; exact .str x
  | .list ds, _, h => by
    cases h with
    | lst h1 h2 => exact .lst (e _ _ h1) (RpL.mono e ds _ h2)
  | .tuple ds, _, h => by
    cases h with
    | tup h1 h2 => exact .tup (ex_t e h1) (RpL.mono e ds _ h2)
  | .scr ns, _, h => by cases h with | scr h1 => exact .scr (ex_l e h1)
  | .dct ks ds, _, h => by cases h with | dct h1 h2 h3 => exact .dct (e _ _ h1) h2 (RpL.mono e ds _ h3)
  | .obj C ns ds, _, h => by cases h with | obj h1 h2 h3 => exact .obj (e _ _ h1) h2 (RpL.mono e ds _ h3)
theorem RpL.mono {K : Fg} {H H' : Hp} (e : Ex H H') : ∀ (ds : List D) (vs : List V), RpL K H vs ds → RpL K H' vs ds
  | [], _, h => by cases h; exact .nil
  | d :: ds, _, h => by
    cases h with
    | cons h1 h2 => exact .cons (Rp.mono e d _ h1) (RpL.mono e ds _ h2)
end
theorem Rp.up {K : Fg} {H H' : Hp} {d : D} {v : V} (h : Rp K H v d) (e : Ex H H') : Rp K H' v d := Rp.mono e d v h
theorem RpL.up {K : Fg} {H H' : Hp} {d : List D} {v : List V} (h : RpL K H v d) (e : Ex H H') : RpL K H' v d := RpL.mono e d v h
mutual
theorem Rp.dp {K : Fg} {H : Hp} : ∀ (d : D) (v : V), (toPy d).canLay0 = true → Rp K H v d → Dp K H v (toPy d)
  | .none, _, _, h => by cases h; rw [toPy]; exact .non
  | .bool b, _, _, h => by cases h; rw [toPy]; exact .bl b
  | .int i, _, _, h => by cases h; rw [toPy]; exact .int i
  | .str x, _, _, h => by cases h; rw [toPy]; exact .str x
  | .list ds, _, c, h => by
    cases h with
    | lst h1 h2 => rw [toPy]; exact .lst (SqL.of h1) (RpL.dp ds _ (by simpa [toPy, PyData.canLay0] using c) h2)
  | .tuple ds, _, c, h => by
    cases h with
    | tup h1 h2 => rw [toPy]; exact .tup h1 (RpL.dp ds _ (by simpa [toPy, PyData.canLay0] using c) h2)
  | .scr _, _, c, _ => by simp [toPy, PyData.canLay0] at c
  | .dct _ _, _, c, _ => by simp [toPy, PyData.canLay0] at c
  | .obj _ _ _, _, c, _ => by simp [toPy, PyData.canLay0] at c
theorem RpL.dp {K : Fg} {H : Hp} : ∀ (ds : List D) (vs : List V), PyData.canLayAll0 (toPys ds) = true → RpL K H vs ds → DpAll K H vs (toPys ds)
  | [], _, _, h => by cases h; rw [toPys]; exact .nil
  | d :: ds, _, c, h => by
    have c' : (toPy d).canLay0 = true ∧ PyData.canLayAll0 (toPys ds) = true := by simpa [toPys, PyData.canLayAll0] using c
    cases h with
    | cons h1 h2 => rw [toPys]; exact .cons (Rp.dp d _ c'.1 h1) (RpL.dp ds _ c'.2 h2)
end

mutual
def noL : D → Bool
  | .list _ => false
  | .tuple ds => noLs ds
  | .scr _ => false
  | .dct _ _ => false
  | .obj _ _ _ => false
  | _ => true
def noLs : List D → Bool
  | [] => true
  | d :: ds => noL d && noLs ds
end
def del (H : Hp) (l : Addr) : Hp := fun a => if a = l then none else H a
theorem del_same {H : Hp} {l : Addr} : del H l l = none := by unfold del; rw [if_pos rfl]
theorem del_ne {H : Hp} {a l : Addr} (h : a ≠ l) : del H l a = H a := by unfold del; rw [if_neg h]
/-- what a slot may own -/
def ownO : HO → Bool
  | .lst _ => true
  | .dT _ => true
  | _ => false
theorem rd_del {H : Hp} {a l : Addr} {xs : List V} {o : HO} (ho : ownO o = true) (hl : H l = some o) (h : Rd H a (.tup xs)) : Rd (del H l) a (.tup xs) := by
  rcases h with h | ⟨u, h⟩
  · refine .inl ?_
    rw [del_ne]; exact h
    intro e; subst e; rw [hl] at h; cases h; cases ho
  · refine .inr ⟨u, ?_⟩
    rw [del_ne]; exact h
    intro e; subst e; rw [hl] at h; cases h; cases ho
mutual
theorem Rp.del {K : Fg} {H : Hp} {l : Addr} {o : HO} (ho : ownO o = true) (hl : H l = some o) : ∀ (d : D) (v : V), noL d = true → Rp K H v d → Rp K (Ly.del H l) v d
  | .none, _, _, h => by cases h; exact .non
  | .bool b, _, _, h => by cases h; exact .bl b
  | .int i, _, _, h => by cases h; exact .int i
  | .str x, _, _, h => by cases h; exact .str x
  | .list ds, _, n, h => by simp [noL] at n
  | .tuple ds, _, n, h => by
    cases h with
    | tup h1 h2 =>
      refine .tup ?_ (RpL.del ho hl ds _ (by simpa [noL] using n) h2)
      rcases h1 with h1 | h1
      · exact .inl (rd_del ho hl h1)
      · exact .inr h1
  | .scr _, _, n, h => by simp [noL] at n
  | .dct _ _, _, n, h => by simp [noL] at n
  | .obj _ _ _, _, n, h => by simp [noL] at n
theorem RpL.del {K : Fg} {H : Hp} {l : Addr} {o : HO} (ho : ownO o = true) (hl : H l = some o) : ∀ (ds : List D) (vs : List V), noLs ds = true → RpL K H vs ds → RpL K (Ly.del H l) vs ds
  | [], _, _, h => by cases h; exact .nil
  | d :: ds, _, n, h => by
    cases h with
    | cons h1 h2 =>
      have n' : noL d = true ∧ noLs ds = true := by simpa [noLs] using n
      exact .cons (Rp.del ho hl d _ n'.1 h1) (RpL.del ho hl ds _ n'.2 h2)
end
theorem RpL.length {K : Fg} {H : Hp} : ∀ {vs : List V} {ds : List D}, RpL K H vs ds → vs.length = ds.length
  | _, _, .nil => rfl
  | _, _, .cons _ t => by simp [RpL.length t]
theorem RpL.get {K : Fg} {H : Hp} : ∀ {vs : List V} {ds : List D} {i : Nat} {d : D}, RpL K H vs ds → ds[i]? = some d → ∃ v, vs[i]? = some v ∧ Rp K H v d
  | _, _, _, _, .nil, e => by simp at e
  | _, _, 0, _, .cons h _, e => by simp at e; subst e; exact ⟨_, rfl, h⟩
  | _, _, i + 1, d, .cons _ t, e => by
    obtain ⟨v, h1, h2⟩ := RpL.get (i := i) (d := d) t (by simpa using e)
    exact ⟨v, by simpa using h1, h2⟩
theorem RpL.getV {K : Fg} {H : Hp} : ∀ {vs : List V} {ds : List D} {i : Nat} {v : V}, RpL K H vs ds → vs[i]? = some v → ∃ d, ds[i]? = some d ∧ Rp K H v d
  | _, _, _, _, .nil, e => by simp at e
  | _, _, 0, _, .cons h _, e => by simp at e; subst e; exact ⟨_, rfl, h⟩
  | _, _, i + 1, d, .cons _ t, e => by
    obtain ⟨v, h1, h2⟩ := RpL.getV (i := i) (v := d) t (by simpa using e)
    exact ⟨v, by simpa using h1, h2⟩
theorem RpL.app {K : Fg} {H : Hp} : ∀ {vs ws : List V} {ds es : List D}, RpL K H vs ds → RpL K H ws es → RpL K H (vs ++ ws) (ds ++ es)
  | _, _, _, _, .nil, s => s
  | _, _, _, _, .cons r t, s => .cons r (RpL.app t s)
theorem RpL.set {K : Fg} {H : Hp} {v : V} {d : D} (h : Rp K H v d) : ∀ {vs : List V} {ds : List D} (i : Nat), RpL K H vs ds → RpL K H (vs.set i v) (ds.set i d)
  | _, _, _, .nil => .nil
  | _, _, 0, .cons _ t => .cons h t
  | _, _, i + 1, .cons q t => .cons q (RpL.set h i t)
theorem RpL.take {K : Fg} {H : Hp} : ∀ {vs : List V} {ds : List D} (n : Nat), RpL K H vs ds → RpL K H (vs.take n) (ds.take n)
  | _, _, 0, _ => .nil
  | _, _, _ + 1, .nil => .nil
  | _, _, n + 1, .cons r t => .cons r (RpL.take n t)
theorem RpL.drop {K : Fg} {H : Hp} : ∀ {vs : List V} {ds : List D} (n : Nat), RpL K H vs ds → RpL K H (vs.drop n) (ds.drop n)
  | _, _, 0, r => r
  | _, _, _ + 1, .nil => .nil
  | _, _, n + 1, .cons _ t => RpL.drop n t
theorem RpL.rev {K : Fg} {H : Hp} : ∀ {vs : List V} {ds : List D}, RpL K H vs ds → RpL K H vs.reverse ds.reverse
  | _, _, .nil => .nil
  | _, _, .cons r t => by rw [List.reverse_cons, List.reverse_cons]; exact RpL.app (RpL.rev t) (.cons r .nil)
theorem RpL.ints {K : Fg} {H : Hp} : ∀ {vs : List V} {ns : List Int}, RpL K H vs (ns.map D.int) → vs = ns.map V.int
  | _, [], h => by cases h; rfl
  | _, n :: ns, h => by
    cases h with
    | cons h1 h2 => cases h1; rw [RpL.ints h2]; rfl
theorem RpL.ofInts {K : Fg} {H : Hp} : ∀ (ns : List Int), RpL K H (ns.map V.int) (ns.map D.int)
  | [] => .nil
  | n :: ns => .cons (.int n) (RpL.ofInts ns)

/-! ### the frame -/
def isTup : HO → Bool
  | .tup _ => true
  | _ => false
/-- G within H; what may be shared (G) has grown to G2, the heap to G2 within H2; things of H that are not shared (but tuples) are not shared later -/
structure Fm (G H G2 H2 : Hp) : Prop where
  g : Ex G G2
  h : Ex H H2
  i : Ex G2 H2
  n : ∀ a o, H a = some o → isTup o = false → G a = none → G2 a = none
theorem Fm.refl {G H : Hp} (i : Ex G H) : Fm G H G H := ⟨Ex.refl _, Ex.refl _, i, fun _ _ _ _ h => h⟩
theorem Fm.trans {G H G1 H1 G2 H2 : Hp} (a : Fm G H G1 H1) (b : Fm G1 H1 G2 H2) : Fm G H G2 H2 :=
  ⟨a.g.trans b.g, a.h.trans b.h, b.i, fun x o e t n => b.n x o (a.h x o e) t (a.n x o e t n)⟩
/-- a new shared object -/
theorem Fm.new {G H : Hp} {p : Addr} {o : HO} (i : Ex G H) (h : H p = none) : Fm G H (upd G p o) (upd H p o) := by
  have hg : G p = none := i.back h
  refine ⟨Ex.new hg, Ex.new h, fun a u e => ?_, fun a u e _ n => ?_⟩
  · by_cases q : a = p
    · subst q; rw [upd_same] at e ⊢; exact e
    · rw [upd_ne q] at e ⊢; exact i a u e
  · rw [upd_ne (ne_of_none e h)]; exact n
/-- a new object that is not shared -/
theorem Fm.own {G H : Hp} {p : Addr} {o : HO} (i : Ex G H) (h : H p = none) : Fm G H G (upd H p o) :=
  ⟨Ex.refl _, Ex.new h, i.trans (Ex.new h), fun _ _ _ _ n => n⟩

/-! ### slots -/
inductive SL where
  | no
  | dat (d : D)
  | lst (ds : List D)
  | dic (ks : List (List Int)) (ds : List D)
  | raw (v : V)
abbrev Evn := List SL
/-- what a slot owns, as it stands in the heap -/
inductive OwnOk (K : Fg) (G : Hp) : HO → SL → Prop
  | lst {xs : List V} {ds : List D} : RpL K G xs ds → OwnOk K G (.lst xs) (.lst ds)
  | dic {kvs : List (List Key × V)} {ks : List (List Int)} {ds : List D} : kvs.map (·.1) = ks.map keyT → RpL K G (kvs.map (·.2)) ds → OwnOk K G (.dT kvs) (.dic ks ds)
theorem OwnOk.up {K : Fg} {G G2 : Hp} {o : HO} {s : SL} (h : OwnOk K G o s) (e : Ex G G2) : OwnOk K G2 o s := by
  cases h with
  | lst h => exact .lst (h.up e)
  | dic h1 h2 => exact .dic h1 (h2.up e)
theorem OwnOk.own {K : Fg} {G : Hp} {o : HO} {s : SL} (h : OwnOk K G o s) : ownO o = true := by cases h <;> rfl
theorem ownO_tup {o : HO} (h : ownO o = true) : isTup o = false := by cases o <;> first | rfl | cases h
def isOwn : SL → Bool
  | .lst _ => true
  | .dic _ _ => true
  | _ => false
/-- as data -/
def SL.data : SL → D
  | .lst ds => .list ds
  | .dic ks ds => .dct ks ds
  | .dat d => d
  | _ => .none
def SlOk (K : Fg) (B G H : Hp) (ov : Option (Option V)) (s : SL) : Prop :=
  (∀ d, s = .dat d → ∃ v, ov = some (some v) ∧ Rp K G v d) ∧
  (isOwn s = true → ∃ l o, ov = some (some (.ref l)) ∧ B l = none ∧ G l = none ∧ H l = some o ∧ OwnOk K G o s) ∧ (∀ v, s = .raw v → ov = some (some v))
theorem slOk_no {K : Fg} {B G H : Hp} {ov : Option (Option V)} : SlOk K B G H ov .no := ⟨fun _ e => (nomatch e), fun e => (nomatch e), fun _ e => (nomatch e)⟩
theorem slOk_dat {K : Fg} {B G H : Hp} {ov : Option (Option V)} {d : D} {v : V} (e : ov = some (some v)) (h : Rp K G v d) : SlOk K B G H ov (.dat d) := ⟨fun _ z => by cases z; exact ⟨v, e, h⟩, fun e => (nomatch e), fun _ e => (nomatch e)⟩
theorem slOk_raw {K : Fg} {B G H : Hp} {ov : Option (Option V)} {v : V} (e : ov = some (some v)) : SlOk K B G H ov (.raw v) := ⟨fun _ z => (nomatch z), fun e => (nomatch e), fun _ z => by cases z; exact e⟩
theorem slOk_own {K : Fg} {B G H : Hp} {ov : Option (Option V)} {s : SL} {l : Addr} {o : HO} (e : ov = some (some (.ref l))) (h1 : B l = none) (h2 : G l = none) (h3 : H l = some o) (h4 : OwnOk K G o s) : SlOk K B G H ov s :=
  ⟨(fun d z => by subst z; cases h4), (fun _ => ⟨l, o, e, h1, h2, h3, h4⟩), (fun v z => by subst z; cases h4)⟩
def Own : Option SL → Prop
  | some s => isOwn s = true
  | _ => False
structure SR (K : Fg) (G0 B G H : Hp) (σ : St) (env : Evn) : Prop where
  fm : Fm G0 B G H
  len : σ.length = env.length
  sl : ∀ (i : Nat) (s : SL), env[i]? = some s → SlOk K B G H (σ[i]?) s
  ap : ∀ (i j : Nat) (l : Addr), i ≠ j → Own env[i]? → Own env[j]? → σ[i]? = some (some (.ref l)) → σ[j]? ≠ some (some (.ref l))
section
variable {K : Fg} {G0 B G H G2 H2 : Hp} {σ : St} {env : Evn}
theorem SR.i (s : SR K G0 B G H σ env) : Ex G H := s.fm.i
theorem SlOk.mono {B' H' : Hp} {ov : Option (Option V)} {x : SL} (h : SlOk K B G H ov x) (eg : Ex G G2) (hd : isOwn x = true → ∀ l o, ov = some (some (.ref l)) → B l = none → G l = none → H l = some o → ownO o = true → B' l = none ∧ G2 l = none ∧ H' l = some o) : SlOk K B' G2 H' ov x :=
  ⟨fun d e => by obtain ⟨v, h1, h2⟩ := h.1 d e; exact ⟨v, h1, h2.up eg⟩, fun e => by
    obtain ⟨l, o, h1, h2, h3, h4, h5⟩ := h.2.1 e
    obtain ⟨g1, g2, g3⟩ := hd e l o h1 h2 h3 h4 h5.own
    exact ⟨l, o, h1, g1, g2, g3, h5.up eg⟩, h.2.2⟩
theorem SR.fwd (s : SR K G0 B G H σ env) (f : Fm G H G2 H2) : SR K G0 B G2 H2 σ env :=
  ⟨s.fm.trans f, s.len, fun i x e => (s.sl i x e).mono f.g fun _ l o _ h2 h3 h4 h5 => ⟨h2, f.n l o h4 (ownO_tup h5) h3, f.h l o h4⟩, s.ap⟩
theorem own_of {i : Nat} {x : SL} (e : env[i]? = some x) (h : isOwn x = true) : Own env[i]? := by rw [e]; exact h
theorem SR.ownS (s : SR K G0 B G H σ env) {i : Nat} {x : SL} (e : env[i]? = some x) (h : isOwn x = true) : ∃ l o, σ[i]? = some (some (.ref l)) ∧ B l = none ∧ G l = none ∧ H l = some o ∧ OwnOk K G o x := (s.sl i x e).2.1 h
theorem SR.datAt (s : SR K G0 B G H σ env) {i : Nat} {d : D} (e : env[i]? = some (.dat d)) : ∃ v, σ[i]? = some (some v) ∧ Rp K G v d := (s.sl i _ e).1 d rfl
/-- a slot is stored with data -/
theorem set_over {α : Type} {l : List α} {i : Nat} {x : α} (h : ¬ i < l.length) : l.set i x = l := List.set_eq_of_length_le (by omega)
theorem SR.set (s : SR K G0 B G H σ env) {i : Nat} {v : V} {d : D} (h : Rp K G v d) : SR K G0 B G H (σ.set i (some v)) (env.set i (.dat d)) := by
  by_cases hi : i < env.length
  case neg => rw [set_over hi, set_over (by rw [s.len]; exact hi)]; exact s
  refine ⟨s.fm, by simp [s.len], fun j x e => ?_, fun j k l hjk oj ok ej => ?_⟩
  · by_cases q : i = j
    · subst q
      rw [List.getElem?_set_self hi] at e
      cases e
      exact slOk_dat (by rw [List.getElem?_set_self (by rw [s.len]; exact hi)]) h
    · rw [List.getElem?_set_ne q] at e ⊢
      exact s.sl j x e
  · by_cases q : i = j
    · subst q
      rw [List.getElem?_set_self hi] at oj; exact nomatch oj
    · by_cases q' : i = k
      · subst q'
        rw [List.getElem?_set_self hi] at ok; exact nomatch ok
      · rw [List.getElem?_set_ne q] at oj ej
        rw [List.getElem?_set_ne q'] at ok ⊢
        exact s.ap j k l hjk oj ok ej
theorem SR.rawAt (s : SR K G0 B G H σ env) {i : Nat} {v : V} (e : env[i]? = some (.raw v)) : σ[i]? = some (some v) := (s.sl i _ e).2.2 v rfl
/-- .. with a value as it is -/
theorem SR.setRaw (s : SR K G0 B G H σ env) {i : Nat} (v : V) : SR K G0 B G H (σ.set i (some v)) (env.set i (.raw v)) := by
  by_cases hi : i < env.length
  case neg => rw [set_over hi, set_over (by rw [s.len]; exact hi)]; exact s
  refine ⟨s.fm, by simp [s.len], fun j x e => ?_, fun j k l hjk oj ok ej => ?_⟩
  · by_cases q : i = j
    · subst q
      rw [List.getElem?_set_self hi] at e
      cases e
      exact slOk_raw (by rw [List.getElem?_set_self (by rw [s.len]; exact hi)])
    · rw [List.getElem?_set_ne q] at e ⊢
      exact s.sl j x e
  · by_cases q : i = j
    · subst q
      rw [List.getElem?_set_self hi] at oj; exact nomatch oj
    · by_cases q' : i = k
      · subst q'
        rw [List.getElem?_set_self hi] at ok; exact nomatch ok
      · rw [List.getElem?_set_ne q] at oj ej
        rw [List.getElem?_set_ne q'] at ok ⊢
        exact s.ap j k l hjk oj ok ej
/-- .. with a new thing of one's own -/
theorem SR.setOwn (s : SR K G0 B G H σ env) {i : Nat} {p : Addr} {o : HO} {x : SL} (hb : B p = none) (hg : G p = none) (hh : H p = some o) (h : OwnOk K G o x)
    (na : ∀ j : Nat, Own env[j]? → σ[j]? ≠ some (some (V.ref p))) : SR K G0 B G H (σ.set i (some (.ref p))) (env.set i x) := by
  by_cases hi : i < env.length
  case neg => rw [set_over hi, set_over (by rw [s.len]; exact hi)]; exact s
  refine ⟨s.fm, by simp [s.len], fun j y e => ?_, fun j k l hjk oj ok ej => ?_⟩
  · by_cases q : i = j
    · subst q
      rw [List.getElem?_set_self hi] at e
      cases e
      exact slOk_own (by rw [List.getElem?_set_self (by rw [s.len]; exact hi)]) hb hg hh h
    · rw [List.getElem?_set_ne q] at e ⊢
      exact s.sl j y e
  · by_cases q : i = j
    · subst q
      rw [List.getElem?_set_ne hjk] at ok ⊢
      rw [List.getElem?_set_self (by rw [s.len]; exact hi)] at ej
      cases ej
      exact na k ok
    · rw [List.getElem?_set_ne q] at oj ej
      by_cases q' : i = k
      · subst q'
        rw [List.getElem?_set_self (by rw [s.len]; exact hi)]
        intro z; cases z
        exact na j oj ej
      · rw [List.getElem?_set_ne q'] at ok ⊢
        exact s.ap j k l hjk oj ok ej
/-- an own thing written -/
theorem SR.write (s : SR K G0 B G H σ env) {i : Nat} {x y : SL} (e : env[i]? = some x) (hx : isOwn x = true) {l : Addr} (el : σ[i]? = some (some (.ref l))) {o : HO} (h : OwnOk K G o y) (hy : isOwn y = true) : SR K G0 B G (upd H l o) σ (env.set i y) := by
  have hi : i < env.length := (List.getElem?_eq_some_iff.mp e).1
  obtain ⟨l', o', h1, h2, h3, h4, h5⟩ := s.ownS e hx
  rw [el] at h1; cases h1
  have hne : ∀ a o, G a = some o → a ≠ l := fun a o q z => by subst z; rw [h3] at q; cases q
  refine ⟨⟨s.fm.g, s.fm.h.mut h2, fun a o q => ?_, s.fm.n⟩, by simp [s.len], fun j z ej => ?_, fun j k m hjk oj ok ej => ?_⟩
  · rw [upd_ne (hne a o q)]; exact s.fm.i a o q
  · by_cases q : i = j
    · subst q
      rw [List.getElem?_set_self hi] at ej
      cases ej
      exact slOk_own el h2 h3 upd_same h
    · rw [List.getElem?_set_ne q] at ej
      refine (s.sl j z ej).mono (Ex.refl _) fun hz m om g1 g2 g3 g4 _ => ⟨g2, g3, ?_⟩
      have hm : m ≠ l := fun w => by
        subst w
        exact s.ap i j m q (own_of e hx) (own_of ej hz) el g1
      rw [upd_ne hm]; exact g4
  · have back : ∀ k : Nat, Own (env.set i y)[k]? → Own env[k]? := fun k o => by
      by_cases q : i = k
      · subst q; exact own_of e hx
      · rw [List.getElem?_set_ne q] at o; exact o
    exact s.ap j k m hjk (back j oj) (back k ok) ej
theorem OwnOk.rp {o : HO} {x : SL} {l : Addr} (h : OwnOk K G o x) (hl : G l = some o) : Rp K G (.ref l) x.data := by
  cases h with
  | lst h => exact .lst hl h
  | dic h1 h2 => exact .dct hl h1 h2
/-- an own thing is shared from here on -/
theorem SR.freeze (s : SR K G0 B G H σ env) {i : Nat} {x : SL} (e : env[i]? = some x) (hx : isOwn x = true) : ∃ l o, σ[i]? = some (some (.ref l)) ∧ G l = none ∧ ownO o = true ∧ H l = some o ∧ SR K G0 B (upd G l o) H σ (env.set i (.dat x.data)) := by
  have hi : i < env.length := (List.getElem?_eq_some_iff.mp e).1
  obtain ⟨l, o, h1, h2, h3, h4, h5⟩ := s.ownS e hx
  have eg : Ex G (upd G l o) := Ex.new h3
  refine ⟨l, o, h1, h3, h5.own, h4, ⟨s.fm.g.trans eg, s.fm.h, fun a o q => ?_, fun a o q t n => ?_⟩, by simp [s.len], fun j z ej => ?_, fun j k m hjk oj ok ej => ?_⟩
  · by_cases z : a = l
    · subst z; rw [upd_same] at q; cases q; exact h4
    · rw [upd_ne z] at q; exact s.fm.i a o q
  · rw [upd_ne (ne_of_none q h2)]; exact s.fm.n a o q t n
  · by_cases q : i = j
    · subst q
      rw [List.getElem?_set_self hi] at ej
      cases ej
      exact slOk_dat h1 ((h5.up eg).rp upd_same)
    · rw [List.getElem?_set_ne q] at ej
      refine (s.sl j z ej).mono eg fun hz m om g1 g2 g3 g4 _ => ⟨g2, ?_, g4⟩
      have hm : m ≠ l := fun w => by
        subst w
        exact s.ap i j m q (own_of e hx) (own_of ej hz) h1 g1
      rw [upd_ne hm]; exact g3
  · have back : ∀ k : Nat, Own (env.set i (.dat x.data))[k]? → Own env[k]? := fun k o => by
      by_cases q : i = k
      · subst q; rw [List.getElem?_set_self hi] at o; exact nomatch o
      · rw [List.getElem?_set_ne q] at o; exact o
    exact s.ap j k m hjk (back j oj) (back k ok) ej
/-- forget slots -/
theorem SR.forget (s : SR K G0 B G H σ env) {σ' : St} {env' : Evn} (hl : σ'.length = env'.length) (h : ∀ (i : Nat) (x : SL), env'[i]? = some x → x = .no ∨ (env[i]? = some x ∧ σ'[i]? = σ[i]?)) : SR K G0 B G H σ' env' := by
  have own : ∀ j : Nat, Own env'[j]? → Own env[j]? ∧ σ'[j]? = σ[j]? := fun j o => by
    cases e : env'[j]? with
    | none => rw [e] at o; exact o.elim
    | some x =>
      rcases h j x e with z | ⟨z, z'⟩
      · subst z; rw [e] at o; exact nomatch o
      · rw [e] at o; rw [z]; exact ⟨o, z'⟩
  refine ⟨s.fm, hl, fun i x e => ?_, fun i j l hij oi oj ei => ?_⟩
  · rcases h i x e with z | ⟨z, z'⟩
    · subst z; exact slOk_no
    · rw [z']; exact s.sl i x z
  · obtain ⟨a1, a2⟩ := own i oi
    obtain ⟨b1, b2⟩ := own j oj
    rw [b2]; rw [a2] at ei
    exact s.ap i j l hij a1 b1 ei
/-- the slots' own things taken out of the heap: a new base -/
def ownAt (σ : St) (env : Evn) (a : Addr) : Prop := ∃ j : Nat, Own env[j]? ∧ σ[j]? = some (some (V.ref a))
open Classical in
noncomputable def bare (H : Hp) (σ : St) (env : Evn) : Hp := fun a => if ownAt σ env a then none else H a
theorem bare_own {H : Hp} {σ : St} {env : Evn} {a : Addr} (h : ownAt σ env a) : bare H σ env a = none := by unfold bare; rw [if_pos h]
theorem bare_not {H : Hp} {σ : St} {env : Evn} {a : Addr} (h : ¬ ownAt σ env a) : bare H σ env a = H a := by unfold bare; rw [if_neg h]
theorem SR.own_ (s : SR K G0 B G H σ env) {a : Addr} (h : ownAt σ env a) : B a = none ∧ G a = none ∧ ∃ o, H a = some o ∧ ownO o = true := by
  obtain ⟨j, o, e⟩ := h
  cases q : env[j]? with
  | none => rw [q] at o; exact o.elim
  | some x =>
    rw [q] at o
    obtain ⟨l, u, h1, h2, h3, h4, h5⟩ := s.ownS q o
    rw [e] at h1; cases h1
    exact ⟨h2, h3, u, h4, h5.own⟩
theorem SR.rebase (s : SR K G0 B G H σ env) : Fm G0 B G (bare H σ env) ∧ SR K G (bare H σ env) G H σ env := by
  have gb : Ex G (bare H σ env) := fun a o q => by
    rw [bare_not]; exact s.i a o q
    intro z; rw [(s.own_ z).2.1] at q; cases q
  have bh : Ex (bare H σ env) H := fun a o q => by
    by_cases z : ownAt σ env a
    · rw [bare_own z] at q; cases q
    · rw [bare_not z] at q; exact q
  refine ⟨⟨s.fm.g, fun a o q => ?_, gb, s.fm.n⟩, ⟨⟨Ex.refl _, bh, s.i, fun _ _ _ _ h => h⟩, s.len, fun i x e => ?_, s.ap⟩⟩
  · rw [bare_not]; exact s.fm.h a o q
    intro z; rw [(s.own_ z).1] at q; cases q
  · exact (s.sl i x e).mono (Ex.refl _) fun hx l o h1 _ h3 h4 _ => ⟨bare_own ⟨i, own_of e hx, h1⟩, h3, h4⟩
theorem SR.over {G1 B1 : Hp} (f : Fm G0 B G1 B1) (s : SR K G1 B1 G H σ env) : SR K G0 B G H σ env :=
  ⟨f.trans s.fm, s.len, fun i x e => (s.sl i x e).mono (Ex.refl _) fun _ l o _ h2 h3 h4 _ => ⟨f.h.back h2, h3, h4⟩, s.ap⟩
end
end Ly

namespace Ly
open PySem L2
/-! ### what evaluates to what -/
def EvD (K : Fg) (te : TE) (env : Evn) (d : D) : Prop := ∀ G0 B G H σ, SR K G0 B G H σ env → ∀ Q : VK, (∀ v G2 H2, Fm G H G2 H2 → Rp K G2 v d → Q v H2) → te σ H Q
def EvT (K : Fg) (tt : TT) (env : Evn) (b : Bool) : Prop := ∀ G0 B G H σ, SR K G0 B G H σ env → ∀ Q : Bool → Hp → Prop, (∀ G2 H2, Fm G H G2 H2 → Q b H2) → tt σ H Q
def EvA (K : Fg) (ta : TA) (env : Evn) (ds : List D) : Prop := ∀ G0 B G H σ, SR K G0 B G H σ env → ∀ Q : List V → Hp → Prop, (∀ vs G2 H2, Fm G H G2 H2 → RpL K G2 vs ds → Q vs H2) → ta σ H Q
def EvO (K : Fg) (to : TO) (env : Evn) (o : Option Int) : Prop := ∀ G0 B G H σ, SR K G0 B G H σ env → ∀ Q : Option Int → Hp → Prop, (∀ G2 H2, Fm G H G2 H2 → Q o H2) → to σ H Q
/-- a new list of one's own -/
def EvN (K : Fg) (te : TE) (env : Evn) (ds : List D) : Prop := ∀ G0 B G H σ, SR K G0 B G H σ env → ∀ Q : VK, (∀ p xs G2 H2, Fm G H G2 H2 → H p = none → G2 p = none → H2 p = some (.lst xs) → RpL K G2 xs ds → Q (.ref p) H2) → te σ H Q
/-- an operation on data -/
def RD (K : Fg) (r : R2) (a b d : D) : Prop := ∀ G H x y, Ex G H → Rp K G x a → Rp K G y b → ∀ Q : VK, (∀ v G2 H2, Fm G H G2 H2 → Rp K G2 v d → Q v H2) → r x y H Q
def RC (K : Fg) (r : List V → Hp → VK → Prop) (as : List D) (d : D) : Prop := ∀ G H xs, Ex G H → RpL K G xs as → ∀ Q : VK, (∀ v G2 H2, Fm G H G2 H2 → Rp K G2 v d → Q v H2) → r xs H Q
def RCN (K : Fg) (r : List V → Hp → VK → Prop) (as : List D) (ds : List D) : Prop := ∀ G H xs, Ex G H → RpL K G xs as → ∀ Q : VK, (∀ p ys G2 H2, Fm G H G2 H2 → H p = none → G2 p = none → H2 p = some (.lst ys) → RpL K G2 ys ds → Q (.ref p) H2) → r xs H Q
def RDN (K : Fg) (r : R2) (a b : D) (ds : List D) : Prop := ∀ G H x y, Ex G H → Rp K G x a → Rp K G y b → ∀ Q : VK, (∀ p ys G2 H2, Fm G H G2 H2 → H p = none → G2 p = none → H2 p = some (.lst ys) → RpL K G2 ys ds → Q (.ref p) H2) → r x y H Q
section
variable {K : Fg} {env : Evn} {te ta tb tc : TE} {t u : TT} {d a b c : D}
theorem share_new {G H G2 H2 : Hp} {p : Addr} {xs : List V} {ds : List D} (f : Fm G H G2 H2) (h1 : H p = none) (h2 : G2 p = none) (h3 : H2 p = some (.lst xs)) (h4 : RpL K G2 xs ds) :
    Fm G H (upd G2 p (.lst xs)) H2 ∧ Rp K (upd G2 p (.lst xs)) (.ref p) (.list ds) := by
  have eg : Ex G2 (upd G2 p (.lst xs)) := Ex.new h2
  refine ⟨⟨f.g.trans eg, f.h, fun a o q => ?_, fun a o q t n => ?_⟩, .lst upd_same (h4.up eg)⟩
  · by_cases z : a = p
    · subst z; rw [upd_same] at q; cases q; exact h3
    · rw [upd_ne z] at q; exact f.i a o q
  · rw [upd_ne (ne_of_none q h1)]; exact f.n a o q t n
theorem ev_ofN {ds : List D} (h : EvN K te env ds) : EvD K te env (.list ds) := fun G0 B G H σ s Q q =>
  h G0 B G H σ s Q fun p xs G2 H2 f h1 h2 h3 h4 => by
    obtain ⟨f', r⟩ := share_new f h1 h2 h3 h4
    exact q _ _ _ f' r
theorem rc_ofN {r : List V → Hp → VK → Prop} {as ds : List D} (h : RCN K r as ds) : RC K r as (.list ds) := fun G H xs i hx Q q =>
  h G H xs i hx Q fun p xs G2 H2 f h1 h2 h3 h4 => by
    obtain ⟨f', r⟩ := share_new f h1 h2 h3 h4
    exact q _ _ _ f' r
theorem rd_ofN {r : R2} {ds : List D} (h : RDN K r a b ds) : RD K r a b (.list ds) := fun G H x y i hx hy Q q =>
  h G H x y i hx hy Q fun p xs G2 H2 f h1 h2 h3 h4 => by
    obtain ⟨f', r⟩ := share_new f h1 h2 h3 h4
    exact q _ _ _ f' r
theorem ev_is (h : EvD K te env d) (e : d = c) : EvD K te env c := e ▸ h
theorem et_is {x y : Bool} (h : EvT K t env x) (e : x = y) : EvT K t env y := e ▸ h
theorem evn_is {x y : List D} (h : EvN K te env x) (e : x = y) : EvN K te env y := e ▸ h
/-! names, constants -/
theorem ev_var {i : Nat} (h : env[i]? = some (.dat d)) : EvD K (tVar i) env d := fun G0 B G H σ s Q q => by
  obtain ⟨v, h1, h2⟩ := s.datAt h
  exact ⟨v, h1, q v G H (Fm.refl s.i) h2⟩
theorem ev_int {i : Int} : EvD K (tC (.int i)) env (.int i) := fun G0 B G H σ s Q q => q _ G H (Fm.refl s.i) (.int i)
theorem ev_str {i : Str} : EvD K (tC (.str i)) env (.str i) := fun G0 B G H σ s Q q => q _ G H (Fm.refl s.i) (.str i)
theorem ev_bl {i : Bool} : EvD K (tC (.bl i)) env (.bool i) := fun G0 B G H σ s Q q => q _ G H (Fm.refl s.i) (.bl i)
theorem ev_non : EvD K (tC .non) env .none := fun G0 B G H σ s Q q => q _ G H (Fm.refl s.i) .non
/-- an own list read while it stands: what is found has no list in it -/
theorem ev_thaw {i : Nat} {x : SL} (he : env[i]? = some x) (hx : isOwn x = true) (hn : noL d = true) (h : EvD K te (env.set i (.dat x.data)) d) : EvD K te env d := fun G0 B G H σ s Q q => by
  obtain ⟨l, ol, h1, h2, ho, h3, s'⟩ := s.freeze he hx
  refine h G0 B _ H σ s' Q fun v G2 H2 f r => ?_
  have hl : G2 l = some ol := f.g l _ upd_same
  refine q v (Ly.del G2 l) H2 ⟨fun a o e => ?_, f.h, fun a o e => ?_, fun a o e t n => ?_⟩ (Rp.del ho hl d v hn r)
  · have ne : a ≠ l := ne_of_none e h2
    rw [del_ne ne]; exact f.g a o (by rw [upd_ne ne]; exact e)
  · by_cases z : a = l
    · subst z; rw [del_same] at e; cases e
    · rw [del_ne z] at e; exact f.i a o e
  · by_cases z : a = l
    · subst z; exact del_same
    · rw [del_ne z]; exact f.n a o e t (by rw [upd_ne z]; exact n)
theorem et_thaw {i : Nat} {y : SL} {x : Bool} (he : env[i]? = some y) (hy : isOwn y = true) (h : EvT K t (env.set i (.dat y.data)) x) : EvT K t env x := fun G0 B G H σ s Q q => by
  obtain ⟨l, ol, h1, h2, ho, h3, s'⟩ := s.freeze he hy
  refine h G0 B _ H σ s' Q fun G2 H2 f => ?_
  refine q (Ly.del G2 l) H2 ⟨fun a o e => ?_, f.h, fun a o e => ?_, fun a o e t n => ?_⟩
  · have ne : a ≠ l := ne_of_none e h2
    rw [del_ne ne]; exact f.g a o (by rw [upd_ne ne]; exact e)
  · by_cases z : a = l
    · subst z; rw [del_same] at e; cases e
    · rw [del_ne z] at e; exact f.i a o e
  · by_cases z : a = l
    · subst z; exact del_same
    · rw [del_ne z]; exact f.n a o e t (by rw [upd_ne z]; exact n)
/-! operations -/
theorem ev_op {r : R2} (ha : EvD K ta env a) (hb : EvD K tb env b) (hr : RD K r a b d) : EvD K (tOp r ta tb) env d := fun G0 B G H σ s Q q =>
  ha G0 B G H σ s _ fun x G1 H1 f1 r1 => hb G0 B G1 H1 σ (s.fwd f1) _ fun y G2 H2 f2 r2 =>
    hr G2 H2 x y f2.i (r1.up f2.g) r2 Q fun v G3 H3 f3 r3 => q v G3 H3 ((f1.trans f2).trans f3) r3
theorem evn_op {r : R2} {ds : List D} (ha : EvD K ta env a) (hb : EvD K tb env b) (hr : RDN K r a b ds) : EvN K (tOp r ta tb) env ds := fun G0 B G H σ s Q q =>
  ha G0 B G H σ s _ fun x G1 H1 f1 r1 => hb G0 B G1 H1 σ (s.fwd f1) _ fun y G2 H2 f2 r2 =>
    hr G2 H2 x y f2.i (r1.up f2.g) r2 Q fun p xs G3 H3 f3 h1 h2 h3 h4 => q p xs G3 H3 ((f1.trans f2).trans f3) ((f1.h.trans f2.h).back h1) h2 h3 h4
theorem rd_I0 {g : Int → Int → V} {i j : Int} (h : ∀ H, Rp K H (g i j) d) : RD K (rI0 g) (.int i) (.int j) d := fun G H x y e hx hy Q q => by
  cases hx; cases hy
  exact ⟨i, j, rfl, rfl, q _ G H (Fm.refl e) (h G)⟩
theorem rd_I {C : Int → Int → Prop} {g : Int → Int → V} {i j : Int} (hc : C i j) (h : ∀ H, Rp K H (g i j) d) : RD K (rI C g) (.int i) (.int j) d := fun G H x y e hx hy Q q => by
  cases hx; cases hy
  exact ⟨i, j, rfl, rfl, hc, q _ G H (Fm.refl e) (h G)⟩
theorem ev_add {i j : Int} (ha : EvD K ta env (.int i)) (hb : EvD K tb env (.int j)) : EvD K (tOp (rI0 fun i j => .int (i + j)) ta tb) env (.int (i + j)) := ev_op ha hb (rd_I0 fun _ => .int _)
theorem ev_sub {i j : Int} (ha : EvD K ta env (.int i)) (hb : EvD K tb env (.int j)) : EvD K (tOp (rI0 fun i j => .int (i - j)) ta tb) env (.int (i - j)) := ev_op ha hb (rd_I0 fun _ => .int _)
theorem ev_mul {i j : Int} (ha : EvD K ta env (.int i)) (hb : EvD K tb env (.int j)) (hc : CMul i j) : EvD K (tOp (rI CMul fun i j => .int (i * j)) ta tb) env (.int (i * j)) := ev_op ha hb (rd_I hc fun _ => .int _)
theorem ev_div {i j : Int} (ha : EvD K ta env (.int i)) (hb : EvD K tb env (.int j)) (hc : CDiv i j) : EvD K (tOp (rI CDiv fun i j => .int (i / j)) ta tb) env (.int (i / j)) := ev_op ha hb (rd_I hc fun _ => .int _)
theorem ev_mod {i j : Int} (ha : EvD K ta env (.int i)) (hb : EvD K tb env (.int j)) (hc : 0 < j) : EvD K (tOp (rI (fun _ j => 0 < j) fun i j => .int (i % j)) ta tb) env (.int (i % j)) := ev_op ha hb (rd_I (C := fun _ j => 0 < j) hc fun _ => .int _)
theorem ev_pow {i j : Int} (ha : EvD K ta env (.int i)) (hb : EvD K tb env (.int j)) (hc : CPow i j) : EvD K (tOp (rI CPow fun i j => .int (i ^ j.toNat)) ta tb) env (.int (i ^ j.toNat)) := ev_op ha hb (rd_I hc fun _ => .int _)
theorem ev_neg {i : Int} (ha : EvD K ta env (.int i)) : EvD K (tUn (rU fun i => .int (-i)) ta) env (.int (-i)) := fun G0 B G H σ s Q q =>
  ha G0 B G H σ s _ fun x G1 H1 f1 r1 => by cases r1; exact ⟨i, rfl, q _ G1 H1 f1 (.int _)⟩
theorem rd_lt {i j : Int} : RD K (rI0 fun i j => .bl (decide (i < j))) (.int i) (.int j) (.bool (decide (i < j))) := rd_I0 fun _ => .bl _
theorem rd_le {i j : Int} : RD K (rI0 fun i j => .bl (decide (i ≤ j))) (.int i) (.int j) (.bool (decide (i ≤ j))) := rd_I0 fun _ => .bl _
theorem rd_gt {i j : Int} : RD K (rI0 fun i j => .bl (decide (j < i))) (.int i) (.int j) (.bool (decide (j < i))) := rd_I0 fun _ => .bl _
theorem rd_ge {i j : Int} : RD K (rI0 fun i j => .bl (decide (j ≤ i))) (.int i) (.int j) (.bool (decide (j ≤ i))) := rd_I0 fun _ => .bl _
/-- data that == may be asked of; its answer -/
def shp (a : D) : Bool := SeqAt.shaped (toPy a)
def eqD (a b : D) : Bool := PyData.eqv (toPy a) (toPy b)
theorem rd_eq (ha : shp a = true) (hb : shp b = true) : RD K (rEqD K) a b (.bool (eqD a b)) := fun G H x y e hx hy Q q =>
  ⟨toPy a, toPy b, Rp.dp _ _ (SeqAt.canLay_of_shaped ha) (hx.up e), Rp.dp _ _ (SeqAt.canLay_of_shaped hb) (hy.up e), ha, hb, q _ G H (Fm.refl e) (.bl _)⟩
theorem rd_ne (ha : shp a = true) (hb : shp b = true) : RD K (rNeD K) a b (.bool (!eqD a b)) := fun G H x y e hx hy Q q =>
  ⟨toPy a, toPy b, Rp.dp _ _ (SeqAt.canLay_of_shaped ha) (hx.up e), Rp.dp _ _ (SeqAt.canLay_of_shaped hb) (hy.up e), ha, hb, q _ G H (Fm.refl e) (.bl _)⟩
/-- is None, is not None -/
def isNone : D → Bool
  | .none => true
  | _ => false
theorem rp_none {H : Hp} {x : V} (h : Rp K H x a) : decide (x = .non) = isNone a := by
  cases h <;> simp [isNone]
theorem rd_isN : RD K (fun x y H Q => y = .non ∧ Q (.bl (decide (x = .non))) H) a .none (.bool (isNone a)) := fun G H x y e hx hy Q q => by
  cases hy
  refine ⟨rfl, q _ G H (Fm.refl e) ?_⟩
  rw [rp_none hx]; exact .bl _
theorem rd_notN : RD K (fun x y H Q => y = .non ∧ Q (.bl (!decide (x = .non))) H) a .none (.bool (!isNone a)) := fun G H x y e hx hy Q q => by
  cases hy
  refine ⟨rfl, q _ G H (Fm.refl e) ?_⟩
  rw [rp_none hx]; exact .bl _
/-! tests -/
theorem et_test {x : Bool} (h : EvD K te env (.bool x)) : EvT K (tTest te) env x := fun G0 B G H σ s Q q =>
  h G0 B G H σ s _ fun v G1 H1 f1 r1 => by cases r1; exact ⟨x, rfl, q G1 H1 f1⟩
theorem et_B {x : Bool} (h : EvD K te env (.bool x)) : EvT K (tB te) env x := fun G0 B G H σ s Q q =>
  h G0 B G H σ s _ fun v G1 H1 f1 r1 => by cases r1; exact ⟨x, rfl, q G1 H1 f1⟩
theorem et_and {x y : Bool} (h1 : EvT K t env x) (h2 : x = true → EvT K u env y) : EvT K (tAnd t u) env (x && y) := fun G0 B G H σ s Q q =>
  h1 G0 B G H σ s _ fun G1 H1 f1 => by
    cases x with
    | true => show u σ H1 Q; exact h2 rfl G0 B G1 H1 σ (s.fwd f1) Q fun G2 H2 f2 => q G2 H2 (f1.trans f2)
    | false => show Q false H1; exact q G1 H1 f1
theorem et_or {x y : Bool} (h1 : EvT K t env x) (h2 : x = false → EvT K u env y) : EvT K (tOr t u) env (x || y) := fun G0 B G H σ s Q q =>
  h1 G0 B G H σ s _ fun G1 H1 f1 => by
    cases x with
    | true => show Q true H1; exact q G1 H1 f1
    | false => show u σ H1 Q; exact h2 rfl G0 B G1 H1 σ (s.fwd f1) Q fun G2 H2 f2 => q G2 H2 (f1.trans f2)
theorem et_not {x : Bool} (h1 : EvT K t env x) : EvT K (tNot t) env (!x) := fun G0 B G H σ s Q q => h1 G0 B G H σ s _ fun G1 H1 f1 => q G1 H1 f1
theorem ev_and {x y : Bool} (h1 : EvD K ta env (.bool x)) (h2 : x = true → EvD K tb env (.bool y)) : EvD K (tAndV ta tb) env (.bool (x && y)) := fun G0 B G H σ s Q q =>
  h1 G0 B G H σ s _ fun v G1 H1 f1 r1 => by
    cases r1
    refine ⟨x, rfl, ?_⟩
    cases x with
    | true => show tb σ H1 Q; exact h2 rfl G0 B G1 H1 σ (s.fwd f1) Q fun v G2 H2 f2 r2 => q v G2 H2 (f1.trans f2) r2
    | false => show Q (.bl false) H1; exact q _ G1 H1 f1 (.bl _)
theorem ev_or {x y : Bool} (h1 : EvD K ta env (.bool x)) (h2 : x = false → EvD K tb env (.bool y)) : EvD K (tOrV ta tb) env (.bool (x || y)) := fun G0 B G H σ s Q q =>
  h1 G0 B G H σ s _ fun v G1 H1 f1 r1 => by
    cases r1
    refine ⟨x, rfl, ?_⟩
    cases x with
    | false => show tb σ H1 Q; exact h2 rfl G0 B G1 H1 σ (s.fwd f1) Q fun v G2 H2 f2 r2 => q v G2 H2 (f1.trans f2) r2
    | true => show Q (.bl true) H1; exact q _ G1 H1 f1 (.bl _)
theorem ev_not {x : Bool} (h1 : EvD K ta env (.bool x)) : EvD K (tNotV ta) env (.bool (!x)) := fun G0 B G H σ s Q q =>
  h1 G0 B G H σ s _ fun v G1 H1 f1 r1 => by cases r1; exact ⟨x, rfl, q _ G1 H1 f1 (.bl _)⟩
theorem ev_if {x : Bool} (h : EvT K t env x) (h1 : x = true → EvD K ta env d) (h2 : x = false → EvD K tb env d) : EvD K (tIf t ta tb) env d := fun G0 B G H σ s Q q =>
  h G0 B G H σ s _ fun G1 H1 f1 => by
    cases x with
    | true => show ta σ H1 Q; exact h1 rfl G0 B G1 H1 σ (s.fwd f1) Q fun v G2 H2 f2 r2 => q v G2 H2 (f1.trans f2) r2
    | false => show tb σ H1 Q; exact h2 rfl G0 B G1 H1 σ (s.fwd f1) Q fun v G2 H2 f2 r2 => q v G2 H2 (f1.trans f2) r2
/-- a op b op' c -/
theorem ev_chain {r r' : R2} {x y : Bool} (ha : EvD K ta env a) (hb : EvD K tb env b) (hc : x = true → EvD K tc env c) (h1 : RD K r a b (.bool x)) (h2 : x = true → RD K r' b c (.bool y)) : EvD K (tChain r r' ta tb tc) env (.bool (x && y)) := fun G0 B G H σ s Q q =>
  ha G0 B G H σ s _ fun v G1 H1 f1 r1 => hb G0 B G1 H1 σ (s.fwd f1) _ fun w G2 H2 f2 r2 => h1 G2 H2 v w f2.i (r1.up f2.g) r2 _ fun z G3 H3 f3 r3 => by
    cases r3
    refine ⟨x, rfl, ?_⟩
    cases x with
    | true =>
      show tc σ H3 fun z' H4 => r' w z' H4 Q
      have f13 := (f1.trans f2).trans f3
      exact hc rfl G0 B G3 H3 σ (s.fwd f13) _ fun z' G4 H4 f4 r4 => h2 rfl G4 H4 w z' f4.i ((r2.up f3.g).up f4.g) r4 Q fun v5 G5 H5 f5 r5 => q v5 G5 H5 ((f13.trans f4).trans f5) r5
    | false => show Q (.bl false) H3; exact q _ G3 H3 ((f1.trans f2).trans f3) (.bl _)
/-! truth -/
def truD : D → Bool
  | .none => false
  | .bool b => b
  | .int i => i != 0
  | .str x => (x.length : Int) != 0
  | .list ds => !ds.isEmpty
  | .tuple ds => !ds.isEmpty
  | _ => false
def okStr : D → Bool
  | .str x => decide (x.length ≤ sizeLine)
  | .scr _ => false
  | .dct _ _ => false
  | .obj _ _ _ => false
  | _ => true
theorem isEmpty_rp {H : Hp} {xs : List V} {ds : List D} (h : RpL K H xs ds) : ds.isEmpty = xs.isEmpty := by cases h <;> rfl
theorem tru_rp {G H : Hp} {x : V} (e : Ex G H) (h : Rp K G x a) (hs : okStr a = true) : TruV K x H (truD a) := by
  cases h with
  | non => exact rfl
  | bl b => exact rfl
  | int i => exact rfl
  | str y => exact ⟨by simpa [okStr] using hs, rfl⟩
  | lst h1 h2 => exact Or.inl ⟨_, SqL.of (e _ _ h1), by simp [truD, isEmpty_rp h2]⟩
  | tup h1 h2 => exact Or.inr (Or.inl ⟨_, ex_t e h1, by simp [truD, isEmpty_rp h2]⟩)
  | scr _ => cases hs
  | dct _ _ _ => cases hs
  | obj _ _ _ => cases hs
theorem et_tru (h : EvD K te env a) (hs : okStr a = true := by rfl) : EvT K (fun σ H Q => te σ H fun x H' => ∃ k, TruV K x H' k ∧ Q k H') env (truD a) := fun G0 B G H σ s Q q =>
  h G0 B G H σ s _ fun v G1 H1 f1 r1 => ⟨truD a, tru_rp f1.i r1 hs, q G1 H1 f1⟩
/-! arguments, displays -/
theorem ea_nil : EvA K tNil env [] := fun G0 B G H σ s Q q => q [] G H (Fm.refl s.i) .nil
theorem ea_cons {tr : TA} {ds : List D} (h : EvD K te env d) (hr : EvA K tr env ds) : EvA K (tCons te tr) env (d :: ds) := fun G0 B G H σ s Q q =>
  h G0 B G H σ s _ fun v G1 H1 f1 r1 => hr G0 B G1 H1 σ (s.fwd f1) _ fun vs G2 H2 f2 r2 => q _ G2 H2 (f1.trans f2) (.cons (r1.up f2.g) r2)
theorem ev_tup {ta : TA} {ds : List D} (h : EvA K ta env ds) (hl : ds.length ≤ sizeLine := by (simp only [List.length_cons, List.length_nil]; decide)) : EvD K (tTup ta) env (.tuple ds) := fun G0 B G H σ s Q q =>
  h G0 B G H σ s _ fun vs G1 H1 f1 r1 => ⟨by rw [r1.length]; exact hl, fun p hp => by
    have f2 := Fm.new (o := .tup vs) f1.i hp
    exact q _ _ _ (f1.trans f2) (.tup (SqT.of upd_same) (r1.up f2.g))⟩
theorem evn_lst {ta : TA} {ds : List D} (h : EvA K ta env ds) (hl : ds.length ≤ sizeLine := by (simp only [List.length_cons, List.length_nil]; decide)) : EvN K (tLst ta) env ds := fun G0 B G H σ s Q q =>
  h G0 B G H σ s _ fun vs G1 H1 f1 r1 => ⟨by rw [r1.length]; exact hl, fun p hp =>
    q p vs G1 _ (f1.trans (Fm.own f1.i hp)) (f1.h.back hp) (f1.i.back hp) upd_same r1⟩
theorem ev_lst {ta : TA} {ds : List D} (h : EvA K ta env ds) (hl : ds.length ≤ sizeLine := by (simp only [List.length_cons, List.length_nil]; decide)) : EvD K (tLst ta) env (.list ds) := ev_ofN (evn_lst h hl)
/-! calls of built-ins -/
theorem ev_cb {r : List V → Hp → VK → Prop} {ta : TA} {as : List D} (h : EvA K ta env as) (hr : RC K r as d) : EvD K (tCB r ta) env d := fun G0 B G H σ s Q q =>
  h G0 B G H σ s _ fun vs G1 H1 f1 r1 => hr G1 H1 vs f1.i r1 Q fun v G2 H2 f2 r2 => q v G2 H2 (f1.trans f2) r2
theorem evn_cb {r : List V → Hp → VK → Prop} {ta : TA} {as ds : List D} (h : EvA K ta env as) (hr : RCN K r as ds) : EvN K (tCB r ta) env ds := fun G0 B G H σ s Q q =>
  h G0 B G H σ s _ fun vs G1 H1 f1 r1 => hr G1 H1 vs f1.i r1 Q fun p xs G2 H2 f2 h1 h2 h3 h4 => q p xs G2 H2 (f1.trans f2) (f1.h.back h1) h2 h3 h4
/-- isinstance with a built-in class -/
def tyD : D → String
  | .none => "NoneType"
  | .bool _ => "bool"
  | .int _ => "int"
  | .str _ => "str"
  | .list _ => "list"
  | .tuple _ => "tuple"
  | .scr _ => "list"
  | .dct _ _ => "dict"
  | .obj _ _ _ => "object"
def noObj : D → Bool
  | .obj _ _ _ => false
  | .scr _ => false
  | _ => true
theorem ty_rp {G H : Hp} {x : V} (e : Ex G H) (h : Rp K G x a) (ho : noObj a = true) : TyX K H x (.type (tyD a)) := by
  cases h with
  | non => exact .base .non
  | bl b => exact .base (.bl b)
  | int i => exact .base (.int i)
  | str y => exact .base (.str y)
  | lst h1 h2 => exact .base (.lst (e _ _ h1))
  | tup h1 h2 =>
    rcases h1 with h1 | ⟨o, its, n, h1, h3, _⟩
    · rcases h1 with h1 | ⟨o, h1⟩
      · exact .base (.tup (e _ _ h1))
      · exact .fTuple (e _ _ h1)
    · exact .kTuple h1 h3
  | scr _ => cases ho
  | dct h1 _ _ => exact .base (.dT (e _ _ h1))
  | obj _ _ _ => cases ho
def isInst (d : D) (T : String) : Bool := (kitB (tyD d) T).getD false
theorem kitB_some (d : D) (T : String) (ho : noObj d = true) (h : T = "int" ∨ T = "bool" ∨ T = "str" ∨ T = "tuple" ∨ T = "list") : kitB (tyD d) T = some (isInst d T) := by
  have q : (kitB (tyD d) T).isSome = true := by
    rcases h with h | h | h | h | h <;> subst h <;> cases d <;> first | (cases ho; done) | (simp only [tyD]; decide +kernel)
  unfold isInst
  cases e : kitB (tyD d) T with
  | none => rw [e] at q; cases q
  | some b => rfl
theorem ev_isi {T : String} (ha : EvD K ta env a) (ho : noObj a = true) (hT : T = "int" ∨ T = "bool" ∨ T = "str" ∨ T = "tuple" ∨ T = "list" := by simp) : EvD K (tCB (rIsi K) (tCons ta (tCons (tC (.ty T)) tNil))) env (.bool (isInst a T)) := fun G0 B G H σ s Q q =>
  ha G0 B G H σ s _ fun x G1 H1 f1 r1 => ⟨x, .ty T, .type (tyD a), .type T, _, rfl, .ty T, ty_rp f1.i r1 ho, kit_ty (kitB_some a T ho hT), q _ G1 H1 f1 (.bl _)⟩
/-- len -/
def lenD : D → Nat
  | .str x => x.length
  | .list ds => ds.length
  | .tuple ds => ds.length
  | .scr ns => ns.length
  | _ => 0
def hasLen : D → Bool
  | .str x => decide (x.length ≤ sizeLine)
  | .list _ => true
  | .tuple _ => true
  | .scr _ => true
  | _ => false
theorem rc_len (h : hasLen a = true) : RC K (fun xs H Q => ∃ x n, xs = [x] ∧ LenV K x H n ∧ Q (.int n) H) [a] (.int (lenD a)) := fun G H xs e hx Q q => by
  cases hx with
  | cons r1 r2 =>
    cases r2
    refine ⟨_, lenD a, rfl, ?_, q _ G H (Fm.refl e) (.int _)⟩
    cases r1 with
    | non => cases h
    | bl b => cases h
    | int i => cases h
    | str y => exact ⟨by simpa [hasLen] using h, rfl⟩
    | lst h1 h2 => exact Or.inl ⟨_, SqL.of (e _ _ h1), by simp [lenD, h2.length]⟩
    | tup h1 h2 => exact Or.inr ⟨_, ex_t e h1, by simp [lenD, h2.length]⟩
    | scr h1 => exact Or.inl ⟨_, ex_l e h1, by simp [lenD]⟩
    | dct _ _ _ => cases h
    | obj _ _ _ => cases h
theorem ev_len (ha : EvD K ta env a) (h : hasLen a = true := by rfl) : EvD K (tCB (fun xs H Q => ∃ x n, xs = [x] ∧ LenV K x H n ∧ Q (.int n) H) (tCons ta tNil)) env (.int (lenD a)) := ev_cb (ea_cons ha ea_nil) (rc_len h)
theorem ev_max {i j : Int} (ha : EvD K ta env (.int i)) (hb : EvD K tb env (.int j)) : EvD K (tCB (fun xs H Q => ∃ i j, xs = [.int i, .int j] ∧ Q (.int (if j > i then j else i)) H) (tCons ta (tCons tb tNil))) env (.int (max i j)) :=
  ev_cb (ea_cons ha (ea_cons hb ea_nil)) fun G H xs e hx Q q => by
    cases hx with
    | cons r1 r2 => cases r2 with
      | cons r2 r3 =>
        cases r3; cases r1; cases r2
        refine ⟨i, j, rfl, q _ G H (Fm.refl e) ?_⟩
        have z : (if j > i then j else i) = max i j := by rw [Int.max_def]; split <;> split <;> omega
        rw [z]; exact .int _
theorem ev_min {i j : Int} (ha : EvD K ta env (.int i)) (hb : EvD K tb env (.int j)) : EvD K (tCB (fun xs H Q => ∃ i j, xs = [.int i, .int j] ∧ Q (.int (if j < i then j else i)) H) (tCons ta (tCons tb tNil))) env (.int (min i j)) :=
  ev_cb (ea_cons ha (ea_cons hb ea_nil)) fun G H xs e hx Q q => by
    cases hx with
    | cons r1 r2 => cases r2 with
      | cons r2 r3 =>
        cases r3; cases r1; cases r2
        refine ⟨i, j, rfl, q _ G H (Fm.refl e) ?_⟩
        have z : (if j < i then j else i) = min i j := by rw [Int.min_def]; split <;> split <;> omega
        rw [z]; exact .int _
/-! subscripts -/
theorem atI_rp {H : Hp} {xs : List V} {ds : List D} {i : Int} (h : RpL K H xs ds) (e : atI ds i = some d) : ∃ v, atI xs i = some v ∧ Rp K H v d := by
  unfold atI at e ⊢
  rw [h.length]
  cases q : ixN ds.length i with
  | none => rw [q] at e; cases e
  | some j =>
    rw [q] at e
    obtain ⟨v, h1, h2⟩ := h.get (i := j) e
    exact ⟨v, h1, h2⟩
theorem rd_ixL {ds : List D} {i : Int} (h : atI ds i = some d) : RD K (rIxL K) (.list ds) (.int i) d := fun G H x y e hx hy Q q => by
  cases hx with
  | lst h1 h2 =>
    cases hy
    obtain ⟨v, g1, g2⟩ := atI_rp h2 h
    exact ⟨_, _, i, v, rfl, rfl, SqL.of (e _ _ h1), g1, q v G H (Fm.refl e) g2⟩
theorem rd_ixT {ds : List D} {i : Int} (h : atI ds i = some d) : RD K (rIxT K) (.tuple ds) (.int i) d := fun G H x y e hx hy Q q => by
  cases hx with
  | tup h1 h2 =>
    cases hy
    obtain ⟨v, g1, g2⟩ := atI_rp h2 h
    exact ⟨_, _, i, v, rfl, rfl, ex_t e h1, g1, q v G H (Fm.refl e) g2⟩
/-- a list or a tuple or a text at a place -/
def itemD : D → Int → Option D
  | .list ds, i => atI ds i
  | .tuple ds, i => atI ds i
  | .str z, i => if z.length ≤ sizeLine then (atI z.cps.toList i).map fun c => .str ⟨#[c]⟩ else none
  | .scr ns, i => (atI ns i).map .int
  | _, _ => none
theorem rd_ix {i : Int} (h : itemD a i = some d) : RD K (rIx K) a (.int i) d := fun G H x y e hx hy Q q => by
  cases a with
  | list ds => exact Or.inl (rd_ixL h G H x y e hx hy Q q)
  | tuple ds => exact Or.inr (Or.inl (rd_ixT h G H x y e hx hy Q q))
  | str z =>
    refine Or.inr (Or.inr ?_)
    cases hx; cases hy
    by_cases hz : z.length ≤ sizeLine
    · simp only [itemD, if_pos hz] at h
      cases c : atI z.cps.toList i with
      | none => rw [c] at h; cases h
      | some k =>
        rw [c] at h
        cases h
        exact ⟨z, i, k, rfl, rfl, hz, c, q _ G H (Fm.refl e) (.str _)⟩
    · simp only [itemD, if_neg hz] at h; cases h
  | none => cases h
  | bool b => cases h
  | int j => cases h
  | scr ns =>
    cases hx with
    | scr h1 =>
      cases hy
      simp only [itemD] at h
      cases c : atI ns i with
      | none => rw [c] at h; cases h
      | some k =>
        rw [c] at h
        cases h
        refine Or.inl ⟨_, _, i, .int k, rfl, rfl, ex_l e h1, ?_, q _ G H (Fm.refl e) (.int _)⟩
        unfold atI at c ⊢
        rw [List.length_map]
        cases z : ixN ns.length i with
        | none => rw [z] at c; cases c
        | some j =>
          rw [z] at c
          show (ns.map V.int)[j]? = some (.int k)
          rw [List.getElem?_map, show ns[j]? = some k from c]; rfl
  | dct _ _ => cases h
  | obj _ _ _ => cases h
theorem ev_ix {i : Int} (ha : EvD K ta env a) (hb : EvD K tb env (.int i)) (h : itemD a i = some d) : EvD K (tOp (rIx K) ta tb) env d := ev_op ha hb (rd_ix h)
/-! x in a sequence of data (by ==) -/
def seqD : D → Option (List D)
  | .list ds => some ds
  | .tuple ds => some ds
  | _ => none
end
end Ly

namespace Ly
open PySem L2
/-! ### isinstance, by cases -/
def isI : D → Bool
  | .int _ => true
  | .bool _ => true
  | _ => false
def isB : D → Bool
  | .bool _ => true
  | _ => false
def isS : D → Bool
  | .str _ => true
  | _ => false
def isU : D → Bool
  | .tuple _ => true
  | _ => false
section
variable {K : Fg} {env : Evn} {te ta tb tc : TE} {t u : TT} {d a b c : D} {mg : Str → Option Value} {E : XK}
theorem isi_int (ho : noObj a = true) : isInst a "int" = isI a := by cases a <;> first | (cases ho; done) | (simp only [isInst, tyD, isI]; decide +kernel)
theorem isi_bool (ho : noObj a = true) : isInst a "bool" = isB a := by cases a <;> first | (cases ho; done) | (simp only [isInst, tyD, isB]; decide +kernel)
theorem isi_str (ho : noObj a = true) : isInst a "str" = isS a := by cases a <;> first | (cases ho; done) | (simp only [isInst, tyD, isS]; decide +kernel)
theorem isi_tup (ho : noObj a = true) : isInst a "tuple" = isU a := by cases a <;> first | (cases ho; done) | (simp only [isInst, tyD, isU]; decide +kernel)
theorem ev_isiI (ha : EvD K ta env a) (ho : noObj a = true) : EvD K (tCB (rIsi K) (tCons ta (tCons (tC (.ty "int")) tNil))) env (.bool (isI a)) := isi_int ho ▸ ev_isi ha ho
theorem ev_isiB (ha : EvD K ta env a) (ho : noObj a = true) : EvD K (tCB (rIsi K) (tCons ta (tCons (tC (.ty "bool")) tNil))) env (.bool (isB a)) := isi_bool ho ▸ ev_isi ha ho
theorem ev_isiS (ha : EvD K ta env a) (ho : noObj a = true) : EvD K (tCB (rIsi K) (tCons ta (tCons (tC (.ty "str")) tNil))) env (.bool (isS a)) := isi_str ho ▸ ev_isi ha ho
theorem ev_isiU (ha : EvD K ta env a) (ho : noObj a = true) : EvD K (tCB (rIsi K) (tCons ta (tCons (tC (.ty "tuple")) tNil))) env (.bool (isU a)) := isi_tup ho ▸ ev_isi ha ho

/-! ### statements -/
structure En where
  nx : Evn → Prop := fun _ => False
  rt : D → Prop := fun _ => False
  bk : Evn → Prop := fun _ => False
  ct : Evn → Prop := fun _ => False
  ex : Str → Prop := fun _ => False
structure EnOk (K : Fg) (mg : Str → Option Value) (G0 B : Hp) (Dd : Ends) (E : XK) (e : En) : Prop where
  nx : ∀ G H σ env, SR K G0 B G H σ env → e.nx env → Dd.nx σ H
  rt : ∀ G H v d, Fm G0 B G H → Rp K G v d → e.rt d → Dd.rt v H
  bk : ∀ G H σ env, SR K G0 B G H σ env → e.bk env → Dd.bk σ H
  ct : ∀ G H σ env, SR K G0 B G H σ env → e.ct env → Dd.ct σ H
  ex : ∀ G H x C, mg x = some (.ref C) → Fm G0 B G H → e.ex x → E (.ref C) none H
def SD (K : Fg) (mg : Str → Option Value) (E : XK) (ts : TS) (env : Evn) (e : En) : Prop := ∀ G0 B G H σ Dd, SR K G0 B G H σ env → EnOk K mg G0 B Dd E e → ts Dd σ H
variable {e : En} {ts tz tu tw : TS}
theorem sd_seq (h : SD K mg E ts env { e with nx := fun env' => SD K mg E tz env' e }) : SD K mg E (tSeq ts tz) env e := fun G0 B G H σ Dd s k =>
  h G0 B G H σ _ s ⟨fun G H σ env s' q => q G0 B G H σ Dd s' k, k.rt, k.bk, k.ct, k.ex⟩
theorem sd_next (h : e.nx env) : SD K mg E tNext env e := fun G0 B G H σ Dd s k => k.nx G H σ env s h
theorem sd_break (h : e.bk env) : SD K mg E tBreak env e := fun G0 B G H σ Dd s k => k.bk G H σ env s h
theorem sd_cont (h : e.ct env) : SD K mg E tCont env e := fun G0 B G H σ Dd s k => k.ct G H σ env s h
theorem sd_asg {i : Nat} (h : EvD K te env d) (k : e.nx (env.set i (.dat d))) : SD K mg E (tAsg te (gName i)) env e := fun G0 B G H σ Dd s q =>
  h G0 B G H σ s _ fun v G2 H2 f r => q.nx G2 H2 _ _ ((s.fwd f).set r) k
theorem sd_asgN {i : Nat} {ds : List D} (h : EvN K te env ds) (k : e.nx (env.set i (.lst ds))) : SD K mg E (tAsg te (gName i)) env e := fun G0 B G H σ Dd s q =>
  h G0 B G H σ s _ fun p xs G2 H2 f h1 h2 h3 h4 => q.nx G2 H2 _ _ ((s.fwd f).setOwn (s.fm.h.back h1) h2 h3 (.lst h4) fun j o z => by
    obtain ⟨_, _, u, hu, _⟩ := s.own_ ⟨j, o, z⟩
    rw [h1] at hu; cases hu) k
theorem sd_drop (h : EvD K te env d) (k : e.nx env) : SD K mg E (tDrop te) env e := fun G0 B G H σ Dd s q =>
  h G0 B G H σ s _ fun v G2 H2 f r => q.nx G2 H2 _ _ (s.fwd f) k
theorem sd_ret (h : EvD K te env d) (k : e.rt d) : SD K mg E (tRet te) env e := fun G0 B G H σ Dd s q =>
  h G0 B G H σ s _ fun v G2 H2 f r => q.rt G2 H2 v d (s.fm.trans f) r k
theorem sd_if {x : Bool} (h : EvT K t env x) (h1 : x = true → SD K mg E tu env e) (h2 : x = false → SD K mg E tw env e) : SD K mg E (tIfS t tu tw) env e := fun G0 B G H σ Dd s q =>
  h G0 B G H σ s _ fun G2 H2 f => by
    cases x with
    | true => show tu Dd σ H2; exact h1 rfl G0 B G2 H2 σ Dd (s.fwd f) q
    | false => show tw Dd σ H2; exact h2 rfl G0 B G2 H2 σ Dd (s.fwd f) q
theorem sd_never {P : Prop} (h : False) : SD K mg E ts env e := h.elim
/-- an own thing is data from here on -/
theorem sd_freeze {i : Nat} {x : SL} (he : env[i]? = some x) (hx : isOwn x = true) (h : SD K mg E ts (env.set i (.dat x.data)) e) : SD K mg E ts env e := fun G0 B G H σ Dd s q => by
  obtain ⟨l, o, _, _, _, _, s'⟩ := s.freeze he hx
  exact h G0 B _ H σ Dd s' q
theorem sd_mono {e' : En} (h : SD K mg E ts env e) (nx : ∀ v, e.nx v → e'.nx v) (rt : ∀ v, e.rt v → e'.rt v) (bk : ∀ v, e.bk v → e'.bk v) (ct : ∀ v, e.ct v → e'.ct v) (ex : ∀ v, e.ex v → e'.ex v) : SD K mg E ts env e' :=
  fun G0 B G H σ Dd s k => h G0 B G H σ Dd s ⟨fun G H σ env s q => k.nx G H σ env s (nx _ q), fun G H v d f r q => k.rt G H v d f r (rt _ q), fun G H σ env s q => k.bk G H σ env s (bk _ q), fun G H σ env s q => k.ct G H σ env s (ct _ q), fun G H x C m f q => k.ex G H x C m f (ex _ q)⟩
/-- xs.append(e), xs of one's own -/
theorem sd_app {i : Nat} {ds : List D} (he : env[i]? = some (.lst ds)) (h : EvD K te env d) (hz : ds.length < sizeLine) (k : e.nx (env.set i (.lst (ds ++ [d])))) :
    SD K mg E (tDrop (tBM K "list" rAppend (tVar i) (tCons te tNil))) env e := fun G0 B G H σ Dd s q => by
  obtain ⟨l, o, h1, h2, h3, h4, h5⟩ := s.ownS he rfl
  cases h5 with
  | lst h5 =>
    refine ⟨.ref l, h1, Or.inl ⟨rfl, _, SqL.of h4⟩, h G0 B G H σ s _ fun v G2 H2 f r => ⟨l, _, v, rfl, rfl, f.h l _ h4, by rw [h5.length]; exact hz, ?_⟩⟩
    exact q.nx G2 _ σ _ ((s.fwd f).write he rfl h1 (.lst ((h5.up f.g).app (.cons r .nil))) rfl) k
/-! ### targets -/
/-- storing d changes env to env'; js: the slots that are stored -/
def TGt (K : Fg) (g : TG) (d : D) (env env' : Evn) (js : List Nat) : Prop := ∀ G0 B G H σ v, SR K G0 B G H σ env → Rp K G v d → ∀ Q : St → Hp → Prop, (∀ σ', SR K G0 B G H σ' env' → (∀ vs : List Nat, (∀ j ∈ js, j ∈ vs) → wipe σ' vs = wipe σ vs) → Q σ' H) → g v σ H Q
def TGs' (K : Fg) (g : TGs) (ds : List D) (env env' : Evn) (js : List Nat) : Prop := ∀ G0 B G H σ vs, SR K G0 B G H σ env → RpL K G vs ds → ∀ Q : St → Hp → Prop, (∀ σ', SR K G0 B G H σ' env' → (∀ ws : List Nat, (∀ j ∈ js, j ∈ ws) → wipe σ' ws = wipe σ ws) → Q σ' H) → g vs σ H Q
theorem wipe_get {σ : St} : ∀ {vs : List Nat} {i : Nat}, (wipe σ vs)[i]? = if i ∈ vs ∧ i < σ.length then some none else σ[i]?
  | [], i => by simp [wipe]
  | v :: vs, i => by
    unfold wipe
    have ih := wipe_get (σ := σ) (vs := vs) (i := i)
    by_cases h : v = i
    · subst h
      by_cases hl : v < σ.length
      · rw [List.getElem?_set_self (by rw [wipe_length]; exact hl), if_pos ⟨List.mem_cons_self, hl⟩]
      · rw [List.getElem?_eq_none (by rw [List.length_set, wipe_length]; omega), if_neg (fun z => hl z.2), List.getElem?_eq_none (by omega)]
    · rw [List.getElem?_set_ne h, ih]
      by_cases q : i ∈ vs ∧ i < σ.length
      · rw [if_pos q, if_pos ⟨List.mem_cons_of_mem _ q.1, q.2⟩]
      · rw [if_neg q, if_neg (fun z => q ⟨(List.mem_cons.mp z.1).resolve_left (fun w => h w.symm), z.2⟩)]
theorem wipe_set {σ : St} {j : Nat} {x : Option V} {vs : List Nat} (hj : j ∈ vs) : wipe (σ.set j x) vs = wipe σ vs := by
  apply List.ext_getElem?
  intro i
  rw [wipe_get, wipe_get, List.length_set]
  by_cases q : i ∈ vs ∧ i < σ.length
  · rw [if_pos q, if_pos q]
  · rw [if_neg q, if_neg q]
    by_cases h : j = i
    · subst h
      have : ¬ j < σ.length := fun z => q ⟨hj, z⟩
      rw [List.getElem?_eq_none (by rw [List.length_set]; omega), List.getElem?_eq_none (by omega)]
    · rw [List.getElem?_set_ne h]
theorem wipe_wipe {σ : St} {vs : List Nat} : wipe (wipe σ vs) vs = wipe σ vs := by
  apply List.ext_getElem?
  intro i
  rw [wipe_get, wipe_length]
  by_cases q : i ∈ vs ∧ i < σ.length
  · rw [if_pos q, wipe_get, if_pos q]
  · rw [if_neg q]
theorem tg_name {i : Nat} : TGt K (gName i) d env (env.set i (.dat d)) [i] := fun G0 B G H σ v s r Q q =>
  q _ (s.set r) fun vs h => wipe_set (h i List.mem_cons_self)
theorem tgs_nil : TGs' K gNil [] env env [] := fun G0 B G H σ vs s r Q q => by
  cases r
  exact ⟨rfl, q σ s fun _ _ => rfl⟩
theorem tgs_cons {g : TG} {gs : TGs} {ds : List D} {env1 env2 : Evn} {js ks : List Nat} (h1 : TGt K g d env env1 js) (h2 : TGs' K gs ds env1 env2 ks) : TGs' K (gCons g gs) (d :: ds) env env2 (js ++ ks) := fun G0 B G H σ vs s r Q q => by
  cases r with
  | cons r1 r2 =>
    refine ⟨_, _, rfl, h1 G0 B G H σ _ s r1 _ fun σ1 s1 w1 => h2 G0 B G H σ1 _ s1 r2 _ fun σ2 s2 w2 => q σ2 s2 fun vs h => ?_⟩
    rw [w2 vs fun j hj => h j (List.mem_append_right _ hj), w1 vs fun j hj => h j (List.mem_append_left _ hj)]
theorem tg_tup {gs : TGs} {ds : List D} {env' : Evn} {js : List Nat} {n : Nat} (h : TGs' K gs ds env env' js) (hn : ds.length = n) : TGt K (gTup K n gs) (.tuple ds) env env' js := fun G0 B G H σ v s r Q q => by
  cases r with
  | tup h1 h2 => exact ⟨_, _, rfl, ex_t s.i h1, by rw [h2.length]; exact hn, h G0 B G H σ _ s h2 Q q⟩
/-- (a, b) = e -/
theorem sd_asgT {g : TG} {env' : Evn} {js : List Nat} (h : EvD K te env d) (hg : TGt K g d env env' js) (k : e.nx env') : SD K mg E (tAsg te g) env e := fun G0 B G H σ Dd s q =>
  h G0 B G H σ s _ fun v G2 H2 f r => hg G0 B G2 H2 σ v (s.fwd f) r _ fun σ' s' _ => q.nx G2 H2 σ' env' s' k
theorem sd_par {i j : Nat} {ta : TA} (h : EvA K ta env [a, b]) (k : e.nx ((env.set i (.dat a)).set j (.dat b))) : SD K mg E (tPar i j ta) env e := fun G0 B G H σ Dd s q =>
  h G0 B G H σ s _ fun vs G2 H2 f r => by
    cases r with
    | cons r1 r2 => cases r2 with
      | cons r2 r3 =>
        cases r3
        exact ⟨_, _, rfl, q.nx G2 H2 _ _ (((s.fwd f).set r1).set r2) k⟩
/-! ### loops -/
theorem for_core {wi : TI} {g : TG} {tb : TS} {J : It} {n : Nat} {G0 B G H : Hp} {σ : St} {Dd : Ends} (Pv : Nat → Evn → Prop) (s : SR K G0 B G H σ env) (k : EnOk K mg G0 B Dd E e) (h0 : Pv 0 env)
    (hgo : ∀ i G1 H1, i < n → Ex G G1 → Ex G1 H1 → J.go i H1) (hst : ∀ G1 H1, Ex G G1 → Ex G1 H1 → J.stop n H1)
    (hs : ∀ i G1 H1 x H', i < n → Ex G G1 → Ex G1 H1 → J.yld i H1 x H' → ∃ G2 d, Fm G1 H1 G2 H' ∧ Rp K G2 x d ∧ ∀ env', Pv i env' → ∃ env2 js, TGt K g d env' env2 js ∧ SD K mg E tb env2 { e with nx := Pv (i + 1), ct := Pv (i + 1), bk := e.nx })
    (hd : ∀ env', Pv n env' → e.nx env') :
    ∃ W : Nat → Nat → St → Hp → Prop, (∃ m, W 0 m σ H) ∧ ∀ i m σ H, W i m σ H →
      (J.stop i H ∧ Dd.nx σ H) ∨ (J.go i H ∧ ∃ N : St → Hp → Prop, (∀ σ' H', N σ' H' → ∃ m', m' < m ∧ W (i + 1) m' σ' H') ∧ ∀ x H', J.yld i H x H' → g x σ H' fun σ2 H2 => tb { Dd with nx := N, ct := N, bk := Dd.nx } σ2 H2) := by
  obtain ⟨f, s1⟩ := s.rebase
  refine ⟨fun i m σ' H' => m = n - i ∧ i ≤ n ∧ ∃ G' env', SR K G (bare H σ env) G' H' σ' env' ∧ Pv i env', ⟨n, by simp, Nat.zero_le _, G, env, s1, h0⟩, ?_⟩
  rintro i m σ' H' ⟨rfl, hi, G', env', s', p⟩
  by_cases hlt : i < n
  · refine .inr ⟨hgo i G' H' hlt s'.fm.g s'.fm.i, fun σ2 H2 => ∃ G2 env2, SR K G (bare H σ env) G2 H2 σ2 env2 ∧ Pv (i + 1) env2, fun σ2 H2 ⟨G2, env2, s2, p2⟩ => ⟨n - (i + 1), by omega, rfl, hlt, G2, env2, s2, p2⟩, fun x Hy y => ?_⟩
    obtain ⟨G2, d, fy, ry, step⟩ := hs i G' H' x Hy hlt s'.fm.g s'.fm.i y
    obtain ⟨env2, js, hg, hb⟩ := step env' p
    refine hg G (bare H σ env) G2 Hy σ' x (s'.fwd fy) ry _ fun σ2 s2 _ => ?_
    refine hb G (bare H σ env) G2 Hy σ2 _ s2 ⟨fun G3 H3 σ3 env3 s3 q3 => ⟨G3, env3, s3, q3⟩, fun G3 H3 v d f3 r3 q3 => k.rt G3 H3 v d (f.trans f3) r3 q3, fun G3 H3 σ3 env3 s3 q3 => k.nx G3 H3 σ3 env3 (s3.over f) q3, fun G3 H3 σ3 env3 s3 q3 => ⟨G3, env3, s3, q3⟩, fun G3 H3 x C m f3 q3 => k.ex G3 H3 x C m (f.trans f3) q3⟩
  · have e1 : i = n := by omega
    subst e1
    exact .inl ⟨hst G' H' s'.fm.g s'.fm.i, k.nx G' H' σ' env' (s'.over f) (hd env' p)⟩
/-- for .. in a list that is data -/
theorem sd_forL {tl : TE} {g : TG} {tb : TS} {ds : List D} (h : EvD K tl env (.list ds)) (Pv : Nat → Evn → Prop) (h0 : Pv 0 env)
    (hs : ∀ i d env', ds[i]? = some d → Pv i env' → ∃ env2 js, TGt K g d env' env2 js ∧ SD K mg E tb env2 { e with nx := Pv (i + 1), ct := Pv (i + 1), bk := e.nx }) (hd : ∀ env', Pv ds.length env' → e.nx env') :
    SD K mg E (tFor (iList K tl) g tb) env e := fun G0 B G H σ Dd s q =>
  h G0 B G H σ s _ fun v G2 H2 f r => by
    cases r with
    | @lst a xs _ h1 h2 =>
      refine ⟨a, rfl, ⟨xs, SqL.of (f.i _ _ h1)⟩, for_core (wi := iList K tl) (n := ds.length) Pv (s.fwd f) q h0 (fun i G1 H1 hi e1 e2 => ?_) (fun G1 H1 e1 e2 => ⟨xs, SqL.of (e2 _ _ (e1 _ _ h1)), by rw [h2.length]; exact Nat.le_refl _⟩) (fun i G1 H1 x H' hi e1 e2 y => ?_) hd⟩
      · obtain ⟨v, g1, _⟩ := h2.get (List.getElem?_eq_getElem hi)
        exact ⟨xs, v, SqL.of (e2 _ _ (e1 _ _ h1)), g1⟩
      · obtain ⟨rfl, y⟩ := y
        have hx := y xs (SqL.of (e2 _ _ (e1 _ _ h1)))
        obtain ⟨d, g1, g2⟩ := h2.getV hx
        exact ⟨G1, d, Fm.refl e2, g2.up e1, fun env' p => hs i d env' g1 p⟩
theorem sd_forT {tl : TE} {g : TG} {tb : TS} {ds : List D} (h : EvD K tl env (.tuple ds)) (Pv : Nat → Evn → Prop) (h0 : Pv 0 env)
    (hs : ∀ i d env', ds[i]? = some d → Pv i env' → ∃ env2 js, TGt K g d env' env2 js ∧ SD K mg E tb env2 { e with nx := Pv (i + 1), ct := Pv (i + 1), bk := e.nx }) (hd : ∀ env', Pv ds.length env' → e.nx env') :
    SD K mg E (tFor (iTup K tl) g tb) env e := fun G0 B G H σ Dd s q =>
  h G0 B G H σ s _ fun v G2 H2 f r => by
    cases r with
    | @tup a xs _ h1 h2 =>
      refine ⟨a, rfl, ⟨xs, ex_t f.i h1⟩, for_core (wi := iTup K tl) (n := ds.length) Pv (s.fwd f) q h0 (fun i G1 H1 hi e1 e2 => ?_) (fun G1 H1 e1 e2 => ⟨xs, ex_t (e1.trans e2) h1, by rw [h2.length]; exact Nat.le_refl _⟩) (fun i G1 H1 x H' hi e1 e2 y => ?_) hd⟩
      · obtain ⟨v, g1, _⟩ := h2.get (List.getElem?_eq_getElem hi)
        exact ⟨xs, v, ex_t (e1.trans e2) h1, g1⟩
      · obtain ⟨rfl, y⟩ := y
        have hx := y xs (ex_t (e1.trans e2) h1)
        obtain ⟨d, g1, g2⟩ := h2.getV hx
        exact ⟨G1, d, Fm.refl e2, g2.up e1, fun env' p => hs i d env' g1 p⟩
theorem for_rng {g : TG} {tb : TS} {G0 B G H : Hp} {σ : St} {Dd : Ends} {lo : Int} {n : Nat} (s : SR K G0 B G H σ env) (q : EnOk K mg G0 B Dd E e) (Pv : Nat → Evn → Prop) (h0 : Pv 0 env)
    (hs : ∀ i env', i < n → Pv i env' → ∃ env2 js, TGt K g (.int (lo + (i : Int))) env' env2 js ∧ SD K mg E tb env2 { e with nx := Pv (i + 1), ct := Pv (i + 1), bk := e.nx }) (hd : ∀ env', Pv n env' → e.nx env') :
    ∃ W : Nat → Nat → St → Hp → Prop, (∃ m, W 0 m σ H) ∧ ∀ i m σ H, W i m σ H →
      ((Itr lo n).stop i H ∧ Dd.nx σ H) ∨ ((Itr lo n).go i H ∧ ∃ N : St → Hp → Prop, (∀ σ' H', N σ' H' → ∃ m', m' < m ∧ W (i + 1) m' σ' H') ∧ ∀ x H', (Itr lo n).yld i H x H' → g x σ H' fun σ2 H2 => tb { Dd with nx := N, ct := N, bk := Dd.nx } σ2 H2) :=
  for_core (wi := fun _ _ _ => True) (J := Itr lo n) (n := n) Pv s q h0 (fun i G1 H1 hi _ _ => hi) (fun G1 H1 _ _ => Nat.le_refl _) (fun i G1 H1 x H' hi e1 e2 y => by
    obtain ⟨rfl, rfl⟩ := y
    exact ⟨G1, _, Fm.refl e2, .int _, fun env' p => hs i env' hi p⟩) hd
theorem sd_forR1 {ta : TA} {g : TG} {tb : TS} {n : Int} (h : EvA K ta env [.int n]) (hn : -(2 ^ 62) ≤ n ∧ n < 2 ^ 62) (Pv : Nat → Evn → Prop) (h0 : Pv 0 env)
    (hs : ∀ i env', i < n.toNat → Pv i env' → ∃ env2 js, TGt K g (.int (i : Int)) env' env2 js ∧ SD K mg E tb env2 { e with nx := Pv (i + 1), ct := Pv (i + 1), bk := e.nx }) (hd : ∀ env', Pv n.toNat env' → e.nx env') :
    SD K mg E (tFor (iRng1 ta) g tb) env e := fun G0 B G H σ Dd s q =>
  h G0 B G H σ s _ fun vs G2 H2 f r => by
    cases r with
    | cons r1 r2 =>
      cases r1; cases r2
      exact ⟨n, rfl, hn.1, hn.2, for_rng (s.fwd f) q Pv h0 (fun i env' hi p => by rw [Int.zero_add]; exact hs i env' hi p) hd⟩
theorem sd_forR2 {ta : TA} {g : TG} {tb : TS} {lo hi : Int} (h : EvA K ta env [.int lo, .int hi]) (hn : -(2 ^ 62) ≤ lo ∧ lo < 2 ^ 62 ∧ -(2 ^ 62) ≤ hi ∧ hi < 2 ^ 62) (Pv : Nat → Evn → Prop) (h0 : Pv 0 env)
    (hs : ∀ i env', i < (hi - lo).toNat → Pv i env' → ∃ env2 js, TGt K g (.int (lo + (i : Int))) env' env2 js ∧ SD K mg E tb env2 { e with nx := Pv (i + 1), ct := Pv (i + 1), bk := e.nx }) (hd : ∀ env', Pv (hi - lo).toNat env' → e.nx env') :
    SD K mg E (tFor (iRng2 ta) g tb) env e := fun G0 B G H σ Dd s q =>
  h G0 B G H σ s _ fun vs G2 H2 f r => by
    cases r with
    | cons r1 r2 => cases r2 with
      | cons r2 r3 =>
        cases r1; cases r2; cases r3
        exact ⟨lo, hi, rfl, hn, for_rng (s.fwd f) q Pv h0 hs hd⟩
/-- while, by a measure -/
theorem sd_while {tb : TS} (W : Nat → Evn → Prop) (m0 : Nat) (h0 : W m0 env)
    (hs : ∀ m env', W m env' → ∃ x, EvT K t env' x ∧ (x = true → SD K mg E tb env' { e with nx := fun v => ∃ m', m' < m ∧ W m' v, ct := fun v => ∃ m', m' < m ∧ W m' v, bk := e.nx }) ∧ (x = false → e.nx env')) :
    SD K mg E (tWhile t tb) env e := fun G0 B G H σ Dd s q => by
  refine ⟨fun m σ' H' => ∃ G' env', SR K G0 B G' H' σ' env' ∧ W m env', ⟨m0, G, env, s, h0⟩, fun m σ' H' ⟨G', env', s', w⟩ => ?_⟩
  obtain ⟨x, ht, h1, h2⟩ := hs m env' w
  refine ht G0 B G' H' σ' s' _ fun G2 H2 f => ?_
  cases x with
  | true =>
    rw [if_pos rfl]
    refine ⟨fun σ2 H2 => ∃ m', m' < m ∧ ∃ G2 env2, SR K G0 B G2 H2 σ2 env2 ∧ W m' env2, fun σ2 H2 z => z, h1 rfl G0 B G2 H2 σ' _ (s'.fwd f) ⟨fun G3 H3 σ3 env3 s3 ⟨m', hm, w3⟩ => ⟨m', hm, G3, env3, s3, w3⟩, q.rt, q.nx, fun G3 H3 σ3 env3 s3 ⟨m', hm, w3⟩ => ⟨m', hm, G3, env3, s3, w3⟩, q.ex⟩⟩
  | false =>
    rw [if_neg Bool.false_ne_true]
    exact q.nx G2 H2 σ' env' (s'.fwd f) (h2 rfl)
end
end Ly

namespace Ly
open PySem L2
section
variable {K : Fg} {env : Evn} {te ta tb tc : TE} {t u : TT} {d a b c : D} {mg : Str → Option Value} {E : XK} {e : En} {ts tz tu tw : TS}
/-! ### comprehensions -/
def wipeE (env : Evn) : List Nat → Evn
  | [] => env
  | v :: vs => (wipeE env vs).set v .no
theorem wipeE_length (env : Evn) : ∀ vs : List Nat, (wipeE env vs).length = env.length
  | [] => rfl
  | v :: vs => by unfold wipeE; rw [List.length_set, wipeE_length env vs]
theorem wipeE_get {env : Evn} : ∀ {vs : List Nat} {i : Nat} {x : SL}, (wipeE env vs)[i]? = some x → x = .no ∨ (env[i]? = some x ∧ i ∉ vs)
  | [], i, x, h => .inr ⟨h, by simp⟩
  | v :: vs, i, x, h => by
    unfold wipeE at h
    by_cases q : v = i
    · subst q
      by_cases hl : v < (wipeE env vs).length
      · rw [List.getElem?_set_self hl] at h; cases h; exact .inl rfl
      · rw [List.getElem?_eq_none (by rw [List.length_set]; omega)] at h; cases h
    · rw [List.getElem?_set_ne q] at h
      rcases wipeE_get h with z | ⟨z, z'⟩
      · exact .inl z
      · exact .inr ⟨z, by simp only [List.mem_cons, not_or]; exact ⟨fun w => q w.symm, z'⟩⟩
theorem SR.wiped {G0 B G H : Hp} {σ : St} (s : SR K G0 B G H σ env) (vs : List Nat) : SR K G0 B G H (wipe σ vs) (wipeE env vs) :=
  s.forget (by rw [wipe_length, wipeE_length, s.len]) fun i x h => by
    rcases wipeE_get h with z | ⟨z, z'⟩
    · exact .inl z
    · exact .inr ⟨z, by rw [wipe_get, if_neg (fun w => z' w.1)]⟩
/-- an address that is neither the base's, nor shared, nor a slot's is written -/
theorem SR.aside {G0 B G H : Hp} {σ : St} {p : Addr} {o : HO} (s : SR K G0 B G H σ env) (hb : B p = none) (hg : G p = none) (ho : ¬ ownAt σ env p) : SR K G0 B G (upd H p o) σ env :=
  ⟨⟨s.fm.g, s.fm.h.mut hb, fun a u q => by rw [upd_ne (ne_of_none q hg)]; exact s.fm.i a u q, s.fm.n⟩, s.len, fun i x q => (s.sl i x q).mono (Ex.refl _) fun hx l u h1 h2 h3 h4 _ => ⟨h2, h3, by
    rw [upd_ne (fun z => ho ⟨i, own_of q hx, by rw [← z]; exact h1⟩)]; exact h4⟩, s.ap⟩
theorem lc_core' {g : TG} {J : It} {n : Nat} {G0 B G H : Hp} {σ : St} {vs : List Nat} {Q : VK} (f : Nat → Bool) (h : Nat → D) (hz : n < sizeLine) (s : SR K G0 B G H σ env)
    (hgo : ∀ i G1 H1, i < n → Ex G G1 → Ex G1 H1 → J.go i H1) (hst : ∀ G1 H1, Ex G G1 → Ex G1 H1 → J.stop n H1)
    (hs : ∀ i G1 H1 x H', i < n → Ex G G1 → Ex G1 H1 → J.yld i H1 x H' → ∃ G2 d, Fm G1 H1 G2 H' ∧ Rp K G2 x d ∧ ∃ env2 js, TGt K g d (wipeE env vs) env2 js ∧ (∀ j ∈ js, j ∈ vs) ∧ EvT K t env2 (f i) ∧ (f i = true → EvD K te env2 (h i)))
    (hq : ∀ p xs G2 H2, Fm G H G2 H2 → H p = none → G2 p = none → H2 p = some (.lst xs) → RpL K G2 xs (((List.range n).filter f).map h) → Q (.ref p) H2) :
    ∀ Dl, H Dl = none → ∃ W : Nat → Nat → Hp → Prop, (∃ m, W 0 m (upd H Dl (.lst []))) ∧ ∀ i m H, W i m H →
      (J.stop i H ∧ Q (.ref Dl) H) ∨ (J.go i H ∧ ∃ Nx : Hp → Prop, (∀ H', Nx H' → ∃ m', m' < m ∧ W (i + 1) m' H') ∧ ∀ x H', J.yld i H x H' → g x (wipe σ vs) H' fun σ2 H2 => wipe σ2 vs = wipe σ vs ∧ t σ2 H2 fun b H3 =>
        if b = true then te σ2 H3 fun y H4 => ∃ acc, H4 Dl = some (.lst acc) ∧ acc.length < sizeLine ∧ Nx (upd H4 Dl (.lst (acc ++ [y]))) else Nx H3) := by
  intro Dl hD
  have hno : ∀ {σ' : St} {env' : Evn} {G0 B G : Hp}, SR K G0 B G H σ' env' → ¬ ownAt σ' env' Dl := fun s z => by
    obtain ⟨_, _, u, hu, _⟩ := s.own_ z
    rw [hD] at hu; cases hu
  have sw := (s.wiped vs).rebase.2
  have nO := hno (s.wiped vs)
  have hB : bare H (wipe σ vs) (wipeE env vs) Dl = none := by rw [bare_not nO]; exact hD
  refine ⟨fun i m H' => m = n - i ∧ i ≤ n ∧ ∃ G' acc, SR K G (bare H (wipe σ vs) (wipeE env vs)) G' H' (wipe σ vs) (wipeE env vs) ∧ Fm G H G' H' ∧ G' Dl = none ∧ H' Dl = some (.lst acc) ∧ RpL K G' acc (((List.range i).filter f).map h), ⟨n, by simp, Nat.zero_le _, G, [], sw.aside hB (s.i.back hD) nO, Fm.own s.i hD, s.i.back hD, upd_same, .nil⟩, ?_⟩
  rintro i m H' ⟨rfl, hi, G', acc, s', fm, gD, aD, rD⟩
  by_cases hlt : i < n
  · refine .inr ⟨hgo i G' H' hlt fm.g fm.i, fun H2 => ∃ G2 acc, SR K G (bare H (wipe σ vs) (wipeE env vs)) G2 H2 (wipe σ vs) (wipeE env vs) ∧ Fm G H G2 H2 ∧ G2 Dl = none ∧ H2 Dl = some (.lst acc) ∧ RpL K G2 acc (((List.range (i + 1)).filter f).map h), fun H2 ⟨G2, acc2, z⟩ => ⟨n - (i + 1), by omega, rfl, hlt, G2, acc2, z⟩, fun x Hy y => ?_⟩
    obtain ⟨Gy, dx, fy, ry, env2, js, hg, hjs, ht, he⟩ := hs i G' H' x Hy hlt fm.g fm.i y
    have sy := s'.fwd fy
    refine hg G _ Gy Hy (wipe σ vs) x sy ry _ fun σ2 s2 w2 => ⟨by rw [w2 vs hjs, wipe_wipe], ?_⟩
    refine ht G _ Gy Hy σ2 s2 _ fun G3 H3 f3 => ?_
    have fy3 := fy.trans f3
    have gD3 : G3 Dl = none := fy3.n Dl _ aD rfl gD
    have aD3 := fy3.h Dl _ aD
    cases hf : f i with
    | true =>
      rw [if_pos rfl]
      refine he hf G _ G3 H3 σ2 (s2.fwd f3) _ fun v G4 H4 f4 r4 => ⟨acc, f4.h Dl _ aD3, ?_, G4, acc ++ [v], ?_, ?_, f4.n Dl _ aD3 rfl gD3, upd_same, ?_⟩
      · have : acc.length ≤ i := by
          rw [rD.length, List.length_map]
          have := List.length_filter_le f (List.range i)
          rw [List.length_range] at this; exact this
        omega
      · exact (sy.fwd (f3.trans f4)).aside hB (f4.n Dl _ aD3 rfl gD3) nO
      · have q := fm.trans (fy3.trans f4)
        refine ⟨q.g, q.h.mut hD, fun a u z => ?_, q.n⟩
        rw [upd_ne (ne_of_none z (f4.n Dl _ aD3 rfl gD3))]; exact q.i a u z
      · rw [List.range_succ, List.filter_append, List.map_append]
        have e1 : ([i].filter f).map h = [h i] := by simp [hf]
        rw [e1]
        exact (rD.up (fy3.trans f4).g).app (.cons r4 .nil)
    | false =>
      rw [if_neg Bool.false_ne_true]
      refine ⟨G3, acc, sy.fwd f3, fm.trans fy3, gD3, aD3, ?_⟩
      rw [List.range_succ, List.filter_append, List.map_append]
      have e1 : ([i].filter f).map h = [] := by simp [hf]
      rw [e1, List.append_nil]
      exact rD.up fy3.g
  · have e1 : i = n := by omega
    subst e1
    exact .inl ⟨hst G' H' fm.g fm.i, hq Dl acc G' H' fm hD gD aD rD⟩
/-- what a comprehension gives -/
theorem range_map {α β : Type} (f : α → Bool) (h : α → β) (xs : List α) (d : α) : ((List.range xs.length).filter fun i => f (xs.getD i d)).map (fun i => h (xs.getD i d)) = (xs.filter f).map h := by
  induction xs with
  | nil => rfl
  | cons x xs ih =>
    rw [List.length_cons, List.range_succ_eq_map, List.filter_cons]
    have e : (List.filter (fun i => f ((x :: xs).getD i d)) (List.map Nat.succ (List.range xs.length))).map (fun i => h ((x :: xs).getD i d)) = (xs.filter f).map h := by
      rw [← ih, List.filter_map, List.map_map]; rfl
    cases q : f x with
    | true => simp only [List.getD_cons_zero, q, if_true, List.map_cons, e, List.filter_cons]
    | false => simp only [List.getD_cons_zero, q, List.filter_cons]; simpa using e
theorem evn_lcL {tl : TE} {g : TG} {vs : List Nat} {ds : List D} (f : D → Bool) (h : D → D) (hl : EvD K tl env (.list ds)) (hz : ds.length < sizeLine)
    (hs : ∀ x, x ∈ ds → ∃ env2 js, TGt K g x (wipeE env vs) env2 js ∧ (∀ j ∈ js, j ∈ vs) ∧ EvT K t env2 (f x) ∧ (f x = true → EvD K te env2 (h x))) :
    EvN K (tLc (iList K tl) g t te vs) env ((ds.filter f).map h) := fun G0 B G H σ s Q q =>
  hl G0 B G H σ s _ fun v G2 H2 fm r => by
    cases r with
    | @lst a xs _ h1 h2 =>
      refine ⟨a, rfl, ⟨xs, SqL.of (fm.i _ _ h1)⟩, lc_core' (n := ds.length) (fun i => f (ds.getD i .none)) (fun i => h (ds.getD i .none)) hz (s.fwd fm) (fun i G1 H1 hi e1 e2 => ?_) (fun G1 H1 e1 e2 => ⟨xs, SqL.of (e2 _ _ (e1 _ _ h1)), by rw [h2.length]; exact Nat.le_refl _⟩) (fun i G1 H1 x H' hi e1 e2 y => ?_) (fun p ys G3 H3 f3 g1 g2 g3 g4 => q p ys G3 H3 (fm.trans f3) (fm.h.back g1) g2 g3 (by rw [range_map] at g4; exact g4))⟩
      · obtain ⟨v, g1, _⟩ := h2.get (List.getElem?_eq_getElem hi)
        exact ⟨xs, v, SqL.of (e2 _ _ (e1 _ _ h1)), g1⟩
      · obtain ⟨rfl, y⟩ := y
        have hx := y xs (SqL.of (e2 _ _ (e1 _ _ h1)))
        obtain ⟨d, g1, g2⟩ := h2.getV hx
        have ed : ds.getD i .none = d := by rw [List.getD_eq_getElem?_getD, g1]; rfl
        obtain ⟨env2, js, k1, k2, k3, k4⟩ := hs d (List.mem_of_getElem? g1)
        exact ⟨G1, d, Fm.refl e2, g2.up e1, env2, js, k1, k2, by rw [ed]; exact k3, by rw [ed]; exact k4⟩
theorem evn_lcT {tl : TE} {g : TG} {vs : List Nat} {ds : List D} (f : D → Bool) (h : D → D) (hl : EvD K tl env (.tuple ds)) (hz : ds.length < sizeLine)
    (hs : ∀ x, x ∈ ds → ∃ env2 js, TGt K g x (wipeE env vs) env2 js ∧ (∀ j ∈ js, j ∈ vs) ∧ EvT K t env2 (f x) ∧ (f x = true → EvD K te env2 (h x))) :
    EvN K (tLc (iTup K tl) g t te vs) env ((ds.filter f).map h) := fun G0 B G H σ s Q q =>
  hl G0 B G H σ s _ fun v G2 H2 fm r => by
    cases r with
    | @tup a xs _ h1 h2 =>
      refine ⟨a, rfl, ⟨xs, ex_t fm.i h1⟩, lc_core' (n := ds.length) (fun i => f (ds.getD i .none)) (fun i => h (ds.getD i .none)) hz (s.fwd fm) (fun i G1 H1 hi e1 e2 => ?_) (fun G1 H1 e1 e2 => ⟨xs, ex_t (e1.trans e2) h1, by rw [h2.length]; exact Nat.le_refl _⟩) (fun i G1 H1 x H' hi e1 e2 y => ?_) (fun p ys G3 H3 f3 g1 g2 g3 g4 => q p ys G3 H3 (fm.trans f3) (fm.h.back g1) g2 g3 (by rw [range_map] at g4; exact g4))⟩
      · obtain ⟨v, g1, _⟩ := h2.get (List.getElem?_eq_getElem hi)
        exact ⟨xs, v, ex_t (e1.trans e2) h1, g1⟩
      · obtain ⟨rfl, y⟩ := y
        have hx := y xs (ex_t (e1.trans e2) h1)
        obtain ⟨d, g1, g2⟩ := h2.getV hx
        have ed : ds.getD i .none = d := by rw [List.getD_eq_getElem?_getD, g1]; rfl
        obtain ⟨env2, js, k1, k2, k3, k4⟩ := hs d (List.mem_of_getElem? g1)
        exact ⟨G1, d, Fm.refl e2, g2.up e1, env2, js, k1, k2, by rw [ed]; exact k3, by rw [ed]; exact k4⟩
theorem evn_lcR1 {ta : TA} {g : TG} {vs : List Nat} {n : Int} (f : Int → Bool) (h : Int → D) (hl : EvA K ta env [.int n]) (hz : n < 16777216)
    (hs : ∀ i : Nat, i < n.toNat → ∃ env2 js, TGt K g (.int (i : Int)) (wipeE env vs) env2 js ∧ (∀ j ∈ js, j ∈ vs) ∧ EvT K t env2 (f (i : Int)) ∧ (f (i : Int) = true → EvD K te env2 (h (i : Int)))) (hn : -(2 ^ 62) ≤ n := by omega) :
    EvN K (tLc (iRng1 ta) g t te vs) env (((List.range n.toNat).filter fun (i : Nat) => f (i : Int)).map fun (i : Nat) => h (i : Int)) := fun G0 B G H σ s Q q =>
  hl G0 B G H σ s _ fun ws G2 H2 fm r => by
    cases r with
    | cons r1 r2 =>
      cases r1; cases r2
      have hsz := sizeLine_eq
      refine ⟨n, rfl, hn, by omega, lc_core' (n := n.toNat) (fun i => f (i : Int)) (fun i => h (i : Int)) (by omega) (s.fwd fm) (fun i G1 H1 hi e1 e2 => hi) (fun G1 H1 e1 e2 => Nat.le_refl _) (fun i G1 H1 x H' hi e1 e2 y => ?_) (fun p ys G3 H3 f3 g1 g2 g3 g4 => q p ys G3 H3 (fm.trans f3) (fm.h.back g1) g2 g3 g4)⟩
      obtain ⟨rfl, rfl⟩ := y
      obtain ⟨env2, js, k1, k2, k3, k4⟩ := hs i hi
      exact ⟨G1, .int (0 + (i : Int)), Fm.refl e2, .int _, env2, js, by rw [Int.zero_add]; exact k1, k2, k3, k4⟩
theorem evn_lcR2 {ta : TA} {g : TG} {vs : List Nat} {lo hi : Int} (f : Int → Bool) (h : Int → D) (hl : EvA K ta env [.int lo, .int hi]) (hz : -(2 ^ 62) ≤ lo ∧ lo < 2 ^ 62 ∧ -(2 ^ 62) ≤ hi ∧ hi < 2 ^ 62 ∧ hi - lo < 16777216)
    (hs : ∀ i : Nat, i < (hi - lo).toNat → ∃ env2 js, TGt K g (.int (lo + (i : Int))) (wipeE env vs) env2 js ∧ (∀ j ∈ js, j ∈ vs) ∧ EvT K t env2 (f (lo + (i : Int))) ∧ (f (lo + (i : Int)) = true → EvD K te env2 (h (lo + (i : Int))))) :
    EvN K (tLc (iRng2 ta) g t te vs) env (((List.range (hi - lo).toNat).filter fun (i : Nat) => f (lo + (i : Int))).map fun (i : Nat) => h (lo + (i : Int))) := fun G0 B G H σ s Q q =>
  hl G0 B G H σ s _ fun ws G2 H2 fm r => by
    cases r with
    | cons r1 r2 => cases r2 with
      | cons r2 r3 =>
        cases r1; cases r2; cases r3
        have hsz := sizeLine_eq
        refine ⟨lo, hi, rfl, ⟨hz.1, hz.2.1, hz.2.2.1, hz.2.2.2.1⟩, lc_core' (n := (hi - lo).toNat) (fun i => f (lo + (i : Int))) (fun i => h (lo + (i : Int))) (by omega) (s.fwd fm) (fun i G1 H1 hi e1 e2 => hi) (fun G1 H1 e1 e2 => Nat.le_refl _) (fun i G1 H1 x H' hi e1 e2 y => ?_) (fun p ys G3 H3 f3 g1 g2 g3 g4 => q p ys G3 H3 (fm.trans f3) (fm.h.back g1) g2 g3 g4)⟩
        obtain ⟨rfl, rfl⟩ := y
        obtain ⟨env2, js, k1, k2, k3, k4⟩ := hs i hi
        exact ⟨G1, _, Fm.refl e2, .int _, env2, js, k1, k2, k3, k4⟩
theorem et_yes : EvT K tYes env true := fun G0 B G H σ s Q q => q G H (Fm.refl s.i)

/-! ### functions -/
inductive Res where
  | ok (d : D)
  | err (x : Str)
/-- a contract: arguments, result -/
abbrev Ct := List D → Res → Prop
def spD (K : Fg) (mg : Str → Option Value) (P : Ct) : Sp := fun vs H Q E => ∃ G ds r, Ex G H ∧ RpL K G vs ds ∧ P ds r ∧
  (∀ d, r = .ok d → ∀ v G2 H2, Fm G H G2 H2 → Rp K G2 v d → Q v H2) ∧ (∀ x, r = .err x → ∀ C G2 H2, mg x = some (.ref C) → Fm G H G2 H2 → E (.ref C) none H2)
theorem ev_call {P : Ct} {ta : TA} {as : List D} (h : EvA K ta env as) (hp : P as (.ok d)) : EvD K (tCall (spD K mg P) [] E ta) env d := fun G0 B G H σ s Q q =>
  h G0 B G H σ s _ fun vs G1 H1 f1 r1 => ⟨G1, as, .ok d, f1.i, by rw [List.append_nil]; exact r1, hp, fun d' e v G2 H2 f2 r2 => by cases e; exact q v G2 H2 (f1.trans f2) r2, fun x e => nomatch e⟩
/-- an expression that raises -/
def EvX (K : Fg) (mg : Str → Option Value) (E : XK) (te : TE) (env : Evn) (x : Str) : Prop := ∀ G0 B G H σ, SR K G0 B G H σ env → (∀ C G2 H2, mg x = some (.ref C) → Fm G H G2 H2 → E (.ref C) none H2) → ∀ Q : VK, te σ H Q
theorem ex_call {P : Ct} {ta : TA} {as : List D} {x : Str} (h : EvA K ta env as) (hp : P as (.err x)) : EvX K mg E (tCall (spD K mg P) [] E ta) env x := fun G0 B G H σ s k Q =>
  h G0 B G H σ s _ fun vs G1 H1 f1 r1 => ⟨G1, as, .err x, f1.i, by rw [List.append_nil]; exact r1, hp, fun d' e => (nomatch e), fun x' e C G2 H2 m f2 => by cases e; exact k C G2 H2 m (f1.trans f2)⟩
theorem sd_dropX {x : Str} (h : EvX K mg E te env x) (k : e.ex x) : SD K mg E (tDrop te) env e := fun G0 B G H σ Dd s q => h G0 B G H σ s (fun C G2 H2 m f => q.ex G2 H2 x C m (s.fm.trans f) k) _
theorem sd_asgX {x : Str} {g : TG} (h : EvX K mg E te env x) (k : e.ex x) : SD K mg E (tAsg te g) env e := fun G0 B G H σ Dd s q => h G0 B G H σ s (fun C G2 H2 m f => q.ex G2 H2 x C m (s.fm.trans f) k) _
theorem sd_retX {x : Str} (h : EvX K mg E te env x) (k : e.ex x) : SD K mg E (tRet te) env e := fun G0 B G H σ Dd s q => h G0 B G H σ s (fun C G2 H2 m f => q.ex G2 H2 x C m (s.fm.trans f) k) _
/-- raise X('..') -/
def tRz (E : XK) (mg : Str → Option Value) (x : Str) : TS := fun _ _ H => ∀ C, mg x = some (.ref C) → E (.ref C) none H
theorem sd_raise {x : Str} (k : e.ex x) : SD K mg E (tRz E mg x) env e := fun G0 B G H σ Dd s q C m => q.ex G H x C m s.fm k
def startE (N : List Str) (ds : List D) : Evn := ds.map SL.dat ++ List.replicate (N.length - ds.length) SL.no
theorem sr_start {G H : Hp} {N : List Str} {vs : List V} {ds : List D} (e : Ex G H) (r : RpL K G vs ds) : SR K G H G H (L2.start N vs) (startE N ds) := by
  have hl := r.length
  refine ⟨Fm.refl e, by simp [L2.start, startE, hl], fun i x q => ?_, fun i j l _ oi _ _ => ?_⟩
  · unfold startE at q
    by_cases hi : i < ds.length
    · rw [List.getElem?_append_left (by simpa using hi), List.getElem?_map] at q
      cases z : ds[i]? with
      | none => rw [z] at q; cases q
      | some dd =>
        rw [z] at q
        cases q
        obtain ⟨v, h1, h2⟩ := r.get z
        refine slOk_dat (v := v) ?_ h2
        unfold L2.start
        rw [List.getElem?_append_left (by simp; omega), List.getElem?_map, h1]; rfl
    · rw [List.getElem?_append_right (by simp; omega)] at q
      have := List.getElem?_replicate (n := N.length - ds.length) (a := SL.no) (i := i - (ds.map SL.dat).length)
      rw [this] at q
      split at q
      · cases q; exact slOk_no
      · cases q
  · exfalso
    unfold startE at oi
    by_cases hi : i < ds.length
    · rw [List.getElem?_append_left (by simpa using hi), List.getElem?_map] at oi
      cases z : ds[i]? with
      | none => rw [z] at oi; exact oi
      | some dd => rw [z] at oi; exact nomatch oi
    · rw [List.getElem?_append_right (by simp; omega), List.getElem?_replicate] at oi
      split at oi
      · exact nomatch oi
      · exact oi
/-- what a def's body is to reach -/
def enOf (r : Res) : En := { nx := fun _ => r = .ok .none, rt := fun d => r = .ok d, ex := fun x => r = .err x }
section
variable {P : Program} {w : World} {base : Heap} {x qual : Str} {st : Stmt} {f : Addr} {fd : FuncData} {N ps : List Str} {k : Nat} {C : Ct}
theorem run_sd {ts : TS} {vs : List V} {H : Hp} {Q : VK} (hb : ∀ ds r, C ds r → SD K mg E ts (startE N ds) (enOf r)) (h : spD K mg C vs H Q E) : ts { nx := fun _ H' => Q .non H', rt := Q } (L2.start N vs) H := by
  obtain ⟨G, ds, r, e1, rp, c, h1, h2⟩ := h
  refine hb ds r c G H G H _ _ (sr_start e1 rp) ⟨fun G2 H2 σ env s q => h1 _ q .non G2 H2 s.fm .non, fun G2 H2 v d f r q => h1 d q v G2 H2 f r, fun _ _ _ _ _ q => q.elim, fun _ _ _ _ _ q => q.elim, fun G2 H2 x C m f q => h2 x q C G2 H2 m f⟩
theorem fn_ok (F : Fun K x qual st f fd) (S : FnScope N ps (defScope st)) (len : ∀ ds r, C ds r → ds.length = ps.length)
    (hbody : ∀ (cdv : Value) (A : Around) (outer : List PySem.Env) (s : Shared) (H : Hp) (E : XK), Room k (A.deeper (PyProof.Rows.envOfC qual (defScope st) s.heap.objs.size f cdv)) →
      ∃ t, PSs (cxOf CX0 P w K mg base N qual (defScope st) f cdv A outer s H E).nox (defBody st) t ∧ ∀ ds r, C ds r → SD K mg E t (startE N ds) (enOf r)) : FnOk P w K mg base CX0 (k + 1) f fd ps (spD K mg C) := by
  refine F.ok S (fun vs H Q E h => ?_) fun cdv A outer s H vs Q E hr h => ?_
  · obtain ⟨G, ds, r, e1, rp, c, _⟩ := h
    rw [rp.length]; exact len ds r c
  · obtain ⟨t, h1, h2⟩ := hbody cdv A outer s H E hr
    exact ⟨t, h1, run_sd h2 h⟩
theorem fn_okX (F : Fun K x qual st f fd) (S : FnScope N ps (defScope st)) (len : ∀ ds r, C ds r → ds.length = ps.length)
    (hbody : ∀ (cdv : Value) (A : Around) (outer : List PySem.Env) (s : Shared) (H : Hp) (E : XK), Room k (A.deeper (PyProof.Rows.envOfC qual (defScope st) s.heap.objs.size f cdv)) →
      ∃ t, PSs (cxOf (L2.CX P w) P w K mg base N qual (defScope st) f cdv A outer s H E) (defBody st) t ∧ ∀ ds r, C ds r → SD K mg E t (startE N ds) (enOf r)) : FnOk P w K mg base (L2.CX P w) (k + 1) f fd ps (spD K mg C) := by
  refine F.okX S (fun vs H Q E h => ?_) fun cdv A outer s H vs Q E hr h => ?_
  · obtain ⟨G, ds, r, e1, rp, c, _⟩ := h
    rw [rp.length]; exact len ds r c
  · obtain ⟨t, h1, h2⟩ := hbody cdv A outer s H E hr
    exact ⟨t, h1, run_sd h2 h⟩
end
/-! ### names of the module -/
/-- the def x stands at its name, with its promise -/
def FnH (P : Program) (w : World) (K : Fg) (mg : Str → Option Value) (base : Heap) (x : Str) (CX : CXT) (k : Nat) (ps : List Str) (C : Ct) : Prop :=
  ∃ f fd, FnOk P w K mg base CX k f fd ps (spD K mg C) ∧ mg x = some (.ref f) ∧ PySem.W.keepIn K (.ref f) = true ∧ Binds K fd ps []
end
section
variable {X : Cx} {x : Str} {k : Nat} {ps : List Str} {C : Ct} {p pos : Pos} {e : Expr} {es : List Expr} {t : TA}
/-- f(e, ..), f raises nothing -/
theorem pe_fn (h : FnH X.prog X.w X.K X.mg X.base x CX0 k ps C) (hr : Room k X.A) (hg : Gl X x) (ha : PA X (e :: es) t) (hdb : (x == ("__debug__" : Str)) = false := by decide)
    (he : starEach (e :: es) X.env = (false, eval e X.env) :: starEach es X.env := by rfl) (hpl : (backTo pos (starEach es X.env)).any (·.1) = false := by rfl) :
    PE X (.Call (.Name x p) (e :: es) [] pos) (tCall (spD X.K X.mg C) [] E0 t) := by
  obtain ⟨f, fd, F, m, kp, b⟩ := h
  exact pe_call F hr hg m kp b .nil pass0 ha hdb he hpl
/-- f(e, ..), f may raise, but not here -/
theorem pe_fnN (h : FnH X.prog X.w X.K X.mg X.base x (L2.CX X.prog X.w) k ps C) (hr : Room k X.A) (hg : Gl X x) (ha : PA X (e :: es) t) (hdb : (x == ("__debug__" : Str)) = false := by decide)
    (he : starEach (e :: es) X.env = (false, eval e X.env) :: starEach es X.env := by rfl) (hpl : (backTo pos (starEach es X.env)).any (·.1) = false := by rfl) :
    PE X (.Call (.Name x p) (e :: es) [] pos) (tCall (spD X.K X.mg C) [] E0 t) := by
  obtain ⟨f, fd, F, m, kp, b⟩ := h
  exact pe_call F hr hg m kp b .nil passL ha hdb he hpl
/-- f(e, ..), f may raise, and it leaves this def, too -/
theorem pe_fnX {E : XK} (h : FnH X.prog X.w X.K X.mg X.base x (L2.CX X.prog X.w) k ps C) (hr : Room k X.A) (tk : Takes X (fun cls d _ H => E cls d H)) (hg : Gl X x) (ha : PA X (e :: es) t) (hdb : (x == ("__debug__" : Str)) = false := by decide)
    (he : starEach (e :: es) X.env = (false, eval e X.env) :: starEach es X.env := by rfl) (hpl : (backTo pos (starEach es X.env)).any (·.1) = false := by rfl) :
    PE X (.Call (.Name x p) (e :: es) [] pos) (tCall (spD X.K X.mg C) [] E t) := by
  obtain ⟨f, fd, F, m, kp, b⟩ := h
  exact pe_call F hr hg m kp b .nil (passes_call tk fun _ _ _ _ h => h) ha hdb he hpl
/-- an own exception class -/
def ExcH (K : Fg) (mg : Str → Option Value) (x : Str) : Prop := ∃ C bmB, PySem.W.excIn K C bmB "ValueError.__new__" = true ∧ (∃ B initId, ExcBaseFacts B "ValueError.__new__" initId bmB) ∧ mg x = some (.ref C) ∧ PySem.W.keepIn K (.ref C) = true ∧
  PySem.W.subIn K (.ref C) (.type "BaseException") = some true ∧ PySem.W.typeIn K (.ref C) = some (.type "type")
theorem ps_rz {E : XK} {m : Str} {j : Nat} {p2 pos2 : Pos} (h : ExcH X.K X.mg x) (tk : Takes X (fun cls d _ H => E cls d H)) (hc : X.calm = true) (hg : Gl X x) (hdb : (x == ("__debug__" : Str)) = false := by decide) :
    PS X (.Raise (some (.Call (.Name x p) [.Constant (.str m) j p2] [] pos)) none pos2) (tRz E X.mg x) := by
  obtain ⟨C, bmB, q, ⟨B, iid, F⟩, gC, kC, s1, t1⟩ := h
  have hh := ps_raise (pos := pos2) hc tk (pmk_own (m := m) (j := j) (p := p) (p2 := p2) (pos := pos) F q gC kC (raises_own s1 t1) hg hdb)
  exact ⟨fun pins s σ H D I hw => hh.run pins s σ H D I (hw C gC)⟩
/-- a constant of the module -/
def tGc (K : Fg) (d : D) : TE := fun _ H Q => ∀ v, (∀ H', Rp K H' v d) → Q v H
def GcH (K : Fg) (mg : Str → Option Value) (x : Str) (d : D) : Prop := ∃ v u, mg x = some u ∧ RelV v u ∧ ∀ H, Rp K H v d
theorem pe_gc {d : D} (h : GcH X.K X.mg x d) (hg : Gl X x) (hd : (x == ("__debug__" : Str)) = false := by decide) : PE X (.Name x pos) (tGc X.K d) := by
  obtain ⟨v, u, m, r, q⟩ := h
  have hh := pe_glob (pos := pos) hg m r hd
  exact ⟨fun pins s σ H Q I hw => hh.run pins s σ H Q I (hw v q)⟩
theorem ev_gc {K : Fg} {env : Evn} {d : D} : EvD K (tGc K d) env d := fun G0 B G H σ s Q q v h => q v G H (Fm.refl s.i) (h G)
end
end Ly

namespace Ly
open PySem L2
/-! ### operators whatever the kinds -/
def rAddS : R2 := fun x y H Q => ∃ i j, x = .str i ∧ y = .str j ∧ i.length + j.length ≤ sizeLine ∧ Q (.str (i ++ j)) H
def rAddU (K : Fg) : R2 := fun x y H Q => (rI0 fun i j => .int (i + j)) x y H Q ∨ rAddS x y H Q ∨ rCatA K x y H Q ∨ rCat x y H Q
def rMulU (K : Fg) : R2 := fun x y H Q => (rI CMul fun i j => .int (i * j)) x y H Q ∨ rRep x y H Q ∨ rRepT K x y H Q
/-- the order of tuples of ints -/
def lexC (op : Int → Int → Bool) (z : Nat → Nat → Bool) : List Int → List Int → Bool
  | x :: xs, y :: ys => if x = y then lexC op z xs ys else op x y
  | xs, ys => z xs.length ys.length
theorem lexC_at (op : Int → Int → Bool) (z : Nat → Nat → Bool) (hz : ∀ a b, z (a + 1) (b + 1) = z a b) : ∀ (ns ms : List Int), Ob.lexAt (fun j => decide (ns.getD j 0 = ms.getD j 0)) (fun j => op (ns.getD j 0) (ms.getD j 0)) (z ns.length ms.length) 0 (min ns.length ms.length) = lexC op z ns ms := by
  have gen : ∀ (e r : Nat → Bool) (b : Bool) (n i : Nat), Ob.lexAt e r b (i + 1) n = Ob.lexAt (fun j => e (j + 1)) (fun j => r (j + 1)) b i n := by
    intro e r b n
    induction n with
    | zero => intro i; rfl
    | succ n ih =>
      intro i
      show (if e (i + 1) = true then Ob.lexAt e r b (i + 1 + 1) n else r (i + 1)) = (if e (i + 1) = true then Ob.lexAt (fun j => e (j + 1)) (fun j => r (j + 1)) b (i + 1) n else r (i + 1))
      rw [ih (i + 1)]
  intro ns
  induction ns with
  | nil => intro ms; rw [List.length_nil, Nat.zero_min]; cases ms <;> rfl
  | cons x xs ih =>
    intro ms
    cases ms with
    | nil => rw [List.length_nil, Nat.min_zero]; rfl
    | cons y ys =>
      have e1 : min (x :: xs).length (y :: ys).length = min xs.length ys.length + 1 := by simp only [List.length_cons]; omega
      rw [e1]
      show (if decide (x = y) = true then Ob.lexAt _ _ _ (0 + 1) _ else op x y) = _
      rw [gen]
      have q := ih ys
      show (if decide (x = y) = true then Ob.lexAt (fun j => decide (xs.getD j 0 = ys.getD j 0)) (fun j => op (xs.getD j 0) (ys.getD j 0)) (z (x :: xs).length (y :: ys).length) 0 (min xs.length ys.length) else op x y) = (if x = y then lexC op z xs ys else op x y)
      rw [List.length_cons, List.length_cons, hz, q]
      by_cases h : x = y
      · rw [if_pos (decide_eq_true h), if_pos h]
      · rw [if_neg (by simpa using h), if_neg h]
abbrev lexLt : List Int → List Int → Bool := lexC (fun a b => decide (a < b)) (fun a b => decide (a < b))
abbrev lexLe : List Int → List Int → Bool := lexC (fun a b => decide (a ≤ b)) (fun a b => decide (a ≤ b))
abbrev lexGt : List Int → List Int → Bool := lexC (fun a b => decide (b < a)) (fun a b => decide (a > b))
abbrev lexGe : List Int → List Int → Bool := lexC (fun a b => decide (b ≤ a)) (fun a b => decide (a ≥ b))
def rTup (K : Fg) (f : List Int → List Int → Bool) : R2 := fun x y H Q => ∃ a b ns ms, x = .ref a ∧ y = .ref b ∧ SqT K H a (ns.map V.int) ∧ SqT K H b (ms.map V.int) ∧ Q (.bl (f ns ms)) H
def rCmpU (K : Fg) (f : Int → Int → Bool) (g : List Int → List Int → Bool) : R2 := fun x y H Q => (rI0 fun i j => .bl (f i j)) x y H Q ∨ rTup K g x y H Q
abbrev rLtU (K : Fg) : R2 := rCmpU K (fun i j => decide (i < j)) lexLt
abbrev rLeU (K : Fg) : R2 := rCmpU K (fun i j => decide (i ≤ j)) lexLe
abbrev rGtU (K : Fg) : R2 := rCmpU K (fun i j => decide (j < i)) lexGt
abbrev rGeU (K : Fg) : R2 := rCmpU K (fun i j => decide (j ≤ i)) lexGe
/-- in, not in: by data, in a list, a tuple; a text in a text -/
def rInU (K : Fg) (neg : Bool) : R2 := fun x y H Q =>
  (∃ d ds, Dp K H x d ∧ (Dp K H y (.list ds) ∨ Dp K H y (.tuple ds)) ∧ SeqAt.shaped d = true ∧ SeqAt.shaped (.list ds) = true ∧ Q (.bl (neg ^^ (ds.any fun z => PyData.eqv z d))) H) ∨
  (∃ i j, x = .str i ∧ y = .str j ∧ Q (.bl (neg ^^ !(Builtin.Str.occurrences j i 0 j.length 1).isEmpty)) H)
section
variable {X : Cx}
theorem op_addU : OpR X (binaryOp .Add) (rAddU X.K) := by
  intro pins s σ H x y v u Q I rx ry h
  rcases h with h | h | h | h
  · exact op_add pins s σ H x y v u Q I rx ry h
  · exact op_add_str pins s σ H x y v u Q I rx ry h
  · exact op_catA pins s σ H x y v u Q I rx ry h
  · exact op_cat pins s σ H x y v u Q I rx ry h
theorem op_mulU : OpR X (binaryOp .Mult) (rMulU X.K) := by
  intro pins s σ H x y v u Q I rx ry h
  rcases h with h | h | h
  · exact op_mul pins s σ H x y v u Q I rx ry h
  · exact op_rep pins s σ H x y v u Q I rx ry h
  · exact op_repT pins s σ H x y v u Q I rx ry h
section
variable {pins : List (Addr × Obj)} {s : Shared} {σ : St} {H : Hp} {a b : Addr} {ns ms : List Int} {Q : VK}
theorem tup_facts (I : Inv X pins σ H s) (ha : SqT X.K H a (ns.map V.int)) : ∃ its : Array Value, s.heap.IsTuple a its ∧ its.size = ns.length ∧ ∀ j (h1 : j < its.size), ∃ t, its[j] = .int (ns.getD j 0) t := by
  obtain ⟨its, r1, p1, _⟩ := I.tuple ha
  have i1 : PyProof.Rows.IntsAre its ns := Vals.ints r1
  exact ⟨its.toArray, p1, by rw [List.size_toArray]; exact i1.length, fun j h1 => PyProof.Rows.IntsAre.int_at i1 _ _ (by simp at h1; simp [h1])⟩
theorem eq_facts {A : Around} (m n : Int) (t u : Tok) : SeqAt.EqAt A s (.int m t) (.int n u) (decide (m = n)) := by
  have z : (m == n) = decide (m = n) := by
    by_cases q : m = n
    · rw [decide_eq_true q]; exact beq_iff_eq.mpr q
    · rw [decide_eq_false q]; exact beq_eq_false_iff_ne.mpr q
  rw [← z]; exact SeqAt.EqAt.int_int _ _ _ _
end
theorem op_tup {op : CmpOp} {f : Int → Int → Bool} {z : Nat → Nat → Bool} (hz : ∀ a b, z (a + 1) (b + 1) = z a b)
    (main : ∀ {s : Shared} {l b : Addr} {i1 i2 : Array Value} {e r : Nat → Bool}, s.heap.IsTuple l i1 → s.heap.IsTuple b i2 → (∀ j (h1 : j < i1.size) (h2 : j < i2.size), SeqAt.EqAt X.A.in1 s i1[j] i2[j] (e j)) →
      (∀ j (h1 : j < i1.size) (h2 : j < i2.size), e j = false → Ob.RcOp op X.A.in1 s i1[j] i2[j] (r j)) → Ob.RcOp op X.A s (.ref l) (.ref b) (Ob.lexAt e r (z i1.size i2.size) 0 (min i1.size i2.size)))
    (hi : ∀ {s : Shared} (m n : Int) (t u : Tok), Ob.RcOp op X.A.in1 s (.int m t) (.int n u) (f m n)) (hop : compareOp op = richCompare op := by rfl) : OpR X (compareOp op) (rTup X.K (lexC f z)) := by
  intro pins s σ H x y v u Q I rx ry h
  obtain ⟨a, b, ns, ms, rfl, rfl, ha, hb, q⟩ := h
  cases rx; cases ry
  obtain ⟨i1, p1, e1, at1⟩ := tup_facts I ha
  obtain ⟨i2, p2, e2, at2⟩ := tup_facts I hb
  have R := main (e := fun j => decide (ns.getD j 0 = ms.getD j 0)) (r := fun j => f (ns.getD j 0) (ms.getD j 0)) p1 p2 (fun j h1 h2 => by
    obtain ⟨t, et⟩ := at1 j h1
    obtain ⟨t', et'⟩ := at2 j h2
    rw [et, et']; exact eq_facts _ _ _ _) (fun j h1 h2 _ => by
    obtain ⟨t, et⟩ := at1 j h1
    obtain ⟨t', et'⟩ := at2 j h2
    rw [et, et']; exact hi _ _ _ _)
  rw [e1, e2, lexC_at f z hz] at R
  rw [hop]
  exact R X.prog X.w X.xe (EP X pins σ Q) ⟨.bl _, H, I, rfl, q⟩
theorem op_ltU (hu : X.A.units < cLine) : OpR X (compareOp .Lt) (rLtU X.K) := op_lt.or (op_tup (fun a b => by simp) (fun p1 p2 he hr => Ob.RcOp.tuples_lt p1 p2 hu he hr) (fun m n t u => Ob.RcOp.lt_int m n t u))
theorem op_leU (hu : X.A.units < cLine) : OpR X (compareOp .LtE) (rLeU X.K) := op_le.or (op_tup (fun a b => by simp) (fun p1 p2 he hr => Ob.RcOp.tuples_le p1 p2 hu he hr) (fun m n t u => Ob.RcOp.le_int m n t u))
theorem op_gtU (hu : X.A.units < cLine) : OpR X (compareOp .Gt) (rGtU X.K) := op_gt.or (op_tup (fun a b => by simp) (fun p1 p2 he hr => Ob.RcOp.tuples_gt p1 p2 hu he hr) (fun m n t u => Ob.RcOp.gt_int m n t u))
theorem op_geU (hu : X.A.units < cLine) : OpR X (compareOp .GtE) (rGeU X.K) := op_ge.or (op_tup (fun a b => by simp) (fun p1 p2 he hr => Ob.RcOp.tuples_ge p1 p2 hu he hr) (fun m n t u => Ob.RcOp.ge_int m n t u))
theorem op_inU (hu : X.A.units + 65 < cLine) : OpR X (compareOp .In) (rInU X.K false) := by
  intro pins s σ H x y v u Q I rx ry h
  rcases h with ⟨d, ds, hd, he, sd, se, q⟩ | h
  · rw [Bool.false_xor] at q
    obtain ⟨as, r1⟩ := Dp.reads I d x v hd rx
    rcases he with he | he
    · obtain ⟨bs, r2⟩ := Dp.reads I _ y u he ry
      exact SeqAt.in_list_reads r2 r1 (SeqAt.canLay_of_shaped se) (SeqAt.canLay_of_shaped sd) (PyProof.Rows.room_in_shaped sd hu) ⟨.bl _, H, I, rfl, q⟩
    · obtain ⟨bs, r2⟩ := Dp.reads I _ y u he ry
      exact SeqAt.in_tuple_reads r2 r1 (SeqAt.canLay_of_shaped se) (SeqAt.canLay_of_shaped sd) (PyProof.Rows.room_in_shaped sd hu) ⟨.bl _, H, I, rfl, q⟩
  · obtain ⟨i, j, h1, h2, q⟩ := h
    rw [Bool.false_xor] at q
    exact op_in_str pins s σ H x y v u Q I rx ry ⟨i, j, h1, h2, q⟩
theorem op_notInU (hu : X.A.units + 65 < cLine) : OpR X (compareOp .NotIn) (rInU X.K true) := by
  intro pins s σ H x y v u Q I rx ry h
  rcases h with ⟨d, ds, hd, he, sd, se, q⟩ | h
  · rw [Bool.true_xor] at q
    obtain ⟨as, r1⟩ := Dp.reads I d x v hd rx
    rcases he with he | he
    · obtain ⟨bs, r2⟩ := Dp.reads I _ y u he ry
      exact SeqAt.notIn_list_reads r2 r1 (SeqAt.canLay_of_shaped se) (SeqAt.canLay_of_shaped sd) (PyProof.Rows.room_in_shaped sd hu) ⟨.bl _, H, I, rfl, q⟩
    · obtain ⟨bs, r2⟩ := Dp.reads I _ y u he ry
      exact SeqAt.notIn_tuple_reads r2 r1 (SeqAt.canLay_of_shaped se) (SeqAt.canLay_of_shaped sd) (PyProof.Rows.room_in_shaped sd hu) ⟨.bl _, H, I, rfl, q⟩
  · obtain ⟨i, j, h1, h2, q⟩ := h
    rw [Bool.true_xor] at q
    exact op_notin_str pins s σ H x y v u Q I rx ry ⟨i, j, h1, h2, q⟩
/-- slices -/
def rSlU (K : Fg) : V → Option Int → Option Int → Hp → VK → Prop := fun x lo hi H Q => rSlL K x lo hi H Q ∨ rSlA K x lo hi H Q ∨ rSlS x lo hi H Q
theorem sl_U : SlR X (rSlU X.K) := by
  intro pins s σ H x v vl vu lo hi sl Q I rx hs pl pu h
  rcases h with h | h | h
  · exact sl_list pins s σ H x v vl vu lo hi sl Q I rx hs pl pu h
  · exact sl_tupA pins s σ H x v vl vu lo hi sl Q I rx hs pl pu h
  · exact sl_str pins s σ H x v vl vu lo hi sl Q I rx hs pl pu h
end
section
variable {K : Fg} {env : Evn} {te ta tb tc : TE} {t u : TT} {d a b c : D} {mg : Str → Option Value} {E : XK} {e : En} {ts tz tu tw : TS}
theorem ev_addI {i j : Int} (ha : EvD K ta env (.int i)) (hb : EvD K tb env (.int j)) : EvD K (tOp (rAddU K) ta tb) env (.int (i + j)) := ev_op ha hb fun G H x y e hx hy Q q => Or.inl (rd_I0 (fun _ => .int _) G H x y e hx hy Q q)
theorem ev_addS {i j : Str} (ha : EvD K ta env (.str i)) (hb : EvD K tb env (.str j)) (hz : i.length + j.length ≤ sizeLine) : EvD K (tOp (rAddU K) ta tb) env (.str (i ++ j)) := ev_op ha hb fun G H x y e hx hy Q q => by
  cases hx; cases hy
  exact Or.inr (Or.inl ⟨i, j, rfl, rfl, hz, q _ G H (Fm.refl e) (.str _)⟩)
theorem ev_addT {xs ys : List D} (ha : EvD K ta env (.tuple xs)) (hb : EvD K tb env (.tuple ys)) (hz : xs.length + ys.length ≤ sizeLine) : EvD K (tOp (rAddU K) ta tb) env (.tuple (xs ++ ys)) := ev_op ha hb fun G H x y e hx hy Q q => by
  cases hx with
  | @tup _ vs _ h1 h2 => cases hy with
    | @tup _ ws _ g1 g2 =>
      have f1 := h2.length
      have f2 := g2.length
      refine Or.inr (Or.inr (Or.inl ⟨_, _, _, _, rfl, rfl, ex_t e h1, ex_t e g1, by omega, fun z => ?_, fun _ z => ?_, fun _ _ p hp => ?_⟩))
      · subst z; cases h2; exact q _ G H (Fm.refl e) (.tup g1 g2)
      · subst z; cases g2; rw [List.append_nil] at q; exact q _ G H (Fm.refl e) (.tup h1 h2)
      · have f := Fm.new (o := .tup (vs ++ ws)) e hp
        exact q _ _ _ f (.tup (SqT.of upd_same) ((h2.up f.g).app (g2.up f.g)))
theorem evn_addL {xs ys : List D} (ha : EvD K ta env (.list xs)) (hb : EvD K tb env (.list ys)) (hz : xs.length + ys.length ≤ sizeLine) : EvN K (tOp (rAddU K) ta tb) env (xs ++ ys) := evn_op ha hb fun G H x y e hx hy Q q => by
  cases hx with
  | lst h1 h2 => cases hy with
    | lst g1 g2 =>
      have f1 := h2.length
      have f2 := g2.length
      exact Or.inr (Or.inr (Or.inr ⟨_, _, _, _, rfl, rfl, e _ _ h1, e _ _ g1, by omega, fun p hp => q p _ G _ (Fm.own e hp) hp (e.back hp) upd_same (h2.app g2)⟩))
theorem ev_addL {xs ys : List D} (ha : EvD K ta env (.list xs)) (hb : EvD K tb env (.list ys)) (hz : xs.length + ys.length ≤ sizeLine) : EvD K (tOp (rAddU K) ta tb) env (.list (xs ++ ys)) := ev_ofN (evn_addL ha hb hz)
theorem ev_mulI {i j : Int} (ha : EvD K ta env (.int i)) (hb : EvD K tb env (.int j)) (hc : CMul i j) : EvD K (tOp (rMulU K) ta tb) env (.int (i * j)) := ev_op ha hb fun G H x y e hx hy Q q => Or.inl (rd_I hc (fun _ => .int _) G H x y e hx hy Q q)
theorem RpL.rep {H : Hp} {vs : List V} {ds : List D} (h : RpL K H vs ds) : ∀ n : Nat, RpL K H (List.replicate n vs).flatten (List.replicate n ds).flatten
  | 0 => .nil
  | n + 1 => by rw [List.replicate_succ, List.replicate_succ, List.flatten_cons, List.flatten_cons]; exact h.app (RpL.rep h n)
theorem evn_mulL {xs : List D} {k : Int} (ha : EvD K ta env (.list xs)) (hb : EvD K tb env (.int k)) (h1 : -(2 ^ 63) ≤ k ∧ k < 2 ^ 63) (hz : xs.length * k.toNat ≤ sizeLine) : EvN K (tOp (rMulU K) ta tb) env (List.replicate k.toNat xs).flatten := evn_op ha hb fun G H x y e hx hy Q q => by
  cases hx with
  | lst g1 g2 =>
    cases hy
    have f1 := g2.length
    exact Or.inr (Or.inl ⟨_, k, _, rfl, rfl, e _ _ g1, h1.1, h1.2, by rw [f1]; exact hz, fun p hp => q p _ G _ (Fm.own e hp) hp (e.back hp) upd_same (g2.rep _)⟩)
theorem ev_mulT {xs : List D} {k : Int} (ha : EvD K ta env (.tuple xs)) (hb : EvD K tb env (.int k)) (h1 : 2 ≤ k ∧ k ≤ 1000) (h2 : xs ≠ []) (hz : xs.length ≤ 1000) : EvD K (tOp (rMulU K) ta tb) env (.tuple (List.replicate k.toNat xs).flatten) := ev_op ha hb fun G H x y e hx hy Q q => by
  cases hx with
  | @tup _ vs _ g1 g2 =>
    cases hy
    have f1 := g2.length
    refine Or.inr (Or.inr ⟨_, k, _, rfl, rfl, ex_t e g1, fun z => h2 (by subst z; cases g2; rfl), h1.1, h1.2, by omega, fun p hp => ?_⟩)
    have f := Fm.new (o := .tup (List.replicate k.toNat vs).flatten) e hp
    exact q _ _ _ f (.tup (SqT.of upd_same) ((g2.up f.g).rep _))
/-! comparisons -/
theorem rd_cmpI {f : Int → Int → Bool} {g : List Int → List Int → Bool} {i j : Int} : RD K (rCmpU K f g) (.int i) (.int j) (.bool (f i j)) := fun G H x y e hx hy Q q => Or.inl (rd_I0 (fun _ => .bl _) G H x y e hx hy Q q)
def itup (ns : List Int) : D := .tuple (ns.map .int)
theorem rd_cmpT {f : Int → Int → Bool} {g : List Int → List Int → Bool} {ns ms : List Int} : RD K (rCmpU K f g) (itup ns) (itup ms) (.bool (g ns ms)) := fun G H x y e hx hy Q q => by
  cases hx with
  | tup h1 h2 => cases hy with
    | tup g1 g2 =>
      rw [h2.ints] at h1
      rw [g2.ints] at g1
      exact Or.inr ⟨_, _, ns, ms, rfl, rfl, ex_t e h1, ex_t e g1, q _ G H (Fm.refl e) (.bl _)⟩
/-- in -/
def inD (x : D) (ds : List D) : Bool := ds.any fun z => eqD z x
theorem toPys_any (x : D) : ∀ ds : List D, ((toPys ds).any fun z => PyData.eqv z (toPy x)) = inD x ds
  | [] => by simp [toPys, inD]
  | d :: ds => by
    have ih := toPys_any x ds
    simp only [toPys, List.any_cons, inD, eqD] at ih ⊢
    rw [ih]
theorem rd_inL {neg : Bool} {ds : List D} (ha : shp a = true) (hb : shp (.list ds) = true) : RD K (rInU K neg) a (.list ds) (.bool (neg ^^ inD a ds)) := fun G H x y e hx hy Q q => by
  refine Or.inl ⟨toPy a, toPys ds, Rp.dp _ _ (SeqAt.canLay_of_shaped ha) (hx.up e), Or.inl ?_, ha, ?_, ?_⟩
  · have z := Rp.dp _ _ (SeqAt.canLay_of_shaped hb) (hy.up e)
    rw [toPy] at z; exact z
  · have z := hb
    rw [shp, toPy] at z; exact z
  · rw [toPys_any]; exact q _ G H (Fm.refl e) (.bl _)
theorem shp_tl {ds : List D} : shp (.tuple ds) = shp (.list ds) := by
  have h1 : (PyData.tuple (toPys ds)).canLay0 = (PyData.list (toPys ds)).canLay0 := by simp only [PyData.canLay0]
  have h2 : (PyData.tuple (toPys ds)).depth = (PyData.list (toPys ds)).depth := by simp only [PyData.depth]
  unfold shp SeqAt.shaped
  rw [toPy, toPy, h1, h2]
theorem rd_inT {neg : Bool} {ds : List D} (ha : shp a = true) (hb : shp (.tuple ds) = true) : RD K (rInU K neg) a (.tuple ds) (.bool (neg ^^ inD a ds)) := fun G H x y e hx hy Q q => by
  refine Or.inl ⟨toPy a, toPys ds, Rp.dp _ _ (SeqAt.canLay_of_shaped ha) (hx.up e), Or.inr ?_, ha, ?_, ?_⟩
  · have z := Rp.dp _ _ (SeqAt.canLay_of_shaped hb) (hy.up e)
    rw [toPy] at z; exact z
  · have z := hb
    rw [shp_tl, shp, toPy] at z; exact z
  · rw [toPys_any]; exact q _ G H (Fm.refl e) (.bl _)
/-! not, by truth -/
theorem ev_notT (h : EvD K ta env a) (hs : okStr a = true := by rfl) : EvD K (tNotT K ta) env (.bool (!truD a)) := fun G0 B G H σ s Q q =>
  h G0 B G H σ s _ fun v G1 H1 f1 r1 => ⟨truD a, tru_rp f1.i r1 hs, q _ G1 H1 f1 (.bl _)⟩
/-! slices -/
def cutD (xs : List D) (lo hi : Option Int) : List D := (xs.drop (HT.sIx xs.length 0 lo)).take (HT.sIx xs.length xs.length hi - HT.sIx xs.length 0 lo)
theorem RpL.cut {H : Hp} {vs : List V} {ds : List D} (h : RpL K H vs ds) (lo hi : Option Int) : RpL K H (cutV vs lo hi) (cutD ds lo hi) := by
  unfold cutV cutD
  rw [h.length]
  exact (h.drop _).take _
theorem eo_none : EvO K tNoPart env none := fun G0 B G H σ s Q q => q G H (Fm.refl s.i)
theorem eo_some {i : Int} (h : EvD K te env (.int i)) : EvO K (tPart te) env (some i) := fun G0 B G H σ s Q q => h G0 B G H σ s _ fun v G1 H1 f1 r1 => by
  cases r1; exact ⟨i, rfl, q G1 H1 f1⟩
theorem evn_slL {tl th : TO} {xs : List D} {lo hi : Option Int} (h : EvD K te env (.list xs)) (h1 : EvO K tl env lo) (h2 : EvO K th env hi) : EvN K (tSl (rSlU K) te tl th) env (cutD xs lo hi) := fun G0 B G H σ s Q q =>
  h G0 B G H σ s _ fun v G1 H1 f1 r1 => h1 G0 B G1 H1 σ (s.fwd f1) _ fun G2 H2 f2 => h2 G0 B G2 H2 σ ((s.fwd f1).fwd f2) _ fun G3 H3 f3 => by
    have f13 := (f1.trans f2).trans f3
    cases r1 with
    | lst g1 g2 => exact Or.inl ⟨_, _, rfl, SqL.of (f3.h _ _ (f2.h _ _ (f1.i _ _ g1))), fun p hp => q p _ G3 _ (f13.trans (Fm.own f3.i hp)) (f13.h.back hp) (f3.i.back hp) upd_same ((g2.up (f2.trans f3).g).cut lo hi)⟩
theorem ev_slL {tl th : TO} {xs : List D} {lo hi : Option Int} (h : EvD K te env (.list xs)) (h1 : EvO K tl env lo) (h2 : EvO K th env hi) : EvD K (tSl (rSlU K) te tl th) env (.list (cutD xs lo hi)) := ev_ofN (evn_slL h h1 h2)
theorem ev_slT {tl th : TO} {xs : List D} {lo hi : Option Int} (h : EvD K te env (.tuple xs)) (h1 : EvO K tl env lo) (h2 : EvO K th env hi) : EvD K (tSl (rSlU K) te tl th) env (.tuple (cutD xs lo hi)) := fun G0 B G H σ s Q q =>
  h G0 B G H σ s _ fun v G1 H1 f1 r1 => h1 G0 B G1 H1 σ (s.fwd f1) _ fun G2 H2 f2 => h2 G0 B G2 H2 σ ((s.fwd f1).fwd f2) _ fun G3 H3 f3 => by
    have f13 := (f1.trans f2).trans f3
    cases r1 with
    | @tup _ vs _ g1 g2 =>
      refine Or.inr (Or.inl ⟨_, _, rfl, ex_t ((f1.i.trans f2.h).trans f3.h) g1, fun z => ?_, fun z p hp => ?_⟩)
      · refine q _ G3 H3 f13 ?_
        have e1 : cutD xs lo hi = xs := by
          have hl := g2.length
          unfold cutD
          rw [hl] at z
          rw [z.1, z.2, List.drop_zero, Nat.sub_zero, List.take_length]
        rw [e1]
        exact .tup (ex_t (f2.trans f3).g g1) (g2.up (f2.trans f3).g)
      · have f := Fm.new (o := .tup (cutV vs lo hi)) f3.i hp
        exact q _ _ _ (f13.trans f) (.tup (SqT.of upd_same) (((g2.up (f2.trans f3).g).up f.g).cut lo hi))
end
end Ly

namespace Ly
open PySem L2
/-! ### built-in names -/
theorem b_isinstance : bootBuiltins "isinstance" = some (.builtin "isinstance") := by decide +kernel
theorem b_len : bootBuiltins "len" = some (.builtin "len") := by decide +kernel
theorem b_max : bootBuiltins "max" = some (.builtin "max") := by decide +kernel
theorem b_min : bootBuiltins "min" = some (.builtin "min") := by decide +kernel
theorem b_sum : bootBuiltins "sum" = some (.builtin "sum") := by decide +kernel
theorem b_sorted : bootBuiltins "sorted" = some (.builtin "sorted") := by decide +kernel
theorem b_int : bootBuiltins "int" = some (.type "int") := by decide +kernel
theorem b_bool : bootBuiltins "bool" = some (.type "bool") := by decide +kernel
theorem b_str : bootBuiltins "str" = some (.type "str") := by decide +kernel
theorem b_tuple : bootBuiltins "tuple" = some (.type "tuple") := by decide +kernel
theorem b_list : bootBuiltins "list" = some (.type "list") := by decide +kernel
theorem b_set : bootBuiltins "set" = some (.type "set") := by decide +kernel
structure NoB (mg : Str → Option Value) : Prop where
  isinstance_ : mg "isinstance" = none
  len : mg "len" = none
  max_ : mg "max" = none
  min_ : mg "min" = none
  sum_ : mg "sum" = none
  sorted_ : mg "sorted" = none
  int_ : mg "int" = none
  bool_ : mg "bool" = none
  str_ : mg "str" = none
  tuple_ : mg "tuple" = none
  list_ : mg "list" = none
  set_ : mg "set" = none
  range_ : mg "range" = none
  zip_ : mg "zip" = none
  enumerate_ : mg "enumerate" = none
theorem u65 {k : Nat} {A : Around} (hr : Room k A) : A.units + 65 < cLine := by have := hr.un; omega
/-! ### a list or a tuple walked -/
def iSeq (K : Fg) (tl : TE) : TI := fun σ H R => tl σ H fun x H1 => ∃ a, x = .ref a ∧ (((∃ xs, SqL K H1 a xs) ∧ R (Itl K a) H1) ∨ ((∃ xs, SqT K H1 a xs) ∧ R (Itt K a) H1))
theorem pi_seq {X : Cx} {tg l : Expr} {tl : TE} (hl : PE X l tl) : PI X tg l (iSeq X.K tl) := by
  refine ⟨fun pins s σ H R I h => ?_⟩
  refine thn (hl.run pins s σ H _ I h) fun v s1 ⟨x, H1, I1, r1, q1⟩ => ?_
  obtain ⟨a, e, q⟩ := q1
  subst e
  cases r1
  rcases q with ⟨⟨xs, hq⟩, q⟩ | ⟨⟨xs, hq⟩, q⟩
  · obtain ⟨its, rv, p, hz⟩ := I1.list hq
    refine wpAny_pyIter_list p.isList ?_
    refine ⟨s1.heap.objs.size, [s1.heap.objs.size], _, _, H1, rfl, I1.kept (t' := s1.toks) fun b o e => Heap.get?_push_of_some _ e, turn_list a _, ⟨_, Heap.get?_push_size _ rfl, rfl, rfl⟩, fun b hb => ?_, q⟩
    have e : b = s1.heap.objs.size := by simpa using hb
    subst e
    exact I1.fpOk (Nat.le_refl _) (I1.hok.fresh (Nat.le_refl _))
  · obtain ⟨its, rv, p, hz⟩ := I1.tuple hq
    refine wpAny_pyIter_tuple (show s1.heap.IsTuple a its.toArray from p) ?_
    refine ⟨s1.heap.objs.size, [s1.heap.objs.size], _, _, H1, rfl, I1.kept (t' := s1.toks) fun b o e => Heap.get?_push_of_some _ e, turn_tuple a _, ⟨_, Heap.get?_push_size _ rfl, rfl, rfl⟩, fun b hb => ?_, q⟩
    have e : b = s1.heap.objs.size := by simpa using hb
    subst e
    exact I1.fpOk (Nat.le_refl _) (I1.hok.fresh (Nat.le_refl _))
section
variable {K : Fg} {env : Evn} {te ta tb tc : TE} {t u : TT} {d a b c : D} {mg : Str → Option Value} {E : XK} {e : En} {ts tz tu tw : TS}
theorem sd_forS {tl : TE} {g : TG} {tb : TS} {ds : List D} (h : EvD K tl env d) (hd' : seqD d = some ds) (Pv : Nat → Evn → Prop) (h0 : Pv 0 env)
    (hs : ∀ i d env', ds[i]? = some d → Pv i env' → ∃ env2 js, TGt K g d env' env2 js ∧ SD K mg E tb env2 { e with nx := Pv (i + 1), ct := Pv (i + 1), bk := e.nx }) (hd : ∀ env', Pv ds.length env' → e.nx env') :
    SD K mg E (tFor (iSeq K tl) g tb) env e := fun G0 B G H σ Dd s q =>
  h G0 B G H σ s _ fun v G2 H2 f r => by
    cases r with
    | @lst a xs _ h1 h2 =>
      cases hd'
      refine ⟨a, rfl, Or.inl ⟨⟨xs, SqL.of (f.i _ _ h1)⟩, for_core (wi := iList K tl) (n := ds.length) Pv (s.fwd f) q h0 (fun i G1 H1 hi e1 e2 => ?_) (fun G1 H1 e1 e2 => ⟨xs, SqL.of (e2 _ _ (e1 _ _ h1)), by rw [h2.length]; exact Nat.le_refl _⟩) (fun i G1 H1 x H' hi e1 e2 y => ?_) hd⟩⟩
      · obtain ⟨v, g1, _⟩ := h2.get (List.getElem?_eq_getElem hi)
        exact ⟨xs, v, SqL.of (e2 _ _ (e1 _ _ h1)), g1⟩
      · obtain ⟨rfl, y⟩ := y
        have hx := y xs (SqL.of (e2 _ _ (e1 _ _ h1)))
        obtain ⟨d, g1, g2⟩ := h2.getV hx
        exact ⟨G1, d, Fm.refl e2, g2.up e1, fun env' p => hs i d env' g1 p⟩
    | @tup a xs _ h1 h2 =>
      cases hd'
      refine ⟨a, rfl, Or.inr ⟨⟨xs, ex_t f.i h1⟩, for_core (wi := iTup K tl) (n := ds.length) Pv (s.fwd f) q h0 (fun i G1 H1 hi e1 e2 => ?_) (fun G1 H1 e1 e2 => ⟨xs, ex_t (e1.trans e2) h1, by rw [h2.length]; exact Nat.le_refl _⟩) (fun i G1 H1 x H' hi e1 e2 y => ?_) hd⟩⟩
      · obtain ⟨v, g1, _⟩ := h2.get (List.getElem?_eq_getElem hi)
        exact ⟨xs, v, ex_t (e1.trans e2) h1, g1⟩
      · obtain ⟨rfl, y⟩ := y
        have hx := y xs (ex_t (e1.trans e2) h1)
        obtain ⟨d, g1, g2⟩ := h2.getV hx
        exact ⟨G1, d, Fm.refl e2, g2.up e1, fun env' p => hs i d env' g1 p⟩
    | _ => cases hd'
theorem evn_lcS {tl : TE} {g : TG} {vs : List Nat} {ds : List D} (f : D → Bool) (h : D → D) (hl : EvD K tl env d) (hd' : seqD d = some ds) (hz : ds.length < sizeLine)
    (hs : ∀ x, x ∈ ds → ∃ env2 js, TGt K g x (wipeE env vs) env2 js ∧ (∀ j ∈ js, j ∈ vs) ∧ EvT K t env2 (f x) ∧ (f x = true → EvD K te env2 (h x))) :
    EvN K (tLc (iSeq K tl) g t te vs) env ((ds.filter f).map h) := fun G0 B G H σ s Q q =>
  hl G0 B G H σ s _ fun v G2 H2 fm r => by
    cases r with
    | @lst a xs _ h1 h2 =>
      cases hd'
      refine ⟨a, rfl, Or.inl ⟨⟨xs, SqL.of (fm.i _ _ h1)⟩, lc_core' (n := ds.length) (fun i => f (ds.getD i .none)) (fun i => h (ds.getD i .none)) hz (s.fwd fm) (fun i G1 H1 hi e1 e2 => ?_) (fun G1 H1 e1 e2 => ⟨xs, SqL.of (e2 _ _ (e1 _ _ h1)), by rw [h2.length]; exact Nat.le_refl _⟩) (fun i G1 H1 x H' hi e1 e2 y => ?_) (fun p ys G3 H3 f3 g1 g2 g3 g4 => q p ys G3 H3 (fm.trans f3) (fm.h.back g1) g2 g3 (by rw [range_map] at g4; exact g4))⟩⟩
      · obtain ⟨v, g1, _⟩ := h2.get (List.getElem?_eq_getElem hi)
        exact ⟨xs, v, SqL.of (e2 _ _ (e1 _ _ h1)), g1⟩
      · obtain ⟨rfl, y⟩ := y
        have hx := y xs (SqL.of (e2 _ _ (e1 _ _ h1)))
        obtain ⟨d, g1, g2⟩ := h2.getV hx
        have ed : ds.getD i .none = d := by rw [List.getD_eq_getElem?_getD, g1]; rfl
        obtain ⟨env2, js, k1, k2, k3, k4⟩ := hs d (List.mem_of_getElem? g1)
        exact ⟨G1, d, Fm.refl e2, g2.up e1, env2, js, k1, k2, by rw [ed]; exact k3, by rw [ed]; exact k4⟩
    | @tup a xs _ h1 h2 =>
      cases hd'
      refine ⟨a, rfl, Or.inr ⟨⟨xs, ex_t fm.i h1⟩, lc_core' (n := ds.length) (fun i => f (ds.getD i .none)) (fun i => h (ds.getD i .none)) hz (s.fwd fm) (fun i G1 H1 hi e1 e2 => ?_) (fun G1 H1 e1 e2 => ⟨xs, ex_t (e1.trans e2) h1, by rw [h2.length]; exact Nat.le_refl _⟩) (fun i G1 H1 x H' hi e1 e2 y => ?_) (fun p ys G3 H3 f3 g1 g2 g3 g4 => q p ys G3 H3 (fm.trans f3) (fm.h.back g1) g2 g3 (by rw [range_map] at g4; exact g4))⟩⟩
      · obtain ⟨v, g1, _⟩ := h2.get (List.getElem?_eq_getElem hi)
        exact ⟨xs, v, ex_t (e1.trans e2) h1, g1⟩
      · obtain ⟨rfl, y⟩ := y
        have hx := y xs (ex_t (e1.trans e2) h1)
        obtain ⟨d, g1, g2⟩ := h2.getV hx
        have ed : ds.getD i .none = d := by rw [List.getD_eq_getElem?_getD, g1]; rfl
        obtain ⟨env2, js, k1, k2, k3, k4⟩ := hs d (List.mem_of_getElem? g1)
        exact ⟨G1, d, Fm.refl e2, g2.up e1, env2, js, k1, k2, by rw [ed]; exact k3, by rw [ed]; exact k4⟩
    | _ => cases hd'
end
/-! ### defs by their place -/
def DefAt (K : Fg) (mg : Str → Option Value) (x qual : Str) (st : Stmt) (ps : List Str) : Prop :=
  ∃ f fd, FunD K x qual (defArgs st) (defBody st) (defScope st) [] [] f fd ∧ mg x = some (.ref f) ∧ Binds K fd ps []
section
variable {P : Program} {w : World} {K : Fg} {mg : Str → Option Value} {base : Heap} {x qual : Str} {st : Stmt} {N ps : List Str} {k : Nat} {C : Ct}
theorem fnh (h : DefAt K mg x qual st ps) (S : FnScope N ps (defScope st)) (len : ∀ ds r, C ds r → ds.length = ps.length)
    (hbody : ∀ (f : Addr) (cdv : Value) (A : Around) (outer : List PySem.Env) (s : Shared) (H : Hp) (E : XK), Room k (A.deeper (PyProof.Rows.envOfC qual (defScope st) s.heap.objs.size f cdv)) →
      ∃ t, PSs (cxOf CX0 P w K mg base N qual (defScope st) f cdv A outer s H E).nox (defBody st) t ∧ ∀ ds r, C ds r → SD K mg E t (startE N ds) (enOf r)) : FnH P w K mg base x CX0 (k + 1) ps C := by
  obtain ⟨f, fd, F, m, b⟩ := h
  refine ⟨f, fd, F.ok S (fun vs H Q E h => ?_) (fun cdv A outer s H vs Q E hr h => ?_), m, F.kp, b⟩
  · obtain ⟨G, ds, r, e1, rp, c, _⟩ := h
    rw [rp.length]; exact len ds r c
  · obtain ⟨t, h1, h2⟩ := hbody f cdv A outer s H E hr
    exact ⟨t, h1.nox, run_sd h2 h⟩
theorem fnhX (h : DefAt K mg x qual st ps) (S : FnScope N ps (defScope st)) (len : ∀ ds r, C ds r → ds.length = ps.length)
    (hbody : ∀ (f : Addr) (cdv : Value) (A : Around) (outer : List PySem.Env) (s : Shared) (H : Hp) (E : XK), Room k (A.deeper (PyProof.Rows.envOfC qual (defScope st) s.heap.objs.size f cdv)) →
      ∃ t, PSs (cxOf (L2.CX P w) P w K mg base N qual (defScope st) f cdv A outer s H E) (defBody st) t ∧ ∀ ds r, C ds r → SD K mg E t (startE N ds) (enOf r)) : FnH P w K mg base x (L2.CX P w) (k + 1) ps C := by
  obtain ⟨f, fd, F, m, b⟩ := h
  refine ⟨f, fd, F.ok S (fun vs H Q E h => ?_) (fun cdv A outer s H vs Q E hr h => ?_), m, F.kp, b⟩
  · obtain ⟨G, ds, r, e1, rp, c, _⟩ := h
    rw [rp.length]; exact len ds r c
  · obtain ⟨t, h1, h2⟩ := hbody f cdv A outer s H E hr
    exact ⟨t, h1, run_sd h2 h⟩
end
/-! ### try: several clauses, some with a name -/
abbrev TSx := Addr → Value → Option Addr → TS
def wMix (K : Fg) (Wout : WX) (D : Ends) : List (Value × Option Nat × TSx) → WX
  | [] => Wout
  | (c, none, ts) :: r => fun cls d σ H => ∃ b, PySem.W.exmOne K cls c = some b ∧ (b = true → ∀ a, H a = none → ts a cls d D σ H) ∧ (b = false → wMix K Wout D r cls d σ H)
  | (c, some i, ts) :: r => fun cls d σ H => ∃ b, PySem.W.exmOne K cls c = some b ∧
      (b = true → ∀ a, H a = none → ts a cls d { nx := fun σ' H' => D.nx (σ'.set i none) H', rt := D.rt, bk := fun σ' H' => D.bk (σ'.set i none) H', ct := fun σ' H' => D.ct (σ'.set i none) H' } (σ.set i (some (.ref a))) H) ∧
      (b = false → wMix K Wout D r cls d σ H)
def tTry (K : Fg) (tbw : WX → TS) (Wout : WX) (l : List (Value × Option Nat × TSx)) : TS := fun D σ H => tbw (wMix K Wout D l) D σ H
inductive HdM (X : Cx) : List ExceptHandler → List (Value × Option Nat × TSx) → Prop
  | nil : HdM X [] []
  | cons0 {x : Str} {c : Value} {ts : TSx} {b₀ : Stmt} {suite : List Stmt} {np pos' : Pos} {hds : List ExceptHandler} {l : List (Value × Option Nat × TSx)} (hc : Names X x c)
      (hsu : ∀ (a : Addr) (oe : Obj) (cls : Value) (d : Option Addr) (pn : List (Addr × Obj)), Zc cls d oe → (∃ vs, oe.data = .fields vs) → PSs (X.suite a ((a, oe) :: pn)) (b₀ :: suite) (ts a cls d)) (r : HdM X hds l) :
      HdM X (.ExceptHandler (some (.Name x np)) none (b₀ :: suite) pos' :: hds) ((c, none, ts) :: l)
  | consN {x n : Str} {i : Nat} {c : Value} {ts : TSx} {b₀ : Stmt} {suite : List Stmt} {np pos' : Pos} {hds : List ExceptHandler} {l : List (Value × Option Nat × TSx)} (hc : Names X x c) (hi : X.N[i]? = some n) (hln : X.env.kindOf n = some .local)
      (hsu : ∀ (a : Addr) (oe : Obj) (cls : Value) (d : Option Addr) (pn : List (Addr × Obj)), Zc cls d oe → (∃ vs, oe.data = .fields vs) → PSs (X.suite a ((a, oe) :: pn)) (b₀ :: suite) (ts a cls d)) (r : HdM X hds l) :
      HdM X (.ExceptHandler (some (.Name x np)) (some n) (b₀ :: suite) pos' :: hds) ((c, some i, ts) :: l)
/-! what is known where a clause is looked at: the error lies at a, in the state s -/
section
open PySem PySem.Spec PyProof.Rows
structure Caught (X : Cx) (pins : List (Addr × Obj)) (σ : L2.St) (H : Hp) (a : Addr) (cls : Value) (d : Option Addr) (s : Shared) : Prop where
  ok : X.Ok
  st : X.stack = X.env :: X.outer
  fr : X.env.frame = some X.env.locals
  na : H a = none
  back : ∃ (Bs : Heap) (si : Shared), Inv X pins σ H si ∧ (∀ b o, si.heap.get? b = some o → b ∉ frs X.stack → Bs.get? b = some o) ∧ si.heap.UpToSlots s.heap ∧ HandSPX.FlyingZ Bs (X.env :: X.outer) a (Zc cls d) s.heap ∧ s.os = si.os ∧ AllBare s.gens
variable {X : Cx} {pins : List (Addr × Obj)} {σ : L2.St} {H : Hp} {a : Addr} {cls : Value} {d : Option Addr} {s : Shared} {D : Ends}
theorem Caught.inv (k : Caught X pins σ H a cls d s) : Inv X pins σ H s := by
  obtain ⟨Bs, si, I, nb, up, fl, os, ag⟩ := k.back
  exact I.landed nb fl.1 up os ag
/-- the error's own object, and the context of a suite -/
theorem Caught.held (k : Caught X pins σ H a cls d s) : ∃ oe, s.heap.get? a = some oe ∧ Zc cls d oe ∧ (∃ vs, oe.data = .fields vs) ∧ Inv (X.suite a ((a, oe) :: (X.pn ++ pins))) [] σ H s := by
  have J := k.inv
  obtain ⟨Bs, si, I, nb, up, fl, os, ag⟩ := k.back
  obtain ⟨oe, vs, ea, z, dt⟩ := fl.there
  have out : a ∉ frs (X.env :: X.outer) := fun hm => by
    obtain ⟨_, o2, e2, no⟩ := fl.2.2.1.mem hm
    rw [ea] at e2; cases e2; exact no _ dt
  refine ⟨oe, ea, z, ⟨vs, dt⟩, J.suite ea dt k.na (fun q => out ?_) fun hm => out ?_⟩
  · exact List.mem_filterMap.mpr ⟨X.env, List.mem_cons_self, by rw [k.fr, q]⟩
  · obtain ⟨e, he, q⟩ := List.mem_filterMap.mp hm
    exact List.mem_filterMap.mpr ⟨e, List.mem_cons_of_mem _ he, q⟩
theorem Caught.grounded {A : Around} {E : Value → Shared → Prop} {Q : Unit → Shared → Prop} (k : Caught X pins σ H a cls d s) (h : ∀ s', Caught X pins σ H a cls d s' → Q () s') : wpAny (model X.prog X.w) A (setFlight (.ref a) none) Q E s := by
  obtain ⟨Bs, si, I, nb, up, fl, os, ag⟩ := k.back
  exact HandSPX.lands_againZ fl fun h' fl' up' => h _ ⟨k.ok, k.st, k.fr, k.na, Bs, si, I, nb, up.trans up', fl', os, ag⟩
/-- no clause has taken it: it goes on -/
theorem Caught.passed {Wout : WX} (k : Caught X pins σ H a cls d s) (tk : Takes X Wout) (w : Wout cls d σ H) : wpAny (model X.prog X.w) X.A (handleBy (.ref a) X.env []) (SP X pins D) X.xe s := by
  obtain ⟨Bs, si, I, nb, up, fl, os, ag⟩ := k.back
  have go : wpAny (model X.prog X.w) X.A (setFlight (.ref a) (some X.env.locals)) (fun _ s4 => wpAny (model X.prog X.w) X.A (throw (.ref a) : Sem Flow) (SP X pins D) X.xe s4) X.xe s :=
    HandSPX.setFlight_upZ fl fun h4 held u4 => wpAny_throw (tk _ _ ⟨a, Bs, si, pins, σ, H, cls, d, rfl, I, nb, up.trans u4, .inr (.inr (by rw [k.st]; exact held)), k.na, os, ag, w⟩)
  rw [← k.fr] at go
  obtain ⟨_, _, _, oe, vs, T, oT, ts', ea, z, dt, v1, r⟩ := id fl
  refine wpAny_handleBy_nil ?_
  unfold PySem.passOn
  refine wpAny_bind (wpAny_field ea dt v1 ?_)
  rw [if_neg (by simp : ¬ ((Value.ref T == Value.none) = true))]
  first | exact wpAny_bind (wpAny_pure (wpAny_bind go)) | exact wpAny_bind go
/-- the clause's class, read -/
theorem Caught.named {x : Str} {c : Value} {np : Pos} {Q : Value → Shared → Prop} {E : Value → Shared → Prop} (k : Caught X pins σ H a cls d s) (hc : Names X x c) (q : Q c s) : wpAny (model X.prog X.w) (X.A.mark (some (.ref a))) (eval (.Name x np) X.env) Q E s := by
  obtain ⟨oe, _, _, _, S⟩ := k.held
  obtain ⟨g, db, m | ⟨m, v, nn⟩⟩ := hc
  · exact ld_glob (X := X.suite a ((a, oe) :: (X.pn ++ pins))) S g m q db
  · exact ld_blt (X := X.suite a ((a, oe) :: (X.pn ++ pins))) S g m v q nn db
theorem sp_back {f : Flow} {q : Addr × Obj} {s6 : Shared} (ok : X.Ok) (h : SP (X.suite a (q :: (X.pn ++ pins))) [] D f s6) : SP X pins D f s6 := by
  cases f with
  | next => obtain ⟨a1, a2, a3, a4⟩ := h; exact ⟨a1, a2, a3.unsuite ok, a4⟩
  | brk => obtain ⟨a1, a2, a3, a4⟩ := h; exact ⟨a1, a2, a3.unsuite ok, a4⟩
  | cont => obtain ⟨a1, a2, a3, a4⟩ := h; exact ⟨a1, a2, a3.unsuite ok, a4⟩
  | ret u => obtain ⟨a1, a2, a3, a4, a5, a6⟩ := h; exact ⟨a1, a2, a3, a4.unsuite ok, a5, a6⟩
theorem Caught.by_ {Wout : WX} (hN : X.N.Nodup) (k : Caught X pins σ H a cls d s) (tk : Takes X Wout) : ∀ {hds : List ExceptHandler} {l : List (Value × Option Nat × TSx)}, HdM X hds l → wMix X.K Wout D l cls d σ H →
    wpAny (model X.prog X.w) X.A (handleBy (.ref a) X.env hds) (SP X pins D) X.xe s := by
  intro hds l hk
  obtain ⟨oe0, ea0, z0, _, _⟩ := k.held
  have ty : PySem.W.Looks (model X.prog X.w) s.heap (typeOf (.ref a)) cls := fun A Q E s2 kp q => wpAny_typeOf_ref (kp _ _ ea0) (by rw [z0.1]; exact q)
  induction hk with
  | nil => intro w; exact k.passed tk w
  | @cons0 x c ts b₀ suite np pos' more l2 hc hsu r ih =>
    rintro ⟨b, eb, yes, no⟩
    refine wpAny_handleBy_cons (codeAny_handlers_test (k.named hc ((PySem.W.exm_one (M := model X.prog X.w) k.inv.kIn ty eb).here ?_))) (by intro q; cases q)
    cases b with
    | false => exact ih (no rfl)
    | true =>
      refine codeAny_handlers_suite (k.grounded fun s5 k5 => ?_)
      obtain ⟨oe, _, z, hf, S⟩ := k5.held
      exact wpAny_mono ((hsu a oe cls d (X.pn ++ pins) z hf).run [] s5 σ H D S (yes rfl a k.na)) (fun f s6 q => sp_back k.ok q) fun _ _ z => z.elim
  | @consN x n i c ts b₀ suite np pos' more l2 hc hi hln hsu r ih =>
    rintro ⟨b, eb, yes, no⟩
    refine wpAny_handleBy_cons (codeAny_handlers_test (k.named hc ((PySem.W.exm_one (M := model X.prog X.w) k.inv.kIn ty eb).here ?_))) (by intro q; cases q)
    cases b with
    | false => exact ih (no rfl)
    | true =>
      refine codeAny_handlers_suite_as (k.grounded fun s5 k5 => ?_)
      obtain ⟨oe, _, z, hf, S⟩ := k5.held
      refine store_ok (X := X.suite a ((a, oe) :: (X.pn ++ pins))) (v := .ref a) S hN hi (.inl hln) rfl (fun s7 S7 => ?_) (.inr hln)
      refine wpAny_mono ((hsu a oe cls d (X.pn ++ pins) z hf).run [] s7 _ H _ S7 (yes rfl a k.na)) (fun f s6 q => ?_) fun _ _ z => z.elim
      have q' := sp_back k.ok q
      cases f with
      | next => obtain ⟨_, _, J6, q6⟩ := q'; exact gone_ok J6 hN hi hln fun _ J => ⟨_, _, J, q6⟩
      | brk => obtain ⟨_, _, J6, q6⟩ := q'; exact gone_ok J6 hN hi hln fun _ J => ⟨_, _, J, q6⟩
      | cont => obtain ⟨_, _, J6, q6⟩ := q'; exact gone_ok J6 hN hi hln fun _ J => ⟨_, _, J, q6⟩
      | ret u => obtain ⟨_, _, _, J6, r6, q6⟩ := q'; exact gone_ok J6 hN hi hln fun _ J => ⟨_, _, _, J, r6, q6⟩
variable {body : List Stmt} {hd0 : ExceptHandler} {hds : List ExceptHandler} {l : List (Value × Option Nat × TSx)} {pos : Pos} {tb : WX → TS} {Wout : WX}
theorem sp_ofTry {pn' : List (Addr × Obj)} {xe : Value → Shared → Prop} {f : Flow} {s6 : Shared} (ok : X.Ok) (h : SP (X.tr (X.pn ++ pins) xe) pn' D f s6) : SP X pins D f s6 := by
  cases f with
  | next => obtain ⟨a1, a2, a3, a4⟩ := h; exact ⟨a1, a2, a3.ofTry ok, a4⟩
  | brk => obtain ⟨a1, a2, a3, a4⟩ := h; exact ⟨a1, a2, a3.ofTry ok, a4⟩
  | cont => obtain ⟨a1, a2, a3, a4⟩ := h; exact ⟨a1, a2, a3.ofTry ok, a4⟩
  | ret u => obtain ⟨a1, a2, a3, a4, a5, a6⟩ := h; exact ⟨a1, a2, a3, a4.ofTry ok, a5, a6⟩
theorem ps_try_mix (hN : X.N.Nodup) (st : X.stack = X.env :: X.outer) (fr : X.env.frame = some X.env.locals) (tk : Takes X Wout)
    (hb : ∀ (W : WX) (pn : List (Addr × Obj)) (xe : Value → Shared → Prop), Takes (X.tr pn xe) W → PassesOwn (model X.prog X.w) X.A X.env xe → PSs (X.tr pn xe) body (tb W))
    (hh : HdM X (hd0 :: hds) l) : PS X (.Try body (hd0 :: hds) [] [] pos) (tTry X.K tb Wout l) := by
  refine ⟨fun pins s σ H D I h => wpAny_Try_except ?_⟩
  refine wpAny_mono ((hb (wMix X.K Wout D l) (X.pn ++ pins) _ (fun u s' xx => ?_) PassesOwn.looking).run [] s σ H D (I.toTry _) h) (fun f s1 q => ?_) fun _ _ z => z
  · obtain ⟨a, Bs, si, pn', σ', H', cls, d, rfl, J, nb, up, sky, na, os, ag, w⟩ := xx
    refine Sky.land Zc.steady (by rw [I.ok.frames, st]) fr (show Sky Bs (X.env :: X.outer) a (Zc cls d) X.env.locals s'.heap by rw [← st]; exact sky) fun h3 fl u3 => ?_
    exact Caught.by_ (s := { s' with heap := h3 }) hN ⟨I.ok, st, fr, na, Bs, si, J.ofTry I.ok, nb, up.trans u3, fl, os, ag⟩ tk hh w
  · cases f with
    | next => exact wpAny_execs_nil (sp_ofTry (f := .next) I.ok q)
    | brk => exact sp_ofTry (f := .brk) I.ok q
    | cont => exact sp_ofTry (f := .cont) I.ok q
    | ret u => exact sp_ofTry (f := .ret u) I.ok q
end
end Ly

namespace Ly
open PySem L2
section
variable {K : Fg} {env : Evn} {te ta tb tc : TE} {t u : TT} {d a b c : D} {mg : Str → Option Value} {E : XK} {e : En} {ts tz tu tw : TS} {Es : St → XK} {ex : Str → Prop}
/-! ### try -/
/-- within a try's body: what is raised goes to Es at the slots as they stand -/
def SDS (K : Fg) (mg : Str → Option Value) (Es : St → XK) (ts : TS) (env : Evn) (e : En) (ex : Str → Prop) : Prop := ∀ G0 B G H σ Dd, SR K G0 B G H σ env → EnOk K mg G0 B Dd (fun _ _ _ => True) e →
  (∀ G2 H2 x C, mg x = some (.ref C) → SR K G0 B G2 H2 σ env → ex x → Es σ (.ref C) none H2) → ts Dd σ H
def EvXS (K : Fg) (mg : Str → Option Value) (Es : St → XK) (te : TE) (env : Evn) (x : Str) : Prop := ∀ G0 B G H σ, SR K G0 B G H σ env → (∀ C G2 H2, mg x = some (.ref C) → Fm G H G2 H2 → Es σ (.ref C) none H2) → ∀ Q : VK, te σ H Q
theorem ev_callS {P : Ct} {ta : TA} {as : List D} (h : EvA K ta env as) (hp : P as (.ok d)) : EvD K (tCallS (spD K mg P) Es ta) env d := fun G0 B G H σ s Q q =>
  h G0 B G H σ s _ fun vs G1 H1 f1 r1 => ⟨G1, as, .ok d, f1.i, r1, hp, fun d' e v G2 H2 f2 r2 => by cases e; exact q v G2 H2 (f1.trans f2) r2, fun x e => nomatch e⟩
theorem exs_call {P : Ct} {ta : TA} {as : List D} {x : Str} (h : EvA K ta env as) (hp : P as (.err x)) : EvXS K mg Es (tCallS (spD K mg P) Es ta) env x := fun G0 B G H σ s k Q =>
  h G0 B G H σ s _ fun vs G1 H1 f1 r1 => ⟨G1, as, .err x, f1.i, r1, hp, fun d' e => (nomatch e), fun x' e C G2 H2 m f2 => by cases e; exact k C G2 H2 m (f1.trans f2)⟩
theorem sds_ret (h : EvD K te env d) (k : e.rt d) : SDS K mg Es (tRet te) env e ex := fun G0 B G H σ Dd s q _ =>
  h G0 B G H σ s _ fun v G2 H2 f r => q.rt G2 H2 v d (s.fm.trans f) r k
theorem sds_retX {x : Str} (h : EvXS K mg Es te env x) (k : ex x) : SDS K mg Es (tRet te) env e ex := fun G0 B G H σ Dd s q z =>
  h G0 B G H σ s (fun C G2 H2 m f => z G2 H2 x C m (s.fwd f) k) _
theorem sds_drop (h : EvD K te env d) (k : e.nx env) : SDS K mg Es (tDrop te) env e ex := fun G0 B G H σ Dd s q _ =>
  h G0 B G H σ s _ fun v G2 H2 f r => q.nx G2 H2 _ _ (s.fwd f) k
theorem sds_dropX {x : Str} (h : EvXS K mg Es te env x) (k : ex x) : SDS K mg Es (tDrop te) env e ex := fun G0 B G H σ Dd s q z =>
  h G0 B G H σ s (fun C G2 H2 m f => z G2 H2 x C m (s.fwd f) k) _
theorem sds_if {x : Bool} (h : EvT K t env x) (h1 : x = true → SDS K mg Es tu env e ex) (h2 : x = false → SDS K mg Es tw env e ex) : SDS K mg Es (tIfS t tu tw) env e ex := fun G0 B G H σ Dd s q z =>
  h G0 B G H σ s _ fun G2 H2 f => by
    cases x with
    | true => show tu Dd σ H2; exact h1 rfl G0 B G2 H2 σ Dd (s.fwd f) q z
    | false => show tw Dd σ H2; exact h2 rfl G0 B G2 H2 σ Dd (s.fwd f) q z
theorem sds_next (h : e.nx env) : SDS K mg Es tNext env e ex := fun G0 B G H σ Dd s k _ => k.nx G H σ env s h
/-- the clauses take it -/
def Hn (K : Fg) (mg : Str → Option Value) (E : XK) (Wout : WX) (l : List (Value × Option Nat × TSx)) (env : Evn) (e : En) (C : Addr) : Prop := ∀ G0 B G H σ Dd, SR K G0 B G H σ env → EnOk K mg G0 B Dd E e → wMix K Wout Dd l (.ref C) none σ H
theorem hn_skip {Wout : WX} {l : List (Value × Option Nat × TSx)} {C : Addr} {cv : Value} {o : Option Nat} {tx : TSx} (h : PySem.W.exmOne K (.ref C) cv = some false) (k : Hn K mg E Wout l env e C) : Hn K mg E Wout ((cv, o, tx) :: l) env e C := fun G0 B G H σ Dd s q => by
  cases o with
  | none => exact ⟨false, h, fun z => (nomatch z), fun _ => k G0 B G H σ Dd s q⟩
  | some i => exact ⟨false, h, fun z => (nomatch z), fun _ => k G0 B G H σ Dd s q⟩
theorem hn_take {Wout : WX} {l : List (Value × Option Nat × TSx)} {C : Addr} {cv : Value} {tx : TSx} (h : PySem.W.exmOne K (.ref C) cv = some true) (k : ∀ a, SD K mg E (tx a (.ref C) none) env e) : Hn K mg E Wout ((cv, none, tx) :: l) env e C := fun G0 B G H σ Dd s q =>
  ⟨true, h, fun _ a _ => k a G0 B G H σ Dd s q, fun z => (nomatch z)⟩
theorem SR.unset {G0 B G H : Hp} {σ : St} (s : SR K G0 B G H σ env) (i : Nat) : SR K G0 B G H (σ.set i none) (env.set i .no) :=
  s.forget (by simp [s.len]) fun j x h => by
    by_cases q : i = j
    · subst q
      by_cases hl : i < env.length
      · rw [List.getElem?_set_self hl] at h; cases h; exact .inl rfl
      · rw [List.getElem?_eq_none (by rw [List.length_set]; omega)] at h; cases h
    · rw [List.getElem?_set_ne q] at h
      exact .inr ⟨h, by rw [List.getElem?_set_ne q]⟩
theorem hn_takeN {Wout : WX} {l : List (Value × Option Nat × TSx)} {C : Addr} {cv : Value} {i : Nat} {tx : TSx} (h : PySem.W.exmOne K (.ref C) cv = some true)
    (k : ∀ a, SD K mg E (tx a (.ref C) none) (env.set i (.raw (.ref a))) { e with nx := fun v => e.nx (v.set i .no), bk := fun v => e.bk (v.set i .no), ct := fun v => e.ct (v.set i .no) }) : Hn K mg E Wout ((cv, some i, tx) :: l) env e C := fun G0 B G H σ Dd s q =>
  ⟨true, h, fun _ a _ => k a G0 B G H _ _ (s.setRaw (.ref a)) ⟨fun G H σ env s' z => q.nx G H _ _ (s'.unset i) z, q.rt, fun G H σ env s' z => q.bk G H _ _ (s'.unset i) z, fun G H σ env s' z => q.ct G H _ _ (s'.unset i) z, q.ex⟩, fun z => (nomatch z)⟩
theorem sd_try {Wout : WX} {l : List (Value × Option Nat × TSx)} {tbw : WX → TS} (hb : ∀ W, SDS K mg (WE W) (tbw W) env e ex) (hh : ∀ x C, mg x = some (.ref C) → ex x → Hn K mg E Wout l env e C) : SD K mg E (tTry K tbw Wout l) env e := fun G0 B G H σ Dd s q =>
  hb _ G0 B G H σ Dd s ⟨q.nx, q.rt, q.bk, q.ct, fun _ _ _ _ _ _ _ => trivial⟩ fun G2 H2 x C m s2 z => hh x C m z G0 B G2 H2 σ Dd s2 q
/-! isinstance of the caught error -/
def rIsE' (K : Fg) (cls : Value) (dd : Option Addr) (a : Addr) : List V → Hp → VK → Prop := fun xs H Q => ∃ C, cls = .ref C ∧ dd = none ∧ ExcC K C ∧ rIsE K C a xs H Q
theorem ev_isE {C CS a : Addr} {i : Nat} {x : Bool} (he : env[i]? = some (.raw (.ref a))) (hc : ExcC K C) (hk : PySem.W.kitOne K (.ref C) (.ref CS) = some x) :
    EvD K (tCB (rIsE' K (.ref C) none a) (tCons (tVar i) (tCons (tC (.ref CS)) tNil))) env (.bool x) := fun G0 B G H σ s Q q =>
  ⟨.ref a, s.rawAt he, C, rfl, rfl, hc, .ref CS, .ref CS, x, rfl, fun u h => h, hk, q _ G H (Fm.refl s.i) (.bl _)⟩
end
theorem PE.eqv {X : Cx} {e : Expr} {t t' : TE} (h : PE X e t) (q : t = t') : PE X e t' := q ▸ h
theorem PG.eqv {X : Cx} {e : Expr} {t t' : TG} (h : PG X e t) (q : t = t') : PG X e t' := q ▸ h
theorem PTs.eqv {X : Cx} {es : List Expr} {t t' : TT} (h : PTs X es t) (q : t = t') : PTs X es t' := q ▸ h
theorem PSs.eqv {X : Cx} {sts : List Stmt} {t t' : TS} (h : PSs X sts t) (e : t = t') : PSs X sts t' := e ▸ h
section
variable {X : Cx}
theorem call_isE' {a : Addr} {oe : Obj} {cls : Value} {dd : Option Addr} {pn : List (Addr × Obj)} (hz : Zc cls dd oe) (hf : ∃ vs, oe.data = .fields vs) : CallR (X.suite a ((a, oe) :: pn)) (.builtin "isinstance") (rIsE' X.K cls dd a) := by
  intro pins s σ H xs us Q I r h
  obtain ⟨C, rfl, rfl, hc, h⟩ := h
  exact call_isE hc hz hf pins s σ H xs us Q I r h
variable {x : Str} {k : Nat} {ps : List Str} {C : Ct} {p pos : Pos} {e : Expr} {es : List Expr} {t : TA}
/-- f(e, ..) in a try's body -/
theorem pe_fnS {W : WX} (h : FnH X.prog X.w X.K X.mg X.base x (L2.CX X.prog X.w) k ps C) (hr : Room k X.A) (tk : Takes X W) (hg : Gl X x) (ha : PA X (e :: es) t) (hdb : (x == ("__debug__" : Str)) = false := by decide)
    (he : starEach (e :: es) X.env = (false, eval e X.env) :: starEach es X.env := by rfl) (hpl : (backTo pos (starEach es X.env)).any (·.1) = false := by rfl) :
    PE X (.Call (.Name x p) (e :: es) [] pos) (tCallS (spD X.K X.mg C) (WE W) t) := by
  obtain ⟨f, fd, F, m, kp, b⟩ := h
  exact pe_callS F hr hg m kp b (fun σ => passAt tk σ) ha hdb he hpl
end
end Ly

set_option autoImplicit false
namespace Ly
open PySem L2
/-! ### small facts -/
theorem truD_bool (b : Bool) : truD (.bool b) = b := rfl
theorem eqD_int (i j : Int) : eqD (.int i) (.int j) = decide (i = j) := by simp [eqD, toPy, PyData.eqv]; rfl
theorem eqD_str (i j : Str) : eqD (.str i) (.str j) = decide (i = j) := by simp [eqD, toPy, PyData.eqv]; rfl
theorem shp_int (i : Int) : shp (.int i) = true := by simp [shp, toPy, SeqAt.shaped, PyData.canLay0, PyData.depth]
theorem shp_str (x : Str) : shp (.str x) = PyData.strOk x := by simp [shp, toPy, SeqAt.shaped, PyData.canLay0, PyData.depth]
def wordsD : D := .tuple [.str "cut", .str "near", .str "up"]
def kindsD : D := .tuple [.str "one", .str "some"]
/-- the program's own errors: all under ShareError -/
def subOf (x y : Str) : Bool := decide (x = y) || decide (y = "ShareError")
structure ExcAll (K : Fg) (mg : Str → Option Value) (xs : List Str) : Prop where
  m : ∀ x, x ∈ xs → ∃ C, mg x = some (.ref C)
  ec : ∀ x, x ∈ xs → ∀ C, mg x = some (.ref C) → ExcC K C
  exm : ∀ x y, x ∈ xs → y ∈ xs → ∀ C E, mg x = some (.ref C) → mg y = some (.ref E) → PySem.W.exmOne K (.ref C) (.ref E) = some (subOf x y)
  kit : ∀ x y, x ∈ xs → y ∈ xs → ∀ C E, mg x = some (.ref C) → mg y = some (.ref E) → PySem.W.kitOne K (.ref C) (.ref E) = some (subOf x y)
/-! ### contracts: numbers -/
def within (x : D) (lo hi : Int) : Bool := match x with
  | .int i => decide (lo ≤ i) && decide (i ≤ hi)
  | _ => false
def c_is_within : Ct := fun ds r => ∃ x lo hi, ds = [x, .int lo, .int hi] ∧ noObj x = true ∧ r = .ok (.bool (within x lo hi))
def c_up_over : Ct := fun ds r => ∃ t b, ds = [.int t, .int b] ∧ 0 < b ∧ b < 1073741824 ∧ r = .ok (.int (-(-t / b)))
def c_look_number : Ct := fun ds r => ∃ x, ds = [x] ∧ noObj x = true ∧ r = if within x 1 100000 = true then .ok .none else .err "BadNumber"
def upOver (t b : Int) : Int := -(-t / b)
def shareOf (c n u : Int) (w : Str) : Int := if w = "cut" then u * c / n else if w = "up" then upOver (u * c) n else (2 * u * c + n) / (2 * n)
def c_share_of : Ct := fun ds r => ∃ c n u w, ds = [.int c, .int n, .int u, .str w] ∧ (0 < n ∧ n ≤ 100000) ∧ (0 ≤ u ∧ u ≤ 1000) ∧ PyData.strOk w = true ∧ r = .ok (.int (shareOf c n u w))
def isWord (x : D) : Bool := match x with
  | .str w => decide (w = "cut") || (decide (w = "near") || decide (w = "up"))
  | _ => false
def intOf : D → Int
  | .int i => i
  | _ => 0
def strOf : D → Str
  | .str x => x
  | _ => ""
def shareR (c n u w : D) : Res := if within n 1 100000 = true then if within c 0 (intOf n) = true then if (within u 2 100 && isWord w) = true then .ok (.int (shareOf (intOf c) (intOf n) (intOf u) (strOf w))) else .err "BadShowing" else .err "BadCounts" else .err "BadNumber"
def c_share : Ct := fun ds r => ∃ c n u w, ds = [c, n, u, w] ∧ (noObj c = true ∧ noObj n = true ∧ noObj u = true ∧ noObj w = true) ∧ (isS w = true → shp w = true) ∧ r = shareR c n u w
/-! ### the law's own row -/
def cellAt (ns : List Int) (k : Nat) : Int := ns.getD k 0
def c__law_cell : Ct := fun ds r => ∃ ns k, ds = [.scr ns, .int k] ∧ 0 ≤ k ∧ r = .ok (.int (cellAt ns k.toNat))
def rowStep (ns : List Int) (at_ : Int) (s : Int × List Int) (i : Nat) : Int × List Int :=
  if cellAt ns at_.toNat < 10 ^ 18 then
    let c := (s.1 * 48271 + 131 * (i : Int) + 7 + cellAt ns ((at_ + 1 + (i : Int)) % 20).toNat) % 2147483647
    (c, s.2 ++ [c / 11 % 1000])
  else (s.1 / 1000, s.2 ++ [s.1 % 1000])
def rowState (ns : List Int) (at_ : Int) (n : Nat) : Int × List Int := (List.range n).foldl (rowStep ns at_) (cellAt ns at_.toNat, [])
def lawRow (ns : List Int) (at_ : Int) : List Int := (rowState ns at_ 60).2
theorem rowState_succ (ns : List Int) (at_ : Int) (n : Nat) : rowState ns at_ (n + 1) = rowStep ns at_ (rowState ns at_ n) n := by
  unfold rowState; rw [List.range_succ, List.foldl_append]; rfl
theorem rowState_ok (ns : List Int) (at_ : Int) : ∀ n, (rowState ns at_ n).2.length = n ∧ ∀ x ∈ (rowState ns at_ n).2, 0 ≤ x ∧ x < 1000
  | 0 => ⟨rfl, fun x h => nomatch h⟩
  | n + 1 => by
    obtain ⟨h1, h2⟩ := rowState_ok ns at_ n
    rw [rowState_succ]
    unfold rowStep
    split
    · refine ⟨by simp [h1], fun x h => ?_⟩
      rcases List.mem_append.mp h with h | h
      · exact h2 x h
      · have e := List.mem_singleton.mp h
        omega
    · refine ⟨by simp [h1], fun x h => ?_⟩
      rcases List.mem_append.mp h with h | h
      · exact h2 x h
      · have e := List.mem_singleton.mp h
        omega
theorem lawRow_len (ns : List Int) (at_ : Int) : (lawRow ns at_).length = 60 := (rowState_ok ns at_ 60).1
theorem lawRow_mem (ns : List Int) (at_ : Int) {x : Int} (h : x ∈ lawRow ns at_) : 0 ≤ x ∧ x < 1000 := (rowState_ok ns at_ 60).2 x h
def lst (ns : List Int) : D := .list (ns.map .int)
def c__law_row : Ct := fun ds r => ∃ ns at_, ds = [.scr ns, .int at_] ∧ 0 ≤ at_ ∧ r = .ok (lst (lawRow ns at_))
/-- a row of sixty -/
def Row (row : List Int) : Prop := row.length = 60 ∧ ∀ x ∈ row, 0 ≤ x ∧ x < 1000
theorem lawRow_row (ns : List Int) (at_ : Int) : Row (lawRow ns at_) := ⟨lawRow_len ns at_, fun _ h => lawRow_mem ns at_ h⟩
def rw_ (row : List Int) (i : Nat) : Int := row.getD i 0
theorem Row.bd {row : List Int} (h : Row row) (i : Nat) : 0 ≤ rw_ row i ∧ rw_ row i < 1000 := by
  unfold rw_
  rw [List.getD_eq_getElem?_getD]
  cases e : row[i]? with
  | none => exact ⟨by decide, by decide⟩
  | some x => exact h.2 x (List.mem_of_getElem? e)
theorem atI_ints {row : List Int} {i : Int} (h0 : 0 ≤ i) (h1 : i < row.length) : atI (row.map D.int) i = some (.int (rw_ row i.toNat)) := by
  obtain ⟨j, rfl⟩ := Int.eq_ofNat_of_zero_le h0
  have hl : j < row.length := by omega
  apply atI_nat
  rw [List.getElem?_map, List.getElem?_eq_getElem hl]
  unfold rw_
  rw [List.getD_eq_getElem?_getD, Int.toNat_natCast, List.getElem?_eq_getElem hl]
  rfl
theorem item_row {row : List Int} (h : Row row) {i : Int} (h0 : 0 ≤ i) (h1 : i < 60) : itemD (lst row) i = some (.int (rw_ row i.toNat)) := atI_ints h0 (by rw [h.1]; exact h1)
def lawAsked (row : List Int) (at_ most : Int) : Int := 1 + rw_ row (at_ % 60).toNat % (rw_ [6, 30, most] (rw_ row ((at_ + 1) % 60).toNat % 3).toNat)
def c__law_asked : Ct := fun ds r => ∃ row at_ most, ds = [lst row, .int at_, .int most] ∧ Row row ∧ 0 < most ∧ r = .ok (.int (lawAsked row at_ most))
/-! ### contracts of k02's own -/
def wordOf : Res → D
  | .ok d => d
  | .err x => if x = "BadNumber" then .str "number" else if x = "BadCounts" then .str "counts" else .str "showing"
def c__law_share_word : Ct := fun ds r => ∃ c n u w, ds = [c, n, u, w] ∧ (noObj c = true ∧ noObj n = true ∧ noObj u = true ∧ noObj w = true) ∧ (isS w = true → shp w = true) ∧ r = .ok (wordOf (shareR c n u w))
def c_law : Ct := fun ds r => ∃ ns, ds = [.scr ns] ∧ r = .ok (.bool true)
end Ly
namespace Ly
open PySem L2
/-! ### k02's law: the mathematics -/
theorem item_list {ds : List D} {z : Int} (h0 : 0 ≤ z) (h1 : z < ds.length) : itemD (.list ds) z = some (ds.getD z.toNat .none) := by
  obtain ⟨j, rfl⟩ := Int.eq_ofNat_of_zero_le h0
  have hl : j < ds.length := by omega
  show atI ds (j : Int) = _
  rw [atI_nat (List.getElem?_eq_getElem hl), List.getD_eq_getElem?_getD, Int.toNat_natCast, List.getElem?_eq_getElem hl]; rfl
theorem lawAsked_bd {row : List Int} (h : Row row) {at_ most : Int} (hm : 30 ≤ most) : 1 ≤ lawAsked row at_ most ∧ lawAsked row at_ most ≤ most ∧ lawAsked row at_ most ≤ 1000 := by
  unfold lawAsked
  have b5 := h.bd ((at_ + 1) % 60).toNat
  have b1 := h.bd (at_ % 60).toNat
  generalize rw_ row (at_ % 60).toNat = x at *
  generalize rw_ row ((at_ + 1) % 60).toNat = y at *
  have hz : y % 3 = 0 ∨ y % 3 = 1 ∨ y % 3 = 2 := by omega
  rcases hz with hz | hz | hz <;> rw [hz]
  · show 1 ≤ 1 + x % 6 ∧ 1 + x % 6 ≤ most ∧ 1 + x % 6 ≤ 1000; omega
  · show 1 ≤ 1 + x % 30 ∧ 1 + x % 30 ≤ most ∧ 1 + x % 30 ≤ 1000; omega
  · show 1 ≤ 1 + x % most ∧ 1 + x % most ≤ most ∧ 1 + x % most ≤ 1000
    have h1 := Int.emod_nonneg x (show most ≠ 0 by omega)
    have h2 := Int.emod_lt_of_pos x (show 0 < most by omega)
    by_cases h4 : most ≤ 1000
    · omega
    · rw [Int.emod_eq_of_lt b1.1 (by omega)]; omega
theorem share_cut {c n u : Int} (hn : 0 < n) : shareOf c n u "cut" * n ≤ u * c ∧ u * c < (shareOf c n u "cut" + 1) * n := by
  have e : shareOf c n u "cut" = u * c / n := by simp [shareOf]
  rw [e]
  generalize u * c = z
  have h1 := Int.emod_add_mul_ediv z n
  have h2 := Int.emod_nonneg z (show n ≠ 0 by omega)
  have h3 := Int.emod_lt_of_pos z hn
  rw [Int.add_mul, Int.one_mul]
  have h4 : z / n * n = n * (z / n) := Int.mul_comm _ _
  omega
theorem str_ne {a b : Str} (h : (decide (a = b)) = false) : a ≠ b := of_decide_eq_false h
theorem share_near {c n u : Int} (hn : 0 < n) : (2 * shareOf c n u "near" - 1) * n ≤ 2 * u * c ∧ 2 * u * c < (2 * shareOf c n u "near" + 1) * n := by
  have e : shareOf c n u "near" = (2 * u * c + n) / (2 * n) := by
    rw [shareOf, if_neg (by decide +kernel), if_neg (by decide +kernel)]
  rw [e]
  generalize 2 * u * c = z
  have h1 := Int.emod_add_mul_ediv (z + n) (2 * n)
  have h2 := Int.emod_nonneg (z + n) (show 2 * n ≠ 0 by omega)
  have h3 := Int.emod_lt_of_pos (z + n) (show 0 < 2 * n by omega)
  generalize (z + n) / (2 * n) = q at *
  generalize (z + n) % (2 * n) = r at *
  rw [Int.sub_mul, Int.add_mul, Int.one_mul]
  have h4 : 2 * q * n = 2 * n * q := by rw [Int.mul_assoc, Int.mul_comm q n, ← Int.mul_assoc]
  omega
theorem upOver_bd {z n : Int} (hn : 0 < n) : (upOver z n - 1) * n < z ∧ z ≤ upOver z n * n := by
  unfold upOver
  have h1 := Int.emod_add_mul_ediv (-z) n
  have h2 := Int.emod_nonneg (-z) (show n ≠ 0 by omega)
  have h3 := Int.emod_lt_of_pos (-z) hn
  generalize (-z) / n = q at *
  generalize (-z) % n = r at *
  rw [Int.sub_mul, Int.one_mul, Int.neg_mul]
  have h4 : q * n = n * q := Int.mul_comm _ _
  omega
theorem share_up {c n u : Int} (hn : 0 < n) : (shareOf c n u "up" - 1) * n < u * c ∧ u * c ≤ shareOf c n u "up" * n := by
  have e : shareOf c n u "up" = upOver (u * c) n := by
    rw [shareOf, if_neg (by decide +kernel), if_pos rfl]
  rw [e]; exact upOver_bd hn
end Ly

namespace Ly
open PySem L2 He
/-! ### the head's facts -/
abbrev AlE : Type := AlD × Bool
def obsE (fa : List Fa) (fn : List DefD) (ex : PySem.W.Frag → Bool) (K : PySem.W.Frag) : AlE := (obsD fa fn K, ex K)
def valE (fn : List DefD) : AlE := (valD fn, true)
def SaysE (fa : List Fa) (fn : List DefD) (ex : PySem.W.Frag → Bool) (K : PySem.W.Frag) : Prop := obsE fa fn ex K = valE fn
def obsEG (n : Nat) (fa : List Fa) (fn : List DefD) (ex : PySem.W.Frag → Bool) (g : Addr → Option Obj) : AlE := obsE fa fn ex (frG g (asD g n))
def hookE (n : Nat) (fa : List Fa) (fn : List DefD) (ex : PySem.W.Frag → Bool) : PySem.W.Hook where
  α := AlE
  obs := fun s => obsEG n fa fn ex s.heap.get?
  val := fun _ => valE fn
  says := fun _ h => ∃ K : PySem.W.Frag, K.In h ∧ SaysE fa fn ex K
  of := fun _ _ e => ⟨_, frG_in, e⟩
  keeps := fun _ _ _ ⟨K, hK, c⟩ k => ⟨K, PySem.W.Frag.In.keeps hK k, c⟩
theorem obsEG_eq {n : Nat} {fa : List Fa} {fn : List DefD} {ex : PySem.W.Frag → Bool} {g : Addr → Option Obj} {s : Shared} (h : ∀ a, g a = s.heap.get? a) : obsEG n fa fn ex g = (hookE n fa fn ex).obs s := by
  have e : g = s.heap.get? := funext h
  rw [e] <;> rfl
theorem SaysE.d {fa : List Fa} {fn : List DefD} {ex : PySem.W.Frag → Bool} {K : PySem.W.Frag} (c : SaysE fa fn ex K) : SaysD fa fn K := congrArg (fun z : AlE => z.1) c
theorem SaysE.x {fa : List Fa} {fn : List DefD} {ex : PySem.W.Frag → Bool} {K : PySem.W.Frag} (c : SaysE fa fn ex K) : ex K = true := congrArg (fun z : AlE => z.2) c
theorem saysD_fact {fa : List Fa} {fn : List DefD} {K : PySem.W.Frag} (c : SaysD fa fn K) {f : Fa} (h : f ∈ fa) : f.ok K = true := by
  have c1 := (ba (show ((fa.all fun f => f.ok K) && fn.all fun d => d.ok K) = true from congrArg (fun z : AlD => z.1) c)).1
  exact List.all_eq_true.mp c1 f h
/-! errors -/
def excCB (K : Fg) (C : Addr) : Bool := eqO (PySem.W.findIn K (.ref C) "__getattribute__") (some (some (.builtin "BaseException.__getattribute__"))) && (eqO (PySem.W.findIn K (.ref C) "__getattr__") (some none) && (decide (PySem.W.subIn K (.ref C) (.type "BaseException") = some true) && (PySem.W.hasDictIn K C && (eqO (PySem.W.findIn K (.ref C) "__class__") (some (some (.builtin "object.__class__"))) &&
  (decide (PySem.W.specialIn K (.builtin "object.__class__") "__get__" = some (some (.builtin "getset_descriptor.__get__"))) && (decide (PySem.W.takesIn K (.builtin "object.__class__") = some true) && decide (PySem.W.mroIn K C (.type "object") = some true)))))))
theorem excCB_ok {K : Fg} {C : Addr} (h : excCB K C = true) : ExcC K C := by
  obtain ⟨h1, h⟩ := ba h
  obtain ⟨h2, h⟩ := ba h
  obtain ⟨h3, h⟩ := ba h
  obtain ⟨h4, h⟩ := ba h
  obtain ⟨h5, h⟩ := ba h
  obtain ⟨h6, h⟩ := ba h
  obtain ⟨h7, h8⟩ := ba h
  exact ⟨eqO_ok h1, eqO_ok h2, of_decide_eq_true h3, h4, eqO_ok h5, of_decide_eq_true h6, of_decide_eq_true h7, of_decide_eq_true h8⟩
def excAllB (xs : List Str) (K : Fg) : Bool := xs.all fun x => (Fa.glo x).ok K && (excCB K (ga K x) && xs.all fun y => decide (PySem.W.exmOne K (.ref (ga K x)) (.ref (ga K y)) = some (subOf x y)) && decide (PySem.W.kitOne K (.ref (ga K x)) (.ref (ga K y)) = some (subOf x y)))
theorem excAll_of {K : Fg} {h : Heap} {mg : Str → Option Value} {xs : List Str} (X : K.In h) (G : h.Ns mainGlobals mg) (c : excAllB xs K = true) : ExcAll K mg xs := by
  have one : ∀ x, x ∈ xs → mg x = some (.ref (ga K x)) ∧ excCB K (ga K x) = true ∧ ∀ y, y ∈ xs → PySem.W.exmOne K (.ref (ga K x)) (.ref (ga K y)) = some (subOf x y) ∧ PySem.W.kitOne K (.ref (ga K x)) (.ref (ga K y)) = some (subOf x y) := fun x hx => by
    have c1 := List.all_eq_true.mp c x hx
    obtain ⟨h1, h2⟩ := ba c1
    obtain ⟨h3, h4⟩ := ba h2
    refine ⟨glo_ok X G h1, h3, fun y hy => ?_⟩
    obtain ⟨h5, h6⟩ := ba (List.all_eq_true.mp h4 y hy)
    exact ⟨of_decide_eq_true h5, of_decide_eq_true h6⟩
  have at_ : ∀ x, x ∈ xs → ∀ C, mg x = some (.ref C) → C = ga K x := fun x hx C m => by
    rw [(one x hx).1] at m; cases m; rfl
  refine ⟨fun x hx => ⟨_, (one x hx).1⟩, fun x hx C m => ?_, fun x y hx hy C E m m' => ?_, fun x y hx hy C E m m' => ?_⟩
  · rw [at_ x hx C m]; exact excCB_ok (one x hx).2.1
  · rw [at_ x hx C m, at_ y hy E m']; exact ((one x hx).2.2 y hy).1
  · rw [at_ x hx C m, at_ y hy E m']; exact ((one x hx).2.2 y hy).2
theorem excH_of {K : Fg} {h : Heap} {mg : Str → Option Value} {x : Str} (X : K.In h) (G : h.Ns mainGlobals mg) (c1 : (Fa.glo x).ok K = true) (c : (Fa.exc x).ok K = true) : ExcH K mg x := by
  obtain ⟨h1, h⟩ := ba c
  obtain ⟨h2, h⟩ := ba h
  obtain ⟨h3, h4⟩ := ba h
  exact ⟨ga K x, veBase, h1, ⟨_, _, PySem.F.excBase_ValueError⟩, glo_ok X G c1, h2, of_decide_eq_true h3, of_decide_eq_true h4⟩
/-! constants -/
theorem gc_int {K : Fg} {h : Heap} {mg : Str → Option Value} {x : Str} {i : Int} (X : K.In h) (G : h.Ns mainGlobals mg) (c : (Fa.int x i).ok K = true) : GcH K mg x (.int i) := by
  obtain ⟨t, m⟩ := int_ok X G c
  exact ⟨.int i, _, m, ⟨t, rfl⟩, fun H => .int i⟩
theorem gc_str {K : Fg} {h : Heap} {mg : Str → Option Value} {x z : Str} (X : K.In h) (G : h.Ns mainGlobals mg) (c : (Fa.str x z).ok K = true) : GcH K mg x (.str z) := by
  obtain ⟨t, m⟩ := str_ok X G c
  exact ⟨.str z, _, m, ⟨t, rfl⟩, fun H => .str z⟩
theorem rpl_strs {K : Fg} {H : Hp} : ∀ zs : List Str, RpL K H ((zs.map Dv.str).map (Dv.v K)) (zs.map D.str)
  | [] => .nil
  | z :: zs => .cons (.str z) (rpl_strs zs)
theorem gc_tup {K : Fg} {h : Heap} {mg : Str → Option Value} {x : Str} {zs : List Str} (X : K.In h) (G : h.Ns mainGlobals mg) (c1 : (Fa.glo x).ok K = true) (c : tupB K x (zs.map Dv.str) = true) : GcH K mg x (.tuple (zs.map D.str)) :=
  ⟨.ref (ga K x), _, glo_ok X G c1, rfl, fun H => .tup (tupB_ok c H) (rpl_strs zs)⟩
def noBs : List Fa := [.free "isinstance", .free "len", .free "max", .free "min", .free "sum", .free "sorted", .free "int", .free "bool", .free "str", .free "tuple", .free "list", .free "set", .free "range", .free "zip", .free "enumerate"]
theorem noB_of {K : Fg} {h : Heap} {mg : Str → Option Value} (X : K.In h) (G : h.Ns mainGlobals mg) (c : ∀ f, f ∈ noBs → f.ok K = true) : NoB mg :=
  ⟨free_ok X G (c _ (by simp [noBs])), free_ok X G (c _ (by simp [noBs])), free_ok X G (c _ (by simp [noBs])), free_ok X G (c _ (by simp [noBs])), free_ok X G (c _ (by simp [noBs])), free_ok X G (c _ (by simp [noBs])), free_ok X G (c _ (by simp [noBs])), free_ok X G (c _ (by simp [noBs])), free_ok X G (c _ (by simp [noBs])), free_ok X G (c _ (by simp [noBs])), free_ok X G (c _ (by simp [noBs])), free_ok X G (c _ (by simp [noBs])), free_ok X G (c _ (by simp [noBs])), free_ok X G (c _ (by simp [noBs])), free_ok X G (c _ (by simp [noBs]))⟩
/-! defs -/
theorem defAt_of {K : Fg} {h : Heap} {mg : Str → Option Value} {x : Str} {st : Stmt} {ps : List Str} {fd : FuncData} (X : K.In h) (G : h.Ns mainGlobals mg) (c : (Fa.glo x).ok K = true)
    (F : FunD K x x (defArgs st) (defBody st) (defScope st) [] [] (ga K x) fd)
    (hb : ∀ (kV doc pm : Value) (an : Option Addr) (cdv ct : Value) (us : List Value), us.length = ps.length → bindArgs (PySem.W.fnOf x x (defArgs st) (defBody st) (defScope st) .none kV doc pm an cdv ct) ⟨us, []⟩ = pure (ps.zip us)) : DefAt K mg x x st ps :=
  ⟨ga K x, fd, F, glo_ok X G c, F.bindsN hb⟩
section
variable {P : Program} {w : World} {K : Fg} {mg : Str → Option Value} {base : Heap} {x qual : Str} {st : Stmt} {N ps : List Str} {k : Nat} {C : Ct} {f : Addr} {fd : FuncData}
theorem fno (F : FunD K x qual (defArgs st) (defBody st) (defScope st) [] [] f fd) (S : FnScope N ps (defScope st)) (len : ∀ ds r, C ds r → ds.length = ps.length)
    (hbody : ∀ (f : Addr) (cdv : Value) (A : Around) (outer : List PySem.Env) (s : Shared) (H : Hp) (E : XK), Room k (A.deeper (PyProof.Rows.envOfC qual (defScope st) s.heap.objs.size f cdv)) →
      ∃ t, PSs (cxOf CX0 P w K mg base N qual (defScope st) f cdv A outer s H E).nox (defBody st) t ∧ ∀ ds r, C ds r → SD K mg E t (startE N ds) (enOf r)) : FnOk P w K mg base CX0 (k + 1) f fd ps (spD K mg C) := by
  refine F.ok S (fun vs H Q E h => ?_) (fun cdv A outer s H vs Q E hr h => ?_)
  · obtain ⟨G, ds, r, e1, rp, c, _⟩ := h
    rw [rp.length]; exact len ds r c
  · obtain ⟨t, h1, h2⟩ := hbody f cdv A outer s H E hr
    exact ⟨t, h1.nox, run_sd h2 h⟩
end
/-- the law's promise, at the script -/
theorem law_sp {K : Fg} {mg : Str → Option Value} {H : Hp} {a : Addr} {ns : List Int} {C : Ct} (h : C [.scr ns] (.ok (.bool true))) (hS : SqL K H a (ns.map V.int)) : spD K mg C [.ref a] H (fun v _ => v = .bl true) fun _ _ _ => False :=
  ⟨H, [.scr ns], .ok (.bool true), Ex.refl H, .cons (.scr hS) .nil, h, fun d e v G2 H2 f r => by cases e; cases r; rfl, fun x e => nomatch e⟩
end Ly

set_option maxHeartbeats 4000000
open Ly
local macro_rules | `(tactic| walk_at "ev") => `(tactic| first
  | exact ev_int | exact ev_str | exact ev_bl | exact ev_non | exact ev_gc | exact ea_nil
  | exact ev_var rfl
  | (refine ea_cons ?_ ?_ <;> walk_at "ev")
  | (refine ev_addI ?_ ?_ <;> walk_at "ev")
  | (refine ev_sub ?_ ?_ <;> walk_at "ev")
  | (refine ev_neg ?_ <;> walk_at "ev")
  | (refine ev_lst ?_ <;> walk_at "ev")
  | (refine ev_tup ?_ <;> walk_at "ev"))
namespace LW
open PySem L2 Ly
def top (i : Nat) : Stmt := PySem.Challenge.pw_shownshares_k02_shares.main.body.getD i (.Pass ⟨0, 0, 0, 0⟩)
abbrev XS : List Str := ["ShareError", "BadShowing", "BadPoll", "BadNumber", "BadCounts"]
abbrev N_is_within : List Str := ["thing", "low", "high"]
abbrev s_is_within : Stmt := top 9
theorem sc_is_within : FnScope N_is_within ["thing", "low", "high"] (defScope s_is_within) := ⟨rfl, rfl, rfl, by decide +kernel, rfl, by decide +kernel, by decide +kernel⟩
abbrev N_look_number : List Str := ["number"]
abbrev s_look_number : Stmt := top 12
theorem sc_look_number : FnScope N_look_number ["number"] (defScope s_look_number) := ⟨rfl, rfl, rfl, by decide +kernel, rfl, by decide +kernel, by decide +kernel⟩
abbrev N_up_over : List Str := ["top", "bottom"]
abbrev s_up_over : Stmt := top 13
theorem sc_up_over : FnScope N_up_over ["top", "bottom"] (defScope s_up_over) := ⟨rfl, rfl, rfl, by decide +kernel, rfl, by decide +kernel, by decide +kernel⟩
abbrev N_share_of : List Str := ["count", "number", "units", "word"]
abbrev s_share_of : Stmt := top 14
theorem sc_share_of : FnScope N_share_of ["count", "number", "units", "word"] (defScope s_share_of) := ⟨rfl, rfl, rfl, by decide +kernel, rfl, by decide +kernel, by decide +kernel⟩
abbrev N_share : List Str := ["count", "number", "units", "word"]
abbrev s_share : Stmt := top 15
theorem sc_share : FnScope N_share ["count", "number", "units", "word"] (defScope s_share) := ⟨rfl, rfl, rfl, by decide +kernel, rfl, by decide +kernel, by decide +kernel⟩
abbrev N__law_cell : List Str := ["script", "k"]
abbrev s__law_cell : Stmt := top 17
theorem sc__law_cell : FnScope N__law_cell ["script", "k"] (defScope s__law_cell) := ⟨rfl, rfl, rfl, by decide +kernel, rfl, by decide +kernel, by decide +kernel⟩
abbrev N__law_row : List Str := ["script", "at", "cell", "found", "time"]
abbrev s__law_row : Stmt := top 18
theorem sc__law_row : FnScope N__law_row ["script", "at"] (defScope s__law_row) := ⟨rfl, rfl, rfl, by decide +kernel, rfl, by decide +kernel, by decide +kernel⟩
abbrev N__law_asked : List Str := ["row", "at", "most"]
abbrev s__law_asked : Stmt := top 19
theorem sc__law_asked : FnScope N__law_asked ["row", "at", "most"] (defScope s__law_asked) := ⟨rfl, rfl, rfl, by decide +kernel, rfl, by decide +kernel, by decide +kernel⟩
abbrev N__law_share_word : List Str := ["count", "asked", "units", "word", "e"]
abbrev s__law_share_word : Stmt := top 20
theorem sc__law_share_word : FnScope N__law_share_word ["count", "asked", "units", "word"] (defScope s__law_share_word) := ⟨rfl, rfl, rfl, by decide +kernel, rfl, by decide +kernel, by decide +kernel⟩
abbrev N_law : List Str := ["script", "row", "asked", "count", "units", "told", "word", "twice", "odd"]
abbrev s_law : Stmt := top 21
theorem sc_law : FnScope N_law ["script"] (defScope s_law) := ⟨rfl, rfl, rfl, by decide +kernel, rfl, by decide +kernel, by decide +kernel⟩
section
variable {P : Program} {w : World} {K : Fg} {mg : Str → Option Value} {base : Heap}
theorem f_is_within (hD : DefAt K mg "is_within" "is_within" s_is_within ["thing", "low", "high"]) (nb : NoB mg) : FnH P w K mg base "is_within" CX0 1 ["thing", "low", "high"] c_is_within := by
  refine fnh hD sc_is_within (fun ds r c => by obtain ⟨x, lo, hi, rfl, ho, rfl⟩ := c; rfl) (fun f cdv A outer s H E hr => ⟨_, (pss_one (ps_ret (pe_and (pe_callB call_isi rfl nb.isinstance_ b_isinstance (pa_cons (pv 0) (pa_cons (pe_bltn (v := .ty "int") rfl nb.int_ b_int rfl) pa_nil))) (pe_and (pe_notT (pe_callB call_isi rfl nb.isinstance_ b_isinstance (pa_cons (pv 0) (pa_cons (pe_bltn (v := .ty "bool") rfl nb.bool_ b_bool rfl) pa_nil)))) (pe_one (pe_chain (op_leU hr.units0) (op_leU hr.units0) (pv 1) (pv 0) (pv 2))))))), fun ds r c => ?_⟩)
  try dsimp only [L2.cxOf, Cx.nox, Cx.wish]
  obtain ⟨x, lo, hi, rfl, ho, rfl⟩ := c
  refine sd_ret (ev_is (ev_and (y := !isB x && within x lo hi) (ev_isiI (ev_var rfl) ho) fun h1 => ev_and (y := within x lo hi) (ev_is (ev_notT (ev_isiB (ev_var rfl) ho)) rfl) fun h2 => ?_) rfl) ?_
  · cases x with
    | int i => exact ev_chain (ev_var rfl) (ev_var rfl) (fun _ => ev_var rfl) rd_cmpI fun _ => rd_cmpI
    | _ => first | (cases h1; done) | (cases h2; done)
  · show Res.ok _ = Res.ok _
    cases x <;> rfl
theorem f_look_number (hD : DefAt K mg "look_number" "look_number" s_look_number ["number"]) (nb : NoB mg) (g_MOST_ASKED : GcH K mg "MOST_ASKED" (.int 100000)) (x_BadNumber : ExcH K mg "BadNumber") (h_is_within : FnH P w K mg base "is_within" CX0 1 ["thing", "low", "high"] c_is_within) : FnH P w K mg base "look_number" (L2.CX P w) 2 ["number"] c_look_number := by
  refine fnhX hD sc_look_number (fun ds r c => by obtain ⟨x, rfl, ho, rfl⟩ := c; rfl) (fun f cdv A outer s H E hr => ⟨_, (pss_one (ps_if (pt_not (pt_truth (pe_fn h_is_within (hr.mono (by decide)) rfl (pa_cons (pv 0) (pa_cons pe_int (pa_cons (pe_gc g_MOST_ASKED rfl) pa_nil)))) (by intro _; rfl))) (pss_one (ps_rz x_BadNumber (takes_of rfl rfl rfl rfl) rfl rfl)) pss_nil)), fun ds r c => ?_⟩)
  try dsimp only [L2.cxOf, Cx.nox, Cx.wish]
  obtain ⟨x, rfl, ho, rfl⟩ := c
  refine sd_if (et_not (et_tru (ev_call (ea_cons (ev_var rfl) (ea_cons ev_int (ea_cons ev_gc ea_nil))) ⟨_, _, _, rfl, ho, rfl⟩))) (fun h => sd_raise ?_) (fun h => sd_next ?_)
  · have e : within x 1 100000 = false := by simpa [truD] using h
    show (if within x 1 100000 = true then Res.ok .none else .err "BadNumber") = .err "BadNumber"
    rw [e]; rfl
  · have e : within x 1 100000 = true := by simpa [truD] using h
    show (if within x 1 100000 = true then Res.ok .none else .err "BadNumber") = .ok .none
    rw [e]; rfl
theorem f_up_over (hD : DefAt K mg "up_over" "up_over" s_up_over ["top", "bottom"]) (nb : NoB mg) : FnH P w K mg base "up_over" CX0 1 ["top", "bottom"] c_up_over := by
  refine fnh hD sc_up_over (fun ds r c => by obtain ⟨t, b, rfl, h1, h2, rfl⟩ := c; rfl) (fun f cdv A outer s H E hr => ⟨_, (pss_one (ps_ret (pe_un un_neg (pe_op op_fdiv (pe_un un_neg (pv 0)) (pv 1))))), fun ds r c => ?_⟩)
  try dsimp only [L2.cxOf, Cx.nox, Cx.wish]
  obtain ⟨t, b, rfl, h1, h2, rfl⟩ := c
  exact sd_ret (ev_neg (ev_div (ev_neg (ev_var rfl)) (ev_var rfl) ⟨h1, h2⟩)) rfl
theorem f_share_of (hD : DefAt K mg "share_of" "share_of" s_share_of ["count", "number", "units", "word"]) (nb : NoB mg) (h_up_over : FnH P w K mg base "up_over" CX0 1 ["top", "bottom"] c_up_over) : FnH P w K mg base "share_of" CX0 2 ["count", "number", "units", "word"] c_share_of := by
  refine fnh hD sc_share_of (fun ds r c => by obtain ⟨c, n, u, w, rfl, ⟨n1, n2⟩, ⟨u1, u2⟩, hw, rfl⟩ := c; rfl) (fun f cdv A outer s H E hr => ⟨_, (pss_cons (ps_if (pt_cmpR (op_eqD hr.units) (pv 3) pe_str (nomark _)) (pss_one (ps_ret (pe_op op_fdiv (pe_op op_mulU (pv 2) (pv 0)) (pv 1)))) pss_nil)
      (pss_cons (ps_if (pt_cmpR (op_eqD hr.units) (pv 3) pe_str (nomark _)) (pss_one (ps_ret (pe_fn h_up_over (hr.mono (by decide)) rfl (pa_cons (pe_op op_mulU (pv 2) (pv 0)) (pa_cons (pv 1) pa_nil))))) pss_nil)
      (pss_one (ps_ret (pe_op op_fdiv (pe_op op_addU (pe_op op_mulU (pe_op op_mulU pe_int (pv 2)) (pv 0)) (pv 1)) (pe_op op_mulU pe_int (pv 1))))))), fun ds r c => ?_⟩)
  try dsimp only [L2.cxOf, Cx.nox, Cx.wish]
  obtain ⟨c, n, u, w, rfl, ⟨n1, n2⟩, ⟨u1, u2⟩, hw, rfl⟩ := c
  have sw : shp (.str w) = true := by rw [shp_str]; exact hw
  refine sd_seq (sd_if (et_is (et_test (ev_op (ev_var rfl) ev_str (rd_eq sw (by decide +kernel)))) (eqD_str w "cut")) (fun h => sd_ret (ev_div (ev_mulI (ev_var rfl) (ev_var rfl) (Or.inl ⟨by omega, by omega⟩)) (ev_var rfl) ⟨n1, by omega⟩) ?_) (fun h => sd_next ?_))
  · show Res.ok _ = Res.ok _
    rw [shareOf, if_pos (of_decide_eq_true h)]
  refine sd_seq (sd_if (et_is (et_test (ev_op (ev_var rfl) ev_str (rd_eq sw (by decide +kernel)))) (eqD_str w "up")) (fun h2 => sd_ret (ev_call (ea_cons (ev_mulI (ev_var rfl) (ev_var rfl) (Or.inl ⟨by omega, by omega⟩)) (ea_cons (ev_var rfl) ea_nil)) ⟨_, _, rfl, n1, by omega, rfl⟩) ?_) (fun h2 => sd_next ?_))
  · show Res.ok _ = Res.ok _
    rw [shareOf, if_neg (of_decide_eq_false h), if_pos (of_decide_eq_true h2)]; rfl
  · refine sd_ret (ev_div (ev_addI (ev_mulI (ev_mulI ev_int (ev_var rfl) (Or.inl ⟨by decide, by decide⟩)) (ev_var rfl) (Or.inl ⟨by omega, by omega⟩)) (ev_var rfl)) (ev_mulI ev_int (ev_var rfl) (Or.inl ⟨by decide, by decide⟩)) ⟨by omega, by omega⟩) ?_
    show Res.ok _ = Res.ok _
    rw [shareOf, if_neg (of_decide_eq_false h), if_neg (of_decide_eq_false h2)]
theorem f_share (hD : DefAt K mg "share" "share" s_share ["count", "number", "units", "word"]) (nb : NoB mg) (g_MOST_UNITS : GcH K mg "MOST_UNITS" (.int 100)) (g_WORDS : GcH K mg "WORDS" wordsD) (x_BadCounts : ExcH K mg "BadCounts") (x_BadShowing : ExcH K mg "BadShowing") (h_is_within : FnH P w K mg base "is_within" CX0 1 ["thing", "low", "high"] c_is_within) (h_look_number : FnH P w K mg base "look_number" (L2.CX P w) 2 ["number"] c_look_number) (h_share_of : FnH P w K mg base "share_of" CX0 2 ["count", "number", "units", "word"] c_share_of) : FnH P w K mg base "share" (L2.CX P w) 3 ["count", "number", "units", "word"] c_share := by
  refine fnhX hD sc_share (fun ds r c => by obtain ⟨c, n, u, w, rfl, ⟨oc, on, ou, ow⟩, hw, rfl⟩ := c; rfl) (fun f cdv A outer s H E hr => ⟨_, (pss_cons (ps_expr (pe_fnX h_look_number (hr.mono (by decide)) (takes_of rfl rfl rfl rfl) rfl (pa_cons (pv 1) pa_nil)))
      (pss_cons (ps_if (pt_not (pt_truth (pe_fn h_is_within (hr.mono (by decide)) rfl (pa_cons (pv 0) (pa_cons pe_int (pa_cons (pv 1) pa_nil)))) (by intro _; rfl))) (pss_one (ps_rz x_BadCounts (takes_of rfl rfl rfl rfl) rfl rfl)) pss_nil)
      (pss_cons (ps_if (PW.pt (pw_or (pt_not (pt_truth (pe_fn h_is_within (hr.mono (by decide)) rfl (pa_cons (pv 2) (pa_cons pe_int (pa_cons (pe_gc g_MOST_UNITS rfl) pa_nil)))) (by intro _; rfl))) (pw_or (pt_not (pt_truth (pe_callB call_isi rfl nb.isinstance_ b_isinstance (pa_cons (pv 3) (pa_cons (pe_bltn (v := .ty "str") rfl nb.str_ b_str rfl) pa_nil))) (by intro _; rfl))) (pw_or1 (pt_cmpR (op_notInU (u65 hr)) (pv 3) (pe_gc g_WORDS rfl) (by rfl)))))) (pss_one (ps_rz x_BadShowing (takes_of rfl rfl rfl rfl) rfl rfl)) pss_nil)
      (pss_one (ps_ret (pe_fn h_share_of (hr.mono (by decide)) rfl (pa_cons (pv 0) (pa_cons (pv 1) (pa_cons (pv 2) (pa_cons (pv 3) pa_nil)))))))))), fun ds r c => ?_⟩)
  try dsimp only [L2.cxOf, Cx.nox, Cx.wish]
  obtain ⟨c, n, u, w, rfl, ⟨oc, on, ou, ow⟩, hw, rfl⟩ := c
  by_cases hn : within n 1 100000 = true
  · obtain ⟨m, rfl⟩ : ∃ m, n = .int m := by cases n <;> first | exact ⟨_, rfl⟩ | (simp [within] at hn)
    have hm : 1 ≤ m ∧ m ≤ 100000 := by simpa [within] using hn
    refine sd_seq (sd_drop (ev_call (d := .none) (ea_cons (ev_var rfl) ea_nil) ⟨_, rfl, on, by rw [if_pos hn]⟩) ?_)
    refine sd_seq (sd_if (et_not (et_tru (ev_call (ea_cons (ev_var rfl) (ea_cons ev_int (ea_cons (ev_var rfl) ea_nil))) ⟨_, _, _, rfl, oc, rfl⟩))) (fun h => sd_raise ?_) (fun h => sd_next ?_))
    · have e : within c 0 m = false := by simpa [truD] using h
      show shareR c (.int m) u w = _
      rw [shareR, if_pos hn, show intOf (.int m) = m from rfl, e]; rfl
    · have e : within c 0 m = true := by simpa [truD] using h
      obtain ⟨k, rfl⟩ : ∃ k, c = .int k := by cases c <;> first | exact ⟨_, rfl⟩ | (simp [within] at e)
      refine sd_seq (sd_if (x := !(within u 2 100 && isWord w)) (et_is (et_or (et_not (et_tru (ev_call (ea_cons (ev_var rfl) (ea_cons ev_int (ea_cons ev_gc ea_nil))) ⟨_, _, _, rfl, ou, rfl⟩))) fun h1 => et_or (y := !isWord w) (et_not (et_tru (ev_isiS (ev_var rfl) ow))) fun h2 => ?_) ?_) (fun h => sd_raise ?_) (fun h => sd_next ?_))
      · have e2 : isS w = true := by simpa [truD] using h2
        obtain ⟨z, rfl⟩ : ∃ z, w = .str z := by cases w <;> first | exact ⟨_, rfl⟩ | (simp [isS] at e2)
        refine et_is (et_test (ev_op (ev_var rfl) ev_gc (rd_inT (hw rfl) (by decide +kernel)))) ?_
        simp only [Bool.true_xor, inD, List.any_cons, List.any_nil, eqD_str, isWord, Bool.or_false, eq_comm]
      · have : isWord w = true → isS w = true := by cases w <;> simp [isWord, isS]
        cases a1 : within u 2 100 <;> cases a2 : isWord w <;> cases a3 : isS w <;> simp_all [truD]
      · have e2 : (within u 2 100 && isWord w) = false := by cases q : (within u 2 100 && isWord w) <;> simp_all
        show shareR (.int k) (.int m) u w = _
        rw [shareR, if_pos hn, show intOf (.int m) = m from rfl, if_pos e, e2]; rfl
      · have e2 : (within u 2 100 && isWord w) = true := by cases q : (within u 2 100 && isWord w) <;> simp_all
        have e3 := Bool.and_eq_true_iff.mp e2
        obtain ⟨j, rfl⟩ : ∃ j, u = .int j := by
          have e4 := e3.1
          cases u <;> first | exact ⟨_, rfl⟩ | (simp [within] at e4)
        obtain ⟨z, rfl⟩ : ∃ z, w = .str z := by
          have e4 := e3.2
          cases w <;> first | exact ⟨_, rfl⟩ | (simp [isWord] at e4)
        have hj : 2 ≤ j ∧ j ≤ 100 := by simpa [within] using e3.1
        refine sd_ret (ev_call (ea_cons (ev_var rfl) (ea_cons (ev_var rfl) (ea_cons (ev_var rfl) (ea_cons (ev_var rfl) ea_nil)))) ⟨_, _, _, _, rfl, ⟨by omega, by omega⟩, ⟨by omega, by omega⟩, by rw [← shp_str]; exact hw rfl, rfl⟩) ?_
        show shareR (.int k) (.int m) (.int j) (.str z) = _
        rw [shareR, if_pos hn, show intOf (.int m) = m from rfl, if_pos e, if_pos e2]; rfl
  · refine sd_seq (sd_dropX (ex_call (ea_cons (ev_var rfl) ea_nil) ⟨_, rfl, on, by rw [if_neg hn]⟩) ?_)
    show shareR c n u w = _
    rw [shareR, if_neg hn]
theorem f__law_cell (hD : DefAt K mg "_law_cell" "_law_cell" s__law_cell ["script", "k"]) (nb : NoB mg) : FnH P w K mg base "_law_cell" CX0 1 ["script", "k"] c__law_cell := by
  refine fnh hD sc__law_cell (fun ds r c => by obtain ⟨ns, k, rfl, hk, rfl⟩ := c; rfl) (fun f cdv A outer s H E hr => ⟨_, (pss_cons (ps_if (pt_cmpR (op_ltU hr.units0) (pv 1) (pe_callB call_len rfl nb.len b_len (pa_cons (pv 0) pa_nil)) (nomark _)) (pss_one (ps_ret (pe_ix ix_seq (pv 0) (pv 1) (fun _ _ => rfl)))) pss_nil)
      (pss_one (ps_ret pe_int))), fun ds r c => ?_⟩)
  try dsimp only [L2.cxOf, Cx.nox, Cx.wish]
  obtain ⟨ns, k, rfl, hk, rfl⟩ := c
  refine sd_seq (sd_if (x := decide (k < (ns.length : Int))) (et_test (ev_op (ev_var rfl) (ev_len (ev_var rfl)) rd_cmpI)) (fun h => sd_ret (ev_ix (d := .int (cellAt ns k.toNat)) (ev_var rfl) (ev_var rfl) ?_) rfl) (fun h => sd_next ?_))
  · have h' : k < (ns.length : Int) := of_decide_eq_true h
    obtain ⟨j, rfl⟩ := Int.eq_ofNat_of_zero_le hk
    have hl : j < ns.length := by omega
    show (atI ns (j : Int)).map D.int = _
    rw [atI_nat (List.getElem?_eq_getElem hl)]
    unfold cellAt
    rw [List.getD_eq_getElem?_getD, Int.toNat_natCast, List.getElem?_eq_getElem hl]
    rfl
  · have h' : ¬ k < (ns.length : Int) := of_decide_eq_false h
    refine sd_ret ev_int ?_
    show Res.ok (.int (cellAt ns k.toNat)) = _
    unfold cellAt
    rw [List.getD_eq_getElem?_getD, List.getElem?_eq_none (by omega)]
    rfl
theorem f__law_row (hD : DefAt K mg "_law_row" "_law_row" s__law_row ["script", "at"]) (nb : NoB mg) (h__law_cell : FnH P w K mg base "_law_cell" CX0 1 ["script", "k"] c__law_cell) : FnH P w K mg base "_law_row" CX0 2 ["script", "at"] c__law_row := by
  refine fnh hD sc__law_row (fun ds r c => by obtain ⟨ns, at_, rfl, h0, rfl⟩ := c; rfl) (fun f cdv A outer s H E hr => ⟨_, (pss_cons (ps_set (i := 2) sc__law_row.nd rfl (Or.inl rfl) (pe_fn h__law_cell (hr.mono (by decide)) rfl (pa_cons (pv 0) (pa_cons (pv 1) pa_nil))))
      (pss_cons (ps_set (i := 3) sc__law_row.nd rfl (Or.inl rfl) (pe_lst pa_nil))
      (pss_cons (ps_for PassesOwn.never rfl (pi_range1 rfl nb.range_ (pa_cons pe_int pa_nil)) (pg_name (i := 4) sc__law_row.nd rfl (Or.inl rfl)) (pss_one (ps_if (pt_cmpR (op_ltU hr.units0) (pe_fn h__law_cell (hr.mono (by decide)) rfl (pa_cons (pv 0) (pa_cons (pv 1) pa_nil))) (pe_op op_pow pe_int pe_int) (nomark _)) (pss_cons (ps_set (i := 2) sc__law_row.nd rfl (Or.inl rfl) (pe_op op_mod (pe_op op_addU (pe_op op_addU (pe_op op_addU (pe_op op_mulU (pv 2) pe_int) (pe_op op_mulU pe_int (pv 4))) pe_int) (pe_fn h__law_cell (hr.mono (by decide)) rfl (pa_cons (pv 0) (pa_cons (pe_op op_mod (pe_op op_addU (pe_op op_addU (pv 1) pe_int) (pv 4)) pe_int) pa_nil)))) pe_int))
      (pss_one (ps_expr (pe_bm PySem.F.plainAttrs_list PySem.F.slot_list_append PySem.F.type_list_append mt_append (pv 3) (pa_cons (pe_op op_mod (pe_op op_fdiv (pv 2) pe_int) pe_int) pa_nil))))) (pss_cons (ps_expr (pe_bm PySem.F.plainAttrs_list PySem.F.slot_list_append PySem.F.type_list_append mt_append (pv 3) (pa_cons (pe_op op_mod (pv 2) pe_int) pa_nil)))
      (pss_one (ps_set (i := 2) sc__law_row.nd rfl (Or.inl rfl) (pe_op op_fdiv (pv 2) pe_int)))))))
      (pss_one (ps_ret (pv 3)))))), fun ds r c => ?_⟩)
  try dsimp only [L2.cxOf, Cx.nox, Cx.wish]
  obtain ⟨ns, at_, rfl, h0, rfl⟩ := c
  refine sd_seq (sd_asg (ev_call (ea_cons (ev_var rfl) (ea_cons (ev_var rfl) ea_nil)) ⟨_, _, rfl, h0, rfl⟩) ?_)
  refine sd_seq (sd_asgN (evn_lst ea_nil) ?_)
  refine sd_seq (sd_forR1 (n := 60) (ea_cons ev_int ea_nil) ⟨by decide, by decide⟩ (fun i env => ∃ y, env = [.dat (.scr ns), .dat (.int at_), .dat (.int (rowState ns at_ i).1), .lst ((rowState ns at_ i).2.map D.int), y]) ⟨_, rfl⟩ ?_ ?_)
  · rintro i env hi ⟨y, rfl⟩
    refine ⟨_, _, tg_name, ?_⟩
    have hlen := (rowState_ok ns at_ i).1
    have hz : ((rowState ns at_ i).2.map D.int).length < sizeLine := by rw [List.length_map, hlen, sizeLine_eq]; have : i < 60 := hi; omega
    refine sd_if (x := decide (cellAt ns at_.toNat < 10 ^ 18)) (et_is (et_test (ev_op (ev_call (ea_cons (ev_var rfl) (ea_cons (ev_var rfl) ea_nil)) ⟨_, _, rfl, h0, rfl⟩) (ev_pow ev_int ev_int ⟨by decide, by decide, by decide⟩) rd_cmpI)) rfl) (fun h => ?_) (fun h => ?_)
    · have h' := of_decide_eq_true h
      refine sd_seq (sd_asg (ev_mod (ev_addI (ev_addI (ev_addI (ev_mulI (ev_var rfl) ev_int (Or.inr ⟨by decide, by decide⟩)) (ev_mulI ev_int (ev_var rfl) (Or.inl ⟨by decide, by decide⟩))) ev_int) (ev_call (ea_cons (ev_var rfl) (ea_cons (ev_mod (ev_addI (ev_addI (ev_var rfl) ev_int) (ev_var rfl)) ev_int (by decide)) ea_nil)) ⟨_, _, rfl, Int.emod_nonneg _ (by decide), rfl⟩)) ev_int (by decide)) ?_)
      refine sd_app rfl (ev_mod (ev_div (ev_var rfl) ev_int ⟨by decide, by decide⟩) ev_int (by decide)) hz ⟨.dat (.int (i : Int)), ?_⟩
      rw [rowState_succ, rowStep, if_pos h']
      simp only [List.map_append]
      rfl
    · have h' := of_decide_eq_false h
      refine sd_seq (sd_app rfl (ev_mod (ev_var rfl) ev_int (by decide)) hz ?_)
      refine sd_asg (ev_div (ev_var rfl) ev_int ⟨by decide, by decide⟩) ⟨.dat (.int (i : Int)), ?_⟩
      rw [rowState_succ, rowStep, if_neg h']
      simp only [List.map_append]
      rfl
  · rintro env ⟨y, rfl⟩
    exact sd_freeze (i := 3) rfl rfl (sd_ret (ev_var rfl) rfl)
theorem f__law_asked (hD : DefAt K mg "_law_asked" "_law_asked" s__law_asked ["row", "at", "most"]) (nb : NoB mg) : FnH P w K mg base "_law_asked" CX0 1 ["row", "at", "most"] c__law_asked := by
  refine fnh hD sc__law_asked (fun ds r c => by obtain ⟨row, at_, most, rfl, hr_, hm, rfl⟩ := c; rfl) (fun f cdv A outer s H E hr => ⟨_, (pss_one (ps_ret (pe_op op_addU pe_int (pe_op op_mod (pe_ix ix_seq (pv 0) (pe_op op_mod (pv 1) pe_int) (fun _ _ => rfl)) (pe_ix ix_seq (pe_lst (pa_cons pe_int (pa_cons pe_int (pa_cons (pv 2) pa_nil)))) (pe_op op_mod (pe_ix ix_seq (pv 0) (pe_op op_mod (pe_op op_addU (pv 1) pe_int) pe_int) (fun _ _ => rfl)) pe_int) (fun _ _ => rfl)))))), fun ds r c => ?_⟩)
  try dsimp only [L2.cxOf, Cx.nox, Cx.wish]
  obtain ⟨row, at_, most, rfl, hr_, hm, rfl⟩ := c
  have b1 := Int.emod_nonneg at_ (show (60 : Int) ≠ 0 by decide)
  have b2 := Int.emod_lt_of_pos at_ (show (0 : Int) < 60 by decide)
  have b3 := Int.emod_nonneg (at_ + 1) (show (60 : Int) ≠ 0 by decide)
  have b4 := Int.emod_lt_of_pos (at_ + 1) (show (0 : Int) < 60 by decide)
  have b5 := hr_.bd ((at_ + 1) % 60).toNat
  have b6 := Int.emod_nonneg (rw_ row ((at_ + 1) % 60).toNat) (show (3 : Int) ≠ 0 by decide)
  have b7 := Int.emod_lt_of_pos (rw_ row ((at_ + 1) % 60).toNat) (show (0 : Int) < 3 by decide)
  refine sd_ret (ev_addI ev_int (ev_mod (ev_ix (ev_var rfl) (ev_mod (ev_var rfl) ev_int (by decide)) (item_row hr_ b1 b2)) (ev_ix (d := .int (rw_ [6, 30, most] (rw_ row ((at_ + 1) % 60).toNat % 3).toNat)) (ev_lst (ea_cons ev_int (ea_cons ev_int (ea_cons (ev_var rfl) ea_nil)))) (ev_mod (ev_ix (ev_var rfl) (ev_mod (ev_addI (ev_var rfl) ev_int) ev_int (by decide)) (item_row hr_ b3 b4)) ev_int (by decide)) ?_) ?_)) rfl
  · exact atI_ints (row := [6, 30, most]) b6 b7
  · generalize rw_ row ((at_ + 1) % 60).toNat % 3 = z at *
    have : z = 0 ∨ z = 1 ∨ z = 2 := by omega
    rcases this with rfl | rfl | rfl
    · exact (by decide : (0 : Int) < 6)
    · exact (by decide : (0 : Int) < 30)
    · exact hm
theorem f__law_share_word (hD : DefAt K mg "_law_share_word" "_law_share_word" s__law_share_word ["count", "asked", "units", "word"]) (nb : NoB mg) (XC : ExcAll K mg XS) (h_share : FnH P w K mg base "share" (L2.CX P w) 3 ["count", "number", "units", "word"] c_share) : FnH P w K mg base "_law_share_word" CX0 4 ["count", "asked", "units", "word"] c__law_share_word := by
  obtain ⟨C_BadCounts, m_BadCounts⟩ := XC.m "BadCounts" (by decide +kernel)
  obtain ⟨C_BadNumber, m_BadNumber⟩ := XC.m "BadNumber" (by decide +kernel)
  obtain ⟨C_BadPoll, m_BadPoll⟩ := XC.m "BadPoll" (by decide +kernel)
  obtain ⟨C_BadShowing, m_BadShowing⟩ := XC.m "BadShowing" (by decide +kernel)
  obtain ⟨C_ShareError, m_ShareError⟩ := XC.m "ShareError" (by decide +kernel)
  refine fnh hD sc__law_share_word (fun ds r c => by obtain ⟨c, n, u, w, rfl, ⟨oc, on, ou, ow⟩, hw, rfl⟩ := c; rfl) (fun f cdv A outer s H E hr => ⟨_, (pss_one (ps_try_mix sc__law_share_word.nd rfl rfl takes0 (fun W pn xe tk _ => Ly.PSs.eqv (by exact (pss_one (ps_ret (pe_fnS h_share (hr.mono (by decide)) tk (by rfl) (pa_cons (pv 0) (pa_cons (pv 1) (pa_cons (pv 2) (pa_cons (pv 3) pa_nil)))))))) (by first | (dsimp only [L2.cxOf, Cx.nox, Cx.wish, Cx.tr] <;> exact rfl) | exact rfl))
      (.consN (c := .ref C_BadNumber) (i := 4) ⟨rfl, by decide, .inl m_BadNumber⟩ rfl rfl (fun a oe cls d pn hz hf => Ly.PSs.eqv (by exact (pss_one (ps_ret (pe_ifExp (PW.pt (pw_and (pt_truth (pe_callB (call_isE' hz hf) (by rfl) nb.isinstance_ b_isinstance (pa_cons (pv 4) (pa_cons (pe_glob (v := .ref C_ShareError) (by rfl) m_ShareError rfl) pa_nil))) (by intro _; rfl)) (pw_and1 (pt_not (pt_truth (pe_callB (call_isE' hz hf) (by rfl) nb.isinstance_ b_isinstance (pa_cons (pv 4) (pa_cons (pe_glob (v := .ref C_BadPoll) (by rfl) m_BadPoll rfl) pa_nil))) (by intro _; rfl)))))) pe_str pe_str)))) (by first | (dsimp only [L2.cxOf, Cx.nox, Cx.wish, Cx.suite] <;> exact rfl) | exact rfl))
      (.consN (c := .ref C_BadCounts) (i := 4) ⟨rfl, by decide, .inl m_BadCounts⟩ rfl rfl (fun a oe cls d pn hz hf => Ly.PSs.eqv (by exact (pss_one (ps_ret (pe_ifExp (PW.pt (pw_and (pt_truth (pe_callB (call_isE' hz hf) (by rfl) nb.isinstance_ b_isinstance (pa_cons (pv 4) (pa_cons (pe_glob (v := .ref C_ShareError) (by rfl) m_ShareError rfl) pa_nil))) (by intro _; rfl)) (pw_and1 (pt_not (pt_truth (pe_callB (call_isE' hz hf) (by rfl) nb.isinstance_ b_isinstance (pa_cons (pv 4) (pa_cons (pe_glob (v := .ref C_BadPoll) (by rfl) m_BadPoll rfl) pa_nil))) (by intro _; rfl)))))) pe_str pe_str)))) (by first | (dsimp only [L2.cxOf, Cx.nox, Cx.wish, Cx.suite] <;> exact rfl) | exact rfl))
      (.cons0 (c := .ref C_BadShowing) ⟨rfl, by decide, .inl m_BadShowing⟩ (fun a oe cls d pn hz hf => Ly.PSs.eqv (by exact (pss_one (ps_ret pe_str))) (by first | (dsimp only [L2.cxOf, Cx.nox, Cx.wish, Cx.suite] <;> exact rfl) | exact rfl))
      .nil))))), fun ds r c => ?_⟩)
  try dsimp only [L2.cxOf, Cx.nox, Cx.wish]
  obtain ⟨c, n, u, w, rfl, ⟨oc, on, ou, ow⟩, hw, rfl⟩ := c
  have hex : ∀ x, shareR c n u w = .err x → x = "BadNumber" ∨ x = "BadCounts" ∨ x = "BadShowing" := by
    intro x hx
    unfold shareR at hx
    repeat' split at hx
    all_goals first | (cases hx; done) | (cases hx; simp)
  refine sd_try (ex := fun x => shareR c n u w = .err x) (fun W => ?_) (fun x C m hx => ?_)
  · cases q : shareR c n u w with
    | ok d => exact sds_ret (ev_callS (ea_cons (ev_var rfl) (ea_cons (ev_var rfl) (ea_cons (ev_var rfl) (ea_cons (ev_var rfl) ea_nil)))) ⟨_, _, _, _, rfl, ⟨oc, on, ou, ow⟩, hw, q.symm⟩) rfl
    | err x => exact sds_retX (exs_call (ea_cons (ev_var rfl) (ea_cons (ev_var rfl) (ea_cons (ev_var rfl) (ea_cons (ev_var rfl) ea_nil)))) ⟨_, _, _, _, rfl, ⟨oc, on, ou, ow⟩, hw, q.symm⟩) rfl
  · have sub : ∀ (y : Str) (Cy : Addr), y ∈ XS → x ∈ XS → mg y = some (.ref Cy) → PySem.W.exmOne K (.ref C) (.ref Cy) = some (subOf x y) := fun y Cy hy hx my => XC.exm x y hx hy C Cy m my
    rw [hx]
    rcases hex x hx with rfl | rfl | rfl
    · refine hn_takeN (sub "BadNumber" C_BadNumber (by decide +kernel) (by decide +kernel) m_BadNumber) fun a => sd_ret (d := .str "number") (ev_if (x := true) (et_and (x := true) (et_tru (ev_isE rfl (XC.ec _ (by decide +kernel) C m) (XC.kit "BadNumber" "ShareError" (by decide +kernel) (by decide +kernel) C _ m m_ShareError))) fun _ => et_not (et_tru (ev_isE rfl (XC.ec _ (by decide +kernel) C m) (XC.kit "BadNumber" "BadPoll" (by decide +kernel) (by decide +kernel) C _ m m_BadPoll)))) (fun _ => ev_str) (fun h => nomatch h)) rfl
    · refine hn_skip (sub "BadNumber" C_BadNumber (by decide +kernel) (by decide +kernel) m_BadNumber) (hn_takeN (sub "BadCounts" C_BadCounts (by decide +kernel) (by decide +kernel) m_BadCounts) fun a => sd_ret (d := .str "counts") (ev_if (x := true) (et_and (x := true) (et_tru (ev_isE rfl (XC.ec _ (by decide +kernel) C m) (XC.kit "BadCounts" "ShareError" (by decide +kernel) (by decide +kernel) C _ m m_ShareError))) fun _ => et_not (et_tru (ev_isE rfl (XC.ec _ (by decide +kernel) C m) (XC.kit "BadCounts" "BadPoll" (by decide +kernel) (by decide +kernel) C _ m m_BadPoll)))) (fun _ => ev_str) (fun h => nomatch h)) rfl)
    · exact hn_skip (sub "BadNumber" C_BadNumber (by decide +kernel) (by decide +kernel) m_BadNumber) (hn_skip (sub "BadCounts" C_BadCounts (by decide +kernel) (by decide +kernel) m_BadCounts) (hn_take (sub "BadShowing" C_BadShowing (by decide +kernel) (by decide +kernel) m_BadShowing) fun a => sd_ret ev_str rfl))
theorem f_law {f0 : Addr} {fd0 : FuncData} (hD : FunD K "law" "law" (defArgs s_law) (defBody s_law) (defScope s_law) [] [] f0 fd0) (nb : NoB mg) (h__law_asked : FnH P w K mg base "_law_asked" CX0 1 ["row", "at", "most"] c__law_asked) (h__law_row : FnH P w K mg base "_law_row" CX0 2 ["script", "at"] c__law_row) (h__law_share_word : FnH P w K mg base "_law_share_word" CX0 4 ["count", "asked", "units", "word"] c__law_share_word) (h_share : FnH P w K mg base "share" (L2.CX P w) 3 ["count", "number", "units", "word"] c_share) : FnOk P w K mg base CX0 5 f0 fd0 ["script"] (spD K mg c_law) := by
  refine fno hD sc_law (fun ds r c => by obtain ⟨ns, rfl, rfl⟩ := c; rfl) (fun f cdv A outer s H E hr => ⟨_, (pss_cons (ps_set (i := 1) sc_law.nd rfl (Or.inl rfl) (pe_fn h__law_row (hr.mono (by decide)) rfl (pa_cons (pv 0) (pa_cons pe_int pa_nil))))
      (pss_cons (ps_set (i := 2) sc_law.nd rfl (Or.inr rfl) (pe_fn h__law_asked (hr.mono (by decide)) rfl (pa_cons (pv 1) (pa_cons pe_int (pa_cons pe_int pa_nil)))))
      (pss_cons (ps_set (i := 3) sc_law.nd rfl (Or.inr rfl) (pe_op op_mod (pe_ix ix_seq (pv 1) pe_int (fun _ _ => rfl)) (pe_op op_addU (pv 2) pe_int)))
      (pss_cons (ps_set (i := 4) sc_law.nd rfl (Or.inr rfl) (pe_op op_addU pe_int (pe_op op_mod (pe_ix ix_seq (pv 1) pe_int (fun _ _ => rfl)) pe_int)))
      (pss_cons (ps_setLc (i := 5) (own := [("word", 6)]) rfl sc_law.nd rfl rfl (sw_true rfl rfl rfl (by decide +kernel)) (pi_tup (pe_tup (pa_cons pe_str (pa_cons pe_str (pa_cons pe_str pa_nil))))) (blkOk_by (own := [("word", 6)]) (N := N_law) (sc := defScope s_law) (by decide +kernel)) (fun _ _ _ _ _ => (pg_name (i := 6) sc_law.nd rfl (Or.inl rfl))) (fun _ _ _ _ _ => pts_nil) (fun _ _ _ _ _ => Ly.PE.eqv (by exact (pe_fnN h_share (hr.mono (by decide)) rfl (pa_cons (pv 3) (pa_cons (pv 2) (pa_cons (pv 4) (pa_cons (pv 6) pa_nil)))))) (by first | (dsimp only [L2.cxOf, Cx.nox, Cx.wish, Cx.blk] <;> exact rfl) | exact rfl)))
      (pss_cons (ps_if (pt_not (pt_chain (op_leU hr.units0) (op_ltU hr.units0) (pe_op op_mulU (pe_ix ix_seq (pv 5) pe_int (fun _ _ => rfl)) (pv 2)) (pe_op op_mulU (pv 4) (pv 3)) (pe_op op_mulU (pe_op op_addU (pe_ix ix_seq (pv 5) pe_int (fun _ _ => rfl)) pe_int) (pv 2)))) (pss_one (ps_ret pe_bl)) pss_nil)
      (pss_cons (ps_set (i := 7) sc_law.nd rfl (Or.inl rfl) (pe_op op_mulU (pe_op op_mulU pe_int (pv 4)) (pv 3)))
      (pss_cons (ps_if (pt_not (pt_chain (op_leU hr.units0) (op_ltU hr.units0) (pe_op op_mulU (pe_op op_sub (pe_op op_mulU pe_int (pe_ix ix_seq (pv 5) pe_int (fun _ _ => rfl))) pe_int) (pv 2)) (pv 7) (pe_op op_mulU (pe_op op_addU (pe_op op_mulU pe_int (pe_ix ix_seq (pv 5) pe_int (fun _ _ => rfl))) pe_int) (pv 2)))) (pss_one (ps_ret pe_bl)) pss_nil)
      (pss_cons (ps_if (pt_not (pt_chain (op_ltU hr.units0) (op_leU hr.units0) (pe_op op_mulU (pe_op op_sub (pe_ix ix_seq (pv 5) pe_int (fun _ _ => rfl)) pe_int) (pv 2)) (pe_op op_mulU (pv 4) (pv 3)) (pe_op op_mulU (pe_ix ix_seq (pv 5) pe_int (fun _ _ => rfl)) (pv 2)))) (pss_one (ps_ret pe_bl)) pss_nil)
      (pss_cons (ps_set (i := 8) sc_law.nd rfl (Or.inl rfl) (pe_ix ix_seq (pe_lst (pa_cons pe_non (pa_cons pe_int (pa_cons pe_int (pa_cons pe_bl (pa_cons (pe_un un_neg pe_int) pa_nil)))))) (pe_op op_mod (pe_ix ix_seq (pv 1) pe_int (fun _ _ => rfl)) pe_int) (fun _ _ => rfl)))
      (pss_cons (ps_if (PW.pt (pw_or (pt_cmpR (op_neD hr.units) (pe_fn h__law_share_word (hr.mono (by decide)) rfl (pa_cons pe_non (pa_cons (pv 8) (pa_cons pe_non (pa_cons pe_non pa_nil))))) pe_str (nomark _)) (pw_or1 (pt_cmpR (op_neD hr.units) (pe_fn h__law_share_word (hr.mono (by decide)) rfl (pa_cons pe_int (pa_cons pe_int (pa_cons pe_int (pa_cons pe_str pa_nil))))) pe_int (nomark _))))) (pss_one (ps_ret pe_bl)) pss_nil)
      (pss_cons (ps_set (i := 8) sc_law.nd rfl (Or.inl rfl) (pe_ix ix_seq (pe_lst (pa_cons pe_non (pa_cons (pe_un un_neg pe_int) (pa_cons (pe_op op_addU (pv 2) pe_int) (pa_cons pe_bl pa_nil))))) (pe_op op_mod (pe_ix ix_seq (pv 1) pe_int (fun _ _ => rfl)) pe_int) (fun _ _ => rfl)))
      (pss_cons (ps_if (pt_cmpR (op_neD hr.units) (pe_fn h__law_share_word (hr.mono (by decide)) rfl (pa_cons (pv 8) (pa_cons (pv 2) (pa_cons pe_non (pa_cons pe_non pa_nil))))) pe_str (nomark _)) (pss_one (ps_ret pe_bl)) pss_nil)
      (pss_cons (ps_if (pt_cmpR (op_neD hr.units) (pe_fn h__law_share_word (hr.mono (by decide)) rfl (pa_cons (pv 3) (pa_cons (pv 2) (pa_cons (pe_ix ix_seq (pe_lst (pa_cons pe_non (pa_cons pe_int (pa_cons pe_int (pa_cons pe_bl pa_nil))))) (pe_op op_mod (pe_ix ix_seq (pv 1) pe_int (fun _ _ => rfl)) pe_int) (fun _ _ => rfl)) (pa_cons pe_str pa_nil))))) pe_str (nomark _)) (pss_one (ps_ret pe_bl)) pss_nil)
      (pss_one (ps_ret (pe_cmpR (op_eqD hr.units) (pe_fn h__law_share_word (hr.mono (by decide)) rfl (pa_cons (pv 3) (pa_cons (pv 2) (pa_cons (pv 4) (pa_cons (pe_ix ix_seq (pe_lst (pa_cons pe_non (pa_cons pe_str (pa_cons pe_str (pa_cons pe_int pa_nil))))) (pe_op op_mod (pe_ix ix_seq (pv 1) pe_int (fun _ _ => rfl)) pe_int) (fun _ _ => rfl)) pa_nil))))) pe_str (nomark _)))))))))))))))))), fun ds r c => ?_⟩)
  try dsimp only [L2.cxOf, Cx.nox, Cx.wish]
  obtain ⟨ns, rfl, rfl⟩ := c
  have hR := lawRow_row ns 2
  refine sd_seq (sd_asg (ev_call (ea_cons (ev_var rfl) (ea_cons ev_int ea_nil)) ⟨_, _, rfl, by decide, rfl⟩) ?_)
  generalize lawRow ns 2 = row at *
  have hA := lawAsked_bd hR (at_ := 0) (most := 100000) (by decide)
  refine sd_seq (sd_asg (ev_call (ea_cons (ev_var rfl) (ea_cons ev_int (ea_cons ev_int ea_nil))) ⟨_, _, _, rfl, hR, by decide, rfl⟩) ?_)
  generalize lawAsked row 0 100000 = n at *
  have b2 := hR.bd 2
  have b3 := hR.bd 3
  have b4 := hR.bd 4
  have b5 := hR.bd 5
  have b6 := hR.bd 6
  have b7 := hR.bd 7
  refine sd_seq (sd_asg (ev_mod (ev_ix (ev_var rfl) ev_int (item_row hR (by decide) (by decide))) (ev_addI (ev_var rfl) ev_int) (by omega)) ?_)
  have c1 := Int.emod_nonneg (rw_ row 2) (show n + 1 ≠ 0 by omega)
  have c2 := Int.emod_lt_of_pos (rw_ row 2) (show 0 < n + 1 by omega)
  change SD K mg E _ (List.set _ 3 (SL.dat (.int (rw_ row 2 % (n + 1))))) _
  generalize rw_ row 2 % (n + 1) = c at *
  refine sd_seq (sd_asg (ev_addI ev_int (ev_mod (ev_ix (ev_var rfl) ev_int (item_row hR (by decide) (by decide))) ev_int (by decide))) ?_)
  change SD K mg E _ (List.set _ 4 (SL.dat (.int (2 + rw_ row 3 % 99)))) _
  have u1 : 2 ≤ 2 + rw_ row 3 % 99 ∧ 2 + rw_ row 3 % 99 ≤ 100 := by omega
  generalize 2 + rw_ row 3 % 99 = u at *
  have wn : within (.int n) 1 100000 = true := by simp [within]; omega
  have wc : within (.int c) 0 n = true := by simp [within]; omega
  have wu : within (.int u) 2 100 = true := by simp [within]; omega
  have hsh : ∀ z : Str, isWord (.str z) = true → shareR (.int c) (.int n) (.int u) (.str z) = .ok (.int (shareOf c n u z)) := fun z hz => by
    rw [shareR, if_pos wn, show intOf (.int n) = n from rfl, if_pos wc, wu, hz]; rfl
  refine sd_seq (sd_asg (d := .list [.int (shareOf c n u "cut"), .int (shareOf c n u "near"), .int (shareOf c n u "up")]) (ev_ofN (evn_lcT (ds := [.str "cut", .str "near", .str "up"]) (fun _ => true) (fun w => .int (shareOf c n u (strOf w))) (ev_tup (ea_cons ev_str (ea_cons ev_str (ea_cons ev_str ea_nil)))) (by rw [sizeLine_eq]; decide) fun x hx => ?_)) ?_)
  · refine ⟨_, _, tg_name, by decide, et_yes, fun _ => ?_⟩
    have hx' : x = .str "cut" ∨ x = .str "near" ∨ x = .str "up" := by simpa using hx
    rcases hx' with rfl | rfl | rfl
    all_goals exact ev_call (ea_cons (ev_var rfl) (ea_cons (ev_var rfl) (ea_cons (ev_var rfl) (ea_cons (ev_var rfl) ea_nil)))) ⟨_, _, _, _, rfl, ⟨rfl, rfl, rfl, rfl⟩, fun _ => by decide +kernel, (hsh _ (by decide +kernel)).symm⟩
  have s1 := share_cut (c := c) (n := n) (u := u) (by omega)
  have s2 := share_near (c := c) (n := n) (u := u) (by omega)
  have s3 := share_up (c := c) (n := n) (u := u) (by omega)
  have cn : ∀ z : Int, CMul z n := fun z => Or.inr ⟨by omega, by omega⟩
  have cu : ∀ z : Int, CMul u z := fun z => Or.inl ⟨by omega, by omega⟩
  have mulI : ∀ {env : Evn} {ta tb : TE} {i : Int}, EvD K ta env (.int i) → EvD K tb env (.int n) → EvD K (tOp (rMulU K) ta tb) env (.int (i * n)) := fun h1 h2 => ev_mulI h1 h2 (cn _)
  generalize h1 : shareOf c n u "cut" = x1 at *
  generalize h2 : shareOf c n u "near" = x2 at *
  generalize h3 : shareOf c n u "up" = x3 at *
  refine sd_seq (sd_if (x := false) (et_is (et_not (et_test (ev_chain (x := true) (y := true) (ev_mulI (ev_ix (d := .int x1) (ev_var rfl) ev_int rfl) (ev_var rfl) (cn _)) (ev_mulI (ev_var rfl) (ev_var rfl) (cu _)) (fun _ => ev_mulI (ev_addI (ev_ix (d := .int x1) (ev_var rfl) ev_int rfl) ev_int) (ev_var rfl) (cn _)) (by rw [← decide_eq_true s1.1]; exact rd_cmpI) fun _ => by rw [← decide_eq_true s1.2]; exact rd_cmpI))) rfl) (fun h => nomatch h) fun _ => sd_next ?_)
  refine sd_seq (sd_asg (ev_mulI (ev_mulI ev_int (ev_var rfl) (Or.inl ⟨by decide, by decide⟩)) (ev_var rfl) (Or.inl ⟨by omega, by omega⟩)) ?_)
  refine sd_seq (sd_if (x := false) (et_is (et_not (et_test (ev_chain (x := true) (y := true) (ev_mulI (ev_sub (ev_mulI ev_int (ev_ix (d := .int x2) (ev_var rfl) ev_int rfl) (Or.inl ⟨by decide, by decide⟩)) ev_int) (ev_var rfl) (cn _)) (ev_var rfl) (fun _ => ev_mulI (ev_addI (ev_mulI ev_int (ev_ix (d := .int x2) (ev_var rfl) ev_int rfl) (Or.inl ⟨by decide, by decide⟩)) ev_int) (ev_var rfl) (cn _)) (by rw [← decide_eq_true s2.1]; exact rd_cmpI) fun _ => by rw [← decide_eq_true s2.2]; exact rd_cmpI))) rfl) (fun h => nomatch h) fun _ => sd_next ?_)
  refine sd_seq (sd_if (x := false) (et_is (et_not (et_test (ev_chain (x := true) (y := true) (ev_mulI (ev_sub (ev_ix (d := .int x3) (ev_var rfl) ev_int rfl) ev_int) (ev_var rfl) (cn _)) (ev_mulI (ev_var rfl) (ev_var rfl) (cu _)) (fun _ => ev_mulI (ev_ix (d := .int x3) (ev_var rfl) ev_int rfl) (ev_var rfl) (cn _)) (by rw [← decide_eq_true s3.1]; exact rd_cmpI) fun _ => by rw [← decide_eq_true s3.2]; exact rd_cmpI))) rfl) (fun h => nomatch h) fun _ => sd_next ?_)
  -- odd numbers
  have z5 : rw_ row 4 % 5 = 0 ∨ rw_ row 4 % 5 = 1 ∨ rw_ row 4 % 5 = 2 ∨ rw_ row 4 % 5 = 3 ∨ rw_ row 4 % 5 = 4 := by omega
  refine sd_seq (sd_asg (ev_ix (ev_lst (ea_cons ev_non (ea_cons ev_int (ea_cons ev_int (ea_cons ev_bl (ea_cons (ev_neg ev_int) ea_nil)))))) (ev_mod (ev_ix (ev_var rfl) ev_int (item_row hR (by decide) (by decide))) ev_int (by decide)) (item_list (Int.emod_nonneg _ (by decide)) (Int.emod_lt_of_pos _ (by decide)))) ?_)
  change SD K mg E _ (List.set _ 8 (SL.dat (([.none, .int 0, .int 100001, .bool true, .int (-1)] : List Ly.D).getD (rw_ row 4 % 5).toNat .none))) _
  have o1 : noObj (([.none, .int 0, .int 100001, .bool true, .int (-1)] : List Ly.D).getD (rw_ row 4 % 5).toNat .none) = true ∧ ∀ a b c, shareR a (([.none, .int 0, .int 100001, .bool true, .int (-1)] : List Ly.D).getD (rw_ row 4 % 5).toNat .none) b c = .err "BadNumber" := by
    rcases z5 with h | h | h | h | h <;> rw [h] <;> exact ⟨rfl, fun _ _ _ => rfl⟩
  generalize ([.none, .int 0, .int 100001, .bool true, .int (-1)] : List Ly.D).getD (rw_ row 4 % 5).toNat .none = odd at *
  refine sd_seq (sd_if (x := false) (et_is (et_or (x := false) (y := false) (et_is (et_test (ev_op (ev_call (ea_cons ev_non (ea_cons (ev_var rfl) (ea_cons ev_non (ea_cons ev_non ea_nil)))) ⟨_, _, _, _, rfl, ⟨rfl, o1.1, rfl, rfl⟩, (fun h => nomatch h), by rw [o1.2]⟩) ev_str (rd_ne (by decide +kernel) (by decide +kernel)))) (by decide +kernel)) fun _ => (et_is (et_test (ev_op (ev_call (ea_cons ev_int (ea_cons ev_int (ea_cons ev_int (ea_cons ev_str ea_nil)))) ⟨_, _, _, _, rfl, ⟨rfl, rfl, rfl, rfl⟩, (fun _ => by decide +kernel), rfl⟩) ev_int (rd_ne (by decide +kernel) (by decide +kernel)))) (by decide +kernel))) rfl) (fun h => nomatch h) fun _ => sd_next ?_)
  -- odd counts
  have z4 : rw_ row 5 % 4 = 0 ∨ rw_ row 5 % 4 = 1 ∨ rw_ row 5 % 4 = 2 ∨ rw_ row 5 % 4 = 3 := by omega
  refine sd_seq (sd_asg (ev_ix (ev_lst (ea_cons ev_non (ea_cons (ev_neg ev_int) (ea_cons (ev_addI (ev_var rfl) ev_int) (ea_cons ev_bl ea_nil))))) (ev_mod (ev_ix (ev_var rfl) ev_int (item_row hR (by decide) (by decide))) ev_int (by decide)) (item_list (Int.emod_nonneg _ (by decide)) (Int.emod_lt_of_pos _ (by decide)))) ?_)
  change SD K mg E _ (List.set _ 8 (SL.dat (([.none, .int (-1), .int (n + 1), .bool true] : List Ly.D).getD (rw_ row 5 % 4).toNat .none))) _
  have o2 : noObj (([.none, .int (-1), .int (n + 1), .bool true] : List Ly.D).getD (rw_ row 5 % 4).toNat .none) = true ∧ ∀ b c, shareR (([.none, .int (-1), .int (n + 1), .bool true] : List Ly.D).getD (rw_ row 5 % 4).toNat .none) (.int n) b c = .err "BadCounts" := by
    have e3 : within (.int (n + 1)) 0 n = false := by simp [within]; omega
    rcases z4 with h | h | h | h <;> rw [h] <;> refine ⟨rfl, fun _ _ => ?_⟩ <;> rw [shareR, if_pos wn]
    · rfl
    · rfl
    · rw [if_neg]; intro q; rw [show intOf (.int n) = n from rfl] at q; rw [show (([.none, .int (-1), .int (n + 1), .bool true] : List Ly.D).getD (2 : Int).toNat .none) = .int (n + 1) from rfl, e3] at q; cases q
    · rfl
  generalize ([.none, .int (-1), .int (n + 1), .bool true] : List Ly.D).getD (rw_ row 5 % 4).toNat .none = odd2 at *
  refine sd_seq (sd_if (x := false) (et_is (et_test (ev_op (ev_call (ea_cons (ev_var rfl) (ea_cons (ev_var rfl) (ea_cons ev_non (ea_cons ev_non ea_nil)))) ⟨_, _, _, _, rfl, ⟨o2.1, rfl, rfl, rfl⟩, (fun h => nomatch h), by rw [o2.2]⟩) ev_str (rd_ne (by decide +kernel) (by decide +kernel)))) (by decide +kernel)) (fun h => nomatch h) fun _ => sd_next ?_)
  -- odd units
  have z6 : rw_ row 6 % 4 = 0 ∨ rw_ row 6 % 4 = 1 ∨ rw_ row 6 % 4 = 2 ∨ rw_ row 6 % 4 = 3 := by omega
  have o3 : noObj (([.none, .int 1, .int 101, .bool true] : List Ly.D).getD (rw_ row 6 % 4).toNat .none) = true ∧ ∀ w, shareR (.int c) (.int n) (([.none, .int 1, .int 101, .bool true] : List Ly.D).getD (rw_ row 6 % 4).toNat .none) w = .err "BadShowing" := by
    rcases z6 with h | h | h | h <;> rw [h] <;> refine ⟨rfl, fun _ => ?_⟩ <;> rw [shareR, if_pos wn, show intOf (.int n) = n from rfl, if_pos wc] <;> rfl
  refine sd_seq (sd_if (x := false) (et_is (et_test (ev_op (ev_call (d := .str "showing") (ea_cons (ev_var rfl) (ea_cons (ev_var rfl) (ea_cons (ev_ix (ev_lst (ea_cons ev_non (ea_cons ev_int (ea_cons ev_int (ea_cons ev_bl ea_nil))))) (ev_mod (ev_ix (ev_var rfl) ev_int (item_row hR (by decide) (by decide))) ev_int (by decide)) (item_list (Int.emod_nonneg _ (by decide)) (Int.emod_lt_of_pos _ (by decide)))) (ea_cons ev_str ea_nil)))) ⟨_, _, _, _, rfl, ⟨rfl, rfl, o3.1, rfl⟩, (fun _ => by decide +kernel), by rw [show Int.toNat 6 = 6 from rfl, o3.2]; rfl⟩) ev_str (rd_ne (by decide +kernel) (by decide +kernel)))) (by decide +kernel)) (fun h => nomatch h) fun _ => sd_next ?_)
  -- odd words
  have z7 : rw_ row 7 % 4 = 0 ∨ rw_ row 7 % 4 = 1 ∨ rw_ row 7 % 4 = 2 ∨ rw_ row 7 % 4 = 3 := by omega
  have o4 : noObj (([.none, .str "", .str "down", .int 1] : List Ly.D).getD (rw_ row 7 % 4).toNat .none) = true ∧ shp (([.none, .str "", .str "down", .int 1] : List Ly.D).getD (rw_ row 7 % 4).toNat .none) = true ∧ isWord (([.none, .str "", .str "down", .int 1] : List Ly.D).getD (rw_ row 7 % 4).toNat .none) = false := by
    rcases z7 with h | h | h | h <;> rw [h] <;> exact ⟨rfl, by decide +kernel, by decide +kernel⟩
  refine sd_ret (ev_is (ev_op (ev_call (d := .str "showing") (ea_cons (ev_var rfl) (ea_cons (ev_var rfl) (ea_cons (ev_var rfl) (ea_cons (ev_ix (ev_lst (ea_cons ev_non (ea_cons ev_str (ea_cons ev_str (ea_cons ev_int ea_nil))))) (ev_mod (ev_ix (ev_var rfl) ev_int (item_row hR (by decide) (by decide))) ev_int (by decide)) (item_list (Int.emod_nonneg _ (by decide)) (Int.emod_lt_of_pos _ (by decide)))) ea_nil)))) ⟨_, _, _, _, rfl, ⟨rfl, rfl, rfl, o4.1⟩, (fun _ => o4.2.1), ?_⟩) ev_str (rd_eq (by decide +kernel) (by decide +kernel))) (show _ = Ly.D.bool true by rw [show eqD (.str "showing") (.str "showing") = true by decide +kernel])) rfl
  rw [show Int.toNat 7 = 7 from rfl, shareR, if_pos wn, show intOf (.int n) = n from rfl, if_pos wc, wu, o4.2.2]; rfl
end
end LW
namespace LW
open PySem L2 Ly He
def d_is_within : DefD := ⟨("is_within", none), "is_within", "is_within", defArgs s_is_within, defBody s_is_within, defScope s_is_within, [], []⟩
def d_look_number : DefD := ⟨("look_number", none), "look_number", "look_number", defArgs s_look_number, defBody s_look_number, defScope s_look_number, [], []⟩
def d_up_over : DefD := ⟨("up_over", none), "up_over", "up_over", defArgs s_up_over, defBody s_up_over, defScope s_up_over, [], []⟩
def d_share_of : DefD := ⟨("share_of", none), "share_of", "share_of", defArgs s_share_of, defBody s_share_of, defScope s_share_of, [], []⟩
def d_share : DefD := ⟨("share", none), "share", "share", defArgs s_share, defBody s_share, defScope s_share, [], []⟩
def d__law_cell : DefD := ⟨("_law_cell", none), "_law_cell", "_law_cell", defArgs s__law_cell, defBody s__law_cell, defScope s__law_cell, [], []⟩
def d__law_row : DefD := ⟨("_law_row", none), "_law_row", "_law_row", defArgs s__law_row, defBody s__law_row, defScope s__law_row, [], []⟩
def d__law_asked : DefD := ⟨("_law_asked", none), "_law_asked", "_law_asked", defArgs s__law_asked, defBody s__law_asked, defScope s__law_asked, [], []⟩
def d__law_share_word : DefD := ⟨("_law_share_word", none), "_law_share_word", "_law_share_word", defArgs s__law_share_word, defBody s__law_share_word, defScope s__law_share_word, [], []⟩
def d_law : DefD := ⟨("law", none), "law", "law", defArgs s_law, defBody s_law, defScope s_law, [], []⟩
def fnL : List DefD := [d_is_within, d_look_number, d_up_over, d_share_of, d_share, d__law_cell, d__law_row, d__law_asked, d__law_share_word, d_law]
def faL : List Fa := noBs ++ [Fa.glo "is_within", Fa.glo "look_number", Fa.glo "up_over", Fa.glo "share_of", Fa.glo "share", Fa.glo "_law_cell", Fa.glo "_law_row", Fa.glo "_law_asked", Fa.glo "_law_share_word", Fa.glo "law", Fa.glo "BadCounts", Fa.exc "BadCounts", Fa.glo "BadNumber", Fa.exc "BadNumber", Fa.glo "BadShowing", Fa.exc "BadShowing", Fa.int "MOST_ASKED" 100000, Fa.int "MOST_UNITS" 100, Fa.glo "WORDS"]
def exL (K : PySem.W.Frag) : Bool := excAllB XS K && (tupB K "WORDS" ((["cut", "near", "up"] : List Str).map Dv.str))
abbrev R : PySem.W.OpenRow := PySem.W.OpenLaw.row PySem.Challenge.rw_shownshares_k02_shares
abbrev hk : PySem.W.Hook := hookE 5 faL fnL exL
def ob (s : PySem.W.SharedT) : AlE := obsEG 5 faL fnL exL (HandSHeadRun.getT s)
theorem ob_eq (s : PySem.W.SharedT) : ob s = hk.obs s.abs := obsEG_eq (HandSHeadRun.getT_eq s)
def loose : List Str := (["ShareError", "BadShowing", "BadPoll", "BadNumber", "BadCounts", "MOST_UNITS", "WORDS", "is_within", "MOST_ASKED", "look_number", "up_over", "share_of", "share", "_law_cell", "_law_row", "_law_asked", "_law_share_word"] : List Str)
theorem run (w : World) : HandSHeadRun.RunEq R (PySem.W.view R.prog [21]) hk ob 20000 loose w := by
  intro os
  kernel_rfl
theorem facts {P : Program} {w : World} {K : PySem.W.Frag} {h : Heap} {mg : Str → Option Value} {fa : Addr} (X : K.In h) (G : h.Ns mainGlobals mg) (hfa : mg ("law" : Str) = some (.ref fa)) (c : SaysE faL fnL exL K) :
    ∃ fd : FuncData, (∀ (s : Shared) (v : Value), BindsTo s fd ⟨[v], []⟩ [("script", v)]) ∧ ∀ base : Heap, K.In base → base.Ns mainGlobals mg → FnOk P w K mg base CX0 5 fa fd ["script"] (spD K mg c_law) := by
  have cf : ∀ f, f ∈ faL → f.ok K = true := fun f hf => saysD_fact c.d hf
  have nb : NoB mg := noB_of X G fun f hf => cf f (List.mem_append_left _ hf)
  have cx := c.x
  unfold exL at cx
  obtain ⟨cx0, cx⟩ := ba cx
  have cx1 := cx
  have XC : ExcAll K mg XS := excAll_of X G cx0
  have x_BadCounts : ExcH K mg "BadCounts" := excH_of X G (cf (Fa.glo "BadCounts") (List.mem_append_right _ (by simp))) (cf (Fa.exc "BadCounts") (List.mem_append_right _ (by simp)))
  have x_BadNumber : ExcH K mg "BadNumber" := excH_of X G (cf (Fa.glo "BadNumber") (List.mem_append_right _ (by simp))) (cf (Fa.exc "BadNumber") (List.mem_append_right _ (by simp)))
  have x_BadShowing : ExcH K mg "BadShowing" := excH_of X G (cf (Fa.glo "BadShowing") (List.mem_append_right _ (by simp))) (cf (Fa.exc "BadShowing") (List.mem_append_right _ (by simp)))
  have g_MOST_ASKED : GcH K mg "MOST_ASKED" (.int 100000) := gc_int X G (cf (Fa.int "MOST_ASKED" 100000) (List.mem_append_right _ (by simp)))
  have g_MOST_UNITS : GcH K mg "MOST_UNITS" (.int 100) := gc_int X G (cf (Fa.int "MOST_UNITS" 100) (List.mem_append_right _ (by simp)))
  have g_WORDS : GcH K mg "WORDS" wordsD := gc_tup X G (cf (Fa.glo "WORDS") (List.mem_append_right _ (by simp))) cx1
  obtain ⟨fd_is_within, F_is_within⟩ := c.d.def_ 0 (d := d_is_within) rfl
  have D_is_within : DefAt K mg "is_within" "is_within" s_is_within ["thing", "low", "high"] := defAt_of X G (cf (Fa.glo "is_within") (List.mem_append_right _ (by simp))) F_is_within fun _ _ _ _ _ _ us hl => match us, hl with | [_, _, _], _ => rfl
  obtain ⟨fd_look_number, F_look_number⟩ := c.d.def_ 1 (d := d_look_number) rfl
  have D_look_number : DefAt K mg "look_number" "look_number" s_look_number ["number"] := defAt_of X G (cf (Fa.glo "look_number") (List.mem_append_right _ (by simp))) F_look_number fun _ _ _ _ _ _ us hl => match us, hl with | [_], _ => rfl
  obtain ⟨fd_up_over, F_up_over⟩ := c.d.def_ 2 (d := d_up_over) rfl
  have D_up_over : DefAt K mg "up_over" "up_over" s_up_over ["top", "bottom"] := defAt_of X G (cf (Fa.glo "up_over") (List.mem_append_right _ (by simp))) F_up_over fun _ _ _ _ _ _ us hl => match us, hl with | [_, _], _ => rfl
  obtain ⟨fd_share_of, F_share_of⟩ := c.d.def_ 3 (d := d_share_of) rfl
  have D_share_of : DefAt K mg "share_of" "share_of" s_share_of ["count", "number", "units", "word"] := defAt_of X G (cf (Fa.glo "share_of") (List.mem_append_right _ (by simp))) F_share_of fun _ _ _ _ _ _ us hl => match us, hl with | [_, _, _, _], _ => rfl
  obtain ⟨fd_share, F_share⟩ := c.d.def_ 4 (d := d_share) rfl
  have D_share : DefAt K mg "share" "share" s_share ["count", "number", "units", "word"] := defAt_of X G (cf (Fa.glo "share") (List.mem_append_right _ (by simp))) F_share fun _ _ _ _ _ _ us hl => match us, hl with | [_, _, _, _], _ => rfl
  obtain ⟨fd__law_cell, F__law_cell⟩ := c.d.def_ 5 (d := d__law_cell) rfl
  have D__law_cell : DefAt K mg "_law_cell" "_law_cell" s__law_cell ["script", "k"] := defAt_of X G (cf (Fa.glo "_law_cell") (List.mem_append_right _ (by simp))) F__law_cell fun _ _ _ _ _ _ us hl => match us, hl with | [_, _], _ => rfl
  obtain ⟨fd__law_row, F__law_row⟩ := c.d.def_ 6 (d := d__law_row) rfl
  have D__law_row : DefAt K mg "_law_row" "_law_row" s__law_row ["script", "at"] := defAt_of X G (cf (Fa.glo "_law_row") (List.mem_append_right _ (by simp))) F__law_row fun _ _ _ _ _ _ us hl => match us, hl with | [_, _], _ => rfl
  obtain ⟨fd__law_asked, F__law_asked⟩ := c.d.def_ 7 (d := d__law_asked) rfl
  have D__law_asked : DefAt K mg "_law_asked" "_law_asked" s__law_asked ["row", "at", "most"] := defAt_of X G (cf (Fa.glo "_law_asked") (List.mem_append_right _ (by simp))) F__law_asked fun _ _ _ _ _ _ us hl => match us, hl with | [_, _, _], _ => rfl
  obtain ⟨fd__law_share_word, F__law_share_word⟩ := c.d.def_ 8 (d := d__law_share_word) rfl
  have D__law_share_word : DefAt K mg "_law_share_word" "_law_share_word" s__law_share_word ["count", "asked", "units", "word"] := defAt_of X G (cf (Fa.glo "_law_share_word") (List.mem_append_right _ (by simp))) F__law_share_word fun _ _ _ _ _ _ us hl => match us, hl with | [_, _, _, _], _ => rfl
  obtain ⟨fd_law, F_law⟩ := c.d.def_ 9 (d := d_law) rfl
  have e := hfa.symm.trans (glo_ok X G (cf (Fa.glo "law") (List.mem_append_right _ (by simp))))
  cases e
  have b := FunD.bindsA (ps := ["script"]) F_law fun _ _ _ _ _ _ us hl => match us, hl with | [_], _ => rfl
  refine ⟨fd_law, fun s v => b s [v] rfl, fun base _ _ => ?_⟩
  have h_is_within : FnH P w K mg base "is_within" CX0 1 ["thing", "low", "high"] c_is_within := f_is_within D_is_within nb
  have h_look_number : FnH P w K mg base "look_number" (L2.CX P w) 2 ["number"] c_look_number := f_look_number D_look_number nb g_MOST_ASKED x_BadNumber h_is_within
  have h_up_over : FnH P w K mg base "up_over" CX0 1 ["top", "bottom"] c_up_over := f_up_over D_up_over nb
  have h_share_of : FnH P w K mg base "share_of" CX0 2 ["count", "number", "units", "word"] c_share_of := f_share_of D_share_of nb h_up_over
  have h_share : FnH P w K mg base "share" (L2.CX P w) 3 ["count", "number", "units", "word"] c_share := f_share D_share nb g_MOST_UNITS g_WORDS x_BadCounts x_BadShowing h_is_within h_look_number h_share_of
  have h__law_cell : FnH P w K mg base "_law_cell" CX0 1 ["script", "k"] c__law_cell := f__law_cell D__law_cell nb
  have h__law_row : FnH P w K mg base "_law_row" CX0 2 ["script", "at"] c__law_row := f__law_row D__law_row nb h__law_cell
  have h__law_asked : FnH P w K mg base "_law_asked" CX0 1 ["row", "at", "most"] c__law_asked := f__law_asked D__law_asked nb
  have h__law_share_word : FnH P w K mg base "_law_share_word" CX0 4 ["count", "asked", "units", "word"] c__law_share_word := f__law_share_word D__law_share_word nb XC h_share
  exact f_law F_law nb h__law_asked h__law_row h__law_share_word h_share
end LW
open PySem PySem.W PySem.Calls PyProof.Rows
set_option maxHeartbeats 0 in
theorem PySem.Challenge.cw_shownshares_k02_shares_holds : PySem.Challenge.rw_shownshares_k02_shares.Holds := by
  w_on; o_law
  refine HandSHeadRun.head_any (r := OpenLaw.row PySem.Challenge.rw_shownshares_k02_shares) (q := view (OpenLaw.row PySem.Challenge.rw_shownshares_k02_shares).prog [21]) (H := LW.hk) (ob := LW.ob) (M := 20000) (loose := LW.loose) (d := HandSHeadRun.topDef (OpenLaw.row PySem.Challenge.rw_shownshares_k02_shares).prog 21) (kwd := []) LW.ob_eq
    (by kernel_rfl) (fun s => by kernel_rfl) LW.run (by kernel_rfl) (by kernel_rfl) (by kernel_rfl) (by rfl) (by first | assumption | decide +kernel) (by decide +kernel) ⟨rfl, rfl, rfl, rfl, rfl, by decide +kernel⟩ ?hw ?hc
  case hw => w_witness2
  case hc =>
    refine L2.walk_ofE (l := PySem.Challenge.rw_shownshares_k02_shares) (n := 63) (k := 5) (x := "script") (CX := L2.CX0) rfl (by decide) (by kernel_rfl) ⟨rfl, by decide, by decide⟩ ?F (fun _ _ _ _ z => z)
    intro w mg fa h Y G hmg0
    obtain ⟨K, KX, c⟩ := Y
    have hmg : mg ("law" : PySem.Str) = some (.ref fa) := by
      have e : (HandSHeadRun.topDef (OpenLaw.row PySem.Challenge.rw_shownshares_k02_shares).prog 21).name = ("law" : PySem.Str) := by kernel_rfl
      rw [← e]
      exact hmg0
    obtain ⟨fd, hb, hF⟩ := LW.facts (P := (PySem.Challenge.rw_shownshares_k02_shares).prog) (w := w) KX G hmg c
    exact ⟨K, fd, Ly.spD K mg Ly.c_law, KX, hb, fun H a ns hl _ hS => Ly.law_sp ⟨ns, rfl, rfl⟩ hS, hF⟩
#print axioms PySem.Challenge.cw_shownshares_k02_shares_holds
