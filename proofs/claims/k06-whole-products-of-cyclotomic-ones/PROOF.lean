import PyProof.Rows.All
import Wide.All
import OpenK.AllK
import Wide.FinOn
import HandS.Base
import HandS.Call
import HandS.List
import HandS.Comp
import HandS.Ends
import HandS.Exc
import HandS.TryOnly
import HandS.ExcOwn
import HandS.WordsExc
import HandS.Words
import HandS.Dict
import HandS.Wide
import HandS.Gcd
import HandS.IsInst
import HandS.TupAny
import HandS.TupMul
import HandS.RaiseMore
import HandS.Style
import HandS.Iter
import HandS.Zip
import KE.DataEq
import KE.KDictList
import PyProof.Rows.IntBool
import HandS.SortInts
import HandS.SetFor
import HandS.Star
import KE.GoesEnum
import KE.GoesMore
import KE.KRevSl
import HandS.More
import KE.KEqNest
import HandS.DictComp
import PySem.Challenge.RW_wholerises_k06_whole_products_of_cycloto
set_option Elab.async false
set_option linter.all false
set_option maxRecDepth 100000
/-! The data layer: what a def does, said of plain data alone. -/
namespace DL
open PySem PySem.Spec PyProof.Rows L2

/-- plain data -/
inductive Dat where
  | non | bl (b : Bool) | int (i : Int) | str (x : Str)
  | tup (ds : List Dat) | lst (ds : List Dat)
  | dK (kvs : List (Key × Dat)) | dT (kvs : List (List Key × Dat))
  | scr (ns : List Int)
  | bag
  | ty (n : String)

/-- what stands still (g), and the bags of draws -/
structure Wd where
  g : Hp
  bag : Addr → Prop

/-- as it stood; a dict may be walked -/
def Stl (H : Hp) (a : Addr) (o : HO) : Prop := H a = some o ∨ ∃ ob kvs, o = .dK kvs ∧ H a = some (.frz ob o)
theorem Stl.some {H : Hp} {a : Addr} {o : HO} (h : Stl H a o) : (H a).isSome := by
  rcases h with h | ⟨ob, kvs, rfl, h⟩ <;> rw [h] <;> rfl
theorem Stl.none {H : Hp} {a : Addr} {o : HO} (h : Stl H a o) (n : H a = .none) : False := by
  have := h.some
  rw [n] at this; cases this
theorem Stl.of {H H' : Hp} {a : Addr} {o : HO} (h : Stl H a o) (e : H' a = H a) : Stl H' a o := by
  unfold Stl at *; rw [e]; exact h
theorem Stl.rd {H : Hp} {a : Addr} {o : HO} (h : Stl H a o) : Rd H a o := by
  rcases h with h | ⟨ob, kvs, rfl, h⟩
  · exact .inl h
  · exact .inr ⟨ob, h⟩
theorem Stl.lst {H : Hp} {a : Addr} {vs : List V} (h : Stl H a (.lst vs)) : H a = Option.some (.lst vs) := by
  rcases h with h | ⟨ob, kvs, e, h⟩
  · exact h
  · cases e
theorem Stl.tup {H : Hp} {a : Addr} {vs : List V} (h : Stl H a (.tup vs)) : H a = Option.some (.tup vs) := by
  rcases h with h | ⟨ob, kvs, e, h⟩
  · exact h
  · cases e
theorem Stl.frz {H : Hp} {a : Addr} {o : Obj} {u : HO} (h : Stl H a (.frz o u)) : H a = Option.some (.frz o u) := by
  rcases h with h | ⟨ob, kvs, e, h⟩
  · exact h
  · cases e
theorem Stl.trans {g g' : Hp} (h : ∀ a o, g a = Option.some o → Stl g' a o) {a : Addr} {o : HO} (r : Stl g a o) : Stl g' a o := by
  rcases r with r | ⟨ob, kvs, rfl, r⟩
  · exact h _ _ r
  · exact .inr ⟨ob, kvs, rfl, (h _ _ r).frz⟩
theorem Rd.std {g g' : Hp} (h : ∀ a o, g a = Option.some o → Stl g' a o) {a : Addr} {kvs : List (Key × V)} (r : Rd g a (.dK kvs)) : Rd g' a (.dK kvs) := by
  rcases r with r | ⟨ob, r⟩
  · exact (h _ _ r).rd
  · exact .inr ⟨ob, (h _ _ r).frz⟩

mutual
inductive Rep (K : PySem.W.Frag) (W : Wd) : V → Dat → Prop
  | non : Rep K W .non .non
  | bl {b : Bool} : Rep K W (.bl b) (.bl b)
  | int {i : Int} : Rep K W (.int i) (.int i)
  | str {x : Str} : Rep K W (.str x) (.str x)
  | tup {a : Addr} {vs : List V} {ds : List Dat} : SqT K W.g a vs → RepAll K W vs ds → Rep K W (.ref a) (.tup ds)
  | lst {a : Addr} {vs : List V} {ds : List Dat} : W.g a = some (.lst vs) → RepAll K W vs ds → Rep K W (.ref a) (.lst ds)
  | dK {a : Addr} {kvs : List (Key × V)} {kds : List (Key × Dat)} : Rd W.g a (.dK kvs) → RepKV K W kvs kds → Rep K W (.ref a) (.dK kds)
  | scr {a : Addr} {ns : List Int} : SqL K W.g a (ns.map V.int) → Rep K W (.ref a) (.scr ns)
  | bag {a : Addr} : W.bag a → Rep K W (.ref a) .bag
  | ty {n : String} : Rep K W (.ty n) (.ty n)
inductive RepAll (K : PySem.W.Frag) (W : Wd) : List V → List Dat → Prop
  | nil : RepAll K W [] []
  | cons {v : V} {d : Dat} {vs : List V} {ds : List Dat} : Rep K W v d → RepAll K W vs ds → RepAll K W (v :: vs) (d :: ds)
inductive RepKV (K : PySem.W.Frag) (W : Wd) : List (Key × V) → List (Key × Dat) → Prop
  | nil : RepKV K W [] []
  | cons {k : Key} {v : V} {d : Dat} {vs : List (Key × V)} {ds : List (Key × Dat)} : Rep K W v d → RepKV K W vs ds → RepKV K W ((k, v) :: vs) ((k, d) :: ds)
end

theorem SqT.std {K : PySem.W.Frag} {g g' : Hp} (h : ∀ a o, g a = some o → Stl g' a o) {a : Addr} {xs : List V} (r : SqT K g a xs) : SqT K g' a xs := by
  rcases r with (r | ⟨ob, r⟩) | r
  · exact .inl (.inl (h _ _ r).tup)
  · exact .inl (.inr ⟨ob, (h _ _ r).frz⟩)
  · exact .inr r
theorem SqL.std {K : PySem.W.Frag} {g g' : Hp} (h : ∀ a o, g a = some o → Stl g' a o) {a : Addr} {xs : List V} (r : SqL K g a xs) : SqL K g' a xs := by
  rcases r with (r | ⟨ob, r⟩) | r
  · exact .inl (.inl (h _ _ r).lst)
  · exact .inl (.inr ⟨ob, (h _ _ r).frz⟩)
  · exact .inr r
/-- a later world -/
structure Ext (W W' : Wd) : Prop where
  g : ∀ a o, W.g a = some o → Stl W'.g a o
  b : ∀ a, W.bag a → W'.bag a
theorem Ext.refl (W : Wd) : Ext W W := ⟨fun _ _ h => .inl h, fun _ h => h⟩
theorem Ext.trans {W W1 W2 : Wd} (a : Ext W W1) (b : Ext W1 W2) : Ext W W2 := ⟨fun c o h => (a.g c o h).trans b.g, fun c h => b.b c (a.b c h)⟩
theorem Rd.mono {g g' : Hp} (h : ∀ a o, g a = some o → g' a = some o) {a : Addr} {o : HO} (r : Rd g a o) : Rd g' a o := by
  rcases r with r | ⟨ob, r⟩
  · exact .inl (h _ _ r)
  · exact .inr ⟨ob, h _ _ r⟩
theorem SqT.mono {K : PySem.W.Frag} {g g' : Hp} (h : ∀ a o, g a = some o → g' a = some o) {a : Addr} {xs : List V} (r : SqT K g a xs) : SqT K g' a xs := by
  rcases r with r | r
  · exact .inl (Rd.mono h r)
  · exact .inr r
theorem SqL.mono {K : PySem.W.Frag} {g g' : Hp} (h : ∀ a o, g a = some o → g' a = some o) {a : Addr} {xs : List V} (r : SqL K g a xs) : SqL K g' a xs := by
  rcases r with r | r
  · exact .inl (Rd.mono h r)
  · exact .inr r
mutual
theorem Rep.mono {K : PySem.W.Frag} {W W' : Wd} (e : Ext W W') : ∀ {v : V} {d : Dat}, Rep K W v d → Rep K W' v d
  | _, _, .non => .non
  | _, _, .bl => .bl
  | _, _, .int => .int
  | _, _, .str => .str
  | _, _, .tup h r => .tup (SqT.std e.g h) (RepAll.mono e r)
  | _, _, .lst h r => .lst (e.g _ _ h).lst (RepAll.mono e r)
  | _, _, .dK h r => .dK (Rd.std e.g h) (RepKV.mono e r)
  | _, _, .scr h => .scr (SqL.std e.g h)
  | _, _, .bag h => .bag (e.b _ h)
  | _, _, .ty => .ty
theorem RepAll.mono {K : PySem.W.Frag} {W W' : Wd} (e : Ext W W') : ∀ {v : List V} {d : List Dat}, RepAll K W v d → RepAll K W' v d
  | _, _, .nil => .nil
  | _, _, .cons h r => .cons (Rep.mono e h) (RepAll.mono e r)
theorem RepKV.mono {K : PySem.W.Frag} {W W' : Wd} (e : Ext W W') : ∀ {v : List (Key × V)} {d : List (Key × Dat)}, RepKV K W v d → RepKV K W' v d
  | _, _, .nil => .nil
  | _, _, .cons h r => .cons (Rep.mono e h) (RepKV.mono e r)
end
theorem RepAll.length {K : PySem.W.Frag} {W : Wd} : ∀ {vs : List V} {ds : List Dat}, RepAll K W vs ds → vs.length = ds.length
  | _, _, .nil => rfl
  | _, _, .cons _ r => by simp [RepAll.length r]
theorem RepAll.get {K : PySem.W.Frag} {W : Wd} : ∀ {vs : List V} {ds : List Dat} {i : Nat} {d : Dat}, RepAll K W vs ds → ds[i]? = some d → ∃ v, vs[i]? = some v ∧ Rep K W v d
  | _, _, _, _, .nil, e => by simp at e
  | _, _, 0, _, .cons h _, e => by simp at e; subst e; exact ⟨_, rfl, h⟩
  | _, _, i + 1, _, .cons _ r, e => by
    obtain ⟨v, h1, h2⟩ := RepAll.get (i := i) r (by simpa using e)
    exact ⟨v, by simpa using h1, h2⟩
theorem RepAll.getV {K : PySem.W.Frag} {W : Wd} : ∀ {vs : List V} {ds : List Dat} {i : Nat} {v : V}, RepAll K W vs ds → vs[i]? = some v → ∃ d, ds[i]? = some d ∧ Rep K W v d
  | _, _, _, _, .nil, e => by simp at e
  | _, _, 0, _, .cons h _, e => by simp at e; subst e; exact ⟨_, rfl, h⟩
  | _, _, i + 1, _, .cons _ r, e => by
    obtain ⟨v, h1, h2⟩ := RepAll.getV (i := i) r (by simpa using e)
    exact ⟨v, by simpa using h1, h2⟩
theorem RepAll.append {K : PySem.W.Frag} {W : Wd} : ∀ {vs ws : List V} {ds es : List Dat}, RepAll K W vs ds → RepAll K W ws es → RepAll K W (vs ++ ws) (ds ++ es)
  | _, _, _, _, .nil, r => r
  | _, _, _, _, .cons h t, r => .cons h (RepAll.append t r)
theorem RepAll.set {K : PySem.W.Frag} {W : Wd} {v : V} {d : Dat} (h : Rep K W v d) : ∀ {vs : List V} {ds : List Dat} (i : Nat), RepAll K W vs ds → RepAll K W (vs.set i v) (ds.set i d)
  | _, _, _, .nil => .nil
  | _, _, 0, .cons _ r => .cons h r
  | _, _, i + 1, .cons g r => .cons g (RepAll.set h i r)
theorem RepAll.take {K : PySem.W.Frag} {W : Wd} : ∀ {vs : List V} {ds : List Dat} (i : Nat), RepAll K W vs ds → RepAll K W (vs.take i) (ds.take i)
  | _, _, 0, _ => by simp; exact .nil
  | _, _, i + 1, .nil => .nil
  | _, _, i + 1, .cons g r => .cons g (RepAll.take i r)
theorem RepAll.drop {K : PySem.W.Frag} {W : Wd} : ∀ {vs : List V} {ds : List Dat} (i : Nat), RepAll K W vs ds → RepAll K W (vs.drop i) (ds.drop i)
  | _, _, 0, h => h
  | _, _, i + 1, .nil => .nil
  | _, _, i + 1, .cons g r => RepAll.drop i r
theorem RepAll.ints {K : PySem.W.Frag} {W : Wd} : ∀ {vs : List V} {ns : List Int}, RepAll K W vs (ns.map Dat.int) → vs = ns.map V.int
  | _, [], .nil => rfl
  | _, n :: ns, .cons h r => by
    cases h
    rw [RepAll.ints (ns := ns) r]
    rfl
theorem RepAll.of_ints {K : PySem.W.Frag} {W : Wd} : ∀ (ns : List Int), RepAll K W (ns.map V.int) (ns.map Dat.int)
  | [] => .nil
  | _ :: ns => .cons .int (RepAll.of_ints ns)
theorem RepAll.nil_iff {K : PySem.W.Frag} {W : Wd} {vs : List V} {ds : List Dat} (r : RepAll K W vs ds) : vs = [] ↔ ds = [] := by
  cases r <;> simp

/-- a slot: no value, a thing that stands still, an object that is this def's alone -/
inductive DV where
  | un | fz (d : Dat) | ow (d : Dat)

/-- the object of an owned slot -/
inductive Own (K : PySem.W.Frag) (W : Wd) : HO → Dat → Prop
  | lst {vs : List V} {ds : List Dat} : RepAll K W vs ds → Own K W (.lst vs) (.lst ds)
  | dK {kvs : List (Key × V)} {kds : List (Key × Dat)} : RepKV K W kvs kds → Own K W (.dK kvs) (.dK kds)
theorem Own.mono {K : PySem.W.Frag} {W W' : Wd} (e : Ext W W') {o : HO} {d : Dat} : Own K W o d → Own K W' o d
  | .lst r => .lst (r.mono e)
  | .dK r => .dK (r.mono e)

/-- a def's entry: the written part, the world and the heap there -/
structure Gh where
  K : PySem.W.Frag
  W0 : Wd
  H0 : Hp
  cn : Str → Value
/-- the heap: what stood at the entry stands (but the bags), the world's things stand, the bags hold three ints -/
structure HpOk (G : Gh) (W : Wd) (H : Hp) : Prop where
  ext : Ext G.W0 W
  keep : ∀ a o, G.H0 a = some o → ¬ G.W0.bag a → H a = some o ∨ (G.W0.g a = some o ∧ Stl H a o)
  sub : ∀ a o, W.g a = some o → Stl H a o
  old : ∀ a, (G.H0 a).isSome → W.g a = G.W0.g a ∨ ∃ ob kvs, G.W0.g a = some (.dK kvs) ∧ W.g a = some (.frz ob (.dK kvs))
  oldb : ∀ a, (G.H0 a).isSome → W.bag a → G.W0.bag a
  bags : ∀ b, W.bag b → W.g b = none ∧ ∃ x y z : Int, H b = some (.lst [.int x, .int y, .int z])
structure Slots (G : Gh) (W : Wd) (δ : List DV) (σ : L2.St) (H : Hp) : Prop where
  len : δ.length = σ.length
  fz : ∀ (i : Nat) (d : Dat), δ[i]? = some (DV.fz d) → ∃ v, σ[i]? = some (some v) ∧ Rep G.K W v d
  ow : ∀ (i : Nat) (d : Dat), δ[i]? = some (DV.ow d) → ∃ (a : Addr) (o : HO), σ[i]? = some (some (V.ref a)) ∧ H a = some o ∧ Own G.K W o d ∧ W.g a = none ∧ ¬ W.bag a ∧ G.H0 a = none
  ne : ∀ (i j : Nat) (d e : Dat) (a : Addr), i ≠ j → δ[i]? = some (DV.ow d) → δ[j]? = some (DV.ow e) → σ[i]? = some (some (V.ref a)) → σ[j]? = some (some (V.ref a)) → False
structure StOk (G : Gh) (W : Wd) (δ : List DV) (σ : L2.St) (H : Hp) : Prop where
  h : HpOk G W H
  s : Slots G W δ σ H
section
variable {G : Gh} {W W' : Wd} {δ δ' : List DV} {σ : L2.St} {H H' : Hp}
theorem HpOk.fresh (h : HpOk G W H) {p : Addr} (hp : H p = none) : W.g p = none ∧ ¬ W.bag p ∧ G.H0 p = none := by
  refine ⟨?_, ?_, ?_⟩
  · cases e : W.g p with
    | none => rfl
    | some o => exact ((h.sub p o e).none hp).elim
  · intro hb
    obtain ⟨_, x, y, z, e⟩ := h.bags p hb
    rw [e] at hp; cases hp
  · cases e : G.H0 p with
    | none => rfl
    | some o =>
      by_cases hb : G.W0.bag p
      · obtain ⟨_, x, y, z, e⟩ := h.bags p (h.ext.b p hb)
        rw [e] at hp; cases hp
      · rcases h.keep p o e hb with q | q
        · rw [q] at hp; cases hp
        · exact (q.2.none hp).elim
/-- a new object p is laid and stands still from now on -/
def Wd.put (W : Wd) (p : Addr) (o : HO) : Wd := ⟨upd W.g p o, W.bag⟩
theorem Wd.put_ext {p : Addr} {o : HO} (hp : W.g p = none) : Ext W (W.put p o) := ⟨fun a u h => by
  refine .inl ?_
  show upd W.g p o a = some u
  rw [upd_ne (ne_of_none h hp)]; exact h, fun _ h => h⟩
theorem HpOk.put (h : HpOk G W H) {p : Addr} {o : HO} (hp : H p = none) : HpOk G (W.put p o) (upd H p o) := by
  obtain ⟨f1, f2, f3⟩ := h.fresh hp
  refine ⟨h.ext.trans (Wd.put_ext f1), fun a u e nb => ?_, fun a u e => ?_, fun a e => ?_, fun a e => h.oldb a e, fun b hb => ?_⟩
  · have q : upd H p o a = H a := upd_ne (fun z => by subst z; rw [f3] at e; cases e)
    rw [q]; exact (h.keep a u e nb).imp id fun x => ⟨x.1, x.2.of q⟩
  · by_cases z : a = p
    · subst z
      have e : upd W.g a o a = some u := e
      rw [upd_same] at e; exact .inl (by rw [upd_same]; exact e)
    · have e : upd W.g p o a = some u := e
      rw [upd_ne z] at e; exact (h.sub a u e).of (upd_ne z)
  · have : a ≠ p := fun z => by subst z; rw [f3] at e; cases e
    have q : (W.put p o).g a = W.g a := upd_ne this
    rw [q]; exact h.old a e
  · obtain ⟨g1, x, y, z, g2⟩ := h.bags b hb
    have : b ≠ p := fun z => by subst z; exact f2 hb
    refine ⟨?_, x, y, z, ?_⟩
    · show upd W.g p o b = none
      rw [upd_ne this]; exact g1
    · rw [upd_ne this]; exact g2
theorem Slots.put (s : Slots G W δ σ H) (h : HpOk G W H) {p : Addr} {o : HO} (hp : H p = none) : Slots G (W.put p o) δ σ (upd H p o) := by
  obtain ⟨f1, f2, f3⟩ := h.fresh hp
  refine ⟨s.len, fun i d e => ?_, fun i d e => ?_, s.ne⟩
  · obtain ⟨v, e1, r⟩ := s.fz i d e
    exact ⟨v, e1, r.mono (Wd.put_ext f1)⟩
  · obtain ⟨a, u, e1, e2, r, n1, n2, n3⟩ := s.ow i d e
    have : a ≠ p := ne_of_none e2 hp
    refine ⟨a, u, e1, by rw [upd_ne this]; exact e2, r.mono (Wd.put_ext f1), ?_, n2, n3⟩
    show upd W.g p o a = none
    rw [upd_ne this]; exact n1
theorem StOk.put (s : StOk G W δ σ H) {p : Addr} {o : HO} (hp : H p = none) : StOk G (W.put p o) δ σ (upd H p o) := ⟨s.h.put hp, s.s.put s.h hp⟩
/-- a new object p that is owned by nobody yet -/
theorem HpOk.own (h : HpOk G W H) {p : Addr} {o : HO} (hp : H p = none) : HpOk G W (upd H p o) := by
  obtain ⟨f1, f2, f3⟩ := h.fresh hp
  refine ⟨h.ext, fun a u e nb => ?_, fun a u e => ?_, h.old, h.oldb, fun b hb => ?_⟩
  · have q : upd H p o a = H a := upd_ne (fun z => by subst z; rw [f3] at e; cases e)
    rw [q]; exact (h.keep a u e nb).imp id fun x => ⟨x.1, x.2.of q⟩
  · exact (h.sub a u e).of (upd_ne (fun z => by subst z; rw [f1] at e; cases e))
  · obtain ⟨g1, x, y, z, g2⟩ := h.bags b hb
    exact ⟨g1, x, y, z, by rw [upd_ne (fun z => by subst z; exact f2 hb)]; exact g2⟩
/-- an owned object is changed -/
theorem HpOk.chg (h : HpOk G W H) {p : Addr} {o : HO} (f1 : W.g p = none) (f2 : ¬ W.bag p) (f3 : G.H0 p = none) : HpOk G W (upd H p o) := by
  refine ⟨h.ext, fun a u e nb => ?_, fun a u e => ?_, h.old, h.oldb, fun b hb => ?_⟩
  · have q : upd H p o a = H a := upd_ne (fun z => by subst z; rw [f3] at e; cases e)
    rw [q]; exact (h.keep a u e nb).imp id fun x => ⟨x.1, x.2.of q⟩
  · exact (h.sub a u e).of (upd_ne (fun z => by subst z; rw [f1] at e; cases e))
  · obtain ⟨g1, x, y, z, g2⟩ := h.bags b hb
    exact ⟨g1, x, y, z, by rw [upd_ne (fun z => by subst z; exact f2 hb)]; exact g2⟩
/-- an owned object is let stand still -/
theorem HpOk.frz (h : HpOk G W H) {p : Addr} {o : HO} (hp : H p = some o) (f1 : W.g p = none) (f2 : ¬ W.bag p) (f3 : G.H0 p = none) : HpOk G (W.put p o) H := by
  refine ⟨h.ext.trans (Wd.put_ext f1), h.keep, fun a u e => ?_, fun a e => ?_, h.oldb, fun b hb => ?_⟩
  · by_cases z : a = p
    · subst z
      have e : upd W.g a o a = some u := e
      rw [upd_same] at e; exact .inl (by rw [hp]; exact e)
    · have e : upd W.g p o a = some u := e
      rw [upd_ne z] at e; exact h.sub a u e
  · have : a ≠ p := fun z => by subst z; rw [f3] at e; cases e
    have q : (W.put p o).g a = W.g a := upd_ne this
    rw [q]; exact h.old a e
  · obtain ⟨g1, x, y, z, g2⟩ := h.bags b hb
    refine ⟨?_, x, y, z, g2⟩
    show upd W.g p o b = none
    rw [upd_ne (fun z => by subst z; exact f2 hb)]; exact g1
end
end DL
set_option Elab.async false
set_option linter.all false
set_option maxRecDepth 100000
namespace DL
open PySem PySem.Spec PyProof.Rows L2

abbrev Dl := List DV
/-- an exception: its class's name, its fields -/
structure XD where
  cls : Str
  fs : List (Str × Dat)
abbrev XP := XD → Prop
/-- what is wished of an exception, at the slots as they are -/
abbrev XW := XD → Dl → Prop
abbrev WE := XW → Dl → (Dat → Dl → Prop) → Prop
/-- a value with its owner -/
abbrev WV := XW → Dl → (DV → Dl → Prop) → Prop
abbrev WT := XW → Dl → (Bool → Dl → Prop) → Prop
abbrev WA := XW → Dl → (List Dat → Dl → Prop) → Prop
structure WEnds where
  nx : Dl → Prop
  rt : Dat → Prop
  bk : Dl → Prop := fun _ => False
  ct : Dl → Prop := fun _ => False
abbrev WS := XW → WEnds → Dl → Prop
/-- an operand: a value, or what stands in a slot when it is asked -/
inductive Opd where
  | val (d : Dat) | slot (i : Nat)
abbrev WO := XW → Dl → (Opd → Dl → Prop) → Prop
abbrev WAO := XW → Dl → (List Opd → Dl → Prop) → Prop
@[simp] def DV.dat : DV → Option Dat
  | .un => none
  | .fz d => some d
  | .ow d => some d
@[simp] def Opd.get : Opd → Dl → Option Dat
  | .val d, _ => some d
  | .slot i, δ => (δ[i]?).bind DV.dat
@[simp] def getAll : List Opd → Dl → Option (List Dat)
  | [], _ => some []
  | o :: os, δ => (o.get δ).bind fun d => (getAll os δ).bind fun ds => some (d :: ds)

def MonoE (w : WE) : Prop := ∀ ex δ (Q Q' : Dat → Dl → Prop), (∀ d δ', Q d δ' → Q' d δ') → w ex δ Q → w ex δ Q'
def MonoV (w : WV) : Prop := ∀ ex δ (Q Q' : DV → Dl → Prop), (∀ d δ', Q d δ' → Q' d δ') → w ex δ Q → w ex δ Q'
def MonoT (w : WT) : Prop := ∀ ex δ (Q Q' : Bool → Dl → Prop), (∀ d δ', Q d δ' → Q' d δ') → w ex δ Q → w ex δ Q'
def MonoA (w : WA) : Prop := ∀ ex δ (Q Q' : List Dat → Dl → Prop), (∀ d δ', Q d δ' → Q' d δ') → w ex δ Q → w ex δ Q'
def MonoO (w : WO) : Prop := ∀ ex δ (Q Q' : Opd → Dl → Prop), (∀ d δ', Q d δ' → Q' d δ') → w ex δ Q → w ex δ Q'
def MonoAO (w : WAO) : Prop := ∀ ex δ (Q Q' : List Opd → Dl → Prop), (∀ d δ', Q d δ' → Q' d δ') → w ex δ Q → w ex δ Q'
structure WEnds.Le (D D' : WEnds) : Prop where
  nx : ∀ δ, D.nx δ → D'.nx δ
  rt : ∀ d, D.rt d → D'.rt d
  bk : ∀ δ, D.bk δ → D'.bk δ
  ct : ∀ δ, D.ct δ → D'.ct δ
def MonoS (w : WS) : Prop := ∀ ex D D' δ, WEnds.Le D D' → w ex D δ → w ex D' δ

/-- what is read: a thing that stands still, or an object of a slot -/
def RepB (G : Gh) (W : Wd) (H : Hp) (v : V) (d : Dat) : Prop := Rep G.K W v d ∨ ∃ a o, v = .ref a ∧ H a = some o ∧ Own G.K W o d
def RepBs (G : Gh) (W : Wd) (H : Hp) : List V → List Dat → Prop := Paired (RepB G W H)
def RepO (G : Gh) (W : Wd) (σ : L2.St) (v : V) : Opd → Prop
  | .val d => Rep G.K W v d
  | .slot i => σ[i]? = some (some v)
theorem RepO.mono {G : Gh} {W W' : Wd} {σ : L2.St} {v : V} {o : Opd} (e : Ext W W') (r : RepO G W σ v o) : RepO G W' σ v o := by
  cases o with
  | val d => exact Rep.mono e r
  | slot i => exact r
theorem RepO.get {G : Gh} {W : Wd} {δ : Dl} {σ : L2.St} {H : Hp} {v : V} {o : Opd} {d : Dat} (s : StOk G W δ σ H) (r : RepO G W σ v o) (h : o.get δ = some d) : RepB G W H v d := by
  cases o with
  | val d' => cases h; exact .inl r
  | slot i =>
    have h : (δ[i]?).bind DV.dat = some d := h
    have r : σ[i]? = some (some v) := r
    cases e : δ[i]? with
    | none => rw [e] at h; cases h
    | some x =>
      rw [e] at h
      cases x with
      | un => cases h
      | fz d' =>
        have : d' = d := Option.some.inj h
        subst this
        obtain ⟨v', e1, r1⟩ := s.s.fz i d' e
        rw [r] at e1; cases e1; exact .inl r1
      | ow d' =>
        have : d' = d := Option.some.inj h
        subst this
        obtain ⟨a, u, e1, e2, r1, _⟩ := s.s.ow i d' e
        rw [r] at e1; cases e1; exact .inr ⟨a, u, rfl, e2, r1⟩

/-- an object that no slot owns -/
structure Free (G : Gh) (W : Wd) (δ : Dl) (σ : L2.St) (H : Hp) (p : Addr) (o : HO) : Prop where
  at_ : H p = some o
  g : W.g p = none
  b : ¬ W.bag p
  h0 : G.H0 p = none
  ns : ∀ (i : Nat) (d : Dat), δ[i]? = some (DV.ow d) → σ[i]? ≠ some (some (V.ref p))
def RepJ (G : Gh) (W : Wd) (δ : Dl) (σ : L2.St) (H : Hp) (v : V) : DV → Prop
  | .un => False
  | .fz d => Rep G.K W v d
  | .ow d => ∃ p o, v = .ref p ∧ Own G.K W o d ∧ Free G W δ σ H p o
/-! ### judgements -/
/-- an exception's class and fields -/
def XRep (G : Gh) (W : Wd) (x : XD) (cls : Value) (d : Option Addr) (H : Hp) : Prop :=
  cls = G.cn x.cls ∧ (match d with
    | none => x.fs = []
    | some dx => ∃ fs, H dx = some (.xd fs) ∧ (fs.map (·.1)) = x.fs.map (·.1) ∧ RepAll G.K W (fs.map (·.2)) (x.fs.map (·.2)))
def XPost (G : Gh) (ex : XP) (cls : Value) (d : Option Addr) (H : Hp) : Prop := ∃ W x, HpOk G W H ∧ XRep G W x cls d H ∧ ex x
def XPostW (G : Gh) (ex : XW) (cls : Value) (d : Option Addr) (σ : L2.St) (H : Hp) : Prop := ∃ W x δ, StOk G W δ σ H ∧ XRep G W x cls d H ∧ ex x δ
def TakesD (X : Cx) (G : Gh) (ex : XW) : Prop := Takes X (fun cls d σ H => XPostW G ex cls d σ H)

def PostE (G : Gh) (W : Wd) (σ : L2.St) (Q : VK) (d : Dat) (δ : Dl) : Prop := ∀ W' v H', Ext W W' → StOk G W' δ σ H' → Rep G.K W' v d → Q v H'
def PostJ (G : Gh) (W : Wd) (σ : L2.St) (Q : VK) (d : DV) (δ : Dl) : Prop := ∀ W' v H', Ext W W' → StOk G W' δ σ H' → RepJ G W' δ σ H' v d → Q v H'
def PostO (G : Gh) (W : Wd) (σ : L2.St) (Q : VK) (o : Opd) (δ : Dl) : Prop := ∀ W' v H', Ext W W' → StOk G W' δ σ H' → RepO G W' σ v o → Q v H'
def PostT (G : Gh) (W : Wd) (σ : L2.St) (Q : Bool → Hp → Prop) (b : Bool) (δ : Dl) : Prop := ∀ W' H', Ext W W' → StOk G W' δ σ H' → Q b H'
def PostA (G : Gh) (W : Wd) (σ : L2.St) (Q : List V → Hp → Prop) (ds : List Dat) (δ : Dl) : Prop := ∀ W' vs H', Ext W W' → StOk G W' δ σ H' → RepAll G.K W' vs ds → Q vs H'
def PostAO (G : Gh) (W : Wd) (σ : L2.St) (Q : List V → Hp → Prop) (os : List Opd) (δ : Dl) : Prop := ∀ W' vs H', Ext W W' → StOk G W' δ σ H' → Paired (RepO G W' σ) vs os → Q vs H'
def ends (G : Gh) (W : Wd) (D : Ends) : WEnds where
  nx := fun δ => ∀ W' σ H, Ext W W' → StOk G W' δ σ H → D.nx σ H
  rt := fun d => ∀ W' v H, Ext W W' → HpOk G W' H → Rep G.K W' v d → D.rt v H
  bk := fun δ => ∀ W' σ H, Ext W W' → StOk G W' δ σ H → D.bk σ H
  ct := fun δ => ∀ W' σ H, Ext W W' → StOk G W' δ σ H → D.ct σ H
theorem ends.le {G : Gh} {W W' : Wd} {D : Ends} (e : Ext W W') : WEnds.Le (ends G W D) (ends G W' D) :=
  ⟨fun _ h W2 σ H x s => h W2 σ H (e.trans x) s, fun _ h W2 v H x s r => h W2 v H (e.trans x) s r, fun _ h W2 σ H x s => h W2 σ H (e.trans x) s, fun _ h W2 σ H x s => h W2 σ H (e.trans x) s⟩

def rdE (G : Gh) (ex : XW) (w : WE) : TE := fun σ H Q => ∃ W δ, StOk G W δ σ H ∧ w ex δ (PostE G W σ Q)
def rdJ (G : Gh) (ex : XW) (w : WV) : TE := fun σ H Q => ∃ W δ, StOk G W δ σ H ∧ w ex δ (PostJ G W σ Q)
def rdO (G : Gh) (ex : XW) (w : WO) : TE := fun σ H Q => ∃ W δ, StOk G W δ σ H ∧ w ex δ (PostO G W σ Q)
def rdT (G : Gh) (ex : XW) (w : WT) : TT := fun σ H Q => ∃ W δ, StOk G W δ σ H ∧ w ex δ (PostT G W σ Q)
def rdA (G : Gh) (ex : XW) (w : WA) : TA := fun σ H Q => ∃ W δ, StOk G W δ σ H ∧ w ex δ (PostA G W σ Q)
def rdAO (G : Gh) (ex : XW) (w : WAO) : TA := fun σ H Q => ∃ W δ, StOk G W δ σ H ∧ w ex δ (PostAO G W σ Q)
def rdS (G : Gh) (ex : XW) (w : WS) : TS := fun D σ H => ∃ W δ, StOk G W δ σ H ∧ w ex (ends G W D) δ

/-- G is a ghost of X -/
structure GOk (X : Cx) (cn : Str → Value) (G : Gh) : Prop where
  K : G.K = X.K
  cn : G.cn = cn
structure DE (X : Cx) (cn : Str → Value) (e : Expr) (w : WE) : Prop where
  mono : MonoE w
  run : ∀ (G : Gh), GOk X cn G → ∀ ex, TakesD X G ex → PE X e (rdE G ex w)
structure DJ (X : Cx) (cn : Str → Value) (e : Expr) (w : WV) : Prop where
  mono : MonoV w
  run : ∀ (G : Gh), GOk X cn G → ∀ ex, TakesD X G ex → PE X e (rdJ G ex w)
structure DO (X : Cx) (cn : Str → Value) (e : Expr) (w : WO) : Prop where
  mono : MonoO w
  run : ∀ (G : Gh), GOk X cn G → ∀ ex, TakesD X G ex → PE X e (rdO G ex w)
structure DT (X : Cx) (cn : Str → Value) (e : Expr) (w : WT) : Prop where
  mono : MonoT w
  run : ∀ (G : Gh), GOk X cn G → ∀ ex, TakesD X G ex → PT X e (rdT G ex w)
structure DW (X : Cx) (cn : Str → Value) (e : Expr) (w : WT) : Prop where
  mono : MonoT w
  run : ∀ (G : Gh), GOk X cn G → ∀ ex, TakesD X G ex → PW X e (rdT G ex w)
structure DA (X : Cx) (cn : Str → Value) (es : List Expr) (w : WA) : Prop where
  mono : MonoA w
  run : ∀ (G : Gh), GOk X cn G → ∀ ex, TakesD X G ex → PA X es (rdA G ex w)
structure DAO (X : Cx) (cn : Str → Value) (es : List Expr) (w : WAO) : Prop where
  mono : MonoAO w
  run : ∀ (G : Gh), GOk X cn G → ∀ ex, TakesD X G ex → PA X es (rdAO G ex w)
structure DS (X : Cx) (cn : Str → Value) (st : Stmt) (w : WS) : Prop where
  mono : MonoS w
  run : ∀ (G : Gh), GOk X cn G → ∀ ex, TakesD X G ex → PS X st (rdS G ex w)
structure DSs (X : Cx) (cn : Str → Value) (st : List Stmt) (w : WS) : Prop where
  mono : MonoS w
  run : ∀ (G : Gh), GOk X cn G → ∀ ex, TakesD X G ex → PSs X st (rdS G ex w)

theorem _root_.L2.PE.imp {X : Cx} {e : Expr} {t t' : TE} (h : PE X e t) (k : ∀ σ H Q, t' σ H Q → t σ H Q) : PE X e t' := ⟨fun pins s σ H Q I q => h.run pins s σ H Q I (k _ _ _ q)⟩
theorem _root_.L2.PT.imp {X : Cx} {e : Expr} {t t' : TT} (h : PT X e t) (k : ∀ σ H Q, t' σ H Q → t σ H Q) : PT X e t' := ⟨fun pins s σ H Q I q => h.run pins s σ H Q I (k _ _ _ q)⟩
theorem _root_.L2.PW.imp {X : Cx} {e : Expr} {t t' : TT} (h : PW X e t) (k : ∀ σ H Q, t' σ H Q → t σ H Q) : PW X e t' := ⟨fun wh pins s σ H Q I q => h.run wh pins s σ H Q I (k _ _ _ q)⟩
theorem _root_.L2.PA.imp {X : Cx} {e : List Expr} {t t' : TA} (h : PA X e t) (k : ∀ σ H Q, t' σ H Q → t σ H Q) : PA X e t' := ⟨fun pos pins s σ H Q I q => h.run pos pins s σ H Q I (k _ _ _ q)⟩
theorem _root_.L2.PS.imp {X : Cx} {e : Stmt} {t t' : TS} (h : PS X e t) (k : ∀ D σ H, t' D σ H → t D σ H) : PS X e t' := ⟨fun pins s σ H D I q => h.run pins s σ H D I (k _ _ _ q)⟩
theorem _root_.L2.PSs.imp {X : Cx} {e : List Stmt} {t t' : TS} (h : PSs X e t) (k : ∀ D σ H, t' D σ H → t D σ H) : PSs X e t' := ⟨fun pins s σ H D I q => h.run pins s σ H D I (k _ _ _ q)⟩

section
variable {X : Cx} {cn : Str → Value} {G : Gh} {pos : Pos} {e a b c : Expr} {es : List Expr}

/-! ### names and constants -/
@[simp] def wVar (i : Nat) : WE := fun _ δ Q => match δ[i]? with
  | some (.fz d) => Q d δ
  | some (.ow d) => Q d (δ.set i (.fz d))
  | _ => False
@[simp] def oSlot (i : Nat) : WO := fun _ δ Q => (∃ d, (Opd.slot i).get δ = some d) ∧ Q (.slot i) δ
@[simp] def oVal (w : WE) : WO := fun ex δ Q => w ex δ fun d δ' => Q (.val d) δ'
@[simp] def wC (d : Dat) : WE := fun _ δ Q => Q d δ

theorem Own.rep {K : PySem.W.Frag} {W : Wd} {a : Addr} {o : HO} {d : Dat} (r : Own K W o d) (h : W.g a = none) : Rep K (W.put a o) (.ref a) d := by
  cases r with
  | lst r => exact .lst (by show upd W.g a _ a = _; exact upd_same) (r.mono (Wd.put_ext h))
  | dK r => exact .dK (.inl (by show upd W.g a _ a = _; exact upd_same)) (r.mono (Wd.put_ext h))
/-- an owned slot's object is let stand still -/
theorem StOk.freeze {W : Wd} {δ : Dl} {σ : L2.St} {H : Hp} {i : Nat} {d : Dat} (s : StOk G W δ σ H) (e : δ[i]? = some (.ow d)) :
    ∃ a W', σ[i]? = some (some (.ref a)) ∧ Ext W W' ∧ StOk G W' (δ.set i (.fz d)) σ H ∧ Rep G.K W' (.ref a) d := by
  obtain ⟨a, o, e1, e2, r, n1, n2, n3⟩ := s.s.ow i d e
  refine ⟨a, W.put a o, e1, Wd.put_ext n1, ⟨s.h.frz e2 n1 n2 n3, ⟨by rw [List.length_set]; exact s.s.len, fun j d' ej => ?_, fun j d' ej => ?_, fun j k d' e' b hjk ej ek => ?_⟩⟩, r.rep n1⟩
  · by_cases hj : j = i
    · subst hj
      have hl : j < δ.length := (List.getElem?_eq_some_iff.mp e).1
      rw [List.getElem?_set_self hl] at ej
      cases ej
      exact ⟨_, e1, r.rep n1⟩
    · rw [List.getElem?_set_ne (Ne.symm hj)] at ej
      obtain ⟨v, q1, q2⟩ := s.s.fz j d' ej
      exact ⟨v, q1, q2.mono (Wd.put_ext n1)⟩
  · by_cases hj : j = i
    · subst hj
      have hl : j < δ.length := (List.getElem?_eq_some_iff.mp e).1
      rw [List.getElem?_set_self hl] at ej
      cases ej
    · rw [List.getElem?_set_ne (Ne.symm hj)] at ej
      obtain ⟨b, u, q1, q2, q3, q4, q5, q6⟩ := s.s.ow j d' ej
      have : b ≠ a := fun z => by subst z; exact s.s.ne i j d d' b (Ne.symm hj) e ej e1 q1
      refine ⟨b, u, q1, q2, q3.mono (Wd.put_ext n1), ?_, q5, q6⟩
      show upd W.g a o b = none
      rw [upd_ne this]; exact q4
  · have hji : j ≠ i := fun z => by
      subst z
      have hl : j < δ.length := (List.getElem?_eq_some_iff.mp e).1
      rw [List.getElem?_set_self hl] at ej; cases ej
    have hki : k ≠ i := fun z => by
      subst z
      have hl : k < δ.length := (List.getElem?_eq_some_iff.mp e).1
      rw [List.getElem?_set_self hl] at ek; cases ek
    rw [List.getElem?_set_ne (Ne.symm hji)] at ej
    rw [List.getElem?_set_ne (Ne.symm hki)] at ek
    exact s.s.ne j k d' e' b hjk ej ek
theorem de_var (i : Nat) {x : Str} (hN : X.N[i]? = some x := by rfl) (hv : Vis X.env.scope x := by first | exact Or.inl rfl | exact Or.inr (Or.inl rfl) | exact Or.inr (Or.inr rfl)) (hd : (x == ("__debug__" : Str)) = false := by decide)
    (hcd : (x == ("__classdict__" : Str)) = false := by decide) : DE X cn (.Name x pos) (wVar i) := by
  refine ⟨fun ex δ Q Q' hq h => ?_, fun G gk ex tk => (pe_var hN hv hd hcd).imp fun σ H Q ⟨W, δ, s, h⟩ => ?_⟩
  · unfold wVar at h ⊢
    split at h
    · exact hq _ _ h
    · exact hq _ _ h
    · exact h
  · unfold wVar at h
    split at h
    · rename_i d e
      obtain ⟨v, e1, r⟩ := s.s.fz i d e
      exact ⟨v, e1, h W v H (Ext.refl W) s r⟩
    · rename_i d e
      obtain ⟨a, W', e1, x, s', r⟩ := s.freeze e
      exact ⟨_, e1, h W' _ H x s' r⟩
    · exact h.elim
theorem do_slot (i : Nat) {x : Str} (hN : X.N[i]? = some x := by rfl) (hv : Vis X.env.scope x := by first | exact Or.inl rfl | exact Or.inr (Or.inl rfl) | exact Or.inr (Or.inr rfl)) (hd : (x == ("__debug__" : Str)) = false := by decide)
    (hcd : (x == ("__classdict__" : Str)) = false := by decide) : DO X cn (.Name x pos) (oSlot i) := by
  refine ⟨fun ex δ Q Q' hq h => ⟨h.1, hq _ _ h.2⟩, fun G gk ex tk => (pe_var hN hv hd hcd).imp fun σ H Q ⟨W, δ, s, ⟨d, e⟩, h⟩ => ?_⟩
  have e' : (δ[i]?).bind DV.dat = some d := e
  have hv : ∃ v, σ[i]? = some (some v) := by
    cases e2 : δ[i]? with
    | none => rw [e2] at e'; cases e'
    | some y =>
      rw [e2] at e'
      cases y with
      | un => cases e'
      | fz d' => obtain ⟨v, q, _⟩ := s.s.fz i d' e2; exact ⟨v, q⟩
      | ow d' => obtain ⟨a, o, q, _⟩ := s.s.ow i d' e2; exact ⟨_, q⟩
  obtain ⟨v, hv⟩ := hv
  exact ⟨v, hv, h W v H (Ext.refl W) s hv⟩
theorem do_val {w : WE} (h : DE X cn e w) : DO X cn e (oVal w) :=
  ⟨fun ex δ Q Q' hq q => h.mono ex δ _ _ (fun d δ' x => hq _ _ x) q, fun G gk ex tk => (h.run G gk ex tk).imp fun σ H Q ⟨W, δ, s, q⟩ => ⟨W, δ, s, q⟩⟩
theorem de_const {d : Dat} {v : V} (hp : PE X e (tC v)) (hr : ∀ K W, Rep K W v d) : DE X cn e (wC d) :=
  ⟨fun _ _ _ _ hq h => hq _ _ h, fun G gk ex tk => hp.imp fun σ H Q ⟨W, δ, s, h⟩ => h W v H (Ext.refl W) s (hr _ W)⟩
theorem de_int {i : Int} {j : Nat} : DE X cn (.Constant (.int i) j pos) (wC (.int i)) := de_const pe_int fun _ _ => .int
theorem de_bl {i : Bool} {j : Nat} : DE X cn (.Constant (.bool i) j pos) (wC (.bl i)) := de_const pe_bl fun _ _ => .bl
theorem de_non {j : Nat} : DE X cn (.Constant .none j pos) (wC .non) := de_const pe_non fun _ _ => .non
theorem de_str {x : Str} {j : Nat} : DE X cn (.Constant (.str x) j pos) (wC (.str x)) := de_const pe_str fun _ _ => .str

/-! ### owners -/
@[simp] def wE (w : WV) : WE := fun ex δ Q => w ex δ fun v δ' => match v with
  | .un => False
  | .fz d => Q d δ'
  | .ow d => Q d δ'
@[simp] def wJ (w : WE) : WV := fun ex δ Q => w ex δ fun d δ' => Q (.fz d) δ'
theorem dj_e {w : WE} (h : DE X cn e w) : DJ X cn e (wJ w) :=
  ⟨fun ex δ Q Q' hq q => h.mono ex δ _ _ (fun d δ' x => hq _ _ x) q, fun G gk ex tk => (h.run G gk ex tk).imp fun σ H Q ⟨W, δ, s, q⟩ => ⟨W, δ, s, q⟩⟩
/-- an object that nobody owns is let stand still -/
theorem StOk.frzFree {W : Wd} {δ : Dl} {σ : L2.St} {H : Hp} {p : Addr} {o : HO} (s : StOk G W δ σ H) (f : Free G W δ σ H p o) : StOk G (W.put p o) δ σ H := by
  refine ⟨s.h.frz f.at_ f.g f.b f.h0, ⟨s.s.len, fun i d e => ?_, fun i d e => ?_, s.s.ne⟩⟩
  · obtain ⟨v, e1, r⟩ := s.s.fz i d e
    exact ⟨v, e1, r.mono (Wd.put_ext f.g)⟩
  · obtain ⟨a, u, e1, e2, r, n1, n2, n3⟩ := s.s.ow i d e
    have : a ≠ p := fun z => by subst z; exact f.ns i d e e1
    refine ⟨a, u, e1, e2, r.mono (Wd.put_ext f.g), ?_, n2, n3⟩
    show upd W.g p o a = none
    rw [upd_ne this]; exact n1
theorem de_j {w : WV} (h : DJ X cn e w) : DE X cn e (wE w) := by
  refine ⟨fun ex δ Q Q' hq q => h.mono ex δ _ _ (fun d δ' x => ?_) q, fun G gk ex tk => (h.run G gk ex tk).imp fun σ H Q ⟨W, δ, s, q⟩ => ⟨W, δ, s, h.mono ex δ _ _ (fun d δ' x W' v H' x' s' r' => ?_) q⟩⟩
  · cases d with
    | un => exact x
    | fz d => exact hq _ _ x
    | ow d => exact hq _ _ x
  · cases d with
    | un => exact x.elim
    | fz d => exact x W' v H' x' s' r'
    | ow d =>
      obtain ⟨p, o, rfl, r, f⟩ := r'
      exact x (W'.put p o) _ H' (x'.trans (Wd.put_ext f.g)) (s'.frzFree f) (r.rep f.g)
/-- a new object is free -/
theorem StOk.newFree {W : Wd} {δ : Dl} {σ : L2.St} {H : Hp} {p : Addr} {o : HO} (s : StOk G W δ σ H) (hp : H p = none) : StOk G W δ σ (upd H p o) ∧ Free G W δ σ (upd H p o) p o := by
  obtain ⟨f1, f2, f3⟩ := s.h.fresh hp
  refine ⟨⟨s.h.own hp, ⟨s.s.len, s.s.fz, fun i d e => ?_, s.s.ne⟩⟩, ⟨upd_same, f1, f2, f3, fun i d e z => ?_⟩⟩
  · obtain ⟨a, u, e1, e2, r⟩ := s.s.ow i d e
    exact ⟨a, u, e1, by rw [upd_ne (ne_of_none e2 hp)]; exact e2, r⟩
  · obtain ⟨a, u, e1, e2, r⟩ := s.s.ow i d e
    rw [z] at e1; cases e1
    rw [hp] at e2; cases e2

/-! ### operations of two operands -/
@[simp] def wOp2 (g : Dat → Dat → (DV → Prop) → Prop) (wa wb : WO) : WV := fun ex δ Q => wa ex δ fun o1 δ1 => wb ex δ1 fun o2 δ2 => ∃ d1 d2, o1.get δ2 = some d1 ∧ o2.get δ2 = some d2 ∧ g d1 d2 fun r => Q r δ2
def MonoG2 (g : Dat → Dat → (DV → Prop) → Prop) : Prop := ∀ d e (P P' : DV → Prop), (∀ r, P r → P' r) → g d e P → g d e P'
/-- the operation g of data is done by r -/
def Does2 (X : Cx) (g : Dat → Dat → (DV → Prop) → Prop) (r : R2) : Prop := ∀ (G : Gh), G.K = X.K → ∀ W δ σ H x y d e P (Q : VK), StOk G W δ σ H → RepB G W H x d → RepB G W H y e → g d e P →
  (∀ z W' v H', P z → Ext W W' → StOk G W' δ σ H' → RepJ G W' δ σ H' v z → Q v H') → r x y H Q
theorem rd2 {ta tb : WO} {g : Dat → Dat → (DV → Prop) → Prop} {r : R2} {ex : XW} (ma : MonoO ta) (mb : MonoO tb) (hd : Does2 X g r) (hK : G.K = X.K) {σ : L2.St} {H : Hp} {Q : VK} (h : rdJ G ex (wOp2 g ta tb) σ H Q) :
    tOp r (rdO G ex ta) (rdO G ex tb) σ H Q := by
  obtain ⟨W, δ, s, h⟩ := h
  refine ⟨W, δ, s, ma ex δ _ _ (fun o1 δ1 h1 W1 v1 H1 x1 s1 r1 => ?_) h⟩
  refine ⟨W1, δ1, s1, mb ex δ1 _ _ (fun o2 δ2 h2 W2 v2 H2 x2 s2 r2 => ?_) h1⟩
  obtain ⟨d1, d2, e1, e2, hg⟩ := h2
  exact hd G hK W2 δ2 σ H2 v1 v2 d1 d2 _ Q s2 ((r1.mono x2).get s2 e1) (r2.get s2 e2) hg fun z W' v H' hz x' s' r' => hz W' v H' ((x1.trans x2).trans x') s' r'
theorem mono2 {wa wb : WO} {g : Dat → Dat → (DV → Prop) → Prop} (ma : MonoO wa) (mb : MonoO wb) (mg : MonoG2 g) : MonoV (wOp2 g wa wb) := fun ex δ Q Q' hq h =>
  ma ex δ _ _ (fun o1 δ1 h1 => mb ex δ1 _ _ (fun o2 δ2 ⟨d1, d2, e1, e2, hg⟩ => ⟨d1, d2, e1, e2, mg d1 d2 _ _ (fun r x => hq _ _ x) hg⟩) h1) h
theorem dj_op2 {op : Operator} {wa wb : WO} {g : Dat → Dat → (DV → Prop) → Prop} {r : R2} (ho : OpR X (binaryOp op) r) (hd : Does2 X g r) (mg : MonoG2 g) (ha : DO X cn a wa) (hb : DO X cn b wb) :
    DJ X cn (.BinOp a op b pos) (wOp2 g wa wb) :=
  ⟨mono2 ha.mono hb.mono mg, fun G gk ex tk => (pe_op ho (ha.run G gk ex tk) (hb.run G gk ex tk)).imp fun σ H Q h => rd2 ha.mono hb.mono hd gk.K h⟩
theorem dj_cmp2 {op : CmpOp} {wa wb : WO} {g : Dat → Dat → (DV → Prop) → Prop} {r : R2} (ho : OpR X (compareOp op) r) (hd : Does2 X g r) (mg : MonoG2 g) (ha : DO X cn a wa) (hb : DO X cn b wb) (hm : behindInMarks op b = false) :
    DJ X cn (.Compare a [op] [b] pos) (wOp2 g wa wb) :=
  ⟨mono2 ha.mono hb.mono mg, fun G gk ex tk => (pe_cmpR ho (ha.run G gk ex tk) (hb.run G gk ex tk) hm).imp fun σ H Q h => rd2 ha.mono hb.mono hd gk.K h⟩
theorem dj_ix2 {wa wb : WO} {g : Dat → Dat → (DV → Prop) → Prop} {r : R2} (ho : IxR X r) (hd : Does2 X g r) (mg : MonoG2 g) (ha : DO X cn a wa) (hb : DO X cn b wb) (hs : PlainIx b) :
    DJ X cn (.Subscript a b pos) (wOp2 g wa wb) :=
  ⟨mono2 ha.mono hb.mono mg, fun G gk ex tk => (pe_ix ho (ha.run G gk ex tk) (hb.run G gk ex tk) hs).imp fun σ H Q h => rd2 ha.mono hb.mono hd gk.K h⟩

/-! ### operations of one operand -/
@[simp] def wOp1 (g : Dat → (DV → Prop) → Prop) (wa : WO) : WV := fun ex δ Q => wa ex δ fun o1 δ1 => ∃ d1, o1.get δ1 = some d1 ∧ g d1 fun r => Q r δ1
def MonoG1 (g : Dat → (DV → Prop) → Prop) : Prop := ∀ d (P P' : DV → Prop), (∀ r, P r → P' r) → g d P → g d P'
def Does1 (X : Cx) (g : Dat → (DV → Prop) → Prop) (r : V → Hp → VK → Prop) : Prop := ∀ (G : Gh), G.K = X.K → ∀ W δ σ H x d P (Q : VK), StOk G W δ σ H → RepB G W H x d → g d P →
  (∀ z W' v H', P z → Ext W W' → StOk G W' δ σ H' → RepJ G W' δ σ H' v z → Q v H') → r x H Q
theorem dj_un1 {op : UnaryOp} {wa : WO} {g : Dat → (DV → Prop) → Prop} {r : V → Hp → VK → Prop} (ho : UnR X (unaryOp op) r) (hd : Does1 X g r) (mg : MonoG1 g) (ha : DO X cn a wa) : DJ X cn (.UnaryOp op a pos) (wOp1 g wa) :=
  ⟨fun ex δ Q Q' hq h => ha.mono ex δ _ _ (fun o1 δ1 ⟨d1, e1, hg⟩ => ⟨d1, e1, mg d1 _ _ (fun r x => hq _ _ x) hg⟩) h,
   fun G gk ex tk => (pe_un ho (ha.run G gk ex tk)).imp fun σ H Q ⟨W, δ, s, h⟩ => ⟨W, δ, s, ha.mono ex δ _ _ (fun o1 δ1 ⟨d1, e1, hg⟩ W1 v1 H1 x1 s1 r1 =>
    hd G gk.K W1 δ1 σ H1 v1 d1 _ Q s1 (r1.get s1 e1) hg fun z W' v H' hz x' s' r' => hz W' v H' (x1.trans x') s' r') h⟩⟩

/-! ### argument lists: operands -/
@[simp] def aoNil : WAO := fun _ δ Q => Q [] δ
@[simp] def aoCons (wa : WO) (wr : WAO) : WAO := fun ex δ Q => wa ex δ fun o δ1 => wr ex δ1 fun os δ2 => Q (o :: os) δ2
theorem dao_nil : DAO X cn [] aoNil := ⟨fun _ _ _ _ hq h => hq _ _ h, fun G gk ex tk => pa_nil.imp fun σ H Q ⟨W, δ, s, h⟩ => h W [] H (Ext.refl W) s .nil⟩
theorem Paired.imp' {α β : Type} {R S : α → β → Prop} (h : ∀ a b, R a b → S a b) : ∀ {xs : List α} {ys : List β}, Paired R xs ys → Paired S xs ys
  | _, _, .nil => .nil
  | _, _, .cons r t => .cons (h _ _ r) (Paired.imp' h t)
theorem dao_cons {wa : WO} {wr : WAO} (ha : DO X cn e wa) (hr : DAO X cn es wr) (hs : starEach (e :: es) X.env = (false, eval e X.env) :: starEach es X.env := by rfl) : DAO X cn (e :: es) (aoCons wa wr) :=
  ⟨fun ex δ Q Q' hq h => ha.mono ex δ _ _ (fun o δ1 h1 => hr.mono ex δ1 _ _ (fun os δ2 h2 => hq _ _ h2) h1) h,
   fun G gk ex tk => (pa_cons (ha.run G gk ex tk) (hr.run G gk ex tk) hs).imp fun σ H Q ⟨W, δ, s, h⟩ => ⟨W, δ, s, ha.mono ex δ _ _ (fun o δ1 h1 W1 v1 H1 x1 s1 r1 =>
    ⟨W1, δ1, s1, hr.mono ex δ1 _ _ (fun os δ2 h2 W2 vs H2 x2 s2 r2 => h2 W2 (v1 :: vs) H2 (x1.trans x2) s2 (.cons (r1.mono x2) r2)) h1⟩) h⟩⟩
/-! values -/
@[simp] def aNil : WA := fun _ δ Q => Q [] δ
@[simp] def aCons (wa : WE) (wr : WA) : WA := fun ex δ Q => wa ex δ fun d δ1 => wr ex δ1 fun ds δ2 => Q (d :: ds) δ2
theorem da_nil : DA X cn [] aNil := ⟨fun _ _ _ _ hq h => hq _ _ h, fun G gk ex tk => pa_nil.imp fun σ H Q ⟨W, δ, s, h⟩ => h W [] H (Ext.refl W) s .nil⟩
theorem da_cons {wa : WE} {wr : WA} (ha : DE X cn e wa) (hr : DA X cn es wr) (hs : starEach (e :: es) X.env = (false, eval e X.env) :: starEach es X.env := by rfl) : DA X cn (e :: es) (aCons wa wr) :=
  ⟨fun ex δ Q Q' hq h => ha.mono ex δ _ _ (fun o δ1 h1 => hr.mono ex δ1 _ _ (fun os δ2 h2 => hq _ _ h2) h1) h,
   fun G gk ex tk => (pa_cons (ha.run G gk ex tk) (hr.run G gk ex tk) hs).imp fun σ H Q ⟨W, δ, s, h⟩ => ⟨W, δ, s, ha.mono ex δ _ _ (fun o δ1 h1 W1 v1 H1 x1 s1 r1 =>
    ⟨W1, δ1, s1, hr.mono ex δ1 _ _ (fun os δ2 h2 W2 vs H2 x2 s2 r2 => h2 W2 (v1 :: vs) H2 (x1.trans x2) s2 (.cons (r1.mono x2) r2)) h1⟩) h⟩⟩

/-! ### built-ins by values -/
@[simp] def wCB (g : List Dat → (DV → Prop) → Prop) (wa : WAO) : WV := fun ex δ Q => wa ex δ fun os δ1 => ∃ ds, getAll os δ1 = some ds ∧ g ds fun r => Q r δ1
def MonoGL (g : List Dat → (DV → Prop) → Prop) : Prop := ∀ d (P P' : DV → Prop), (∀ r, P r → P' r) → g d P → g d P'
def DoesL (X : Cx) (g : List Dat → (DV → Prop) → Prop) (r : List V → Hp → VK → Prop) : Prop := ∀ (G : Gh), G.K = X.K → ∀ W δ σ H xs ds P (Q : VK), StOk G W δ σ H → RepBs G W H xs ds → g ds P →
  (∀ z W' v H', P z → Ext W W' → StOk G W' δ σ H' → RepJ G W' δ σ H' v z → Q v H') → r xs H Q
theorem getAll_rep {W : Wd} {δ : Dl} {σ : L2.St} {H : Hp} (s : StOk G W δ σ H) : ∀ {os : List Opd} {vs : List V} {ds : List Dat}, Paired (RepO G W σ) vs os → getAll os δ = some ds → RepBs G W H vs ds
  | [], _, _, .nil, h => by cases h; exact .nil
  | o :: os, _, ds, .cons r t, h => by
    unfold getAll at h
    cases e1 : o.get δ with
    | none => rw [e1] at h; cases h
    | some d =>
      rw [e1] at h
      have h : (getAll os δ).bind (fun ds => some (d :: ds)) = some ds := h
      cases e2 : getAll os δ with
      | none => rw [e2] at h; cases h
      | some ds' =>
        rw [e2] at h
        have h : d :: ds' = ds := Option.some.inj h
        subst h
        exact .cons (r.get s e1) (getAll_rep s t e2)
theorem rdL {wa : WAO} {g : List Dat → (DV → Prop) → Prop} {r : List V → Hp → VK → Prop} {ex : XW} (ma : MonoAO wa) (hd : DoesL X g r) (hK : G.K = X.K) {σ : L2.St} {H : Hp} {Q : VK} (h : rdJ G ex (wCB g wa) σ H Q) : tCB r (rdAO G ex wa) σ H Q := by
  obtain ⟨W, δ, s, h⟩ := h
  refine ⟨W, δ, s, ma ex δ _ _ (fun os δ1 ⟨ds, e1, hg⟩ W1 vs H1 x1 s1 r1 => ?_) h⟩
  exact hd G hK W1 δ1 σ H1 vs ds _ Q s1 (getAll_rep s1 r1 e1) hg fun z W' v H' hz x' s' r' => hz W' v H' (x1.trans x') s' r'
theorem monoL {wa : WAO} {g : List Dat → (DV → Prop) → Prop} (ma : MonoAO wa) (mg : MonoGL g) : MonoV (wCB g wa) := fun ex δ Q Q' hq h =>
  ma ex δ _ _ (fun os δ1 ⟨ds, e1, hg⟩ => ⟨ds, e1, mg ds _ _ (fun r x => hq _ _ x) hg⟩) h
theorem dj_callB {x : Str} {p : Pos} {id : String} {wa : WAO} {g : List Dat → (DV → Prop) → Prop} {r : List V → Hp → VK → Prop} (hc : CallR X (.builtin id) r) (hd : DoesL X g r) (mg : MonoGL g) (hg : Gl X x) (hm : X.mg x = none) (hv : bootBuiltins x = some (.builtin id)) (ha : DAO X cn (e :: es) wa)
    (hn : x ≠ "__name__" := by decide) (hdb : (x == ("__debug__" : Str)) = false := by decide)
    (he : starEach (e :: es) X.env = (false, eval e X.env) :: starEach es X.env := by rfl) (hpl : (backTo pos (starEach es X.env)).any (·.1) = false := by rfl) : DJ X cn (.Call (.Name x p) (e :: es) [] pos) (wCB g wa) :=
  ⟨monoL ha.mono mg, fun G gk ex tk => (pe_callB hc hg hm hv (ha.run G gk ex tk) hn hdb he hpl).imp fun σ H Q h => rdL ha.mono hd gk.K h⟩
theorem dj_callTy {x : Str} {p : Pos} {T : String} {wa : WAO} {g : List Dat → (DV → Prop) → Prop} {r : List V → Hp → VK → Prop} (hc : CallR X (.type T) r) (hd : DoesL X g r) (mg : MonoGL g) (hg : Gl X x) (hm : X.mg x = none) (hv : bootBuiltins x = some (.type T)) (ha : DAO X cn (e :: es) wa)
    (hn : x ≠ "__name__" := by decide) (hdb : (x == ("__debug__" : Str)) = false := by decide)
    (he : starEach (e :: es) X.env = (false, eval e X.env) :: starEach es X.env := by rfl) (hpl : (backTo pos (starEach es X.env)).any (·.1) = false := by rfl) : DJ X cn (.Call (.Name x p) (e :: es) [] pos) (wCB g wa) :=
  ⟨monoL ha.mono mg, fun G gk ex tk => (pe_callTy hc hg hm hv (ha.run G gk ex tk) hn hdb he hpl).imp fun σ H Q h => rdL ha.mono hd gk.K h⟩

/-! ### displays -/
@[simp] def wTup (wa : WA) : WE := fun ex δ Q => wa ex δ fun ds δ1 => ds.length ≤ 1000000 ∧ Q (.tup ds) δ1
@[simp] def wLst (wa : WA) : WV := fun ex δ Q => wa ex δ fun ds δ1 => ds.length ≤ 1000000 ∧ Q (.ow (.lst ds)) δ1
theorem mil {n : Nat} (h : n ≤ 1000000) : n ≤ sizeLine := by rw [sizeLine_eq]; omega
theorem de_tup {k : Nat} {wa : WA} (ha : DA X cn es wa) : DE X cn (.Tuple es k pos) (wTup wa) :=
  ⟨fun ex δ Q Q' hq h => ha.mono ex δ _ _ (fun ds δ1 ⟨z, q⟩ => ⟨z, hq _ _ q⟩) h,
   fun G gk ex tk => (pe_tup (ha.run G gk ex tk)).imp fun σ H Q ⟨W, δ, s, h⟩ => ⟨W, δ, s, ha.mono ex δ _ _ (fun ds δ1 ⟨z, q⟩ W1 vs H1 x1 s1 r1 =>
    ⟨by rw [r1.length]; exact mil z, fun p hp => q _ _ _ (x1.trans (Wd.put_ext (s1.h.fresh hp).1)) (s1.put hp) (.tup (.inl (.inl (by show upd W1.g p _ p = _; exact upd_same))) (r1.mono (Wd.put_ext (s1.h.fresh hp).1)))⟩) h⟩⟩
theorem dj_lst {wa : WA} (ha : DA X cn es wa) : DJ X cn (.List es pos) (wLst wa) :=
  ⟨fun ex δ Q Q' hq h => ha.mono ex δ _ _ (fun ds δ1 ⟨z, q⟩ => ⟨z, hq _ _ q⟩) h,
   fun G gk ex tk => (pe_lst (ha.run G gk ex tk)).imp fun σ H Q ⟨W, δ, s, h⟩ => ⟨W, δ, s, ha.mono ex δ _ _ (fun ds δ1 ⟨z, q⟩ W1 vs H1 x1 s1 r1 =>
    ⟨by rw [r1.length]; exact mil z, fun p hp => q _ _ _ x1 (s1.newFree hp).1 ⟨p, _, rfl, .lst r1, (s1.newFree hp).2⟩⟩) h⟩⟩

/-! ### tests -/
def truth : Dat → Option Bool
  | .non => some false
  | .bl b => some b
  | .int i => some (i != 0)
  | .tup ds => some (!ds.isEmpty)
  | .lst ds => some (!ds.isEmpty)
  | .dK ds => some (!ds.isEmpty)
  | _ => none
/-- a comparison, or what gives True or False, as a test -/
@[simp] def tBl (w : WE) : WT := fun ex δ Q => w ex δ fun d δ' => ∃ k, d = .bl k ∧ Q k δ'
@[simp] def tBlV (w : WV) : WT := fun ex δ Q => w ex δ fun d δ' => ∃ k, d = .fz (.bl k) ∧ Q k δ'
theorem monoBl {w : WE} (m : MonoE w) : MonoT (tBl w) := fun ex δ Q Q' hq h => m ex δ _ _ (fun d δ' ⟨k, e, q⟩ => ⟨k, e, hq _ _ q⟩) h
theorem monoBlV {w : WV} (m : MonoV w) : MonoT (tBlV w) := fun ex δ Q Q' hq h => m ex δ _ _ (fun d δ' ⟨k, e, q⟩ => ⟨k, e, hq _ _ q⟩) h
theorem dt_cmp2 {op : CmpOp} {wa wb : WO} {g : Dat → Dat → (DV → Prop) → Prop} {r : R2} (ho : OpR X (compareOp op) r) (hd : Does2 X g r) (mg : MonoG2 g) (ha : DO X cn a wa) (hb : DO X cn b wb) (hm : behindInMarks op b = false) :
    DT X cn (.Compare a [op] [b] pos) (tBlV (wOp2 g wa wb)) :=
  ⟨monoBlV (mono2 ha.mono hb.mono mg), fun G gk ex tk => (pt_cmpR ho (ha.run G gk ex tk) (hb.run G gk ex tk) hm).imp fun σ H Q ⟨W, δ, st, q⟩ =>
    rd2 (Q := fun x H' => ∃ k, x = .bl k ∧ Q k H') ha.mono hb.mono hd gk.K ⟨W, δ, st, mono2 ha.mono hb.mono mg ex δ _ _ (fun d δ' ⟨k, e, q⟩ W1 v H1 x1 s1 r1 => by
      subst e
      have r1 : Rep G.K W1 v (.bl k) := r1
      cases r1; exact ⟨k, rfl, q W1 H1 x1 s1⟩) q⟩⟩
theorem dt_val {w : WE} (h : DE X cn e w) (he : ∀ whole, isTrue e X.env whole = (do let v ← whole; standAt e.pos; holding [v] (truthy v)) := by intro _; rfl) : DT X cn e (tBl w) := by
  refine ⟨monoBl h.mono, fun G gk ex tk => (pt_val (h.run G gk ex tk) he).imp fun σ H Q ⟨W, δ, st, q⟩ => ?_⟩
  exact ⟨W, δ, st, h.mono ex δ _ _ (fun d δ' ⟨k, e, q⟩ W1 v H1 x1 s1 r1 => by subst e; cases r1; exact ⟨k, rfl, q W1 H1 x1 s1⟩) q⟩
/-! and, or, not -/
@[simp] def tAnd (u v : WT) : WT := fun ex δ Q => u ex δ fun k δ' => if k = true then v ex δ' Q else Q false δ'
@[simp] def tOr (u v : WT) : WT := fun ex δ Q => u ex δ fun k δ' => if k = true then Q true δ' else v ex δ' Q
@[simp] def tNot (u : WT) : WT := fun ex δ Q => u ex δ fun k δ' => Q (!k) δ'
section
variable {u v : WT} {rest : List Expr}
theorem tAnd_mono (mu : MonoT u) (mv : MonoT v) : MonoT (tAnd u v) := fun ex δ Q Q' hq h => mu ex δ _ _ (fun k δ' x => by
  cases k with
  | true => exact mv ex δ' _ _ hq x
  | false => exact hq _ _ x) h
theorem tOr_mono (mu : MonoT u) (mv : MonoT v) : MonoT (tOr u v) := fun ex δ Q Q' hq h => mu ex δ _ _ (fun k δ' x => by
  cases k with
  | true => exact hq _ _ x
  | false => exact mv ex δ' _ _ hq x) h
theorem dw_and1 (ha : DT X cn a u) : DW X cn (.BoolOp .And [a] pos) u := ⟨ha.mono, fun G gk ex tk => pw_and1 (ha.run G gk ex tk)⟩
theorem dw_or1 (ha : DT X cn a u) : DW X cn (.BoolOp .Or [a] pos) u := ⟨ha.mono, fun G gk ex tk => pw_or1 (ha.run G gk ex tk)⟩
theorem dw_and (ha : DT X cn a u) (hb : DW X cn (.BoolOp .And (b :: rest) pos) v) : DW X cn (.BoolOp .And (a :: b :: rest) pos) (tAnd u v) :=
  ⟨tAnd_mono ha.mono hb.mono, fun G gk ex tk => (pw_and (ha.run G gk ex tk) (hb.run G gk ex tk)).imp fun σ H Q ⟨W, δ, s, q⟩ => ⟨W, δ, s, ha.mono ex δ _ _ (fun k δ' x W1 H1 x1 s1 => by
    cases k with
    | true => exact ⟨W1, δ', s1, hb.mono ex δ' _ _ (fun k δ2 y W2 H2 x2 s2 => y W2 H2 (x1.trans x2) s2) x⟩
    | false => exact x W1 H1 x1 s1) q⟩⟩
theorem dw_or (ha : DT X cn a u) (hb : DW X cn (.BoolOp .Or (b :: rest) pos) v) : DW X cn (.BoolOp .Or (a :: b :: rest) pos) (tOr u v) :=
  ⟨tOr_mono ha.mono hb.mono, fun G gk ex tk => (pw_or (ha.run G gk ex tk) (hb.run G gk ex tk)).imp fun σ H Q ⟨W, δ, s, q⟩ => ⟨W, δ, s, ha.mono ex δ _ _ (fun k δ' x W1 H1 x1 s1 => by
    cases k with
    | true => exact x W1 H1 x1 s1
    | false => exact ⟨W1, δ', s1, hb.mono ex δ' _ _ (fun k δ2 y W2 H2 x2 s2 => y W2 H2 (x1.trans x2) s2) x⟩) q⟩⟩
theorem dt_w (h : DW X cn e u) : DT X cn e u := ⟨h.mono, fun G gk ex tk => (h.run G gk ex tk).pt⟩
theorem dt_not (h : DT X cn a u) : DT X cn (.UnaryOp .Not a pos) (tNot u) :=
  ⟨fun ex δ Q Q' hq q => h.mono ex δ _ _ (fun k δ' x => hq _ _ x) q, fun G gk ex tk => (pt_not (h.run G gk ex tk)).imp fun σ H Q ⟨W, δ, s, q⟩ => ⟨W, δ, s, h.mono ex δ _ _ (fun k δ' x W1 H1 x1 s1 => x W1 H1 x1 s1) q⟩⟩
/-! as values: True and False alone, but the last -/
@[simp] def wAnd (u : WE) (v : WE) : WE := fun ex δ Q => u ex δ fun d δ' => ∃ k, d = .bl k ∧ if k = true then v ex δ' Q else Q (.bl false) δ'
@[simp] def wOr (u : WE) (v : WE) : WE := fun ex δ Q => u ex δ fun d δ' => ∃ k, d = .bl k ∧ if k = true then Q (.bl true) δ' else v ex δ' Q
@[simp] def wNot (u : WE) : WE := fun ex δ Q => u ex δ fun d δ' => ∃ k, d = .bl k ∧ Q (.bl (!k)) δ'
variable {p q : WE}
theorem de_one {op : BoolOp} (h : DE X cn a p) : DE X cn (.BoolOp op [a] pos) p := ⟨h.mono, fun G gk ex tk => pe_one (h.run G gk ex tk)⟩
theorem de_and (ha : DE X cn a p) (hb : DE X cn (.BoolOp .And (b :: rest) pos) q) : DE X cn (.BoolOp .And (a :: b :: rest) pos) (wAnd p q) :=
  ⟨fun ex δ Q Q' hq h => ha.mono ex δ _ _ (fun d δ' ⟨k, e, x⟩ => ⟨k, e, by
    cases k with
    | true => exact hb.mono ex δ' _ _ hq x
    | false => exact hq _ _ x⟩) h, fun G gk ex tk => (pe_and (ha.run G gk ex tk) (hb.run G gk ex tk)).imp fun σ H Q ⟨W, δ, s, h⟩ => ⟨W, δ, s, ha.mono ex δ _ _ (fun d δ' ⟨k, e, x⟩ W1 v1 H1 x1 s1 r1 => by
    subst e; cases r1
    refine ⟨k, rfl, ?_⟩
    cases k with
    | true => exact ⟨W1, δ', s1, hb.mono ex δ' _ _ (fun d δ2 y W2 v2 H2 x2 s2 r2 => y W2 v2 H2 (x1.trans x2) s2 r2) x⟩
    | false => exact x W1 _ H1 x1 s1 .bl) h⟩⟩
theorem de_or (ha : DE X cn a p) (hb : DE X cn (.BoolOp .Or (b :: rest) pos) q) : DE X cn (.BoolOp .Or (a :: b :: rest) pos) (wOr p q) :=
  ⟨fun ex δ Q Q' hq h => ha.mono ex δ _ _ (fun d δ' ⟨k, e, x⟩ => ⟨k, e, by
    cases k with
    | true => exact hq _ _ x
    | false => exact hb.mono ex δ' _ _ hq x⟩) h, fun G gk ex tk => (pe_or (ha.run G gk ex tk) (hb.run G gk ex tk)).imp fun σ H Q ⟨W, δ, s, h⟩ => ⟨W, δ, s, ha.mono ex δ _ _ (fun d δ' ⟨k, e, x⟩ W1 v1 H1 x1 s1 r1 => by
    subst e; cases r1
    refine ⟨k, rfl, ?_⟩
    cases k with
    | true => exact x W1 _ H1 x1 s1 .bl
    | false => exact ⟨W1, δ', s1, hb.mono ex δ' _ _ (fun d δ2 y W2 v2 H2 x2 s2 r2 => y W2 v2 H2 (x1.trans x2) s2 r2) x⟩) h⟩⟩
theorem de_not (ha : DE X cn a p) : DE X cn (.UnaryOp .Not a pos) (wNot p) :=
  ⟨fun ex δ Q Q' hq h => ha.mono ex δ _ _ (fun d δ' ⟨k, e, x⟩ => ⟨k, e, hq _ _ x⟩) h, fun G gk ex tk => (pe_not (ha.run G gk ex tk)).imp fun σ H Q ⟨W, δ, s, h⟩ => ⟨W, δ, s, ha.mono ex δ _ _ (fun d δ' ⟨k, e, x⟩ W1 v1 H1 x1 s1 r1 => by
    subst e; cases r1
    exact ⟨k, rfl, x W1 _ H1 x1 s1 .bl⟩) h⟩⟩
/-- x if t else y -/
@[simp] def wIte (t : WT) (p q : WE) : WE := fun ex δ Q => t ex δ fun k δ' => if k = true then p ex δ' Q else q ex δ' Q
theorem de_ite (ht : DT X cn c u) (ha : DE X cn a p) (hb : DE X cn b q) : DE X cn (.IfExp c a b pos) (wIte u p q) :=
  ⟨fun ex δ Q Q' hq h => ht.mono ex δ _ _ (fun k δ' x => by
    cases k with
    | true => exact ha.mono ex δ' _ _ hq x
    | false => exact hb.mono ex δ' _ _ hq x) h, fun G gk ex tk => (pe_ifExp (ht.run G gk ex tk) (ha.run G gk ex tk) (hb.run G gk ex tk)).imp fun σ H Q ⟨W, δ, s, h⟩ => ⟨W, δ, s, ht.mono ex δ _ _ (fun k δ' x W1 H1 x1 s1 => by
    cases k with
    | true => exact ⟨W1, δ', s1, ha.mono ex δ' _ _ (fun d δ2 y W2 v2 H2 x2 s2 r2 => y W2 v2 H2 (x1.trans x2) s2 r2) x⟩
    | false => exact ⟨W1, δ', s1, hb.mono ex δ' _ _ (fun d δ2 y W2 v2 H2 x2 s2 r2 => y W2 v2 H2 (x1.trans x2) s2 r2) x⟩) h⟩⟩
end
end
end DL
set_option Elab.async false
set_option linter.all false
set_option maxRecDepth 100000
namespace DL
open PySem PySem.Spec PyProof.Rows L2

/-! ### slots are set -/
section
variable {G : Gh} {W W' : Wd} {δ : Dl} {σ : L2.St} {H H' : Hp}
theorem StOk.setF (s : StOk G W δ σ H) {v : V} {d : Dat} (r : Rep G.K W v d) (i : Nat) : StOk G W (δ.set i (.fz d)) (σ.set i (some v)) H := by
  refine ⟨s.h, ⟨by rw [List.length_set, List.length_set]; exact s.s.len, fun j d' e => ?_, fun j d' e => ?_, fun j k d' e' b hjk ej ek hj hk => ?_⟩⟩
  · by_cases hj : j = i
    · subst hj
      have hl : j < δ.length := by
        have := (List.getElem?_eq_some_iff.mp e).1
        rw [List.length_set] at this; exact this
      rw [List.getElem?_set_self hl] at e
      cases e
      exact ⟨v, List.getElem?_set_self (by rw [← s.s.len]; exact hl), r⟩
    · rw [List.getElem?_set_ne (Ne.symm hj)] at e
      rw [List.getElem?_set_ne (Ne.symm hj)]
      exact s.s.fz j d' e
  · by_cases hj : j = i
    · subst hj
      have hl : j < δ.length := by
        have := (List.getElem?_eq_some_iff.mp e).1
        rw [List.length_set] at this; exact this
      rw [List.getElem?_set_self hl] at e
      cases e
    · rw [List.getElem?_set_ne (Ne.symm hj)] at e
      rw [List.getElem?_set_ne (Ne.symm hj)]
      exact s.s.ow j d' e
  · have hji : j ≠ i := fun z => by
      subst z
      have hl : j < δ.length := by
        have := (List.getElem?_eq_some_iff.mp ej).1
        rw [List.length_set] at this; exact this
      rw [List.getElem?_set_self hl] at ej; cases ej
    have hki : k ≠ i := fun z => by
      subst z
      have hl : k < δ.length := by
        have := (List.getElem?_eq_some_iff.mp ek).1
        rw [List.length_set] at this; exact this
      rw [List.getElem?_set_self hl] at ek; cases ek
    rw [List.getElem?_set_ne (Ne.symm hji)] at ej hj
    rw [List.getElem?_set_ne (Ne.symm hki)] at ek hk
    exact s.s.ne j k d' e' b hjk ej ek hj hk
theorem StOk.setO (s : StOk G W δ σ H) {p : Addr} {o : HO} {d : Dat} (f : Free G W δ σ H p o) (r : Own G.K W o d) (i : Nat) : StOk G W (δ.set i (.ow d)) (σ.set i (some (.ref p))) H := by
  refine ⟨s.h, ⟨by rw [List.length_set, List.length_set]; exact s.s.len, fun j d' e => ?_, fun j d' e => ?_, fun j k d' e' b hjk ej ek hj hk => ?_⟩⟩
  · by_cases hj : j = i
    · subst hj
      have hl : j < δ.length := by
        have := (List.getElem?_eq_some_iff.mp e).1
        rw [List.length_set] at this; exact this
      rw [List.getElem?_set_self hl] at e
      cases e
    · rw [List.getElem?_set_ne (Ne.symm hj)] at e
      rw [List.getElem?_set_ne (Ne.symm hj)]
      exact s.s.fz j d' e
  · by_cases hj : j = i
    · subst hj
      have hl : j < δ.length := by
        have := (List.getElem?_eq_some_iff.mp e).1
        rw [List.length_set] at this; exact this
      rw [List.getElem?_set_self hl] at e
      cases e
      exact ⟨p, o, List.getElem?_set_self (by rw [← s.s.len]; exact hl), f.at_, r, f.g, f.b, f.h0⟩
    · rw [List.getElem?_set_ne (Ne.symm hj)] at e
      rw [List.getElem?_set_ne (Ne.symm hj)]
      exact s.s.ow j d' e
  · have sl : ∀ {m : Nat} {x : DV}, (δ.set i (.ow d))[m]? = some x → m = i → m < δ.length := fun {m x} e z => by
      have := (List.getElem?_eq_some_iff.mp e).1
      rw [List.length_set] at this; exact this
    by_cases hji : j = i
    · by_cases hki : k = i
      · exact hjk (hji.trans hki.symm)
      · have hl := sl ej hji
        rw [List.getElem?_set_ne (Ne.symm hki)] at ek hk
        subst hji
        rw [List.getElem?_set_self (by rw [← s.s.len]; exact hl)] at hj
        cases hj
        exact f.ns k _ ek hk
    · rw [List.getElem?_set_ne (Ne.symm hji)] at ej hj
      by_cases hki : k = i
      · have hl := sl ek hki
        subst hki
        rw [List.getElem?_set_self (by rw [← s.s.len]; exact hl)] at hk
        cases hk
        exact f.ns j _ ej hj
      · rw [List.getElem?_set_ne (Ne.symm hki)] at ek hk
        exact s.s.ne j k d' e' b hjk ej ek hj hk
/-- the object of an owned slot is changed -/
theorem StOk.chg (s : StOk G W δ σ H) {i : Nat} {d d' : Dat} {a : Addr} {o' : HO} (e : δ[i]? = some (.ow d)) (ea : σ[i]? = some (some (.ref a))) (r : Own G.K W o' d') : StOk G W (δ.set i (.ow d')) σ (upd H a o') := by
  obtain ⟨a', o, e1, e2, r1, n1, n2, n3⟩ := s.s.ow i d e
  rw [ea] at e1; cases e1
  have hl : i < δ.length := (List.getElem?_eq_some_iff.mp e).1
  refine ⟨s.h.chg n1 n2 n3, ⟨by rw [List.length_set]; exact s.s.len, fun j d' e' => ?_, fun j dj e' => ?_, fun j k dj dk b hjk ej ek hj hk => ?_⟩⟩
  · have hj : j ≠ i := fun z => by subst z; rw [List.getElem?_set_self hl] at e'; cases e'
    rw [List.getElem?_set_ne (Ne.symm hj)] at e'
    exact s.s.fz j d' e'
  · by_cases hj : j = i
    · subst hj
      rw [List.getElem?_set_self hl] at e'
      cases e'
      exact ⟨a, o', ea, upd_same, r, n1, n2, n3⟩
    · rw [List.getElem?_set_ne (Ne.symm hj)] at e'
      obtain ⟨b, u, q1, q2, q3, q4⟩ := s.s.ow j dj e'
      have : b ≠ a := fun z => by subst z; exact s.s.ne j i dj d b hj e' e q1 ea
      exact ⟨b, u, q1, by rw [upd_ne this]; exact q2, q3, q4⟩
  · have key : ∀ {m : Nat} {x : Dat}, (δ.set i (.ow d'))[m]? = some (.ow x) → ∃ y, δ[m]? = some (.ow y) := fun {m x} q => by
      by_cases hm : m = i
      · subst hm; exact ⟨d, e⟩
      · rw [List.getElem?_set_ne (Ne.symm hm)] at q; exact ⟨x, q⟩
    obtain ⟨y, hy⟩ := key ej
    obtain ⟨z, hz⟩ := key ek
    exact s.s.ne j k y z b hjk hy hz hj hk
theorem StOk.nil (h : HpOk G W H) {n : Nat} : StOk G W (List.replicate n .un) (List.replicate n none) H := by
  have no : ∀ {i : Nat} {x : DV}, (List.replicate n DV.un)[i]? = some x → x = .un := fun {i x} e => by
    have := List.mem_of_getElem? e
    exact List.eq_of_mem_replicate this
  refine ⟨h, ⟨by simp, fun i d e => ?_, fun i d e => ?_, fun i j d e' a _ e => ?_⟩⟩
  · cases no e
  · cases no e
  · cases no e
end

/-! ### behind a call -/
theorem HpOk.call {G : Gh} {W W' : Wd} {H H' : Hp} (h : HpOk G W H) (c : HpOk ⟨G.K, W, H, G.cn⟩ W' H') : HpOk G W' H' := by
  have up : ∀ a, (G.H0 a).isSome → (H a).isSome := fun a e => by
    cases q : G.H0 a with
    | none => rw [q] at e; cases e
    | some o =>
      by_cases hb : G.W0.bag a
      · obtain ⟨_, x, y, z, e1⟩ := h.bags a (h.ext.b a hb)
        rw [e1]; rfl
      · rcases h.keep a o q hb with z | z
        · rw [z]; rfl
        · exact z.2.some
  refine ⟨h.ext.trans c.ext, fun a o e nb => ?_, c.sub, fun a e => ?_, fun a e hb => h.oldb a e (c.oldb a (up a e) hb), c.bags⟩
  · have nb' : ¬ W.bag a := fun z => nb (h.oldb a (by rw [e]; rfl) z)
    have l : H a = some o → H' a = some o ∨ (G.W0.g a = some o ∧ Stl H' a o) := fun q => by
      rcases c.keep a o q nb' with r | ⟨r1, r2⟩
      · exact .inl r
      · rcases h.old a (by rw [e]; rfl) with z | ⟨ob, kvs, z1, z2⟩
        · exact .inr ⟨by rw [← z]; exact r1, r2⟩
        · have r1 : W.g a = some o := r1
          rw [z2] at r1; cases r1
          exact .inl r2.frz
    rcases h.keep a o e nb with q | ⟨q1, q2⟩
    · exact l q
    · rcases q2 with q2 | ⟨ob, kvs, rfl, q2⟩
      · exact l q2
      · rcases c.keep a _ q2 nb' with r | ⟨_, r⟩
        · exact .inr ⟨q1, .inr ⟨ob, kvs, rfl, r⟩⟩
        · exact .inr ⟨q1, .inr ⟨ob, kvs, rfl, r.frz⟩⟩
  · rcases c.old a (up a e) with z | ⟨ob, kvs, z1, z2⟩
    · have z : W'.g a = W.g a := z
      rw [z]; exact h.old a e
    · have z1 : W.g a = some (.dK kvs) := z1
      rcases h.old a e with y | ⟨ob', kvs', y1, y2⟩
      · exact .inr ⟨ob, kvs, by rw [← y]; exact z1, z2⟩
      · rw [y2] at z1; cases z1
theorem StOk.call {G : Gh} {W W' : Wd} {δ : Dl} {σ : L2.St} {H H' : Hp} (s : StOk G W δ σ H) (c : HpOk ⟨G.K, W, H, G.cn⟩ W' H') : StOk G W' δ σ H' := by
  refine ⟨s.h.call c, ⟨s.s.len, fun i d e => ?_, fun i d e => ?_, s.s.ne⟩⟩
  · obtain ⟨v, e1, r⟩ := s.s.fz i d e
    exact ⟨v, e1, r.mono c.ext⟩
  · obtain ⟨a, o, e1, e2, r, n1, n2, n3⟩ := s.s.ow i d e
    have hs : (H a).isSome := by rw [e2]; rfl
    exact ⟨a, o, e1, (c.keep a o e2 n2).resolve_right (fun x => by have x1 : W.g a = some o := x.1; rw [n1] at x1; cases x1), r.mono c.ext, (c.old a hs).elim (fun x => x.trans n1) (fun ⟨_, _, x1, _⟩ => by have x1 : W.g a = _ := x1; rw [n1] at x1; cases x1), fun z => n2 (c.oldb a hs z), n3⟩

/-! ### what a def promises, in data -/
abbrev DSp := List Dat → (Dat → Prop) → XP → Prop
def MonoSp (Φ : DSp) : Prop := ∀ ds P P' E, (∀ d, P d → P' d) → Φ ds P E → Φ ds P' E
def lift (K : PySem.W.Frag) (cn : Str → Value) (Φ : DSp) : Sp := fun vs H Q E => ∃ W ds P ex, RepAll K W vs ds ∧ HpOk ⟨K, W, H, cn⟩ W H ∧ Φ ds P ex ∧
  (∀ W' v d H', HpOk ⟨K, W, H, cn⟩ W' H' → Rep K W' v d → P d → Q v H') ∧ ∀ cls d H', XPost ⟨K, W, H, cn⟩ ex cls d H' → E cls d H'
theorem HpOk.self {K : PySem.W.Frag} {cn : Str → Value} {G : Gh} {W : Wd} {H : Hp} (h : HpOk G W H) : HpOk ⟨K, W, H, cn⟩ W H :=
  ⟨Ext.refl W, fun _ _ e _ => .inl e, h.sub, fun _ _ => .inl rfl, fun _ _ e => e, h.bags⟩
theorem XPost.call {G : Gh} {W : Wd} {δ : Dl} {σ : L2.St} {H H' : Hp} {ex : XW} {cls : Value} {d : Option Addr} (h : StOk G W δ σ H) (x : XPost ⟨G.K, W, H, G.cn⟩ (fun x => ex x δ) cls d H') : XPostW G ex cls d σ H' := by
  obtain ⟨W', y, c, r, q⟩ := x
  exact ⟨W', y, δ, h.call c, r, q⟩

section
variable {X : Cx} {cn : Str → Value} {pos : Pos} {e a b c : Expr} {es : List Expr} {st : Stmt} {sts : List Stmt}
@[simp] def wCall (Φ : DSp) (wa : WA) : WE := fun ex δ Q => wa ex δ fun ds δ1 => Φ ds (fun d => Q d δ1) (fun x => ex x δ1)
theorem wCall_mono {Φ : DSp} {wa : WA} (m : MonoSp Φ) (ma : MonoA wa) : MonoE (wCall Φ wa) := fun ex δ Q Q' hq h => ma ex δ _ _ (fun ds δ1 h1 => m ds _ _ _ (fun d => hq d δ1) h1) h
/-- a call; what is wished of an exception may speak of the slots -/
def tCallS (sp : Sp) (E : L2.St → XK) (t : TA) : TE := fun σ H Q => t σ H fun vs H1 => sp vs H1 Q (E σ)
theorem run_fnS {k : Nat} {f : Addr} {fd : FuncData} {ps : List Str} {sp : Sp} {E : XK} {W : WX} {pins : List (Addr × Obj)} {σ : L2.St} {H : Hp} {s : Shared} {Q : VK} {us : List Value} {vs : List V} (F : FnOk X.prog X.w X.K X.mg X.base (L2.CX X.prog X.w) k f fd ps sp) (hr : Room k X.A) (hb : Binds X.K fd ps [])
    (tk : Takes X W) (hW : ∀ cls d H, E cls d H → W cls d σ H) (I : Inv X pins σ H s) (r : Vals vs us) (h : sp vs H Q E) : wpAny (model X.prog X.w) X.A (PySem.call (.ref f) us) (EP X pins σ Q) X.xe s := by
  have hl : us.length = ps.length := by rw [← r.length]; exact F.len _ _ _ _ h
  have hb1 := hb s us I.kIn (by rw [List.append_nil]; exact hl)
  rw [List.append_nil] at hb1
  refine wpAny_call (codeAny_mono (F.run X.A X.stack s H ⟨us, []⟩ us vs Q E hr I.env0 hb1 r h) fun r s' hq => ?_)
  cases r with
  | error e => exact tk e s' (XE.of_call I (fun cls d H' h => hW cls d H' h) hq)
  | ok fl =>
    cases fl with
    | ret u => exact I.after hq
    | next => exact False.elim hq
    | brk => exact False.elim hq
    | cont => exact False.elim hq
theorem pe_callS {k : Nat} {f : Addr} {fd : FuncData} {ps : List Str} {sp : Sp} {x : Str} {p : Pos} {t : TA} {W : WX} (F : FnOk X.prog X.w X.K X.mg X.base (L2.CX X.prog X.w) k f fd ps sp) (hr : Room k X.A) (hg : Gl X x) (hm : X.mg x = some (.ref f)) (hk : PySem.W.keepIn X.K (.ref f) = true) (hb : Binds X.K fd ps []) (tk : Takes X W)
    (ha : PA X (e :: es) t) (hdb : (x == ("__debug__" : Str)) = false := by decide) (he : starEach (e :: es) X.env = (false, eval e X.env) :: starEach es X.env := by rfl) (hpl : (backTo pos (starEach es X.env)).any (·.1) = false := by rfl) :
    PE X (.Call (.Name x p) (e :: es) [] pos) (tCallS sp (fun σ cls d H => W cls d σ H) t) := by
  refine ⟨fun pins s σ H Q I h => ?_⟩
  refine wpAny_Call_Name_kw (ld_glob I hg hm ?_ hdb)
  refine PySem.W.callWith_K (h₀ := X.base) I.ok.mod.kin hk (thn (ha.run pos pins s σ H _ I h) fun us s1 ⟨vs, H1, I1, r, q⟩ => ⟨I1.kIn, ?_⟩) he hpl
  exact run_fnS F hr hb tk (fun _ _ _ z => z) I1 r q
theorem pe_callS0 {k : Nat} {f : Addr} {fd : FuncData} {ps : List Str} {sp : Sp} {x : Str} {p : Pos} {W : WX} (F : FnOk X.prog X.w X.K X.mg X.base (L2.CX X.prog X.w) k f fd ps sp) (hr : Room k X.A) (hg : Gl X x) (hm : X.mg x = some (.ref f)) (hk : PySem.W.keepIn X.K (.ref f) = true) (hb : Binds X.K fd ps []) (tk : Takes X W)
    (hdb : (x == ("__debug__" : Str)) = false := by decide) : PE X (.Call (.Name x p) [] [] pos) (tCallS sp (fun σ cls d H => W cls d σ H) tNil) := by
  refine ⟨fun pins s σ H Q I h => ?_⟩
  refine wpAny_Call_Name_kw (ld_glob I hg hm ?_ hdb)
  exact PySem.W.callWith_K0 I.kIn hk (run_fnS (us := []) F hr hb tk (fun _ _ _ z => z) I .nil h)
theorem rd_call {Φ : DSp} {wa : WA} {G : Gh} {ex : XW} (ma : MonoA wa) (hcn : G.cn = cn) (hK : G.K = X.K) {σ : L2.St} {H : Hp} {Q : VK} (h : rdE G ex (wCall Φ wa) σ H Q) :
    tCallS (lift X.K cn Φ) (fun σ cls d H => XPostW G ex cls d σ H) (rdA G ex wa) σ H Q := by
  obtain ⟨W, δ, s, h⟩ := h
  subst hcn
  rw [← hK]
  refine ⟨W, δ, s, ma ex δ _ _ (fun ds δ1 h1 W1 vs H1 x1 s1 r1 => ?_) h⟩
  exact ⟨W1, ds, _, _, r1, s1.h.self, h1, fun W' v d H' c r q => q W' v H' (x1.trans c.ext) (s1.call c) r, fun cls d H' x => x.call s1⟩
theorem de_call {Φ : DSp} {k : Nat} {f : Addr} {fd : FuncData} {ps : List Str} {x : Str} {p : Pos} {wa : WA} (F : FnOk X.prog X.w X.K X.mg X.base (L2.CX X.prog X.w) k f fd ps (lift X.K cn Φ)) (mΦ : MonoSp Φ) (hr : Room k X.A) (hg : Gl X x) (hm : X.mg x = some (.ref f)) (hk : PySem.W.keepIn X.K (.ref f) = true) (hb : Binds X.K fd ps [])
    (ha : DA X cn (e :: es) wa) (hdb : (x == ("__debug__" : Str)) = false := by decide) (he : starEach (e :: es) X.env = (false, eval e X.env) :: starEach es X.env := by rfl) (hpl : (backTo pos (starEach es X.env)).any (·.1) = false := by rfl) :
    DE X cn (.Call (.Name x p) (e :: es) [] pos) (wCall Φ wa) :=
  ⟨wCall_mono mΦ ha.mono, fun G gk ex tk => (pe_callS F hr hg hm hk hb tk (ha.run G gk ex tk) hdb he hpl).imp fun σ H Q h => rd_call ha.mono gk.cn gk.K h⟩
theorem de_call0 {Φ : DSp} {k : Nat} {f : Addr} {fd : FuncData} {ps : List Str} {x : Str} {p : Pos} (F : FnOk X.prog X.w X.K X.mg X.base (L2.CX X.prog X.w) k f fd ps (lift X.K cn Φ)) (mΦ : MonoSp Φ) (hr : Room k X.A) (hg : Gl X x) (hm : X.mg x = some (.ref f)) (hk : PySem.W.keepIn X.K (.ref f) = true) (hb : Binds X.K fd ps [])
    (hdb : (x == ("__debug__" : Str)) = false := by decide) : DE X cn (.Call (.Name x p) [] [] pos) (wCall Φ aNil) :=
  ⟨wCall_mono mΦ (da_nil (X := X) (cn := cn)).mono, fun G gk ex tk => (pe_callS0 F hr hg hm hk hb tk hdb).imp fun σ H Q h => by
    have := rd_call (X := X) (cn := cn) (da_nil (X := X) (cn := cn)).mono gk.cn gk.K h
    obtain ⟨W, δ, s, q⟩ := this
    exact q W [] H (Ext.refl W) s .nil⟩

/-! ### statements -/
@[simp] def wNext : WS := fun _ D δ => D.nx δ
@[simp] def wSeq (a b : WS) : WS := fun ex D δ => a ex { D with nx := fun δ' => b ex D δ' } δ
theorem dss_nil : DSs X cn [] wNext := ⟨fun _ _ _ _ hl h => hl.nx _ h, fun G gk ex tk => pss_nil.imp fun D σ H ⟨W, δ, s, h⟩ => h W σ H (Ext.refl W) s⟩
theorem wSeq_mono {u v : WS} (mu : MonoS u) (mv : MonoS v) : MonoS (wSeq u v) := fun ex D D' δ hl h => mu ex { D with nx := fun δ' => v ex D δ' } _ δ ⟨fun δ' q => mv ex D D' δ' hl q, hl.rt, hl.bk, hl.ct⟩ h
theorem dss_cons {u v : WS} (h1 : DS X cn st u) (h2 : DSs X cn sts v) : DSs X cn (st :: sts) (wSeq u v) :=
  ⟨wSeq_mono h1.mono h2.mono, fun G gk ex tk => (pss_cons (h1.run G gk ex tk) (h2.run G gk ex tk)).imp fun D σ H ⟨W, δ, s, h⟩ => ⟨W, δ, s, h1.mono ex { ends G W D with nx := fun δ' => v ex (ends G W D) δ' } _ δ
    ⟨fun δ' q W1 σ1 H1 x1 s1 => ⟨W1, δ', s1, h2.mono ex _ _ δ' (ends.le x1) q⟩, fun _ q => q, fun _ q => q, fun _ q => q⟩ h⟩⟩
theorem dss_one {u : WS} (h1 : DS X cn st u) : DSs X cn [st] u := ⟨h1.mono, fun G gk ex tk => pss_one (h1.run G gk ex tk)⟩
@[simp] def wNever : WS := fun _ _ _ => False
theorem ds_never : DS X cn st wNever := ⟨fun _ _ _ _ _ h => h, fun G gk ex tk => ps_never.imp fun D σ H ⟨W, δ, s, h⟩ => h⟩
theorem ds_pass : DS X cn (.Pass pos) wNext := ⟨fun _ _ _ _ hl h => hl.nx _ h, fun G gk ex tk => ps_pass.imp fun D σ H ⟨W, δ, s, h⟩ => h W σ H (Ext.refl W) s⟩
@[simp] def wBreak : WS := fun _ D δ => D.bk δ
@[simp] def wCont : WS := fun _ D δ => D.ct δ
theorem ds_break : DS X cn (.Break pos) wBreak := ⟨fun _ _ _ _ hl h => hl.bk _ h, fun G gk ex tk => ps_break.imp fun D σ H ⟨W, δ, s, h⟩ => h W σ H (Ext.refl W) s⟩
theorem ds_cont : DS X cn (.Continue pos) wCont := ⟨fun _ _ _ _ hl h => hl.ct _ h, fun G gk ex tk => ps_continue.imp fun D σ H ⟨W, δ, s, h⟩ => h W σ H (Ext.refl W) s⟩
@[simp] def wRet (we : WE) : WS := fun ex D δ => we ex δ fun d _ => D.rt d
theorem ds_ret {we : WE} (h : DE X cn e we) : DS X cn (.Return (some e) pos) (wRet we) :=
  ⟨fun ex D D' δ hl q => h.mono ex δ _ _ (fun d δ' x => hl.rt _ x) q, fun G gk ex tk => (ps_ret (h.run G gk ex tk)).imp fun D σ H ⟨W, δ, s, q⟩ => ⟨W, δ, s, h.mono ex δ _ _ (fun d δ' x W' v H' x' s' r' => x W' v H' x' s'.h r') q⟩⟩
@[simp] def wRetN : WS := fun _ D _ => D.rt .non
theorem ds_retN : DS X cn (.Return none pos) wRetN := ⟨fun ex D D' δ hl q => hl.rt _ q, fun G gk ex tk => ps_retN.imp fun D σ H ⟨W, δ, s, q⟩ => q W .non H (Ext.refl W) s.h .non⟩
@[simp] def wExpr (we : WE) : WS := fun ex D δ => we ex δ fun _ δ' => D.nx δ'
theorem ds_expr {we : WE} (h : DE X cn e we) (hs : swapsWith e none pos.line X.env = pure false := by rfl) : DS X cn (.Expr e pos) (wExpr we) :=
  ⟨fun ex D D' δ hl q => h.mono ex δ _ _ (fun d δ' x => hl.nx _ x) q, fun G gk ex tk => (ps_expr (h.run G gk ex tk) hs).imp fun D σ H ⟨W, δ, s, q⟩ => ⟨W, δ, s, h.mono ex δ _ _ (fun d δ' x W' v H' x' s' r' => x W' σ H' x' s') q⟩⟩
@[simp] def wIf (wt : WT) (u v : WS) : WS := fun ex D δ => wt ex δ fun k δ' => if k = true then u ex D δ' else v ex D δ'
theorem ds_if {wt : WT} {u v : WS} {sts' : List Stmt} (ht : DT X cn e wt) (h1 : DSs X cn sts u) (h2 : DSs X cn sts' v) : DS X cn (.If e sts sts' pos) (wIf wt u v) :=
  ⟨fun ex D D' δ hl q => ht.mono ex δ _ _ (fun k δ' x => by
      cases k with
      | true => exact h1.mono ex _ _ δ' hl x
      | false => exact h2.mono ex _ _ δ' hl x) q,
   fun G gk ex tk => (ps_if (ht.run G gk ex tk) (h1.run G gk ex tk) (h2.run G gk ex tk)).imp fun D σ H ⟨W, δ, s, q⟩ => ⟨W, δ, s, ht.mono ex δ _ _ (fun k δ' x W1 H1 x1 s1 => by
      cases k with
      | true => exact ⟨W1, δ', s1, h1.mono ex _ _ δ' (ends.le x1) x⟩
      | false => exact ⟨W1, δ', s1, h2.mono ex _ _ δ' (ends.le x1) x⟩) q⟩⟩
end
end DL
set_option Elab.async false
set_option linter.all false
set_option maxRecDepth 100000
namespace DL
open PySem PySem.Spec PyProof.Rows L2

theorem Rep.intV {K : PySem.W.Frag} {W : Wd} {v : V} {i : Int} (r : Rep K W v (.int i)) : v = .int i := by cases r; rfl
theorem Rep.blV {K : PySem.W.Frag} {W : Wd} {v : V} {i : Bool} (r : Rep K W v (.bl i)) : v = .bl i := by cases r; rfl
theorem Rep.strV {K : PySem.W.Frag} {W : Wd} {v : V} {i : Str} (r : Rep K W v (.str i)) : v = .str i := by cases r; rfl
theorem RepB.int {G : Gh} {W : Wd} {H : Hp} {v : V} {i : Int} (r : RepB G W H v (.int i)) : v = .int i := by
  rcases r with r | ⟨a, o, _, _, r⟩
  · exact r.intV
  · cases r
theorem RepB.bl {G : Gh} {W : Wd} {H : Hp} {v : V} {i : Bool} (r : RepB G W H v (.bl i)) : v = .bl i := by
  rcases r with r | ⟨a, o, _, _, r⟩
  · exact r.blV
  · cases r
theorem RepB.str {G : Gh} {W : Wd} {H : Hp} {v : V} {i : Str} (r : RepB G W H v (.str i)) : v = .str i := by
  rcases r with r | ⟨a, o, _, _, r⟩
  · exact r.strV
  · cases r
theorem RepB.tup {G : Gh} {W : Wd} {H : Hp} {v : V} {ds : List Dat} (h : HpOk G W H) (r : RepB G W H v (.tup ds)) : ∃ a vs, v = .ref a ∧ SqT G.K H a vs ∧ SqT G.K W.g a vs ∧ RepAll G.K W vs ds := by
  rcases r with r | ⟨a, o, _, _, r⟩
  · cases r with
    | tup h1 h2 => exact ⟨_, _, rfl, SqT.std h.sub h1, h1, h2⟩
  · cases r
theorem RepB.lst {G : Gh} {W : Wd} {H : Hp} {v : V} {ds : List Dat} (h : HpOk G W H) (r : RepB G W H v (.lst ds)) : ∃ a vs, v = .ref a ∧ H a = some (.lst vs) ∧ RepAll G.K W vs ds := by
  rcases r with r | ⟨a, o, rfl, e, r⟩
  · cases r with
    | lst h1 h2 => exact ⟨_, _, rfl, (h.sub _ _ h1).lst, h2⟩
  · cases r with
    | lst h2 => exact ⟨_, _, rfl, e, h2⟩
theorem RepB.scr {G : Gh} {W : Wd} {H : Hp} {v : V} {ns : List Int} (h : HpOk G W H) (r : RepB G W H v (.scr ns)) : ∃ a, v = .ref a ∧ SqL G.K H a (ns.map V.int) := by
  rcases r with r | ⟨a, o, rfl, e, r⟩
  · cases r with
    | scr h1 => exact ⟨_, rfl, SqL.std h.sub h1⟩
  · cases r
theorem RepB.dK {G : Gh} {W : Wd} {H : Hp} {v : V} {ds : List (Key × Dat)} (h : HpOk G W H) (r : RepB G W H v (.dK ds)) : ∃ a vs, v = .ref a ∧ Rd H a (.dK vs) ∧ RepKV G.K W vs ds := by
  rcases r with r | ⟨a, o, rfl, e, r⟩
  · cases r with
    | dK h1 h2 => exact ⟨_, _, rfl, Rd.std h.sub h1, h2⟩
  · cases r with
    | dK h2 => exact ⟨_, _, rfl, .inl e, h2⟩
theorem RepB.bag {G : Gh} {W : Wd} {H : Hp} {v : V} (h : HpOk G W H) (r : RepB G W H v .bag) : ∃ a, v = .ref a ∧ W.bag a ∧ ∃ x y z : Int, H a = some (.lst [.int x, .int y, .int z]) := by
  rcases r with r | ⟨a, o, _, _, r⟩
  · cases r with
    | bag h1 => exact ⟨_, rfl, h1, (h.bags _ h1).2⟩
  · cases r

/-! ### how great the numbers may be -/
def LIM : Int := 10 ^ 2000
theorem LIM_ge : (10 : Int) ^ 700 ≤ LIM := by unfold LIM; decide +kernel
theorem lim_log {i : Int} (h : -LIM < i ∧ i < LIM) : i.natAbs.log2 < 8000 := by
  have h1 : i.natAbs < 10 ^ 2000 := by
    have h2 := h.1
    have h3 := h.2
    have e : LIM = ((10 ^ 2000 : Nat) : Int) := by unfold LIM; decide +kernel
    rw [e] at h2 h3
    omega
  have h2 : (10 : Nat) ^ 2000 ≤ 2 ^ 8000 := by decide +kernel
  exact PySem.Flt.log2_lt_of (by decide) (Nat.lt_of_lt_of_le h1 h2)
/-- numbers whose product fits -/
def MulOk (i j : Int) : Prop := (-(2 ^ 64) < i ∧ i < 2 ^ 64) ∨ (-(2 ^ 64) < j ∧ j < 2 ^ 64) ∨ ((-LIM < i ∧ i < LIM) ∧ (-LIM < j ∧ j < LIM))
theorem MulOk.ok {i j : Int} (h : MulOk i j) : IntMulOk i j := by
  rcases h with h | h | ⟨h1, h2⟩
  · exact CMul.ok (.inl h)
  · exact CMul.ok (.inr h)
  · refine CMulW.ok ?_
    have a := lim_log h1
    have b := lim_log h2
    show _ + _ < 1000000
    omega
def pyDiv (i j : Int) : Int := if 0 < j then i / j else i.fdiv j
def pyMod (i j : Int) : Int := if 0 < j then i % j else i.fmod j
theorem pyDiv_eq (i j : Int) : pyDiv i j = i.fdiv j := by
  unfold pyDiv; split
  · rw [Int.fdiv_eq_ediv_of_nonneg i (by omega)]
  · rfl
theorem pyMod_eq (i j : Int) : pyMod i j = i.fmod j := by
  unfold pyMod; split
  · rw [Int.fmod_eq_emod_of_nonneg i (by omega)]
  · rfl

section
variable {X : Cx}
theorem op_mulM : OpR X (binaryOp .Mult) (rI MulOk fun i j => .int (i * j)) := opI fun _ _ _ _ _ _ _ hc q => mul_int q hc.ok
def CDivM (_ j : Int) : Prop := j ≠ 0 ∧ -LIM < j ∧ j < LIM
theorem op_divM : OpR X (binaryOp .FloorDiv) (rI CDivM fun i j => .int (pyDiv i j)) := opI fun i j _ _ _ _ _ hc q => by
  have hc : j ≠ 0 ∧ -LIM < j ∧ j < LIM := hc
  have h9 : j.natAbs.log2 < 9000 := by have := lim_log hc.2; omega
  exact floordiv_int hc.1 (by rw [pyDiv_eq] at q; exact q) (.inl (PyProof.noPylong_of_log2 h9))
theorem op_modM : OpR X (binaryOp .Mod) (rI (fun _ j => j ≠ 0) fun i j => .int (pyMod i j)) := opI fun i j _ _ _ _ _ hc q => by
  rw [pyMod_eq] at q
  exact mod_int' hc q
def CPowM (i j : Int) : Prop := 0 ≤ j ∧ j ≤ 10000 ∧ -LIM < i ∧ i < LIM
theorem op_powM : OpR X (binaryOp .Pow) (rI CPowM fun i j => .int (i ^ j.toNat)) := opI fun i j _ _ _ _ _ hc q => by
  have hc : 0 ≤ j ∧ j ≤ 10000 ∧ -LIM < i ∧ i < LIM := hc
  refine pow_int hc.1 ?_ q
  have h1 := lim_log hc.2.2
  have h2 : Builtin.Int.intBits i ≤ i.natAbs.log2 + 1 := by
    unfold Builtin.Int.intBits
    split <;> omega
  have h3 : (Builtin.Int.intBits i : Int) ≤ 8000 := by omega
  have h4 : (Builtin.Int.intBits i : Int) * j ≤ 8000 * 10000 := Int.mul_le_mul h3 hc.2.1 hc.1 (by decide)
  have h5 : (8000 : Int) * 10000 ≤ 2 ^ 27 := by decide
  omega

/-! ### sums, differences, products .. -/
@[simp] def gAdd : Dat → Dat → (DV → Prop) → Prop
  | .int i, .int j, P => P (.fz (.int (i + j)))
  | .int i, .bl k, P => P (.fz (.int (i + b2i k)))
  | .str x, .str y, P => x.length + y.length ≤ 1000000 ∧ P (.fz (.str (x ++ y)))
  | .tup xs, .tup ys, P => xs.length + ys.length ≤ 1000000 ∧ P (.fz (.tup (xs ++ ys)))
  | .lst xs, .lst ys, P => xs.length + ys.length ≤ 1000000 ∧ P (.ow (.lst (xs ++ ys)))
  | _, _, _ => False
theorem gAdd_mono : MonoG2 gAdd := fun d e P P' h q => by
  cases d <;> cases e <;> first | exact q.elim | exact h _ q | exact ⟨q.1, h _ q.2⟩
def rAddA (K : PySem.W.Frag) : R2 := fun x y H Q => (rI0 (fun i j => .int (i + j)) x y H Q) ∨ (∃ i k, x = .int i ∧ y = .bl k ∧ Q (.int (i + b2i k)) H) ∨
  (∃ i j, x = .str i ∧ y = .str j ∧ i.length + j.length ≤ sizeLine ∧ Q (.str (i ++ j)) H) ∨ rCatA K x y H Q ∨ rCat x y H Q
theorem op_addA : OpR X (binaryOp .Add) (rAddA X.K) := op_add.or (op_add_ib.or (op_add_str.or (op_catA.or op_cat)))
theorem does_add : Does2 X gAdd (rAddA X.K) := by
  intro G hK W δ σ H x y d e P Q s rx ry hg hz
  cases d with
  | int i =>
    cases e with
    | int j => rw [rx.int, ry.int]; exact .inl ⟨i, j, rfl, rfl, hz _ W _ H hg (Ext.refl W) s .int⟩
    | bl j => rw [rx.int, ry.bl]; exact .inr (.inl ⟨i, j, rfl, rfl, hz _ W _ H hg (Ext.refl W) s .int⟩)
    | _ => exact hg.elim
  | str i =>
    cases e with
    | str j => rw [rx.str, ry.str]; exact .inr (.inr (.inl ⟨i, j, rfl, rfl, mil hg.1, hz _ W _ H hg.2 (Ext.refl W) s .str⟩))
    | _ => exact hg.elim
  | tup xs =>
    cases e with
    | tup ys =>
      obtain ⟨a, vs, rfl, h1, k1, r1⟩ := rx.tup s.h
      obtain ⟨b, ws, rfl, h2, k2, r2⟩ := ry.tup s.h
      rw [hK] at h1 h2
      refine .inr (.inr (.inr (.inl ⟨a, b, vs, ws, rfl, rfl, h1, h2, by rw [r1.length, r2.length]; exact mil hg.1, fun ex => ?_, fun nx ey => ?_, fun nx ny p hp => ?_⟩)))
      · have e0 : xs = [] := r1.nil_iff.mp ex
        subst e0
        exact hz _ W _ _ hg.2 (Ext.refl W) s (.tup k2 r2)
      · have e0 : ys = [] := r2.nil_iff.mp ey
        subst e0
        have hg2 := hg.2
        rw [List.append_nil] at hg2
        exact hz _ W _ _ hg2 (Ext.refl W) s (.tup k1 r1)
      · have x' := Wd.put_ext (o := .tup (vs ++ ws)) (s.h.fresh hp).1
        exact hz _ _ _ _ hg.2 x' (s.put hp) (.tup (.inl (.inl (by show upd W.g p _ p = _; exact upd_same))) ((r1.append r2).mono x'))
    | _ => exact hg.elim
  | lst xs =>
    cases e with
    | lst ys =>
      obtain ⟨a, vs, rfl, h1, r1⟩ := rx.lst s.h
      obtain ⟨b, ws, rfl, h2, r2⟩ := ry.lst s.h
      refine .inr (.inr (.inr (.inr ⟨a, b, vs, ws, rfl, rfl, h1, h2, by rw [r1.length, r2.length]; exact mil hg.1, fun p hp => ?_⟩)))
      exact hz _ W _ _ hg.2 (Ext.refl W) (s.newFree hp).1 ⟨p, _, rfl, .lst (r1.append r2), (s.newFree hp).2⟩
    | _ => exact hg.elim
  | _ => exact hg.elim

@[simp] def gII (C : Int → Int → Prop) (f : Int → Int → Int) : Dat → Dat → (DV → Prop) → Prop
  | .int i, .int j, P => C i j ∧ P (.fz (.int (f i j)))
  | _, _, _ => False
theorem gII_mono {C : Int → Int → Prop} {f : Int → Int → Int} : MonoG2 (gII C f) := fun d e P P' h q => by
  cases d <;> cases e <;> first | exact q.elim | exact ⟨q.1, h _ q.2⟩
theorem does_II {C : Int → Int → Prop} {f : Int → Int → Int} : Does2 X (gII C f) (rI C fun i j => .int (f i j)) := by
  intro G hK W δ σ H x y d e P Q s rx ry hg hz
  cases d with
  | int i =>
    cases e with
    | int j => rw [rx.int, ry.int]; exact ⟨i, j, rfl, rfl, hg.1, hz _ W _ H hg.2 (Ext.refl W) s .int⟩
    | _ => exact hg.elim
  | _ => exact hg.elim
theorem op_subA : OpR X (binaryOp .Sub) (rI (fun _ _ => True) fun i j => .int (i - j)) := fun pins s σ H x y v u Q I rx ry ⟨i, j, e1, e2, _, q⟩ => op_sub pins s σ H x y v u Q I rx ry ⟨i, j, e1, e2, q⟩
def gSub := gII (fun _ _ => True) fun i j => i - j
@[simp] def gDiv := gII CDivM pyDiv
@[simp] def gMod := gII (fun _ j => j ≠ 0) pyMod
@[simp] def gPow := gII CPowM fun i j => i ^ j.toNat
theorem tuple_mulOne (l : Addr) (items : Array Value) (n : Nat) (dd : Option Addr) (sl : Array (Option Value)) (u : Tok) :
    Meets (Builtin.«tuple.__mul__» ⟨[.ref l, .int 1 u], []⟩) (fun _ R s => s.heap.get? l = some { cls := .type "tuple", dict := dd, data := .seq items n, slots := sl } ∧
      R (.ok (.ret (Value.ref l))) s) :=
  .of_wp fun prog w A R s h => by
    obtain ⟨hp, g, d, tk, os⟩ := s
    obtain ⟨hl, h⟩ := h
    have f1 := AutoSeq1.idx_int
    wp_walk using wpAny_loadPart' hl
    exact ⟨_, rfl, h⟩
theorem tuple_mulZero (l : Addr) (items : Array Value) (n : Nat) (dd : Option Addr) (sl : Array (Option Value)) (u : Tok) (he : items.isEmpty = false) :
    Meets (Builtin.«tuple.__mul__» ⟨[.ref l, .int 0 u], []⟩) (fun _ R s => s.heap.get? l = some { cls := .type "tuple", dict := dd, data := .seq items n, slots := sl } ∧
      R (.ok (.ret (Value.ref s.heap.objs.size))) { s with heap := s.heap.push { cls := Value.type "tuple", data := Data.seq #[] }, toks := s.toks }) :=
  .of_wp fun prog w A R s h => by
    obtain ⟨hp, g, d, tk, os⟩ := s
    obtain ⟨hl, h⟩ := h
    have f1 := AutoSeq1.idx_int
    have c1 : (items.isEmpty || (0 : Int) == 1) = false := by rw [he]; rfl
    wp_walk using wpAny_loadPart' hl
    repeat (first
      | (refine wpAny_ite_false (decide_eq_false (by rw [c1]; exact Bool.false_ne_true)) ?_; wp_walk using wpAny_loadPart' hl))
    exact ⟨_, rfl, h⟩
def rRepT01 (K : PySem.W.Frag) : R2 := fun x y H Q => (∃ l xs, x = .ref l ∧ y = .int 1 ∧ SqT K H l xs ∧ Q (.ref l) H) ∨ ∃ l xs, x = .ref l ∧ y = .int 0 ∧ SqT K H l xs ∧ xs ≠ [] ∧ ∀ p, H p = none → Q (.ref p) (upd H p (.tup []))
theorem op_repT01 : OpR X (binaryOp .Mult) (rRepT01 X.K) := by
  intro pins s σ H x y v u Q I rx ry h
  rcases h with ⟨l, xs, rfl, rfl, hT, q⟩ | ⟨l, xs, rfl, rfl, hT, hne, q⟩
  · cases rx
    obtain ⟨t, rfl⟩ := ry
    obtain ⟨its, r, ⟨⟨cls, dd, data, sl⟩, ho, hc, n, hd⟩, hs⟩ := I.tuple hT
    simp only at hc hd
    subst hc hd
    refine wpAny_binaryOp_repeat_ref (T := "tuple") (U := "int") (by decide) ⟨_, ho, rfl⟩ (fun s' => typeIs_int s' 1 t) noFill_tuple_mul F.fills_int_mul F.slot_int_rmul repeat_tuple F.slot_int_index.lookup
      (call_meets F.slot_int_rmul (typeIs_int s 1 t) F.entry_int_rmul (F.args_int_rmul_2 _ _) (int_rmul_tuple 1 t l its.toArray n dd sl)
        ⟨ho, rfl, ⟨_, ho, rfl⟩, call_meets F.slot_tuple_mul ⟨_, ho, rfl⟩ F.entry_tuple_mul (F.args_tuple_mul_2 _ _) (tuple_mulOne l its.toArray n dd sl t) ⟨ho, ?_⟩⟩)
    exact ⟨.ref l, H, I, rfl, q⟩
  · cases rx
    obtain ⟨t, rfl⟩ := ry
    obtain ⟨its, r, ⟨⟨cls, dd, data, sl⟩, ho, hc, n, hd⟩, hs⟩ := I.tuple hT
    simp only at hc hd
    subst hc hd
    have hle : its.length = xs.length := r.length.symm
    have hi : its.toArray.isEmpty = false := by
      cases its with
      | nil => exact absurd (List.eq_nil_of_length_eq_zero hle.symm) hne
      | cons a b => rfl
    refine wpAny_binaryOp_repeat_ref (T := "tuple") (U := "int") (by decide) ⟨_, ho, rfl⟩ (fun s' => typeIs_int s' 0 t) noFill_tuple_mul F.fills_int_mul F.slot_int_rmul repeat_tuple F.slot_int_index.lookup
      (call_meets F.slot_int_rmul (typeIs_int s 0 t) F.entry_int_rmul (F.args_int_rmul_2 _ _) (int_rmul_tuple 0 t l its.toArray n dd sl)
        ⟨ho, rfl, ⟨_, ho, rfl⟩, call_meets F.slot_tuple_mul ⟨_, ho, rfl⟩ F.entry_tuple_mul (F.args_tuple_mul_2 _ _) (tuple_mulZero l its.toArray n dd sl t hi) ⟨ho, ?_⟩⟩)
    refine ⟨.ref s.heap.objs.size, _, I.laid (t' := s.toks) (o := .tup []) (fun b ob q => Heap.get?_push_of_some _ q) (Nat.le_refl _) ?_, rfl, q _ (I.hok.fresh (Nat.le_refl _))⟩
    exact ⟨by rw [sizeLine_eq]; simp, [], .nil, IsTup.new _ _⟩
/-- products: ints, a list or tuple some times -/
@[simp] def gMul : Dat → Dat → (DV → Prop) → Prop
  | .int i, .int j, P => MulOk i j ∧ P (.fz (.int (i * j)))
  | .lst xs, .int k, P => (-(2 ^ 63) ≤ k ∧ k < 2 ^ 63 ∧ xs.length * k.toNat ≤ 1000000) ∧ P (.ow (.lst (List.replicate k.toNat xs).flatten))
  | .tup xs, .int k, P => (xs ≠ [] ∧ 0 ≤ k ∧ k ≤ 1000 ∧ xs.length ≤ 1000) ∧ P (.fz (.tup (List.replicate k.toNat xs).flatten))
  | _, _, _ => False
theorem gMul_mono : MonoG2 gMul := fun d e P P' h q => by
  cases d <;> cases e <;> first | exact q.elim | exact ⟨q.1, h _ q.2⟩
theorem RepAll.flat {K : PySem.W.Frag} {W : Wd} {vs : List V} {ds : List Dat} (r : RepAll K W vs ds) : ∀ n : Nat, RepAll K W (List.replicate n vs).flatten (List.replicate n ds).flatten
  | 0 => .nil
  | n + 1 => by
    rw [List.replicate_succ, List.replicate_succ, List.flatten_cons, List.flatten_cons]
    exact r.append (RepAll.flat r n)
def rMulA (K : PySem.W.Frag) : R2 := fun x y H Q => rI MulOk (fun i j => .int (i * j)) x y H Q ∨ rRep x y H Q ∨ rRepT K x y H Q ∨ rRepT01 K x y H Q
theorem op_mulA : OpR X (binaryOp .Mult) (rMulA X.K) := op_mulM.or (op_rep.or (op_repT.or op_repT01))
theorem does_mul : Does2 X gMul (rMulA X.K) := by
  intro G hK W δ σ H x y d e P Q s rx ry hg hz
  cases d with
  | int i =>
    cases e with
    | int j => rw [rx.int, ry.int]; exact .inl ⟨i, j, rfl, rfl, hg.1, hz _ W _ H hg.2 (Ext.refl W) s .int⟩
    | _ => exact hg.elim
  | lst xs =>
    cases e with
    | int k =>
      obtain ⟨a, vs, rfl, h1, r1⟩ := rx.lst s.h
      rw [ry.int]
      refine .inr (.inl ⟨a, k, vs, rfl, rfl, h1, hg.1.1, hg.1.2.1, by rw [r1.length]; exact mil hg.1.2.2, fun p hp => ?_⟩)
      exact hz _ W _ _ hg.2 (Ext.refl W) (s.newFree hp).1 ⟨p, _, rfl, .lst (RepAll.flat r1 _), (s.newFree hp).2⟩
    | _ => exact hg.elim
  | tup xs =>
    cases e with
    | int k =>
      obtain ⟨a, vs, rfl, h1, k1, r1⟩ := rx.tup s.h
      rw [hK] at h1
      rw [ry.int]
      have fin : ∀ p, H p = none → Q (.ref p) (upd H p (.tup (List.replicate k.toNat vs).flatten)) := fun p hp => by
        have x' := Wd.put_ext (o := .tup (List.replicate k.toNat vs).flatten) (s.h.fresh hp).1
        exact hz _ _ _ _ hg.2 x' (s.put hp) (.tup (.inl (.inl (by show upd W.g p _ p = _; exact upd_same))) ((RepAll.flat r1 _).mono x'))
      have hv : vs ≠ [] := fun z => hg.1.1 (r1.nil_iff.mp z)
      by_cases k2 : 2 ≤ k
      · exact .inr (.inr (.inl ⟨a, k, vs, rfl, rfl, h1, hv, k2, hg.1.2.2.1, by rw [r1.length]; exact hg.1.2.2.2, fin⟩))
      · have : k = 0 ∨ k = 1 := by have := hg.1.2.1; omega
        rcases this with rfl | rfl
        · exact .inr (.inr (.inr (.inr ⟨a, vs, rfl, rfl, h1, hv, fin⟩)))
        · refine .inr (.inr (.inr (.inl ⟨a, vs, rfl, rfl, h1, hz _ W _ H hg.2 (Ext.refl W) s ?_⟩)))
          have e : (List.replicate (1 : Int).toNat xs).flatten = xs := by simp
          rw [e]
          exact .tup k1 r1
    | _ => exact hg.elim
  | _ => exact hg.elim
@[simp] def gNeg : Dat → (DV → Prop) → Prop
  | .int i, P => P (.fz (.int (-i)))
  | _, _ => False
theorem gNeg_mono : MonoG1 gNeg := fun d P P' h q => by
  cases d <;> first | exact q.elim | exact h _ q
theorem does_neg : Does1 X gNeg (rU fun i => .int (-i)) := by
  intro G hK W δ σ H x d P Q s rx hg hz
  cases d with
  | int i => rw [rx.int]; exact ⟨i, rfl, hz _ W _ H hg (Ext.refl W) s .int⟩
  | _ => exact hg.elim

/-! ### comparisons of numbers -/
@[simp] def gCmp (f : Int → Int → Bool) : Dat → Dat → (DV → Prop) → Prop
  | .int i, .int j, P => P (.fz (.bl (f i j)))
  | _, _, _ => False
theorem gCmp_mono {f : Int → Int → Bool} : MonoG2 (gCmp f) := fun d e P P' h q => by
  cases d <;> cases e <;> first | exact q.elim | exact h _ q
theorem does_cmp {f : Int → Int → Bool} : Does2 X (gCmp f) (rI0 fun i j => .bl (f i j)) := by
  intro G hK W δ σ H x y d e P Q s rx ry hg hz
  cases d with
  | int i =>
    cases e with
    | int j => rw [rx.int, ry.int]; exact ⟨i, j, rfl, rfl, hz _ W _ H hg (Ext.refl W) s .bl⟩
    | _ => exact hg.elim
  | _ => exact hg.elim
abbrev gLt := gCmp fun i j => decide (i < j)
abbrev gLe := gCmp fun i j => decide (i ≤ j)
abbrev gGt := gCmp fun i j => decide (j < i)
abbrev gGe := gCmp fun i j => decide (j ≤ i)

/-! ### == of data -/
mutual
def toPy : Dat → PyData
  | .non => .none
  | .bl b => .bool b
  | .int i => .int i
  | .str x => .str x
  | .tup ds => .tuple (toPys ds)
  | .lst ds => .list (toPys ds)
  | _ => .none
def toPys : List Dat → List PyData
  | [] => []
  | d :: ds => toPy d :: toPys ds
end
/-- no dict, bag .. within, of a depth of at most n -/
def okD : Nat → Dat → Bool
  | _, .non => true
  | _, .bl _ => true
  | _, .int _ => true
  | _, .str _ => true
  | n + 1, .tup ds => ds.all (okD n)
  | n + 1, .lst ds => ds.all (okD n)
  | _, _ => false
mutual
def eqvD : Dat → Dat → Bool
  | .non, .non => true
  | .bl a, .bl b => a == b
  | .bl a, .int j => (if a then 1 else 0) == j
  | .int i, .bl b => i == (if b then 1 else 0)
  | .int i, .int j => i == j
  | .str x, .str y => x == y
  | .tup xs, .tup ys => eqvDs xs ys
  | .lst xs, .lst ys => eqvDs xs ys
  | _, _ => false
def eqvDs : List Dat → List Dat → Bool
  | [], [] => true
  | x :: xs, y :: ys => eqvD x y && eqvDs xs ys
  | _, _ => false
end
theorem okD_plain : ∀ (n : Nat) (d : Dat), okD n d = true → (toPy d).plain = true ∧ (toPy d).depth ≤ n
  | n, .non, _ => by simp [toPy, PyData.plain, PyData.depth]
  | n, .bl b, _ => by simp [toPy, PyData.plain, PyData.depth]
  | n, .int i, _ => by simp [toPy, PyData.plain, PyData.depth]
  | n, .str x, _ => by simp [toPy, PyData.plain, PyData.depth]
  | 0, .tup ds, h => by simp [okD] at h
  | 0, .lst ds, h => by simp [okD] at h
  | n + 1, .tup ds, h => by
    have h : ds.all (okD n) = true := by simpa [okD] using h
    have key : ∀ es : List Dat, es.all (okD n) = true → PyData.plainAll (toPys es) = true ∧ PyData.depthAll (toPys es) ≤ n := by
      intro es
      induction es with
      | nil => intro _; simp [toPys, PyData.plainAll, PyData.depthAll]
      | cons x xs ih =>
        intro h
        simp only [List.all_cons, Bool.and_eq_true] at h
        obtain ⟨p1, p2⟩ := okD_plain n x h.1
        obtain ⟨q1, q2⟩ := ih h.2
        simp only [toPys, PyData.plainAll, PyData.depthAll, p1, q1]
        exact ⟨rfl, Nat.max_le.mpr ⟨p2, q2⟩⟩
    obtain ⟨a, b⟩ := key ds h
    simp only [toPy, PyData.plain, PyData.depth]
    exact ⟨a, Nat.succ_le_succ b⟩
  | n + 1, .lst ds, h => by
    have h : ds.all (okD n) = true := by simpa [okD] using h
    have key : ∀ es : List Dat, es.all (okD n) = true → PyData.plainAll (toPys es) = true ∧ PyData.depthAll (toPys es) ≤ n := by
      intro es
      induction es with
      | nil => intro _; simp [toPys, PyData.plainAll, PyData.depthAll]
      | cons x xs ih =>
        intro h
        simp only [List.all_cons, Bool.and_eq_true] at h
        obtain ⟨p1, p2⟩ := okD_plain n x h.1
        obtain ⟨q1, q2⟩ := ih h.2
        simp only [toPys, PyData.plainAll, PyData.depthAll, p1, q1]
        exact ⟨rfl, Nat.max_le.mpr ⟨p2, q2⟩⟩
    obtain ⟨a, b⟩ := key ds h
    simp only [toPy, PyData.plain, PyData.depth]
    exact ⟨a, Nat.succ_le_succ b⟩
  | n, .dK _, h => by simp [okD] at h
  | n, .dT _, h => by simp [okD] at h
  | n, .scr _, h => by simp [okD] at h
  | n, .bag, h => by simp [okD] at h
  | n, .ty _, h => by simp [okD] at h
theorem okD_mem {n : Nat} {ds : List Dat} (h : ds.all (okD n) = true) : ∀ d ∈ ds, okD n d = true := List.all_eq_true.mp h
mutual
theorem eqvD_py : ∀ (n : Nat) (d : Dat) (m : Nat) (e : Dat), okD n d = true → okD m e = true → PyData.eqv (toPy d) (toPy e) = eqvD d e
  | n, .tup xs, m, e, h, k => by
    cases e with
    | tup ys =>
      cases n with
      | zero => simp [okD] at h
      | succ n =>
        cases m with
        | zero => simp [okD] at k
        | succ m => simp only [toPy, PyData.eqv, eqvD]; exact eqvDs_py n xs m ys (by simpa [okD] using h) (by simpa [okD] using k)
    | dK _ => simp [okD] at k
    | dT _ => simp [okD] at k
    | scr _ => simp [okD] at k
    | bag => simp [okD] at k
    | ty _ => simp [okD] at k
    | _ => simp [toPy, PyData.eqv, eqvD]
  | n, .lst xs, m, e, h, k => by
    cases e with
    | lst ys =>
      cases n with
      | zero => simp [okD] at h
      | succ n =>
        cases m with
        | zero => simp [okD] at k
        | succ m => simp only [toPy, PyData.eqv, eqvD]; exact eqvDs_py n xs m ys (by simpa [okD] using h) (by simpa [okD] using k)
    | dK _ => simp [okD] at k
    | dT _ => simp [okD] at k
    | scr _ => simp [okD] at k
    | bag => simp [okD] at k
    | ty _ => simp [okD] at k
    | _ => simp [toPy, PyData.eqv, eqvD]
  | n, .non, m, e, h, k => by
    cases e <;> first | (simp [okD] at k; done) | simp [toPy, PyData.eqv, eqvD]
  | n, .bl _, m, e, h, k => by
    cases e <;> first | (simp [okD] at k; done) | simp [toPy, PyData.eqv, eqvD]
  | n, .int _, m, e, h, k => by
    cases e <;> first | (simp [okD] at k; done) | simp [toPy, PyData.eqv, eqvD]
  | n, .str _, m, e, h, k => by
    cases e <;> first | (simp [okD] at k; done) | simp [toPy, PyData.eqv, eqvD]
  | n, .dK _, m, e, h, k => by simp [okD] at h
  | n, .dT _, m, e, h, k => by simp [okD] at h
  | n, .scr _, m, e, h, k => by simp [okD] at h
  | n, .bag, m, e, h, k => by simp [okD] at h
  | n, .ty _, m, e, h, k => by simp [okD] at h
theorem eqvDs_py : ∀ (n : Nat) (ds : List Dat) (m : Nat) (es : List Dat), ds.all (okD n) = true → es.all (okD m) = true → PyData.eqvAll (toPys ds) (toPys es) = eqvDs ds es
  | n, [], m, [], _, _ => by simp [toPys, PyData.eqvAll, eqvDs]
  | n, [], m, _ :: _, _, _ => by simp [toPys, PyData.eqvAll, eqvDs]
  | n, _ :: _, m, [], _, _ => by simp [toPys, PyData.eqvAll, eqvDs]
  | n, x :: xs, m, y :: ys, h, k => by
    simp only [List.all_cons, Bool.and_eq_true] at h k
    simp only [toPys, PyData.eqvAll, eqvDs]
    rw [eqvD_py n x m y h.1 k.1, eqvDs_py n xs m ys h.2 k.2]
end
mutual
theorem Rep.dp {K : PySem.W.Frag} {W : Wd} {H : Hp} (sub : ∀ a o, W.g a = some o → Stl H a o) : ∀ (n : Nat) {v : V} {d : Dat}, Rep K W v d → okD n d = true → Dp K H v (toPy d)
  | _, _, _, .non, _ => by simp only [toPy]; exact .non
  | _, _, _, .bl, _ => by simp only [toPy]; exact .bl _
  | _, _, _, .int, _ => by simp only [toPy]; exact .int _
  | _, _, _, .str, _ => by simp only [toPy]; exact .str _
  | 0, _, _, .tup _ _, h => by simp [okD] at h
  | n + 1, _, _, .tup h1 r, h => by
    simp only [toPy]
    exact .tup (SqT.std sub h1) (RepAll.dp sub n r (by simpa [okD] using h))
  | 0, _, _, .lst _ _, h => by simp [okD] at h
  | n + 1, _, _, .lst h1 r, h => by
    simp only [toPy]
    exact .lst (SqL.of (sub _ _ h1).lst) (RepAll.dp sub n r (by simpa [okD] using h))
  | _, _, _, .dK _ _, h => by simp [okD] at h
  | _, _, _, .scr _, h => by simp [okD] at h
  | _, _, _, .bag _, h => by simp [okD] at h
  | _, _, _, .ty, h => by simp [okD] at h
theorem RepAll.dp {K : PySem.W.Frag} {W : Wd} {H : Hp} (sub : ∀ a o, W.g a = some o → Stl H a o) : ∀ (n : Nat) {vs : List V} {ds : List Dat}, RepAll K W vs ds → ds.all (okD n) = true → DpAll K H vs (toPys ds)
  | _, _, _, .nil, _ => by simp only [toPys]; exact .nil
  | n, _, _, .cons h1 r, h => by
    simp only [List.all_cons, Bool.and_eq_true] at h
    simp only [toPys]
    exact .cons (Rep.dp sub n h1 h.1) (RepAll.dp sub n r h.2)
end
end
end DL
set_option Elab.async false
set_option linter.all false
set_option maxRecDepth 100000
namespace DL
open PySem PySem.Spec PyProof.Rows L2

section
variable {X : Cx}
/-! ### == and in -/
theorem DGetR {H : Hp} {a : Addr} {kvs : List (Key × V)} {k : Key} (e : Rd H a (.dK kvs)) : DGet H a (kV k) (valV kvs k) := .inl ⟨kvs, k, e, rfl, rfl⟩
theorem RepB.dp {G : Gh} {W : Wd} {H : Hp} {v : V} {n : Nat} {d : Dat} (h : HpOk G W H) (r : RepB G W H v d) (o : okD n d = true) : Dp G.K H v (toPy d) := by
  rcases r with r | ⟨a, ob, rfl, e, r⟩
  · exact Rep.dp h.sub n r o
  · cases r with
    | lst r =>
      cases n with
      | zero => simp [okD] at o
      | succ n =>
        simp only [toPy]
        exact .lst (SqL.of e) (RepAll.dp h.sub n r (by simpa [okD] using o))
    | dK r => simp [okD] at o
def rEqP (K : PySem.W.Frag) : R2 := fun x y H Q => ∃ d e, Dp K H x d ∧ Dp K H y e ∧ d.plain = true ∧ e.plain = true ∧ d.depth ≤ 32 ∧ Q (.bl (PyData.eqv d e)) H
def rNeP (K : PySem.W.Frag) : R2 := fun x y H Q => ∃ d e, Dp K H x d ∧ Dp K H y e ∧ d.plain = true ∧ e.plain = true ∧ d.depth ≤ 32 ∧ Q (.bl (!PyData.eqv d e)) H
theorem op_eqP (hu : X.A.units + 64 < cLine) : OpR X (compareOp .Eq) (rEqP X.K) := by
  intro pins s σ H x y v u Q I rx ry h
  obtain ⟨d, e, hd, he, sd, se, dp, q⟩ := h
  obtain ⟨as, r1⟩ := Dp.reads I d x v hd rx
  obtain ⟨bs, r2⟩ := Dp.reads I e y u he ry
  exact SeqAt.eq_plain r1 r2 sd se (by omega) ⟨.bl _, H, I, rfl, q⟩
theorem op_neP (hu : X.A.units + 64 < cLine) : OpR X (compareOp .NotEq) (rNeP X.K) := by
  intro pins s σ H x y v u Q I rx ry h
  obtain ⟨d, e, hd, he, sd, se, dp, q⟩ := h
  obtain ⟨as, r1⟩ := Dp.reads I d x v hd rx
  obtain ⟨bs, r2⟩ := Dp.reads I e y u he ry
  exact SeqAt.ne_plain r1 r2 sd se (by omega) ⟨.bl _, H, I, rfl, q⟩
@[simp] def gEq : Dat → Dat → (DV → Prop) → Prop := fun d e P => okD 32 d = true ∧ okD 32 e = true ∧ P (.fz (.bl (eqvD d e)))
@[simp] def gNe : Dat → Dat → (DV → Prop) → Prop := fun d e P => okD 32 d = true ∧ okD 32 e = true ∧ P (.fz (.bl (!eqvD d e)))
theorem gEq_mono : MonoG2 gEq := fun d e P P' h q => ⟨q.1, q.2.1, h _ q.2.2⟩
theorem gNe_mono : MonoG2 gNe := fun d e P P' h q => ⟨q.1, q.2.1, h _ q.2.2⟩
theorem does_eq : Does2 X gEq (rEqP X.K) := by
  intro G hK W δ σ H x y d e P Q s rx ry ⟨o1, o2, hg⟩ hz
  rw [← hK]
  exact ⟨toPy d, toPy e, rx.dp s.h o1, ry.dp s.h o2, (okD_plain _ d o1).1, (okD_plain _ e o2).1, (okD_plain _ d o1).2, by
    rw [eqvD_py _ d _ e o1 o2]; exact hz _ W _ H hg (Ext.refl W) s .bl⟩
theorem does_ne : Does2 X gNe (rNeP X.K) := by
  intro G hK W δ σ H x y d e P Q s rx ry ⟨o1, o2, hg⟩ hz
  rw [← hK]
  exact ⟨toPy d, toPy e, rx.dp s.h o1, ry.dp s.h o2, (okD_plain _ d o1).1, (okD_plain _ e o2).1, (okD_plain _ d o1).2, by
    rw [eqvD_py _ d _ e o1 o2]; exact hz _ W _ H hg (Ext.refl W) s .bl⟩
@[simp] def gIsN : Dat → Dat → (DV → Prop) → Prop
  | .non, .non, P => P (.fz (.bl true))
  | .tup _, .non, P => P (.fz (.bl false))
  | .lst _, .non, P => P (.fz (.bl false))
  | .int _, .non, P => P (.fz (.bl false))
  | .bl _, .non, P => P (.fz (.bl false))
  | .str _, .non, P => P (.fz (.bl false))
  | .dK _, .non, P => P (.fz (.bl false))
  | _, _, _ => False
@[simp] def gNotN : Dat → Dat → (DV → Prop) → Prop := fun d e P => gIsN d e fun r => match r with
  | .fz (.bl b) => P (.fz (.bl (!b)))
  | _ => False
theorem gIsN_mono : MonoG2 gIsN := fun d e P P' h q => by
  cases e <;> first | (cases d <;> first | exact q.elim | exact h _ q) | (cases d <;> exact q.elim)
theorem gNotN_mono : MonoG2 gNotN := fun d e P P' h q => gIsN_mono d e _ _ (fun r x => by
  cases r with
  | fz r => cases r <;> first | exact x.elim | exact h _ x
  | _ => exact x.elim) q
theorem RepB.isN {G : Gh} {W : Wd} {H : Hp} {v : V} {d : Dat} (r : RepB G W H v d) {P : DV → Prop} (h : gIsN d .non P) : P (.fz (.bl (decide (v = .non)))) := by
  rcases r with r | ⟨a, o, rfl, _, r⟩
  · cases r <;> first | exact h.elim | exact h
  · cases r <;> first | exact h.elim | exact h
theorem does_isN : Does2 X gIsN (fun x y H Q => y = .non ∧ Q (.bl (decide (x = .non))) H) := by
  intro G hK W δ σ H x y d e P Q s rx ry hg hz
  cases e with
  | non =>
    refine ⟨?_, hz _ W _ H (rx.isN hg) (Ext.refl W) s .bl⟩
    rcases ry with r | ⟨a, o, _, _, r⟩
    · cases r; rfl
    · cases r
  | _ => cases d <;> exact hg.elim
theorem does_notN : Does2 X gNotN (fun x y H Q => y = .non ∧ Q (.bl (!decide (x = .non))) H) := by
  intro G hK W δ σ H x y d e P Q s rx ry hg hz
  cases e with
  | non =>
    have hg := rx.isN hg
    refine ⟨?_, hz _ W _ H hg (Ext.refl W) s .bl⟩
    rcases ry with r | ⟨a, o, _, _, r⟩
    · cases r; rfl
    · cases r
  | _ => cases d <;> exact hg.elim

/-! ### a[b] -/
@[simp] def keyD : Dat → Option Key
  | .int i => some (.inl i)
  | .str x => some (.inr x)
  | _ => none
def valD (kvs : List (Key × Dat)) (k : Key) : Option Dat := (kvs.find? fun kv => decide (kv.1 = k)).map (·.2)
def putD (kvs : List (Key × Dat)) (k : Key) (v : Dat) : List (Key × Dat) := if (kvs.any fun kv => decide (kv.1 = k)) = true then kvs.map fun kv => if kv.1 = k then (kv.1, v) else kv else kvs ++ [(k, v)]
theorem RepKV.val {K : PySem.W.Frag} {W : Wd} {k : Key} : ∀ {kvs : List (Key × V)} {kds : List (Key × Dat)}, RepKV K W kvs kds →
    match valD kds k with
    | some d => ∃ v, valV kvs k = some v ∧ Rep K W v d
    | none => valV kvs k = none
  | _, _, .nil => by simp [valD, valV]
  | _, _, .cons (k := j) (v := v) (d := d) (vs := vs) (ds := ds) h r => by
    have ih := RepKV.val (k := k) r
    by_cases e : j = k
    · subst e
      simp only [valD, valV, List.find?_cons, decide_true, Option.map_some]
      exact ⟨v, rfl, h⟩
    · have e1 : valD ((j, d) :: ds) k = valD ds k := by simp [valD, List.find?_cons, e]
      have e2 : valV ((j, v) :: vs) k = valV vs k := by simp [valV, List.find?_cons, e]
      rw [e1, e2]; exact ih
theorem RepKV.length {K : PySem.W.Frag} {W : Wd} : ∀ {kvs : List (Key × V)} {kds : List (Key × Dat)}, RepKV K W kvs kds → kvs.length = kds.length
  | _, _, .nil => rfl
  | _, _, .cons _ r => by simp [RepKV.length r]
theorem RepKV.any {K : PySem.W.Frag} {W : Wd} {k : Key} : ∀ {kvs : List (Key × V)} {kds : List (Key × Dat)}, RepKV K W kvs kds → (kvs.any fun kv => decide (kv.1 = k)) = kds.any fun kv => decide (kv.1 = k)
  | _, _, .nil => rfl
  | _, _, .cons _ r => by simp [RepKV.any (k := k) r]
theorem RepKV.repl {K : PySem.W.Frag} {W : Wd} {k : Key} {v : V} {d : Dat} (h : Rep K W v d) : ∀ {kvs : List (Key × V)} {kds : List (Key × Dat)}, RepKV K W kvs kds →
    RepKV K W (kvs.map fun kv => if kv.1 = k then (kv.1, v) else kv) (kds.map fun kv => if kv.1 = k then (kv.1, d) else kv)
  | _, _, .nil => .nil
  | _, _, .cons (k := j) g r => by
    have ih := RepKV.repl (k := k) h r
    by_cases e : j = k
    · simp only [List.map_cons, e, if_true]; exact .cons h ih
    · simp only [List.map_cons, e, if_false]; exact .cons g ih
theorem RepKV.snoc {K : PySem.W.Frag} {W : Wd} {k : Key} {v : V} {d : Dat} (h : Rep K W v d) : ∀ {kvs : List (Key × V)} {kds : List (Key × Dat)}, RepKV K W kvs kds → RepKV K W (kvs ++ [(k, v)]) (kds ++ [(k, d)])
  | _, _, .nil => .cons h .nil
  | _, _, .cons g r => .cons g (RepKV.snoc h r)
theorem RepKV.put {K : PySem.W.Frag} {W : Wd} {k : Key} {v : V} {d : Dat} (h : Rep K W v d) {kvs : List (Key × V)} {kds : List (Key × Dat)} (r : RepKV K W kvs kds) : RepKV K W (putK kvs k v) (putD kds k d) := by
  unfold putK putD
  rw [r.any]
  split
  · exact r.repl h
  · exact r.snoc h
theorem atI_rep {K : PySem.W.Frag} {W : Wd} {vs : List V} {ds : List Dat} {k : Int} {d : Dat} (r : RepAll K W vs ds) (h : atI ds k = some d) : ∃ v, atI vs k = some v ∧ Rep K W v d := by
  unfold atI at h ⊢
  rw [r.length]
  cases e : ixN ds.length k with
  | none => rw [e] at h; cases h
  | some j =>
    rw [e] at h
    exact r.get h
@[simp] def gIx : Dat → Dat → (DV → Prop) → Prop
  | .tup ds, .int k, P => ∃ d, atI ds k = some d ∧ P (.fz d)
  | .lst ds, .int k, P => ∃ d, atI ds k = some d ∧ P (.fz d)
  | .scr ns, .int k, P => ∃ n, atI ns k = some n ∧ P (.fz (.int n))
  | .bag, .int k, P => (0 ≤ k ∧ k < 3) ∧ ∀ n, P (.fz (.int n))
  | .dK kvs, .int k, P => ∃ d, valD kvs (.inl k) = some d ∧ P (.fz d)
  | .dK kvs, .str k, P => ∃ d, valD kvs (.inr k) = some d ∧ P (.fz d)
  | .str x, .int k, P => x.length ≤ 1000000 ∧ ∃ c, atI x.cps.toList k = some c ∧ P (.fz (.str ⟨#[c]⟩))
  | _, _, _ => False
theorem gIx_mono : MonoG2 gIx := fun d e P P' h q => by
  cases d <;> cases e <;> first
    | exact q.elim
    | (obtain ⟨x, e1, q⟩ := q; exact ⟨x, e1, h _ q⟩)
    | exact ⟨q.1, fun n => h _ (q.2 n)⟩
    | (obtain ⟨z, x, e1, q⟩ := q; exact ⟨z, x, e1, h _ q⟩)
theorem ix_dict (hu : X.A.units + 1 < cLine) : IxR X (fun x y H Q => ∃ a v, x = .ref a ∧ DGet H a y (some v) ∧ Q v H) := by
  intro value slice pins s σ H x y v u Q I rx ry h hs
  obtain ⟨a, w, rfl, g, q⟩ := h
  obtain rfl : v = Value.ref a := rx
  have hT := dict_typeIs I g
  unfold subscriptTail
  refine wpAny_bind ?_
  rw [getitemInPython_of_ne hT.not_modules]
  refine wpAny_bind (wpAny_specialOf hT PySem.F.slot_dict_getitem.lookup ?_)
  have fin : wpAny (model X.prog X.w) X.A (subscripted slice false (.ref a) u) (fun r s₃ => wpAny (model X.prog X.w) X.A (letTemporaryGo value (.ref a) r >>= fun _ => pure r) (EP X pins σ Q) X.xe s₃) X.xe s := by
    rw [hs]
    exact wpAny_operating (d_getItem hu I g ry fun w' s' I' rw' => wpAny_bind (wpAny_letTemporaryGo (wpAny_pure ⟨w, H, I', rw', q⟩)))
  first
    | exact wpAny_pure (wpAny_bind fin)
    | exact wpAny_bind (wpAny_pure (wpAny_bind fin))
    | exact wpAny_bind fin
def rIxA (K : PySem.W.Frag) : R2 := fun x y H Q => rIx K x y H Q ∨ ∃ a v, x = .ref a ∧ DGet H a y (some v) ∧ Q v H
theorem ix_all (hu : X.A.units + 1 < cLine) : IxR X (rIxA X.K) := ix_seq.or (ix_dict hu)
theorem atI_ints {ns : List Int} {k n : Int} (h : atI ns k = some n) : atI (ns.map V.int) k = some (.int n) := by
  unfold atI at h ⊢
  rw [List.length_map]
  cases e : ixN ns.length k with
  | none => rw [e] at h; cases h
  | some j =>
    rw [e] at h
    have h : ns[j]? = some n := h
    show (ns.map V.int)[j]? = _
    rw [List.getElem?_map, h]; rfl
theorem does_ix : Does2 X gIx (rIxA X.K) := by
  intro G hK W δ σ H x y d e P Q s rx ry hg hz
  cases d with
  | tup ds =>
    cases e with
    | int k =>
      obtain ⟨a, vs, rfl, h1, k1, r1⟩ := rx.tup s.h
      rw [hK] at h1
      obtain ⟨d, e1, q⟩ := hg
      obtain ⟨v, e2, r⟩ := atI_rep r1 e1
      rw [ry.int]
      exact .inl (.inr (.inl ⟨a, vs, k, v, rfl, rfl, h1, e2, hz _ W v H q (Ext.refl W) s r⟩))
    | _ => exact hg.elim
  | lst ds =>
    cases e with
    | int k =>
      obtain ⟨a, vs, rfl, h1, r1⟩ := rx.lst s.h
      obtain ⟨d, e1, q⟩ := hg
      obtain ⟨v, e2, r⟩ := atI_rep r1 e1
      rw [ry.int]
      exact .inl (.inl ⟨a, vs, k, v, rfl, rfl, SqL.of h1, e2, hz _ W v H q (Ext.refl W) s r⟩)
    | _ => exact hg.elim
  | scr ns =>
    cases e with
    | int k =>
      obtain ⟨a, rfl, h1⟩ := rx.scr s.h
      rw [hK] at h1
      obtain ⟨n, e1, q⟩ := hg
      rw [ry.int]
      exact .inl (.inl ⟨a, _, k, .int n, rfl, rfl, h1, atI_ints e1, hz _ W _ H q (Ext.refl W) s .int⟩)
    | _ => exact hg.elim
  | bag =>
    cases e with
    | int k =>
      obtain ⟨a, rfl, hb, x, y', z, h1⟩ := rx.bag s.h
      obtain ⟨hk, q⟩ := hg
      rw [ry.int]
      have : ∃ n, atI [V.int x, V.int y', V.int z] k = some (.int n) := by
        have : k = 0 ∨ k = 1 ∨ k = 2 := by omega
        rcases this with e | e | e <;> subst e
        · exact ⟨x, rfl⟩
        · exact ⟨y', rfl⟩
        · exact ⟨z, rfl⟩
      obtain ⟨n, e1⟩ := this
      exact .inl (.inl ⟨a, _, k, .int n, rfl, rfl, SqL.of h1, e1, hz _ W _ H (q n) (Ext.refl W) s .int⟩)
    | _ => exact hg.elim
  | dK kvs =>
    cases e with
    | int k =>
      obtain ⟨a, vs, rfl, h1, r1⟩ := rx.dK s.h
      obtain ⟨d, e1, q⟩ := hg
      have h2 := r1.val (k := .inl k)
      rw [e1] at h2
      obtain ⟨v, e2, r⟩ := h2
      rw [ry.int]
      exact .inr ⟨a, v, rfl, by rw [← e2]; exact DGetR (k := .inl k) h1, hz _ W v H q (Ext.refl W) s r⟩
    | str k =>
      obtain ⟨a, vs, rfl, h1, r1⟩ := rx.dK s.h
      obtain ⟨d, e1, q⟩ := hg
      have h2 := r1.val (k := .inr k)
      rw [e1] at h2
      obtain ⟨v, e2, r⟩ := h2
      rw [ry.str]
      exact .inr ⟨a, v, rfl, by rw [← e2]; exact DGetR (k := .inr k) h1, hz _ W v H q (Ext.refl W) s r⟩
    | _ => exact hg.elim
  | str x =>
    cases e with
    | int k =>
      obtain ⟨z, c, e1, q⟩ := hg
      rw [rx.str, ry.int]
      exact .inl (.inr (.inr ⟨x, k, c, rfl, rfl, mil z, e1, hz _ W _ H q (Ext.refl W) s .str⟩))
    | _ => exact hg.elim
  | _ => cases e <;> exact hg.elim

/-! ### built-ins -/
@[simp] def gLen : List Dat → (DV → Prop) → Prop
  | [.tup ds], P => P (.fz (.int ds.length))
  | [.lst ds], P => P (.fz (.int ds.length))
  | [.scr ds], P => P (.fz (.int ds.length))
  | [.str x], P => x.length ≤ 1000000 ∧ P (.fz (.int x.length))
  | [.dK ds], P => P (.fz (.int ds.length))
  | _, _ => False
theorem gLen_mono : MonoGL gLen := fun d P P' h q => by
  match d, q with
  | [.tup ds], q => exact h _ q
  | [.lst ds], q => exact h _ q
  | [.scr ds], q => exact h _ q
  | [.str ds], q => exact ⟨q.1, h _ q.2⟩
  | [.dK ds], q => exact h _ q
theorem RepBs.one {G : Gh} {W : Wd} {H : Hp} {xs : List V} {d : Dat} (r : RepBs G W H xs [d]) : ∃ v, xs = [v] ∧ RepB G W H v d := by
  cases r with
  | cons h t => cases t; exact ⟨_, rfl, h⟩
theorem RepBs.two {G : Gh} {W : Wd} {H : Hp} {xs : List V} {d e : Dat} (r : RepBs G W H xs [d, e]) : ∃ v u, xs = [v, u] ∧ RepB G W H v d ∧ RepB G W H u e := by
  cases r with
  | cons h t =>
    cases t with
    | cons h2 t => cases t; exact ⟨_, _, rfl, h, h2⟩
def rLenA (K : PySem.W.Frag) : List V → Hp → VK → Prop := fun xs H Q => (∃ x n, xs = [x] ∧ LenV K x H n ∧ Q (.int n) H) ∨ ∃ a kvs, xs = [.ref a] ∧ Rd H a (.dK kvs) ∧ Q (.int kvs.length) H
theorem cr_lenA : CallR X (.builtin "len") (rLenA X.K) := call_len.or (by
  intro pins s σ H xs us Q I r h
  obtain ⟨a, kvs, rfl, e, q⟩ := h
  cases r.ref1
  exact d_len I e fun t s' I' => ⟨.int _, H, I', ⟨_, rfl⟩, q⟩)
theorem does_len : DoesL X gLen (rLenA X.K) := by
  intro G hK W δ σ H xs ds P Q s rr hg hz
  match ds, hg with
  | [.tup ds], q =>
    obtain ⟨v, rfl, r⟩ := rr.one
    obtain ⟨a, vs, rfl, h1, k1, r1⟩ := r.tup s.h
    rw [hK] at h1
    have q : P (.fz (.int ds.length)) := q
    exact .inl ⟨_, ds.length, rfl, .inr ⟨vs, h1, r1.length.symm⟩, hz _ W _ H q (Ext.refl W) s .int⟩
  | [.lst ds], q =>
    obtain ⟨v, rfl, r⟩ := rr.one
    obtain ⟨a, vs, rfl, h1, r1⟩ := r.lst s.h
    exact .inl ⟨_, ds.length, rfl, .inl ⟨vs, SqL.of h1, r1.length.symm⟩, hz _ W _ H q (Ext.refl W) s .int⟩
  | [.scr ds], q =>
    obtain ⟨v, rfl, r⟩ := rr.one
    obtain ⟨a, rfl, h1⟩ := r.scr s.h
    rw [hK] at h1
    exact .inl ⟨_, ds.length, rfl, .inl ⟨_, h1, by simp⟩, hz _ W _ H q (Ext.refl W) s .int⟩
  | [.str x], q =>
    obtain ⟨v, rfl, r⟩ := rr.one
    rw [r.str]
    exact .inl ⟨_, x.length, rfl, ⟨mil q.1, rfl⟩, hz _ W _ H q.2 (Ext.refl W) s .int⟩
  | [.dK ds], q =>
    obtain ⟨v, rfl, r⟩ := rr.one
    obtain ⟨a, vs, rfl, h1, r1⟩ := r.dK s.h
    have q : P (.fz (.int ds.length)) := q
    rw [← r1.length] at q
    exact .inr ⟨a, vs, rfl, h1, hz _ W _ H q (Ext.refl W) s .int⟩
/-! one int; two ints -/
@[simp] def gI1 (f : Int → Int) : List Dat → (DV → Prop) → Prop
  | [.int i], P => P (.fz (.int (f i)))
  | _, _ => False
theorem gI1_mono {f : Int → Int} : MonoGL (gI1 f) := fun d P P' h q => by
  match d, q with
  | [.int i], q => exact h _ q
theorem does_I1 {f : Int → Int} : DoesL X (gI1 f) (fun xs H Q => ∃ i, xs = [.int i] ∧ Q (.int (f i)) H) := by
  intro G hK W δ σ H xs ds P Q s rr hg hz
  match ds, hg with
  | [.int i], q =>
    obtain ⟨v, rfl, r⟩ := rr.one
    rw [r.int]
    exact ⟨i, rfl, hz _ W _ H q (Ext.refl W) s .int⟩
def pyAbs (i : Int) : Int := if i < 0 then -i else i
theorem pyAbs_eq (i : Int) : pyAbs i = (i.natAbs : Int) := by unfold pyAbs; split <;> omega
abbrev gAbs := gI1 pyAbs
theorem does_abs : DoesL X gAbs (fun xs H Q => ∃ i, xs = [.int i] ∧ Q (.int (if i < 0 then -i else i)) H) := does_I1
@[simp] def gI2 (f : Int → Int → Int) : List Dat → (DV → Prop) → Prop
  | [.int i, .int j], P => P (.fz (.int (f i j)))
  | _, _ => False
theorem gI2_mono {f : Int → Int → Int} : MonoGL (gI2 f) := fun d P P' h q => by
  match d, q with
  | [.int i, .int j], q => exact h _ q
theorem does_I2 {f : Int → Int → Int} : DoesL X (gI2 f) (fun xs H Q => ∃ i j, xs = [.int i, .int j] ∧ Q (.int (f i j)) H) := by
  intro G hK W δ σ H xs ds P Q s rr hg hz
  match ds, hg with
  | [.int i, .int j], q =>
    obtain ⟨v, u, rfl, r, r'⟩ := rr.two
    rw [r.int, r'.int]
    exact ⟨i, j, rfl, hz _ W _ H q (Ext.refl W) s .int⟩
def pyGcd (i j : Int) : Int := ((Nat.gcd i.natAbs j.natAbs : Nat) : Int)
abbrev gGcd := gI2 pyGcd
def pyMax (i j : Int) : Int := if j > i then j else i
def pyMin (i j : Int) : Int := if j < i then j else i
/-- max, min: of two ints, of a list of ints -/
@[simp] def gMax : List Dat → (DV → Prop) → Prop
  | [.int i, .int j], P => P (.fz (.int (pyMax i j)))
  | [.lst ds], P => ∃ ns : List Int, ds = ns.map Dat.int ∧ 0 < ns.length ∧ ∀ m, m ∈ ns → (∀ y, y ∈ ns → y ≤ m) → P (.fz (.int m))
  | _, _ => False
@[simp] def gMin : List Dat → (DV → Prop) → Prop
  | [.int i, .int j], P => P (.fz (.int (pyMin i j)))
  | [.lst ds], P => ∃ ns : List Int, ds = ns.map Dat.int ∧ 0 < ns.length ∧ ∀ m, m ∈ ns → (∀ y, y ∈ ns → m ≤ y) → P (.fz (.int m))
  | _, _ => False
theorem gMax_mono : MonoGL gMax := fun d P P' h q => by
  match d, q with
  | [.int i, .int j], q => exact h _ q
  | [.lst ds], ⟨ns, e, z, q⟩ => exact ⟨ns, e, z, fun m h1 h2 => h _ (q m h1 h2)⟩
theorem gMin_mono : MonoGL gMin := fun d P P' h q => by
  match d, q with
  | [.int i, .int j], q => exact h _ q
  | [.lst ds], ⟨ns, e, z, q⟩ => exact ⟨ns, e, z, fun m h1 h2 => h _ (q m h1 h2)⟩
def rMaxA (K : PySem.W.Frag) : List V → Hp → VK → Prop := fun xs H Q => (∃ i j, xs = [.int i, .int j] ∧ Q (.int (if j > i then j else i)) H) ∨ rMax K xs H Q
def rMinA (K : PySem.W.Frag) : List V → Hp → VK → Prop := fun xs H Q => (∃ i j, xs = [.int i, .int j] ∧ Q (.int (if j < i then j else i)) H) ∨ rMin K xs H Q
theorem cr_maxA (hc : X.calm = true) : CallR X (.builtin "max") (rMaxA X.K) := (call_max2 hc).or (cr_max hc)
theorem cr_minA (hc : X.calm = true) : CallR X (.builtin "min") (rMinA X.K) := (call_min2 hc).or (cr_min hc)
theorem does_max : DoesL X gMax (rMaxA X.K) := by
  intro G hK W δ σ H xs ds P Q s rr hg hz
  match ds, hg with
  | [.int i, .int j], q =>
    obtain ⟨v, u, rfl, r, r'⟩ := rr.two
    rw [r.int, r'.int]
    exact .inl ⟨i, j, rfl, hz _ W _ H q (Ext.refl W) s .int⟩
  | [.lst ds], ⟨ns, e, z, q⟩ =>
    obtain ⟨v, rfl, r⟩ := rr.one
    obtain ⟨a, vs, rfl, h1, r1⟩ := r.lst s.h
    subst e
    rw [r1.ints] at h1
    exact .inr ⟨a, ns, rfl, SqL.of h1, z, fun m h2 h3 => hz _ W _ H (q m h2 h3) (Ext.refl W) s .int⟩
theorem does_min : DoesL X gMin (rMinA X.K) := by
  intro G hK W δ σ H xs ds P Q s rr hg hz
  match ds, hg with
  | [.int i, .int j], q =>
    obtain ⟨v, u, rfl, r, r'⟩ := rr.two
    rw [r.int, r'.int]
    exact .inl ⟨i, j, rfl, hz _ W _ H q (Ext.refl W) s .int⟩
  | [.lst ds], ⟨ns, e, z, q⟩ =>
    obtain ⟨v, rfl, r⟩ := rr.one
    obtain ⟨a, vs, rfl, h1, r1⟩ := r.lst s.h
    subst e
    rw [r1.ints] at h1
    exact .inr ⟨a, ns, rfl, SqL.of h1, z, fun m h2 h3 => hz _ W _ H (q m h2 h3) (Ext.refl W) s .int⟩
@[simp] def gInt : List Dat → (DV → Prop) → Prop
  | [.int i], P => P (.fz (.int i))
  | [.bl k], P => P (.fz (.int (if k then 1 else 0)))
  | _, _ => False
theorem gInt_mono : MonoGL gInt := fun d P P' h q => by
  match d, q with
  | [.int i], q => exact h _ q
  | [.bl i], q => exact h _ q
theorem does_int : DoesL X gInt (fun xs H Q => (∃ i, xs = [.int i] ∧ Q (.int i) H) ∨ ∃ k, xs = [.bl k] ∧ Q (.int (if k then 1 else 0)) H) := by
  intro G hK W δ σ H xs ds P Q s rr hg hz
  match ds, hg with
  | [.int i], q =>
    obtain ⟨v, rfl, r⟩ := rr.one
    rw [r.int]
    exact .inl ⟨i, rfl, hz _ W _ H q (Ext.refl W) s .int⟩
  | [.bl i], q =>
    obtain ⟨v, rfl, r⟩ := rr.one
    rw [r.bl]
    exact .inr ⟨i, rfl, hz _ W _ H q (Ext.refl W) s .int⟩
@[simp] def gSum : List Dat → (DV → Prop) → Prop
  | [.lst ds], P => ∃ ns : List Int, ds = ns.map Dat.int ∧ P (.fz (.int ns.sum))
  | _, _ => False
theorem gSum_mono : MonoGL gSum := fun d P P' h q => by
  match d, q with
  | [.lst ds], ⟨ns, e, q⟩ => exact ⟨ns, e, h _ q⟩
theorem does_sum : DoesL X gSum (rSum X.K) := by
  intro G hK W δ σ H xs ds P Q s rr hg hz
  match ds, hg with
  | [.lst ds], ⟨ns, e, q⟩ =>
    obtain ⟨v, rfl, r⟩ := rr.one
    obtain ⟨a, vs, rfl, h1, r1⟩ := r.lst s.h
    subst e
    rw [r1.ints] at h1
    exact ⟨a, ns, rfl, SqL.of h1, hz _ W _ H q (Ext.refl W) s .int⟩
/-! repr of what has no parts -/
def reprD : Dat → Option Str
  | .non => some "None"
  | .bl b => some (if b then "True" else "False")
  | .int i => some (toString i)
  | .str x => some (reprText x)
  | _ => none
@[simp] def gRepr : List Dat → (DV → Prop) → Prop
  | [.non], P => P (.fz (.str "None"))
  | [.bl b], P => P (.fz (.str (if b then "True" else "False")))
  | [.int i], P => i.natAbs.log2 < 1920 ∧ P (.fz (.str (toString i)))
  | _, _ => False
theorem gRepr_mono : MonoGL gRepr := fun d P P' h q => by
  match d, q with
  | [.non], q => exact h _ q
  | [.bl b], q => exact h _ q
  | [.int i], q => exact ⟨q.1, h _ q.2⟩
def rRepr : List V → Hp → VK → Prop := fun xs H Q => (xs = [.non] ∧ Q (.str "None") H) ∨ (∃ b, xs = [.bl b] ∧ Q (.str (if b then "True" else "False")) H) ∨ ∃ i, xs = [.int i] ∧ i.natAbs.log2 < 1920 ∧ Q (.str (toString i)) H
theorem cr_repr : CallR X (.builtin "repr") rRepr := by
  intro pins s σ H xs us Q I r h
  rcases h with ⟨rfl, q⟩ | ⟨b, rfl, q⟩ | h
  · obtain ⟨u, rfl, rx⟩ := vals1 r
    cases (show u = Value.none from rx)
    exact PySem.P.repr_of_none ⟨.str _, H, I.tok _, ⟨_, rfl⟩, q⟩
  · obtain ⟨u, rfl, rx⟩ := vals1 r
    cases (show u = Value.bool b from rx)
    exact PySem.P.repr_of_bool ⟨.str _, H, I.tok _, ⟨_, rfl⟩, q⟩
  · exact SkE.call_repr_int pins s σ H xs us Q I r h
theorem does_repr : DoesL X gRepr rRepr := by
  intro G hK W δ σ H xs ds P Q s rr hg hz
  match ds, hg with
  | [.non], q =>
    obtain ⟨v, rfl, r⟩ := rr.one
    have : v = .non := by
      rcases r with r | ⟨a, o, _, _, r⟩ <;> cases r
      rfl
    subst this
    exact .inl ⟨rfl, hz _ W _ H q (Ext.refl W) s .str⟩
  | [.bl b], q =>
    obtain ⟨v, rfl, r⟩ := rr.one
    rw [r.bl]
    exact .inr (.inl ⟨b, rfl, hz _ W _ H q (Ext.refl W) s .str⟩)
  | [.int i], q =>
    obtain ⟨v, rfl, r⟩ := rr.one
    rw [r.int]
    exact .inr (.inr ⟨i, rfl, q.1, hz _ W _ H q.2 (Ext.refl W) s .str⟩)

/-! ### isinstance of built-in classes -/
/-- the name of a thing's type -/
@[simp] def tyNm : Dat → Option String
  | .non => some "NoneType"
  | .bl _ => some "bool"
  | .int _ => some "int"
  | .str _ => some "str"
  | .tup _ => some "tuple"
  | .lst _ => some "list"
  | .dK _ => some "dict"
  | _ => none
@[simp] def isiT (t n : String) : Option Bool :=
  if n = "int" then some (t = "int" || t = "bool") else if n = "bool" then some (t = "bool") else if n = "tuple" then some (t = "tuple") else if n = "dict" then some (t = "dict") else if n = "str" then some (t = "str") else if n = "list" then some (t = "list") else none
@[simp] def isiD (d : Dat) (n : String) : Option Bool := (tyNm d).bind fun t => isiT t n
@[simp] def gIsi : List Dat → (DV → Prop) → Prop
  | [d, .ty n], P => ∃ b, isiD d n = some b ∧ P (.fz (.bl b))
  | _, _ => False
theorem gIsi_mono : MonoGL gIsi := fun d P P' h q => by
  match d, q with
  | [d, .ty n], ⟨b, e, q⟩ => exact ⟨b, e, h _ q⟩
theorem SqT.ty {K : PySem.W.Frag} {H : Hp} {a : Addr} {vs : List V} (h : SqT K H a vs) : TyX K H (.ref a) (.type "tuple") := by
  rcases h with (h | ⟨o, h⟩) | ⟨o, its, n, h1, h2, _⟩
  · exact .base (.tup h)
  · exact .fTuple h
  · exact .kTuple h1 h2
theorem RepB.ty {G : Gh} {W : Wd} {H : Hp} {v : V} {d : Dat} {n : String} (h : HpOk G W H) (r : RepB G W H v d) (e : tyNm d = some n) : TyX G.K H v (.type n) := by
  cases d with
  | non => cases e; rcases r with r | ⟨a, o, _, _, r⟩ <;> cases r; exact .base .non
  | bl b => cases e; rw [r.bl]; exact .base (.bl b)
  | int b => cases e; rw [r.int]; exact .base (.int b)
  | str b => cases e; rw [r.str]; exact .base (.str b)
  | tup ds => cases e; obtain ⟨a, vs, rfl, h1, _⟩ := r.tup h; exact SqT.ty h1
  | lst ds => cases e; obtain ⟨a, vs, rfl, h1, _⟩ := r.lst h; exact .base (.lst h1)
  | dK ds => cases e; obtain ⟨a, vs, rfl, h1, _⟩ := r.dK h; rcases h1 with h1 | ⟨o, h1⟩ <;> first | exact .base (.dK h1) | exact .fDict h1
  | _ => cases e
theorem isi_kit {K : PySem.W.Frag} {d : Dat} {n : String} {b : Bool} (h : isiD d n = some b) : ∃ t, tyNm d = some t ∧ PySem.W.kitOne K (.type t) (.type n) = some b := by
  unfold isiD at h
  cases e : tyNm d with
  | none => rw [e] at h; cases h
  | some t =>
    rw [e] at h
    refine ⟨t, rfl, ?_⟩
    have h : isiT t n = some b := h
    have ht : t = "NoneType" ∨ t = "bool" ∨ t = "int" ∨ t = "str" ∨ t = "tuple" ∨ t = "list" ∨ t = "dict" := by
      cases d <;> simp [tyNm] at e <;> subst e <;> simp
    unfold isiT at h
    repeat' split at h
    all_goals first
      | (subst_vars
         rcases ht with rfl | rfl | rfl | rfl | rfl | rfl | rfl <;> cases h <;> exact kit_ty (by decide +kernel))
      | cases h
theorem RepB.tyV {G : Gh} {W : Wd} {H : Hp} {v : V} {n : String} (r : RepB G W H v (.ty n)) : v = .ty n := by
  rcases r with r | ⟨a, o, _, _, r⟩ <;> cases r
  rfl
theorem does_isi : DoesL X gIsi (rIsi X.K) := by
  intro G hK W δ σ H xs ds P Q s rr hg hz
  match ds, hg with
  | [d, .ty n], ⟨b, e, q⟩ =>
    obtain ⟨v, u, rfl, r, r'⟩ := rr.two
    rw [r'.tyV]
    obtain ⟨t, e1, e2⟩ := isi_kit (K := X.K) e
    rw [← hK] at e2 ⊢
    exact ⟨v, .ty n, .type t, .type n, b, rfl, .ty n, r.ty s.h e1, e2, hz _ W _ H q (Ext.refl W) s .bl⟩
end
/-- a built-in class as a value -/
theorem de_ty {X : Cx} {cn : Str → Value} {x : Str} {n : String} {pos : Pos} (hg : Gl X x) (hm : X.mg x = none) (hv : bootBuiltins x = some (.type n)) (hn : x ≠ "__name__" := by decide) (hdb : (x == ("__debug__" : Str)) = false := by decide) : DE X cn (.Name x pos) (wC (.ty n)) :=
  de_const (pe_bltn (v := .ty n) hg hm hv rfl hn hdb) fun _ _ => .ty
/-- a constant of the module -/
theorem de_glob {X : Cx} {cn : Str → Value} {x : Str} {d : Dat} {v : V} {u : Value} {pos : Pos} (hg : Gl X x) (hm : X.mg x = some u) (r : RelV v u) (hr : ∀ W, Rep X.K W v d) (hdb : (x == ("__debug__" : Str)) = false := by decide) : DE X cn (.Name x pos) (wC d) :=
  ⟨fun _ _ _ _ hq h => hq _ _ h, fun G gk ex tk => (pe_glob hg hm r hdb).imp fun σ H Q ⟨W, δ, s, h⟩ => h W v H (Ext.refl W) s (by rw [gk.K]; exact hr W)⟩
end DL
set_option Elab.async false
set_option linter.all false
set_option maxRecDepth 100000
namespace DL
open PySem PySem.Spec PyProof.Rows L2

section
variable {X : Cx} {cn : Str → Value} {pos : Pos} {e a b c : Expr} {es : List Expr} {st : Stmt} {sts : List Stmt}

/-! ### name = e -/
@[simp] def wAsg (i : Nat) (w : WV) : WS := fun ex D δ => w ex δ fun v δ' => v ≠ .un ∧ D.nx (δ'.set i v)
theorem StOk.setJ {G : Gh} {W : Wd} {δ : Dl} {σ : L2.St} {H : Hp} {v : V} {x : DV} (s : StOk G W δ σ H) (r : RepJ G W δ σ H v x) (i : Nat) : StOk G W (δ.set i x) (σ.set i (some v)) H := by
  cases x with
  | un => exact r.elim
  | fz d => exact s.setF r i
  | ow d =>
    obtain ⟨p, o, rfl, r, f⟩ := r
    exact s.setO f r i
theorem ds_asg {i : Nat} {x : Str} {w : WV} {pos' : Pos} (h : DJ X cn e w) (hN : X.N.Nodup) (hi : X.N[i]? = some x) (hx : Loc X.env.scope x) (hs : swapsWith e (some (.Name x pos')) pos.line X.env = pure false := by rfl) (hf : X.fn x = true ∨ X.env.scope.names.lookup x = some .local := by first | exact .inl rfl | exact .inr rfl | assumption) :
    DS X cn (.Assign [.Name x pos'] e pos) (wAsg i w) :=
  ⟨fun ex D D' δ hl q => h.mono ex δ _ _ (fun v δ' x => ⟨x.1, hl.nx _ x.2⟩) q, fun G gk ex tk => (ps_set hN hi hx (h.run G gk ex tk) hs hf).imp fun D σ H ⟨W, δ, s, q⟩ =>
    ⟨W, δ, s, h.mono ex δ _ _ (fun v δ' x W' u H' x' s' r' => x.2 W' _ H' x' (s'.setJ r' i)) q⟩⟩

/-! ### a list of values with their owners -/
def Gh.hold (G : Gh) (p : Addr) (o : HO) : Gh := { G with H0 := upd G.H0 p o }
theorem StOk.hold {G : Gh} {W : Wd} {δ : Dl} {σ : L2.St} {H : Hp} {p : Addr} {o : HO} (s : StOk G W δ σ H) (f : Free G W δ σ H p o) : StOk (G.hold p o) W δ σ H := by
  have w0 : G.W0.g p = none := by
    cases e : G.W0.g p with
    | none => rfl
    | some u => exact ((s.h.ext.g p u e).none f.g).elim
  refine ⟨⟨s.h.ext, fun a u e nb => ?_, s.h.sub, fun a e => ?_, fun a e hb => ?_, s.h.bags⟩, ⟨s.s.len, s.s.fz, fun i d e => ?_, s.s.ne⟩⟩
  · by_cases z : a = p
    · subst z
      have e : upd G.H0 a o a = some u := e
      rw [upd_same] at e; cases e; exact .inl f.at_
    · have e : upd G.H0 p o a = some u := e
      rw [upd_ne z] at e; exact s.h.keep a u e nb
  · by_cases z : a = p
    · subst z; rw [f.g]; exact .inl w0.symm
    · have e : (upd G.H0 p o a).isSome := e
      rw [upd_ne z] at e; exact s.h.old a e
  · by_cases z : a = p
    · subst z; exact absurd hb f.b
    · have e : (upd G.H0 p o a).isSome := e
      rw [upd_ne z] at e; exact s.h.oldb a e hb
  · obtain ⟨a, u, e1, e2, r, n1, n2, n3⟩ := s.s.ow i d e
    refine ⟨a, u, e1, e2, r, n1, n2, ?_⟩
    show upd G.H0 p o a = none
    rw [upd_ne (fun z => by subst z; exact f.ns i d e e1)]; exact n3
theorem HpOk.unhold {G : Gh} {W : Wd} {H : Hp} {p : Addr} {o : HO} (h0 : G.H0 p = none) (h : HpOk (G.hold p o) W H) : HpOk G W H := by
  have up : ∀ a u, G.H0 a = some u → upd G.H0 p o a = some u := fun a u e => by
    rw [upd_ne (fun z => by subst z; rw [h0] at e; cases e)]; exact e
  have up' : ∀ a, (G.H0 a).isSome → (upd G.H0 p o a).isSome := fun a e => by
    cases q : G.H0 a with
    | none => rw [q] at e; cases e
    | some u => rw [up a u q]; rfl
  exact ⟨h.ext, fun a u e nb => h.keep a u (up a u e) nb, h.sub, fun a e => h.old a (up' a e), fun a e => h.oldb a (up' a e), h.bags⟩
theorem StOk.unhold {G : Gh} {W W' : Wd} {δ δ' : Dl} {σ0 σ : L2.St} {H H' : Hp} {p : Addr} {o : HO} (f : Free G W δ σ0 H p o) (x : Ext W W') (w0 : G.W0.g p = none) (b0 : ¬ G.W0.bag p) (s : StOk (G.hold p o) W' δ' σ H') :
    StOk G W' δ' σ H' ∧ Free G W' δ' σ H' p o := by
  have hp : (G.hold p o).H0 p = some o := upd_same
  have hs : ((G.hold p o).H0 p).isSome := by rw [hp]; rfl
  refine ⟨⟨s.h.unhold f.h0, ⟨s.s.len, s.s.fz, fun i d e => ?_, s.s.ne⟩⟩, ⟨(s.h.keep p o hp b0).resolve_right (fun x => by have x1 : G.W0.g p = some o := x.1; rw [w0] at x1; cases x1), ?_, fun z => b0 (s.h.oldb p hs z), f.h0, fun i d e z => ?_⟩⟩
  · obtain ⟨a, u, e1, e2, r, n1, n2, n3⟩ := s.s.ow i d e
    refine ⟨a, u, e1, e2, r, n1, n2, ?_⟩
    have n3 : upd G.H0 p o a = none := n3
    by_cases z : a = p
    · subst z; exact f.h0
    · rw [upd_ne z] at n3; exact n3
  · exact (s.h.old p hs).elim (fun x => x.trans w0) (fun ⟨_, _, x1, _⟩ => by have x1 : G.W0.g p = _ := x1; rw [w0] at x1; cases x1)
  · obtain ⟨a, u, e1, e2, r, n1, n2, n3⟩ := s.s.ow i d e
    rw [z] at e1
    have e1 : p = a := by
      have := Option.some.inj (Option.some.inj e1)
      exact V.ref.inj this
    subst e1
    rw [hp] at n3; cases n3
theorem StOk.unhold1 {G : Gh} {W : Wd} {δ : Dl} {σ : L2.St} {H : Hp} {p : Addr} {o : HO} (h0 : G.H0 p = none) (s : StOk (G.hold p o) W δ σ H) : StOk G W δ σ H := by
  refine ⟨s.h.unhold h0, ⟨s.s.len, s.s.fz, fun i d e => ?_, s.s.ne⟩⟩
  obtain ⟨a, u, e1, e2, r, n1, n2, n3⟩ := s.s.ow i d e
  refine ⟨a, u, e1, e2, r, n1, n2, ?_⟩
  have n3 : upd G.H0 p o a = none := n3
  by_cases z : a = p
  · subst z; exact h0
  · rw [upd_ne z] at n3; exact n3
theorem TakesD.hold {G : Gh} {ex : XW} {p : Addr} {o : HO} (h0 : G.H0 p = none) (tk : TakesD X G ex) : TakesD X (G.hold p o) ex := by
  refine Takes.imp tk fun cls d σ H q => ?_
  obtain ⟨W, x, δ, h, r⟩ := q
  exact ⟨W, x, δ, h.unhold1 h0, r⟩
abbrev WAJ := XW → Dl → (List DV → Dl → Prop) → Prop
def MonoAJ (w : WAJ) : Prop := ∀ ex δ (Q Q' : List DV → Dl → Prop), (∀ d δ', Q d δ' → Q' d δ') → w ex δ Q → w ex δ Q'
inductive RepJs (G : Gh) (W : Wd) (δ : Dl) (σ : L2.St) (H : Hp) : List V → List DV → Prop
  | nil : RepJs G W δ σ H [] []
  | cons {v : V} {x : DV} {vs : List V} {xs : List DV} : RepJ G W δ σ H v x → (∀ d, x = .ow d → ∀ (j : Nat) (d' : Dat), xs[j]? = some (DV.ow d') → vs[j]? ≠ some v) → RepJs G W δ σ H vs xs → RepJs G W δ σ H (v :: vs) (x :: xs)
def PostAJ (G : Gh) (W : Wd) (σ : L2.St) (Q : List V → Hp → Prop) (ds : List DV) (δ : Dl) : Prop := ∀ W' vs H', Ext W W' → StOk G W' δ σ H' → RepJs G W' δ σ H' vs ds → Q vs H'
def rdAJ (G : Gh) (ex : XW) (w : WAJ) : TA := fun σ H Q => ∃ W δ, StOk G W δ σ H ∧ w ex δ (PostAJ G W σ Q)
structure DAJ (X : Cx) (cn : Str → Value) (es : List Expr) (w : WAJ) : Prop where
  mono : MonoAJ w
  run : ∀ (G : Gh), GOk X cn G → ∀ ex, TakesD X G ex → PA X es (rdAJ G ex w)
@[simp] def ajNil : WAJ := fun _ δ Q => Q [] δ
@[simp] def ajCons (w : WV) (wr : WAJ) : WAJ := fun ex δ Q => w ex δ fun v δ1 => wr ex δ1 fun vs δ2 => Q (v :: vs) δ2
theorem daj_nil : DAJ X cn [] ajNil := ⟨fun _ _ _ _ hq h => hq _ _ h, fun G gk ex tk => pa_nil.imp fun σ H Q ⟨W, δ, s, h⟩ => h W [] H (Ext.refl W) s .nil⟩
theorem RepJs.unhold {G : Gh} {W : Wd} {δ : Dl} {σ : L2.St} {H : Hp} {p : Addr} {o : HO} (h0 : G.H0 p = none) : ∀ {vs : List V} {xs : List DV}, RepJs (G.hold p o) W δ σ H vs xs →
    RepJs G W δ σ H vs xs ∧ ∀ (j : Nat) (d' : Dat), xs[j]? = some (DV.ow d') → vs[j]? ≠ some (V.ref p)
  | _, _, .nil => ⟨.nil, fun j d' e => by simp at e⟩
  | v :: vs, x :: xs, .cons r n t => by
    obtain ⟨t1, t2⟩ := RepJs.unhold h0 t
    have r' : RepJ G W δ σ H v x ∧ ∀ d, x = .ow d → v ≠ .ref p := by
      cases x with
      | un => exact r.elim
      | fz d => exact ⟨r, fun _ z => nomatch z⟩
      | ow d =>
        obtain ⟨q, u, rfl, r, f⟩ := r
        have hne : q ≠ p := fun z => by
          subst z
          have := f.h0
          have e : upd G.H0 q o q = none := this
          rw [upd_same] at e; cases e
        refine ⟨⟨q, u, rfl, r, ⟨f.at_, f.g, f.b, ?_, f.ns⟩⟩, fun _ _ z => hne (V.ref.inj z)⟩
        have e : upd G.H0 p o q = none := f.h0
        rw [upd_ne hne] at e; exact e
    refine ⟨.cons r'.1 n t1, fun j d' e => ?_⟩
    cases j with
    | zero =>
      simp only [List.getElem?_cons_zero] at e ⊢
      intro z
      exact r'.2 d' (Option.some.inj e) (Option.some.inj z)
    | succ j =>
      simp only [List.getElem?_cons_succ] at e ⊢
      exact t2 j d' e
theorem daj_cons {w : WV} {wr : WAJ} (ha : DJ X cn e w) (hr : DAJ X cn es wr) (hs : starEach (e :: es) X.env = (false, eval e X.env) :: starEach es X.env := by rfl) : DAJ X cn (e :: es) (ajCons w wr) := by
  refine ⟨fun ex δ Q Q' hq h => ha.mono ex δ _ _ (fun v δ1 h1 => hr.mono ex δ1 _ _ (fun vs δ2 h2 => hq _ _ h2) h1) h, fun G gk ex tk => ⟨fun pos pins s0 σ H Q I ⟨W, δ, s, h⟩ => ?_⟩⟩
  rw [hs]
  show wpAny _ _ (spliced ((false, eval e X.env) :: backTo pos (starEach es X.env))) _ _ s0
  refine Calls.spliced_cons (thn ((ha.run G gk ex tk).run pins s0 σ H (fun v1 H1 => ∃ x1 W1 δ1, Ext W W1 ∧ StOk G W1 δ1 σ H1 ∧ RepJ G W1 δ1 σ H1 v1 x1 ∧ wr ex δ1 fun vs δ2 => PostAJ G W σ Q (x1 :: vs) δ2) I
    ⟨W, δ, s, ha.mono ex δ _ _ (fun x1 δ1 h1 W1 v1 H1 e1 s1 r1 => ⟨x1, W1, δ1, e1, s1, r1, h1⟩) h⟩) fun u1 t1 ⟨v1, H1, I1, rv1, x1, W1, δ1, e1, s1, r1, h1⟩ => ?_)
  cases x1 with
  | un => exact r1.elim
  | fz d =>
    refine thn ((hr.run G gk ex tk).run pos pins t1 σ H1 (fun vs H2 => Q (v1 :: vs) H2) I1 ⟨W1, δ1, s1, hr.mono ex δ1 _ _ (fun vs' δ2 h2 W2 vs H2 e2 s2 r2 => h2 W2 (v1 :: vs) H2 (e1.trans e2) s2 (.cons (Rep.mono e2 r1) (fun _ z => nomatch z) r2)) h1⟩) fun us s2 ⟨xs, H2, I2, rr, q2⟩ => ⟨v1 :: xs, H2, I2, .cons rv1 rr, q2⟩
  | ow d =>
    obtain ⟨p, o, rfl, r1, f1⟩ := r1
    have w0 : G.W0.g p = none := by
      cases e : G.W0.g p with
      | none => rfl
      | some u => exact ((s1.h.ext.g p u e).none f1.g).elim
    have b0 : ¬ G.W0.bag p := fun z => f1.b (s1.h.ext.b p z)
    refine thn ((hr.run (G.hold p o) ⟨gk.K, gk.cn⟩ ex (tk.hold f1.h0)).run pos pins t1 σ H1 (fun vs H2 => Q (.ref p :: vs) H2) I1 ⟨W1, δ1, s1.hold f1, hr.mono ex δ1 _ _ (fun vs' δ2 h2 W2 vs H2 e2 s2 r2 => ?_) h1⟩) fun us s2 ⟨xs, H2, I2, rr, q2⟩ => ⟨.ref p :: xs, H2, I2, .cons rv1 rr, q2⟩
    obtain ⟨s3, f3⟩ := StOk.unhold f1 e2 w0 b0 s2
    obtain ⟨r3, n3⟩ := RepJs.unhold f1.h0 r2
    exact h2 W2 (.ref p :: vs) H2 (e1.trans e2) s3 (.cons ⟨p, o, rfl, r1.mono e2, f3⟩ (fun _ _ => n3) r3)

/-! ### a, b = e1, e2 with names -/
/-- slots set one after another -/
@[simp] def setsD : List Nat → List DV → Dl → Option Dl
  | [], [], δ => some δ
  | i :: is, v :: vs, δ => if v matches .un then none else setsD is vs (δ.set i v)
  | _, _, _ => none
def setsV : List Nat → List V → L2.St → Option L2.St
  | [], [], σ => some σ
  | i :: is, v :: vs, σ => setsV is vs (σ.set i (some v))
  | _, _, _ => none
theorem sets_ok {G : Gh} {W : Wd} {H : Hp} : ∀ {is : List Nat} {vs : List V} {xs : List DV} {δ δ' : Dl} {σ : L2.St}, StOk G W δ σ H → RepJs G W δ σ H vs xs → setsD is xs δ = some δ' → ∃ σ', setsV is vs σ = some σ' ∧ StOk G W δ' σ' H
  | [], _, _, δ, δ', σ, s, .nil, e => by cases e; exact ⟨σ, rfl, s⟩
  | _ :: _, _, _, δ, δ', σ, s, .nil, e => nomatch (show (none : Option Dl) = some δ' from e)
  | i :: is, v :: vs, x :: xs, δ, δ', σ, s, .cons r n t, e => by
    have e : setsD is xs (δ.set i x) = some δ' := by
      unfold setsD at e
      split at e
      · cases e
      · exact e
    have s' := s.setJ r i
    have t' : RepJs G W (δ.set i x) (σ.set i (some v)) H vs xs := by
      have key : ∀ (ws : List V) (ys : List DV), (∀ d, x = .ow d → ∀ (j : Nat) (d' : Dat), ys[j]? = some (DV.ow d') → ws[j]? ≠ some v) → RepJs G W δ σ H ws ys → RepJs G W (δ.set i x) (σ.set i (some v)) H ws ys := by
        intro ws ys hn q
        induction q with
        | nil => exact .nil
        | @cons v1 x1 vs1 xs1 r1 n1 t1 ih =>
          refine .cons ?_ n1 (ih fun d hd j d' ej => hn d hd (j + 1) d' (by simpa using ej))
          cases x1 with
          | un => exact r1.elim
          | fz d => exact r1
          | ow d =>
            obtain ⟨p, o, rfl, r1, f⟩ := r1
            refine ⟨p, o, rfl, r1, ⟨f.at_, f.g, f.b, f.h0, fun j d' ej z => ?_⟩⟩
            by_cases hj : j = i
            · subst hj
              have hl : j < δ.length := by
                have := (List.getElem?_eq_some_iff.mp ej).1
                rw [List.length_set] at this; exact this
              rw [List.getElem?_set_self hl] at ej
              have ej := Option.some.inj ej
              rw [List.getElem?_set_self (by rw [← s.s.len]; exact hl)] at z
              have z := Option.some.inj (Option.some.inj z)
              exact hn d' ej 0 d (by simp) (by simp [z])
            · rw [List.getElem?_set_ne (Ne.symm hj)] at ej z
              exact f.ns j d' ej z
      exact key vs xs n t
    obtain ⟨σ', e1, s2⟩ := sets_ok s' t' e
    exact ⟨σ', e1, s2⟩
@[simp] def wSets (is : List Nat) (w : WAJ) : WS := fun ex D δ => w ex δ fun vs δ' => ∃ δ2, setsD is vs δ' = some δ2 ∧ D.nx δ2
theorem wSets_mono {is : List Nat} {w : WAJ} (m : MonoAJ w) : MonoS (wSets is w) := fun ex D D' δ hl q => m ex δ _ _ (fun vs δ' ⟨δ2, e, x⟩ => ⟨δ2, e, hl.nx _ x⟩) q
/-- two plain local names -/
theorem ds_par2 {i j : Nat} {x y : Str} {w : WAJ} {px py pt : Pos} {kt k2 pt2} (hc : X.calm = true) (hN : X.N.Nodup) (hi : X.N[i]? = some x) (hj : X.N[j]? = some y) (hij : i ≠ j)
    (hx : X.env.scope.names.lookup x = some .local) (hy : X.env.scope.names.lookup y = some .local) (ha : DAJ X cn [a, b] w)
    (hw : swappedStores [.Tuple [.Name x px, .Name y py] kt pt] (.Tuple [a, b] k2 pt2) X.env = pure (some [x, y]))
    (hs : swapsWithSole [.Tuple [.Name x px, .Name y py] kt pt] (.Tuple [a, b] k2 pt2) pos.line X.env = pure false := by rfl) :
    DS X cn (.Assign [.Tuple [.Name x px, .Name y py] kt pt] (.Tuple [a, b] k2 pt2) pos) (wSets [i, j] w) :=
  ⟨wSets_mono ha.mono, fun G gk ex tk => (ps_par hc hN hi hj hij hx hy (ha.run G gk ex tk) hw hs).imp fun D σ H ⟨W, δ, s, q⟩ => ⟨W, δ, s, ha.mono ex δ _ _ (fun vs δ' ⟨δ2, e, x⟩ W' us H' x' s' r' => by
    obtain ⟨σ', e1, s2⟩ := sets_ok s' r' e
    match us, e1 with
    | [u, v], e1 =>
      have e1 : (σ.set i (some u)).set j (some v) = σ' := Option.some.inj e1
      subst e1
      exact ⟨u, v, rfl, x W' _ H' x' s2⟩) q⟩⟩
/-- three -/
theorem ds_par3 {i j l : Nat} {x y z : Str} {w : WAJ} {px py pz pt : Pos} {kt k2 pt2} (hc : X.calm = true) (hN : X.N.Nodup) (hi : X.N[i]? = some x) (hj : X.N[j]? = some y) (hl : X.N[l]? = some z) (hij : i ≠ j) (hil : i ≠ l) (hjl : j ≠ l)
    (hx : X.env.scope.names.lookup x = some .local) (hy : X.env.scope.names.lookup y = some .local) (hz : X.env.scope.names.lookup z = some .local) (ha : DAJ X cn [a, b, c] w)
    (hw : swappedStores [.Tuple [.Name x px, .Name y py, .Name z pz] kt pt] (.Tuple [a, b, c] k2 pt2) X.env = pure (some [x, y, z]))
    (hs : swapsWithSole [.Tuple [.Name x px, .Name y py, .Name z pz] kt pt] (.Tuple [a, b, c] k2 pt2) pos.line X.env = pure false := by rfl) :
    DS X cn (.Assign [.Tuple [.Name x px, .Name y py, .Name z pz] kt pt] (.Tuple [a, b, c] k2 pt2) pos) (wSets [i, j, l] w) :=
  ⟨wSets_mono ha.mono, fun G gk ex tk => (ps_par3 hc hN hi hj hl hij hil hjl hx hy hz (ha.run G gk ex tk) hw hs).imp fun D σ H ⟨W, δ, s, q⟩ => ⟨W, δ, s, ha.mono ex δ _ _ (fun vs δ' ⟨δ2, e, x⟩ W' us H' x' s' r' => by
    obtain ⟨σ', e1, s2⟩ := sets_ok s' r' e
    match us, e1 with
    | [u, v, t], e1 =>
      have e1 : ((σ.set i (some u)).set j (some v)).set l (some t) = σ' := Option.some.inj e1
      subst e1
      exact ⟨u, v, t, rfl, x W' _ H' x' s2⟩) q⟩⟩
/-- names in any number, the tuple made -/
structure PNs (X : Cx) (es : List Expr) (is : List Nat) : Prop where
  run : PGs X es (fun vs σ H Q => ∃ σ', setsV is vs σ = some σ' ∧ Q σ' H)
theorem pns_nil : PNs X [] [] := ⟨⟨fun pins s σ H vs us Q I r ⟨σ', e, q⟩ => by
  cases vs with
  | nil => cases e; exact pgs_nil.run pins s σ H [] us Q I r ⟨rfl, q⟩
  | cons v vs => cases e⟩⟩
theorem pns_cons {i : Nat} {x : Str} {is : List Nat} {pos : Pos} (hN : X.N.Nodup) (hi : X.N[i]? = some x) (hx : Loc X.env.scope x) (h : PNs X es is) (hf : X.fn x = true ∨ X.env.scope.names.lookup x = some .local := by first | exact .inl rfl | exact .inr rfl | assumption)
    (hs : (assignEach (.Name x pos :: es) X.env).map (·.2) = assign (.Name x pos) X.env :: (assignEach es X.env).map (·.2) := by rfl) : PNs X (.Name x pos :: es) (i :: is) :=
  ⟨⟨fun pins s σ H vs us Q I r ⟨σ', e, q⟩ => by
    cases vs with
    | nil => cases e
    | cons v vs => exact (pgs_cons (pg_name hN hi hx hf) h.run hs).run pins s σ H (v :: vs) us Q I r ⟨v, vs, rfl, σ', e, q⟩⟩⟩
theorem setsV_len : ∀ {is : List Nat} {vs : List V} {σ σ' : L2.St}, setsV is vs σ = some σ' → vs.length = is.length
  | [], [], _, _, _ => rfl
  | _ :: is, _ :: vs, _, _, e => by simp [setsV_len (is := is) (vs := vs) e]
theorem ds_parN {is : List Nat} {ts : List Expr} {w : WAJ} {kt k2 : Nat} {pt pt2 : Pos} (hc : X.calm = true) (ht : PNs X ts is) (ha : DAJ X cn es w)
    (hn : (assignEach ts X.env).length = is.length := by rfl) (hst : (assignEach ts X.env).findIdx? (·.1) = none := by rfl)
    (hs : swapsWithSole [.Tuple ts kt pt] (.Tuple es k2 pt2) pos.line X.env = pure false := by rfl) (hw : swappedStores [.Tuple ts kt pt] (.Tuple es k2 pt2) X.env = pure none := by rfl)
    (h1 : (assignEach [.Tuple ts kt pt] X.env).map (·.2) = [assign (.Tuple ts kt pt) X.env] := by rfl) (hz : is.length ≤ 1000 := by decide) :
    DS X cn (.Assign [.Tuple ts kt pt] (.Tuple es k2 pt2) pos) (wSets is w) :=
  ⟨wSets_mono ha.mono, fun G gk ex tk => (ps_asg (pe_tup (ha.run G gk ex tk)) (pg_tup hc ht.run hn hst) hs hw h1).imp fun D σ H ⟨W, δ, s, q⟩ => ⟨W, δ, s, ha.mono ex δ _ _ (fun vs δ' ⟨δ2, e, x⟩ W' us H' x' s' r' => by
    obtain ⟨σ', e1, s2⟩ := sets_ok s' r' e
    have hl := setsV_len e1
    refine ⟨by rw [hl]; exact Nat.le_trans hz (by rw [sizeLine_eq]; decide), fun p hp => ⟨p, us, rfl, .inl (.inl upd_same), hl, σ', e1, ?_⟩⟩
    refine x W' σ' _ x' ⟨s2.h.own hp, ⟨s2.s.len, s2.s.fz, fun i d ei => ?_, s2.s.ne⟩⟩
    obtain ⟨b, u, q1, q2, q3⟩ := s2.s.ow i d ei
    exact ⟨b, u, q1, by rw [upd_ne (ne_of_none q2 hp)]; exact q2, q3⟩) q⟩⟩

/-! ### targets -/
abbrev WG := XW → Dat → Dl → (Dl → Prop) → Prop
abbrev WGs := XW → List Dat → Dl → (Dl → Prop) → Prop
def MonoG (w : WG) : Prop := ∀ ex d δ (Q Q' : Dl → Prop), (∀ δ', Q δ' → Q' δ') → w ex d δ Q → w ex d δ Q'
def MonoGs (w : WGs) : Prop := ∀ ex d δ (Q Q' : Dl → Prop), (∀ δ', Q δ' → Q' δ') → w ex d δ Q → w ex d δ Q'
def PostG (G : Gh) (W : Wd) (Q : L2.St → Hp → Prop) (δ : Dl) : Prop := ∀ W' σ H', Ext W W' → StOk G W' δ σ H' → Q σ H'
def rdG (G : Gh) (ex : XW) (w : WG) : TG := fun v σ H Q => ∃ W δ d, StOk G W δ σ H ∧ Rep G.K W v d ∧ w ex d δ (PostG G W Q)
def rdGs (G : Gh) (ex : XW) (w : WGs) : TGs := fun vs σ H Q => ∃ W δ ds, StOk G W δ σ H ∧ RepAll G.K W vs ds ∧ w ex ds δ (PostG G W Q)
structure DG (X : Cx) (cn : Str → Value) (t : Expr) (w : WG) : Prop where
  mono : MonoG w
  run : ∀ (G : Gh), GOk X cn G → ∀ ex, TakesD X G ex → PG X t (rdG G ex w)
structure DGs (X : Cx) (cn : Str → Value) (ts : List Expr) (w : WGs) : Prop where
  mono : MonoGs w
  run : ∀ (G : Gh), GOk X cn G → ∀ ex, TakesD X G ex → PGs X ts (rdGs G ex w)
theorem _root_.L2.PG.imp {X : Cx} {e : Expr} {t t' : TG} (h : PG X e t) (k : ∀ v σ H Q, t' v σ H Q → t v σ H Q) : PG X e t' := ⟨fun pins s σ H v u Q I r q => h.run pins s σ H v u Q I r (k _ _ _ _ q)⟩
theorem _root_.L2.PGs.imp {X : Cx} {e : List Expr} {t t' : TGs} (h : PGs X e t) (k : ∀ v σ H Q, t' v σ H Q → t v σ H Q) : PGs X e t' := ⟨fun pins s σ H v u Q I r q => h.run pins s σ H v u Q I r (k _ _ _ _ q)⟩
@[simp] def wgN (i : Nat) : WG := fun _ d δ Q => Q (δ.set i (.fz d))
theorem dg_name {i : Nat} {x : Str} (hN : X.N.Nodup) (hi : X.N[i]? = some x) (hx : Loc X.env.scope x) (hf : X.fn x = true ∨ X.env.scope.names.lookup x = some .local := by first | exact .inl rfl | exact .inr rfl | assumption) : DG X cn (.Name x pos) (wgN i) :=
  ⟨fun ex d δ Q Q' hq h => hq _ h, fun G gk ex tk => (pg_name hN hi hx hf).imp fun v σ H Q ⟨W, δ, d, s, r, h⟩ => h W _ H (Ext.refl W) (s.setF r i)⟩
@[simp] def wgNil : WGs := fun _ ds δ Q => ds = [] ∧ Q δ
@[simp] def wgCons (w : WG) (ws : WGs) : WGs := fun ex ds δ Q => ∃ d r, ds = d :: r ∧ w ex d δ fun δ' => ws ex r δ' Q
theorem dgs_nil : DGs X cn [] wgNil := ⟨fun ex d δ Q Q' hq h => ⟨h.1, hq _ h.2⟩, fun G gk ex tk => pgs_nil.imp fun v σ H Q ⟨W, δ, d, s, r, e, h⟩ => by
  subst e; cases r; exact ⟨rfl, h W σ H (Ext.refl W) s⟩⟩
theorem dgs_cons {w : WG} {ws : WGs} (h1 : DG X cn e w) (h2 : DGs X cn es ws)
    (hs : (assignEach (e :: es) X.env).map (·.2) = assign e X.env :: (assignEach es X.env).map (·.2) := by rfl) : DGs X cn (e :: es) (wgCons w ws) :=
  ⟨fun ex d δ Q Q' hq ⟨d1, r, e, h⟩ => ⟨d1, r, e, h1.mono ex d1 δ _ _ (fun δ' x => h2.mono ex r δ' _ _ hq x) h⟩,
   fun G gk ex tk => (pgs_cons (h1.run G gk ex tk) (h2.run G gk ex tk) hs).imp fun v σ H Q ⟨W, δ, ds, s, r, d1, r1, e, h⟩ => by
    subst e
    cases r with
    | cons q1 q2 => exact ⟨_, _, rfl, W, δ, d1, s, q1, h1.mono ex d1 δ _ _ (fun δ' x W1 σ1 H1 x1 s1 => ⟨W1, δ', r1, s1, q2.mono x1, h2.mono ex r1 δ' _ _ (fun δ2 y W2 σ2 H2 x2 s2 => y W2 σ2 H2 (x1.trans x2) s2) x⟩) h⟩⟩
/-- a tuple unpacked -/
@[simp] def wgTup (n : Nat) (ws : WGs) : WG := fun ex d δ Q => ∃ ds, d = .tup ds ∧ ds.length = n ∧ ws ex ds δ Q
theorem dg_tup {ws : WGs} {k n : Nat} (hc : X.calm = true) (h : DGs X cn es ws) (hn : (assignEach es X.env).length = n := by rfl) (hst : (assignEach es X.env).findIdx? (·.1) = none := by rfl) : DG X cn (.Tuple es k pos) (wgTup n ws) :=
  ⟨fun ex d δ Q Q' hq ⟨ds, e, z, x⟩ => ⟨ds, e, z, h.mono ex ds δ _ _ hq x⟩, fun G gk ex tk => (pg_tup hc (h.run G gk ex tk) hn hst).imp fun v σ H Q ⟨W, δ, d, s, r, ds, e, z, x⟩ => by
    subst e
    obtain ⟨p, vs, rfl, h1, k1, r1⟩ := RepB.tup s.h (.inl r)
    rw [gk.K] at h1
    exact ⟨p, vs, rfl, h1, by rw [r1.length]; exact z, W, δ, ds, s, r1, x⟩⟩
/-- x[i] = .., x a slot -/
@[simp] def setD : Dat → Dat → Dat → (Dat → Prop) → Prop
  | .lst ds, .int k, v, P => ∃ j, ixN ds.length k = some j ∧ P (.lst (ds.set j v))
  | .dK kvs, .int k, v, P => kvs.length < 1000000 ∧ P (.dK (putD kvs (.inl k) v))
  | .dK kvs, .str k, v, P => kvs.length < 1000000 ∧ P (.dK (putD kvs (.inr k) v))
  | _, _, _, _ => False
theorem setD_mono {c k v : Dat} {P P' : Dat → Prop} (h : ∀ r, P r → P' r) (q : setD c k v P) : setD c k v P' := by
  cases c <;> cases k <;> first | exact q.elim | exact ⟨q.1, h _ q.2⟩ | (obtain ⟨j, e, q⟩ := q; exact ⟨j, e, h _ q⟩)
/-- the slot's object behind the store -/
@[simp] def putS (i : Nat) (k v : Dat) (δ : Dl) (Q : Dl → Prop) : Prop := match δ[i]? with
  | some (.ow c) => setD c k v fun c' => Q (δ.set i (.ow c'))
  | some (.fz .bag) => ∃ n m : Int, k = .int n ∧ (0 ≤ n ∧ n < 3) ∧ v = .int m ∧ Q δ
  | _ => False
theorem putS_mono {i : Nat} {k v : Dat} {δ : Dl} {Q Q' : Dl → Prop} (h : ∀ r, Q r → Q' r) (q : putS i k v δ Q) : putS i k v δ Q' := by
  unfold putS at q ⊢
  split at q
  · exact setD_mono (fun r x => h _ x) q
  · obtain ⟨n, m, e1, e2, e3, q⟩ := q; exact ⟨n, m, e1, e2, e3, h _ q⟩
  · exact q
def rSetA : V → V → V → Hp → (Hp → Prop) → Prop := fun o i v H Q => rSetL o i v H Q ∨ ∃ a H', o = .ref a ∧ DPut H a i v H' ∧ Q H'
theorem set_all (hu : X.A.units + 1 < cLine) : PSet X rSetA := by
  intro pins s σ H o i v ov iv u Q I ro ri rv h
  rcases h with h | ⟨p, H', rfl, g, q⟩
  · exact set_list pins s σ H o i v ov iv u Q I ro ri rv h
  · cases ro
    exact d_setItem hu I g ri rv fun s' I' => ⟨H', I', q⟩
theorem putS_ok {G : Gh} {W : Wd} {δ : Dl} {σ : L2.St} {H : Hp} {i : Nat} {o kv u : V} {k d : Dat} {Q : Dl → Prop} {R : Hp → Prop} (s : StOk G W δ σ H) (ho : σ[i]? = some (some o)) (rk : RepB G W H kv k) (rd : Rep G.K W u d) (q : putS i k d δ Q)
    (h : ∀ δ' H', Q δ' → StOk G W δ' σ H' → R H') : rSetA o kv u H R := by
  unfold putS at q
  split at q
  · rename_i c e
    obtain ⟨p, ob, e1, e2, r, n1, n2, n3⟩ := s.s.ow i c e
    rw [ho] at e1; cases e1
    cases r with
    | @lst vs ds r =>
      cases k with
      | int n =>
        obtain ⟨j, ej, q⟩ := q
        rw [rk.int]
        exact .inl ⟨p, vs, n, j, rfl, rfl, e2, by rw [r.length]; exact ej, h _ _ q (s.chg e ho (.lst (r.set rd j)))⟩
      | _ => exact q.elim
    | @dK vs ds r =>
      cases k with
      | int n =>
        obtain ⟨z, q⟩ := q
        rw [rk.int]
        exact .inr ⟨p, _, rfl, DPut.k (k := .inl n) e2 (by rw [r.length]; exact Nat.lt_of_lt_of_le z (mil (Nat.le_refl _))), h _ _ q (s.chg e ho (.dK (r.put rd)))⟩
      | str n =>
        obtain ⟨z, q⟩ := q
        rw [rk.str]
        exact .inr ⟨p, _, rfl, DPut.k (k := .inr n) e2 (by rw [r.length]; exact Nat.lt_of_lt_of_le z (mil (Nat.le_refl _))), h _ _ q (s.chg e ho (.dK (r.put rd)))⟩
      | _ => exact q.elim
  · rename_i e
    obtain ⟨n, m, rfl, hn, rfl, q⟩ := q
    obtain ⟨v, e1, r⟩ := s.s.fz i _ e
    rw [ho] at e1; cases e1
    obtain ⟨p, rfl, hb, x, y, z, e2⟩ := RepB.bag s.h (.inl r)
    rw [rk.int, rd.intV]
    have hbag : ∀ x' y' z' : Int, StOk G W δ σ (upd H p (.lst [.int x', .int y', .int z'])) := fun x' y' z' => by
      have hg := (s.h.bags p hb).1
      refine ⟨⟨s.h.ext, fun a u e nb => ?_, fun a u e => ?_, s.h.old, s.h.oldb, fun b' hb' => ?_⟩, ⟨s.s.len, s.s.fz, fun i d e => ?_, s.s.ne⟩⟩
      · by_cases z : a = p
        · subst z; exact absurd (s.h.oldb a (by rw [e]; rfl) hb) nb
        · have q : upd H p (.lst [.int x', .int y', .int z']) a = H a := upd_ne z
          rw [q]; exact (s.h.keep a u e nb).imp id fun x => ⟨x.1, x.2.of q⟩
      · exact (s.h.sub a u e).of (upd_ne (fun z => by subst z; rw [hg] at e; cases e))
      · by_cases z : b' = p
        · subst z; exact ⟨hg, x', y', z', upd_same⟩
        · obtain ⟨g1, g2⟩ := s.h.bags b' hb'
          exact ⟨g1, by rw [upd_ne z]; exact g2⟩
      · obtain ⟨b', u, q1, q2, q3, q4, q5, q6⟩ := s.s.ow i d e
        exact ⟨b', u, q1, by rw [upd_ne (fun z => by subst z; exact q5 hb)]; exact q2, q3, q4, q5, q6⟩
    have : n = 0 ∨ n = 1 ∨ n = 2 := by omega
    rcases this with en | en | en <;> subst en
    · exact .inl ⟨p, _, 0, 0, rfl, rfl, e2, rfl, h δ _ q (hbag m y z)⟩
    · exact .inl ⟨p, _, 1, 1, rfl, rfl, e2, rfl, h δ _ q (hbag x m z)⟩
    · exact .inl ⟨p, _, 2, 2, rfl, rfl, e2, rfl, h δ _ q (hbag x y m)⟩
  · exact q.elim
@[simp] def wgSub (i : Nat) (wk : WO) : WG := fun ex d δ Q => (∃ c, (Opd.slot i).get δ = some c) ∧ wk ex δ fun o δ1 => ∃ k, o.get δ1 = some k ∧ putS i k d δ1 Q
theorem dg_sub {i : Nat} {x : Str} {px : Pos} {wk : WO} (hu : X.A.units + 1 < cLine) (hk : DO X cn b wk) (hN : X.N[i]? = some x := by rfl) (hv : Vis X.env.scope x := by first | exact Or.inl rfl | exact Or.inr (Or.inl rfl) | exact Or.inr (Or.inr rfl)) (hd : (x == ("__debug__" : Str)) = false := by decide)
    (hcd : (x == ("__classdict__" : Str)) = false := by decide)
    (ha : ∀ v, assign (.Subscript (.Name x px) b pos) X.env v = (do
      let ov ← holding [v] (eval (.Name x px) X.env)
      let iv ← holding [v, ov] (eval b X.env)
      standAt pos
      holding [v, ov, iv] (setItem ov iv v)
      release [v, ov, iv] []) := by intro _; rfl) : DG X cn (.Subscript (.Name x px) b pos) (wgSub i wk) := by
  refine ⟨fun ex d δ Q Q' hq h => ⟨h.1, hk.mono ex δ _ _ (fun o δ1 ⟨k, e, q⟩ => ⟨k, e, putS_mono hq q⟩) h.2⟩, fun G gk ex tk => (pg_sub (pe_var hN hv hd hcd) (hk.run G gk ex tk) (set_all hu) ha).imp fun v σ H Q ⟨W, δ, d, s, r, ⟨c, ec⟩, h⟩ => ?_⟩
  have ec' : (δ[i]?).bind DV.dat = some c := ec
  have hv : ∃ v, σ[i]? = some (some v) := by
    cases e2 : δ[i]? with
    | none => rw [e2] at ec'; cases ec'
    | some y =>
      rw [e2] at ec'
      cases y with
      | un => cases ec'
      | fz d' => obtain ⟨v, q, _⟩ := s.s.fz i d' e2; exact ⟨v, q⟩
      | ow d' => obtain ⟨a, o, q, _⟩ := s.s.ow i d' e2; exact ⟨_, q⟩
  obtain ⟨o, ho⟩ := hv
  refine ⟨o, ho, W, δ, s, hk.mono ex δ _ _ (fun ok δ1 ⟨k, e, q⟩ W1 kv H1 x1 s1 r1 => ?_) h⟩
  exact putS_ok s1 ho (r1.get s1 e) (r.mono x1) q fun δ' H' q' s' => q' W1 σ H' x1 s'
/-- target = value -/
@[simp] def wAsgG (w : WE) (g : WG) : WS := fun ex D δ => w ex δ fun d δ' => g ex d δ' D.nx
theorem ds_asgG {w : WE} {g : WG} {tg : Expr} (he : DE X cn e w) (hg : DG X cn tg g) (hs : swapsWithSole [tg] e pos.line X.env = pure false := by rfl) (hw : swappedStores [tg] e X.env = pure none := by rfl)
    (h1 : (assignEach [tg] X.env).map (·.2) = [assign tg X.env] := by rfl) : DS X cn (.Assign [tg] e pos) (wAsgG w g) :=
  ⟨fun ex D D' δ hl q => he.mono ex δ _ _ (fun d δ' x => hg.mono ex d δ' _ _ hl.nx x) q, fun G gk ex tk => (ps_asg (he.run G gk ex tk) (hg.run G gk ex tk) hs hw h1).imp fun D σ H ⟨W, δ, s, q⟩ =>
    ⟨W, δ, s, he.mono ex δ _ _ (fun d δ' x W' v H' x' s' r' => ⟨W', δ', d, s', r', hg.mono ex d δ' _ _ (fun δ2 y W2 σ2 H2 x2 s2 => y W2 σ2 H2 (x'.trans x2) s2) x⟩) q⟩⟩
/-- name op= e -/
@[simp] def wAug (i : Nat) (g : Dat → Dat → (DV → Prop) → Prop) (w : WO) : WS := fun ex D δ => (∃ c, (Opd.slot i).get δ = some c) ∧ w ex δ fun o δ1 => ∃ c k, (Opd.slot i).get δ1 = some c ∧ o.get δ1 = some k ∧ g c k fun r => r ≠ .un ∧ D.nx (δ1.set i r)
theorem StOk.has {G : Gh} {W : Wd} {δ : Dl} {σ : L2.St} {H : Hp} {i : Nat} {c : Dat} (s : StOk G W δ σ H) (ec : (Opd.slot i).get δ = some c) : ∃ v, σ[i]? = some (some v) := by
  have ec' : (δ[i]?).bind DV.dat = some c := ec
  cases e2 : δ[i]? with
  | none => rw [e2] at ec'; cases ec'
  | some y =>
    rw [e2] at ec'
    cases y with
    | un => cases ec'
    | fz d' => obtain ⟨v, q, _⟩ := s.s.fz i d' e2; exact ⟨v, q⟩
    | ow d' => obtain ⟨a, o, q, _⟩ := s.s.ow i d' e2; exact ⟨_, q⟩
theorem ds_aug {i : Nat} {x : Str} {op : Operator} {r : R2} {g : Dat → Dat → (DV → Prop) → Prop} {w : WO} {pos' : Pos} (ho : OpR X (inplaceOp op) r) (hd : Does2 X g r) (mg : MonoG2 g) (hN : X.N.Nodup) (hi : X.N[i]? = some x) (hx : Loc X.env.scope x) (he : DO X cn e w) (hf : X.fn x = true ∨ X.env.scope.names.lookup x = some .local := by first | exact .inl rfl | exact .inr rfl | assumption) :
    DS X cn (.AugAssign (.Name x pos') op e pos) (wAug i g w) :=
  ⟨fun ex D D' δ hl q => ⟨q.1, he.mono ex δ _ _ (fun o δ1 ⟨c, k, e1, e2, x⟩ => ⟨c, k, e1, e2, mg c k _ _ (fun r y => ⟨y.1, hl.nx _ y.2⟩) x⟩) q.2⟩,
   fun G gk ex tk => (ps_aug hN hi hx (he.run G gk ex tk) (fun pins s σ H x y v u Q I rx ry h => ho pins s σ H x y v u Q I rx ry h) hf).imp fun D σ H ⟨W, δ, s, ⟨c, ec⟩, q⟩ => by
    obtain ⟨v, ev⟩ := s.has ec
    refine ⟨v, ev, W, δ, s, he.mono ex δ _ _ (fun o δ1 ⟨c, k, e1, e2, x⟩ W1 u H1 x1 s1 r1 => ?_) q⟩
    exact hd G gk.K W1 δ1 σ H1 v u c k _ _ s1 (RepO.get (o := .slot i) s1 ev e1) (r1.get s1 e2) x fun z W' y H' hz x' s' r' => hz.2 W' _ H' (x1.trans x') (s'.setJ r' i)⟩
end
end DL
set_option Elab.async false
set_option linter.all false
set_option maxRecDepth 100000
namespace DL
open PySem PySem.Spec PyProof.Rows L2

section
variable {X : Cx} {cn : Str → Value} {pos : Pos} {e a b c : Expr} {es : List Expr} {st : Stmt} {sts : List Stmt}

/-! ### while -/
def wIter (t : WT) (b : WS) : Nat → WS
  | 0 => fun _ _ _ => False
  | n + 1 => fun ex D δ => t ex δ fun k δ' => if k = true then b ex { D with nx := wIter t b n ex D, ct := wIter t b n ex D, bk := D.nx } δ' else D.nx δ'
def wWhile (t : WT) (b : WS) : WS := fun ex D δ => ∃ n, wIter t b n ex D δ
theorem wIter_mono {t : WT} {b : WS} (mt : MonoT t) (mb : MonoS b) : ∀ n, MonoS (wIter t b n)
  | 0 => fun _ _ _ _ _ h => h
  | n + 1 => fun ex D D' δ hl h => mt ex δ _ _ (fun k δ' x => by
    cases k with
    | true => exact mb ex { D with nx := wIter t b n ex D, ct := wIter t b n ex D, bk := D.nx } _ δ' ⟨fun δ2 y => wIter_mono mt mb n ex D D' δ2 hl y, hl.rt, hl.nx, fun δ2 y => wIter_mono mt mb n ex D D' δ2 hl y⟩ x
    | false => exact hl.nx _ x) h
theorem ds_while {t : WT} {u : WS} (hp : PassesOwn (model X.prog X.w) X.A X.env X.xe) (ht : DT X cn e t) (hb : DSs X cn sts u) : DS X cn (.While e sts [] pos) (wWhile t u) := by
  refine ⟨fun ex D D' δ hl ⟨n, q⟩ => ⟨n, wIter_mono ht.mono hb.mono n ex D D' δ hl q⟩, fun G gk ex tk => (ps_while hp (ht.run G gk ex tk) (hb.run G gk ex tk)).imp fun D σ H ⟨W, δ, s, n, q⟩ => ?_⟩
  refine ⟨fun m σ H => ∃ W1 δ1, Ext W W1 ∧ StOk G W1 δ1 σ H ∧ wIter t u m ex (ends G W D) δ1, ⟨n, W, δ, Ext.refl W, s, q⟩, ?_⟩
  rintro m σ1 H1 ⟨W1, δ1, x1, s1, q1⟩
  cases m with
  | zero => exact q1.elim
  | succ m =>
    refine ⟨W1, δ1, s1, ht.mono ex δ1 _ _ (fun k δ2 x W2 H2 x2 s2 => ?_) q1⟩
    cases k with
    | false => exact x W2 σ1 H2 (x1.trans x2) s2
    | true =>
      rw [if_pos rfl]
      refine ⟨fun σ' H' => ∃ W3 δ3, Ext W W3 ∧ StOk G W3 δ3 σ' H' ∧ wIter t u m ex (ends G W D) δ3, fun σ' H' h => ⟨m, Nat.lt_succ_self m, h⟩, W2, δ2, s2, hb.mono ex { ends G W D with nx := wIter t u m ex (ends G W D), ct := wIter t u m ex (ends G W D), bk := (ends G W D).nx } _ δ2 ?_ x⟩
      refine ⟨fun δ3 y W3 σ3 H3 x3 s3 => ⟨W3, δ3, (x1.trans x2).trans x3, s3, y⟩, fun d y W3 v H3 x3 s3 r3 => y W3 v H3 ((x1.trans x2).trans x3) s3 r3, fun δ3 y W3 σ3 H3 x3 s3 => y W3 σ3 H3 ((x1.trans x2).trans x3) s3, fun δ3 y W3 σ3 H3 x3 s3 => ⟨W3, δ3, (x1.trans x2).trans x3, s3, y⟩⟩
/-- a while by a word and a measure -/
theorem while_inv {t : WT} {b : WS} {ex : XW} {D : WEnds} (mt : MonoT t) (mb : MonoS b) (I : Dl → Prop) (μ : Dl → Nat)
    (hs : ∀ δ, I δ → t ex δ fun k δ' => if k = true then b ex { D with nx := fun δ2 => I δ2 ∧ μ δ2 < μ δ, ct := fun δ2 => I δ2 ∧ μ δ2 < μ δ, bk := D.nx } δ' else D.nx δ') {δ : Dl} (h : I δ) : wWhile t b ex D δ := by
  have key : ∀ n δ, I δ → μ δ < n → wIter t b n ex D δ := by
    intro n
    induction n with
    | zero => intro δ _ h; exact absurd h (Nat.not_lt_zero _)
    | succ n ih =>
      intro δ hi hn
      refine mt ex δ _ _ (fun k δ' x => ?_) (hs δ hi)
      cases k with
      | false => exact x
      | true => exact mb ex { D with nx := fun δ2 => I δ2 ∧ μ δ2 < μ δ, ct := fun δ2 => I δ2 ∧ μ δ2 < μ δ, bk := D.nx } _ δ' ⟨fun δ2 y => ih δ2 y.1 (by have := y.2; omega), fun _ y => y, fun _ y => y, fun δ2 y => ih δ2 y.1 (by have := y.2; omega)⟩ x
  exact ⟨_, key (μ δ + 1) δ h (Nat.lt_succ_self _)⟩

/-! ### what a loop walks -/
abbrev WI := WA
/-- the turns of J yield the items -/
def Yields (K : PySem.W.Frag) (W : Wd) (J : It) (items : List Dat) : Prop := ∀ G : Gh, G.K = K → ∀ W' δ σ H, Ext W W' → StOk G W' δ σ H → ∀ i, (∀ d, items[i]? = some d → J.go i H ∧ ∀ x H', J.yld i H x H' → ∃ W'', Ext W' W'' ∧ StOk G W'' δ σ H' ∧ Rep G.K W'' x d) ∧ (items.length ≤ i → J.stop i H)
def PostI (G : Gh) (W : Wd) (σ : L2.St) (R : It → Hp → Prop) (ds : List Dat) (δ : Dl) : Prop := ∀ W' J H', Ext W W' → StOk G W' δ σ H' → Yields G.K W' J ds → R J H'
def rdI (G : Gh) (ex : XW) (w : WI) : TI := fun σ H R => ∃ W δ, StOk G W δ σ H ∧ w ex δ (PostI G W σ R)
structure DI (X : Cx) (cn : Str → Value) (tg e : Expr) (w : WI) : Prop where
  mono : MonoA w
  run : ∀ (G : Gh), GOk X cn G → ∀ ex, TakesD X G ex → PI X tg e (rdI G ex w)
theorem _root_.L2.PI.imp {X : Cx} {tg e : Expr} {t t' : TI} (h : PI X tg e t) (k : ∀ σ H Q, t' σ H Q → t σ H Q) : PI X tg e t' := ⟨fun pins s σ H Q I q => h.run pins s σ H Q I (k _ _ _ q)⟩
/-- a list that stands still -/
def iLst (w : WE) : WI := fun ex δ Q => w ex δ fun d δ' => ∃ ds, d = .lst ds ∧ Q ds δ'
def iTupl (w : WE) : WI := fun ex δ Q => w ex δ fun d δ' => ∃ ds, d = .tup ds ∧ Q ds δ'
theorem yields_lst {K : PySem.W.Frag} {W : Wd} {p : Addr} {vs : List V} {ds : List Dat} (hg : W.g p = some (.lst vs)) (r : RepAll K W vs ds) : Yields K W (Itl K p) ds := fun G hK W' δ σ H x s i => by
  subst hK
  have hH : H p = some (.lst vs) := (s.h.sub p _ (x.g p _ hg).lst).lst
  refine ⟨fun d e => ?_, fun hl => ⟨vs, SqL.of hH, by rw [r.length]; exact hl⟩⟩
  obtain ⟨v, e1, r1⟩ := r.get e
  refine ⟨⟨vs, v, SqL.of hH, e1⟩, fun y H' hy => ?_⟩
  obtain ⟨rfl, hy⟩ := hy
  have := hy vs (SqL.of hH)
  rw [e1] at this; cases this
  exact ⟨W', Ext.refl W', s, r1.mono x⟩
theorem yields_tup {K : PySem.W.Frag} {W : Wd} {p : Addr} {vs : List V} {ds : List Dat} (hg : SqT K W.g p vs) (r : RepAll K W vs ds) : Yields K W (Itt K p) ds := fun G hK W' δ σ H x s i => by
  subst hK
  have hH : SqT G.K H p vs := SqT.std s.h.sub (SqT.std x.g hg)
  refine ⟨fun d e => ?_, fun hl => ⟨vs, hH, by rw [r.length]; exact hl⟩⟩
  obtain ⟨v, e1, r1⟩ := r.get e
  refine ⟨⟨vs, v, hH, e1⟩, fun y H' hy => ?_⟩
  obtain ⟨rfl, hy⟩ := hy
  have := hy vs hH
  rw [e1] at this; cases this
  exact ⟨W', Ext.refl W', s, r1.mono x⟩
theorem di_lst {tg : Expr} {w : WE} (h : DE X cn e w) : DI X cn tg e (iLst w) :=
  ⟨fun ex δ Q Q' hq q => h.mono ex δ _ _ (fun d δ' ⟨ds, z, x⟩ => ⟨ds, z, hq _ _ x⟩) q, fun G gk ex tk => (pi_list (h.run G gk ex tk)).imp fun σ H R ⟨W, δ, s, q⟩ => ⟨W, δ, s, h.mono ex δ _ _ (fun d δ' ⟨ds, z, x⟩ W' v H' x' s' r' => by
    subst z
    cases r' with
    | lst h1 r1 => exact ⟨_, rfl, ⟨_, SqL.of (s'.h.sub _ _ h1).lst⟩, x W' _ H' x' s' (by rw [← gk.K]; exact yields_lst h1 r1)⟩) q⟩⟩
theorem di_tup {tg : Expr} {w : WE} (h : DE X cn e w) : DI X cn tg e (iTupl w) :=
  ⟨fun ex δ Q Q' hq q => h.mono ex δ _ _ (fun d δ' ⟨ds, z, x⟩ => ⟨ds, z, hq _ _ x⟩) q, fun G gk ex tk => (pi_tup (h.run G gk ex tk)).imp fun σ H R ⟨W, δ, s, q⟩ => ⟨W, δ, s, h.mono ex δ _ _ (fun d δ' ⟨ds, z, x⟩ W' v H' x' s' r' => by
    subst z
    cases r' with
    | tup h1 r1 => exact ⟨_, rfl, ⟨_, by rw [← gk.K]; exact SqT.std s'.h.sub h1⟩, x W' _ H' x' s' (by rw [← gk.K]; exact yields_tup h1 r1)⟩) q⟩⟩
/-- a list or a tuple -/
@[simp] def iSeq (w : WE) : WI := fun ex δ Q => w ex δ fun d δ' => ∃ ds, (d = .lst ds ∨ d = .tup ds) ∧ Q ds δ'
theorem di_seq {tg : Expr} {w : WE} (h : DE X cn e w) : DI X cn tg e (iSeq w) := by
  refine ⟨fun ex δ Q Q' hq q => h.mono ex δ _ _ (fun d δ' ⟨ds, z, x⟩ => ⟨ds, z, hq _ _ x⟩) q, fun G gk ex tk => ⟨fun pins s0 σ H R I ⟨W, δ, s, q⟩ => ?_⟩⟩
  refine thn ((h.run G gk ex tk).run pins s0 σ H (fun v H1 => ∃ W1 δ1 d ds, Ext W W1 ∧ StOk G W1 δ1 σ H1 ∧ Rep G.K W1 v d ∧ (d = .lst ds ∨ d = .tup ds) ∧ PostI G W σ R ds δ1) I
    ⟨W, δ, s, h.mono ex δ _ _ (fun d δ' ⟨ds, z, x⟩ W' v H' x' s' r' => ⟨W', δ', d, ds, x', s', r', z, x⟩) q⟩) fun v s1 ⟨x, H1, I1, rv, W1, δ1, d, ds, x1, st1, r1, z, hq⟩ => ?_
  rcases z with rfl | rfl
  · cases r1 with
    | @lst p vs _ h1 r1 =>
      cases rv
      have hS : SqL X.K H1 p vs := SqL.of (st1.h.sub _ _ h1).lst
      obtain ⟨its, rv, pl, hz⟩ := I1.list hS
      refine wpAny_pyIter_list pl.isList ?_
      refine ⟨s1.heap.objs.size, [s1.heap.objs.size], _, _, H1, rfl, I1.kept (t' := s1.toks) fun b o e => Heap.get?_push_of_some _ e, turn_list p _, ⟨_, Heap.get?_push_size _ rfl, rfl, rfl⟩, fun b hb => ?_, hq W1 _ H1 x1 st1 (by rw [← gk.K]; exact yields_lst h1 r1)⟩
      have e : b = s1.heap.objs.size := by simpa using hb
      subst e
      exact I1.fpOk (Nat.le_refl _) (I1.hok.fresh (Nat.le_refl _))
  · cases r1 with
    | @tup p vs _ h1 r1 =>
      cases rv
      have hS : SqT X.K H1 p vs := by rw [← gk.K]; exact SqT.std st1.h.sub h1
      obtain ⟨its, rv, pl, hz⟩ := I1.tuple hS
      refine wpAny_pyIter_tuple (show s1.heap.IsTuple p its.toArray from pl) ?_
      refine ⟨s1.heap.objs.size, [s1.heap.objs.size], _, _, H1, rfl, I1.kept (t' := s1.toks) fun b o e => Heap.get?_push_of_some _ e, turn_tuple p _, ⟨_, Heap.get?_push_size _ rfl, rfl, rfl⟩, fun b hb => ?_, hq W1 _ H1 x1 st1 (by rw [← gk.K]; exact yields_tup h1 r1)⟩
      have e : b = s1.heap.objs.size := by simpa using hb
      subst e
      exact I1.fpOk (Nat.le_refl _) (I1.hok.fresh (Nat.le_refl _))
/-- range(n), range(i, j) -/
def rangeD (i j : Int) : List Dat := (List.range (j - i).toNat).map fun (k : Nat) => Dat.int (i + k)
theorem yields_rng {K : PySem.W.Frag} {W : Wd} (i j : Int) : Yields K W (Itr i (j - i).toNat) (rangeD i j) := fun G hK W' δ σ H x s k => by
  refine ⟨fun d e => ?_, fun hl => by
    have hl : (rangeD i j).length ≤ k := hl
    unfold rangeD at hl
    rw [List.length_map, List.length_range] at hl
    exact hl⟩
  unfold rangeD at e
  rw [List.getElem?_map, Option.map_eq_some_iff] at e
  obtain ⟨m, e1, e2⟩ := e
  obtain ⟨h1, h2⟩ := List.getElem?_eq_some_iff.mp e1
  rw [List.length_range] at h1
  rw [List.getElem_range] at h2
  subst h2 e2
  refine ⟨h1, fun y H' hy => ?_⟩
  obtain ⟨rfl, rfl⟩ := hy
  exact ⟨W', Ext.refl W', s, .int⟩
@[simp] def iRange1 (w : WO) : WI := fun ex δ Q => w ex δ fun o δ1 => ∃ j : Int, o.get δ1 = some (.int j) ∧ (-1000000000000 ≤ j ∧ j ≤ 1000000000000) ∧ Q (rangeD 0 j) δ1
theorem di_range1 {tg : Expr} {w : WO} {p : Pos} (hg : Gl X "range") (hm : X.mg "range" = none) (h : DO X cn a w) (hs : starEach [a] X.env = [(false, eval a X.env)] := by rfl) : DI X cn tg (.Call (.Name "range" p) [a] [] pos) (iRange1 w) :=
  ⟨fun ex δ Q Q' hq q => h.mono ex δ _ _ (fun o δ' ⟨j, e1, z, x⟩ => ⟨j, e1, z, hq _ _ x⟩) q, fun G gk ex tk => (pi_range1 hg hm (pa_cons (h.run G gk ex tk) pa_nil hs) hs).imp fun σ H R ⟨W, δ, s, q⟩ => ⟨W, δ, s, h.mono ex δ _ _ (fun o δ' ⟨j, e1, z, x⟩ W' v H' x' s' r' => by
    have := (r'.get s' e1).int
    subst this
    have y := yields_rng (K := G.K) (W := W') 0 j
    rw [Int.sub_zero] at y
    exact ⟨j, rfl, by omega, by omega, x W' _ H' x' s' y⟩) q⟩⟩
@[simp] def iRange2 (w u : WO) : WI := fun ex δ Q => w ex δ fun o δ1 => u ex δ1 fun o2 δ2 => ∃ i j : Int, o.get δ2 = some (.int i) ∧ o2.get δ2 = some (.int j) ∧ (-1000000000000 ≤ i ∧ i ≤ 1000000000000 ∧ -1000000000000 ≤ j ∧ j ≤ 1000000000000) ∧ Q (rangeD i j) δ2
theorem di_range2 {tg : Expr} {w u : WO} {p : Pos} (hg : Gl X "range") (hm : X.mg "range" = none) (h : DO X cn a w) (h2 : DO X cn b u) (hs : starEach [a, b] X.env = [(false, eval a X.env), (false, eval b X.env)] := by rfl) (hs2 : starEach [b] X.env = [(false, eval b X.env)] := by rfl) : DI X cn tg (.Call (.Name "range" p) [a, b] [] pos) (iRange2 w u) :=
  ⟨fun ex δ Q Q' hq q => h.mono ex δ _ _ (fun o δ1 x => h2.mono ex δ1 _ _ (fun o2 δ2 ⟨i, j, e1, e2, z, x⟩ => ⟨i, j, e1, e2, z, hq _ _ x⟩) x) q,
   fun G gk ex tk => (pi_range2 hg hm (pa_cons (h.run G gk ex tk) (pa_cons (h2.run G gk ex tk) pa_nil (by rw [hs2]; rfl)) (by rw [hs, hs2])) hs hs2).imp fun σ H R ⟨W, δ, s, q⟩ => ⟨W, δ, s, h.mono ex δ _ _ (fun o δ1 x W1 v1 H1 x1 s1 r1 =>
    ⟨W1, δ1, s1, h2.mono ex δ1 _ _ (fun o2 δ2 ⟨i, j, e1, e2, z, x⟩ W2 v2 H2 x2 s2 r2 => by
      have := ((r1.mono x2).get s2 e1).int
      subst this
      have := (r2.get s2 e2).int
      subst this
      exact ⟨i, j, rfl, ⟨by omega, by omega, by omega, by omega⟩, x W2 _ H2 (x1.trans x2) s2 (yields_rng i j)⟩) x⟩) q⟩⟩

/-! ### for -/
def wLoop (g : WG) (b : WS) : List Dat → WS
  | [] => fun _ D δ => D.nx δ
  | d :: ds => fun ex D δ => g ex d δ fun δ1 => b ex { D with nx := wLoop g b ds ex D, ct := wLoop g b ds ex D, bk := D.nx } δ1
@[simp] def wFor (w : WI) (g : WG) (b : WS) : WS := fun ex D δ => w ex δ fun ds δ1 => wLoop g b ds ex D δ1
theorem wLoop_mono {g : WG} {b : WS} (mg : MonoG g) (mb : MonoS b) : ∀ ds, MonoS (wLoop g b ds)
  | [] => fun _ _ _ _ hl h => hl.nx _ h
  | d :: ds => fun ex D D' δ hl h => mg ex d δ _ _ (fun δ1 x => mb ex { D with nx := wLoop g b ds ex D, ct := wLoop g b ds ex D, bk := D.nx } _ δ1 ⟨fun δ2 y => wLoop_mono mg mb ds ex D D' δ2 hl y, hl.rt, hl.nx, fun δ2 y => wLoop_mono mg mb ds ex D D' δ2 hl y⟩ x) h
theorem ds_for {tg : Expr} {w : WI} {g : WG} {u : WS} (hp : PassesOwn (model X.prog X.w) X.A X.env X.xe) (hc : X.calm = true) (hi : DI X cn tg e w) (hg : DG X cn tg g) (hb : DSs X cn sts u) (hs : ∀ x, foldedSetIterable e X.env x = pure x := by intro _; rfl) :
    DS X cn (.For tg e sts [] pos) (wFor w g u) := by
  refine ⟨fun ex D D' δ hl q => hi.mono ex δ _ _ (fun ds δ1 x => wLoop_mono hg.mono hb.mono ds ex D D' δ1 hl x) q, fun G gk ex tk => (ps_for hp hc (hi.run G gk ex tk) (hg.run G gk ex tk) (hb.run G gk ex tk) hs).imp fun D σ H ⟨W, δ, s, q⟩ => ⟨W, δ, s, hi.mono ex δ _ _ (fun ds δ1 x W1 J H1 x1 s1 y1 => ?_) q⟩⟩
  refine ⟨fun i m σ' H' => m = ds.length - i ∧ i ≤ ds.length ∧ ∃ W2 δ2, Ext W1 W2 ∧ StOk G W2 δ2 σ' H' ∧ wLoop g u (ds.drop i) ex (ends G W D) δ2, ⟨ds.length, by simp, Nat.zero_le _, W1, δ1, Ext.refl W1, s1, x⟩, ?_⟩
  rintro i m σ2 H2 ⟨rfl, hle, W2, δ2, x2, s2, q2⟩
  by_cases hlt : i < ds.length
  · obtain ⟨go, yl⟩ := (y1 G rfl W2 δ2 σ2 H2 x2 s2 i).1 ds[i] (by simp [hlt])
    rw [List.drop_eq_getElem_cons hlt] at q2
    refine .inr ⟨go, fun σ' H' => ∃ W3 δ3, Ext W1 W3 ∧ StOk G W3 δ3 σ' H' ∧ wLoop g u (ds.drop (i + 1)) ex (ends G W D) δ3, fun σ' H' h => ⟨ds.length - (i + 1), by omega, rfl, hlt, h⟩, fun v H3 hy => ?_⟩
    obtain ⟨W3, x3, s3, r3⟩ := yl v H3 hy
    refine ⟨W3, δ2, ds[i], s3, r3, hg.mono ex _ δ2 _ _ (fun δ3 z W4 σ4 H4 x4 s4 => ?_) q2⟩
    refine ⟨W4, δ3, s4, hb.mono ex { ends G W D with nx := wLoop g u (ds.drop (i + 1)) ex (ends G W D), ct := wLoop g u (ds.drop (i + 1)) ex (ends G W D), bk := (ends G W D).nx } _ δ3 ?_ z⟩
    have x14 := (x2.trans x3).trans x4
    refine ⟨fun δ5 y W5 σ5 H5 x5 s5 => ⟨W5, δ5, x14.trans x5, s5, y⟩, fun d y W5 v H5 x5 s5 r5 => y W5 v H5 ((x1.trans x14).trans x5) s5 r5, fun δ5 y W5 σ5 H5 x5 s5 => y W5 σ5 H5 ((x1.trans x14).trans x5) s5, fun δ5 y W5 σ5 H5 x5 s5 => ⟨W5, δ5, x14.trans x5, s5, y⟩⟩
  · have e : i = ds.length := by omega
    subst e
    rw [List.drop_length] at q2
    exact .inl ⟨(y1 G rfl W2 δ2 σ2 H2 x2 s2 _).2 (Nat.le_refl _), q2 W2 σ2 H2 (x1.trans x2) s2⟩
/-- a for by a word over what is taken so far -/
theorem for_inv {g : WG} {b : WS} {ex : XW} {D : WEnds} (mg : MonoG g) (mb : MonoS b) (I : Nat → Dl → Prop) {ds : List Dat}
    (hs : ∀ i d δ, ds[i]? = some d → I i δ → g ex d δ fun δ1 => b ex { D with nx := I (i + 1), ct := I (i + 1), bk := D.nx } δ1) (hd : ∀ δ, I ds.length δ → D.nx δ) {δ : Dl} (h : I 0 δ) : wLoop g b ds ex D δ := by
  have key : ∀ (es : List Dat) (i : Nat) (δ : Dl), i ≤ ds.length → ds.drop i = es → I i δ → wLoop g b es ex D δ := by
    intro es
    induction es with
    | nil =>
      intro i δ hl e hi
      have : ds.length ≤ i := by simpa using e
      have h : i = ds.length := by omega
      subst h
      exact hd δ hi
    | cons d es ih =>
      intro i δ hl e hi
      have hlt : i < ds.length := by
        by_cases h : i < ds.length
        · exact h
        · rw [List.drop_eq_nil_of_le (by omega)] at e; cases e
      rw [List.drop_eq_getElem_cons hlt] at e
      injection e with e1 e2
      refine mg ex d δ _ _ (fun δ1 x => mb ex { D with nx := I (i + 1), ct := I (i + 1), bk := D.nx } _ δ1 ⟨fun δ2 y => ih (i + 1) δ2 hlt e2 y, fun _ y => y, fun _ y => y, fun δ2 y => ih (i + 1) δ2 hlt e2 y⟩ x) (hs i d δ (by simp [hlt, e1]) hi)
  exact key ds 0 δ (Nat.zero_le _) (by simp) h
end
end DL
set_option Elab.async false
set_option linter.all false
set_option maxRecDepth 100000
namespace DL
open PySem PySem.Spec PyProof.Rows L2

/-! ### comprehensions -/
@[simp] def wipeD (δ : Dl) : List Nat → Dl
  | [] => δ
  | v :: vs => (wipeD δ vs).set v .un
@[simp] def restD (δ1 δ2 : Dl) : List Nat → Dl
  | [] => δ2
  | v :: vs => (restD δ1 δ2 vs).set v (match δ1[v]? with
    | some (.fz d) => .fz d
    | _ => .un)
theorem wipe_get (σ : L2.St) : ∀ (vs : List Nat) (j : Nat), (wipe σ vs)[j]? = if j ∈ vs then (if j < σ.length then some none else none) else σ[j]?
  | [], j => by simp [wipe]
  | v :: vs, j => by
    unfold wipe
    by_cases h : j = v
    · subst h
      by_cases hl : j < σ.length
      · rw [List.getElem?_set_self (by rw [wipe_length]; exact hl)]; simp [hl]
      · rw [List.getElem?_eq_none (by rw [List.length_set, wipe_length]; omega)]; simp [hl]
    · rw [List.getElem?_set_ne (Ne.symm h), wipe_get σ vs j]
      simp [h]
theorem wipeD_length (δ : Dl) : ∀ vs : List Nat, (wipeD δ vs).length = δ.length
  | [] => rfl
  | v :: vs => by unfold wipeD; rw [List.length_set, wipeD_length δ vs]
theorem wipeD_get (δ : Dl) : ∀ (vs : List Nat) (j : Nat), (wipeD δ vs)[j]? = if j ∈ vs then (if j < δ.length then some .un else none) else δ[j]?
  | [], j => by simp [wipeD]
  | v :: vs, j => by
    unfold wipeD
    by_cases h : j = v
    · subst h
      by_cases hl : j < δ.length
      · rw [List.getElem?_set_self (by rw [wipeD_length]; exact hl)]; simp [hl]
      · rw [List.getElem?_eq_none (by rw [List.length_set, wipeD_length]; omega)]; simp [hl]
    · rw [List.getElem?_set_ne (Ne.symm h), wipeD_get δ vs j]
      simp [h]
theorem restD_length (δ1 δ2 : Dl) : ∀ vs : List Nat, (restD δ1 δ2 vs).length = δ2.length
  | [] => rfl
  | v :: vs => by unfold restD; rw [List.length_set, restD_length δ1 δ2 vs]
theorem restD_get (δ1 δ2 : Dl) : ∀ (vs : List Nat) (j : Nat), (restD δ1 δ2 vs)[j]? = if j ∈ vs then (if j < δ2.length then some (match δ1[j]? with
    | some (.fz d) => .fz d
    | _ => .un) else none) else δ2[j]?
  | [], j => by simp [restD]
  | v :: vs, j => by
    unfold restD
    by_cases h : j = v
    · subst h
      by_cases hl : j < δ2.length
      · rw [List.getElem?_set_self (by rw [restD_length]; exact hl)]; simp [hl]
      · rw [List.getElem?_eq_none (by rw [List.length_set, restD_length]; omega)]; simp [hl]
    · rw [List.getElem?_set_ne (Ne.symm h), restD_get δ1 δ2 vs j]
      simp [h]
theorem wipe_ext {σ τ : L2.St} (hl : σ.length = τ.length) {vs : List Nat} (h : ∀ j, j ∉ vs → σ[j]? = τ[j]?) : wipe σ vs = wipe τ vs := by
  apply List.ext_getElem?
  intro j
  rw [wipe_get, wipe_get, hl]
  by_cases hj : j ∈ vs
  · simp [hj]
  · simp only [hj, if_false]; exact h j hj
section
variable {G : Gh} {W W' : Wd} {δ δ' : Dl} {σ : L2.St} {H H' : Hp}
theorem StOk.wipe (s : StOk G W δ σ H) (vs : List Nat) : StOk G W (wipeD δ vs) (L2.wipe σ vs) H := by
  have key : ∀ {j : Nat} {x : DV}, (wipeD δ vs)[j]? = some x → x ≠ .un → j ∉ vs ∧ δ[j]? = some x ∧ (L2.wipe σ vs)[j]? = σ[j]? := fun {j x} e hx => by
    rw [wipeD_get] at e
    by_cases hj : j ∈ vs
    · simp only [hj, if_true] at e
      split at e
      · cases e; exact absurd rfl hx
      · cases e
    · simp only [hj, if_false] at e
      refine ⟨hj, e, ?_⟩
      rw [wipe_get]; simp [hj]
  refine ⟨s.h, ⟨by rw [wipeD_length, wipe_length]; exact s.s.len, fun i d e => ?_, fun i d e => ?_, fun i j d e a hij ei ej hi hj => ?_⟩⟩
  · obtain ⟨_, e1, e2⟩ := key e (fun z => nomatch z)
    rw [e2]; exact s.s.fz i d e1
  · obtain ⟨_, e1, e2⟩ := key e (fun z => nomatch z)
    rw [e2]; exact s.s.ow i d e1
  · obtain ⟨_, e1, e2⟩ := key ei (fun z => nomatch z)
    obtain ⟨_, e3, e4⟩ := key ej (fun z => nomatch z)
    rw [e2] at hi; rw [e4] at hj
    exact s.s.ne i j d e a hij e1 e3 hi hj
theorem StOk.rest {δ1 δ2 : Dl} {H1 H2 : Hp} {vs : List Nat} (s1 : StOk G W δ1 σ H1) (x : Ext W W') (s2 : StOk G W' δ2 (L2.wipe σ vs) H2) : StOk G W' (restD δ1 δ2 vs) σ H2 := by
  have hl2 : δ2.length = σ.length := by rw [s2.s.len, wipe_length]
  have keyO : ∀ {j : Nat} {d : Dat}, (restD δ1 δ2 vs)[j]? = some (.ow d) → δ2[j]? = some (.ow d) ∧ (L2.wipe σ vs)[j]? = σ[j]? := fun {j d} e => by
    rw [restD_get] at e
    by_cases hj : j ∈ vs
    · simp only [hj, if_true] at e
      split at e
      · split at e <;> cases e
      · cases e
    · simp only [hj, if_false] at e
      exact ⟨e, by rw [wipe_get]; simp [hj]⟩
  refine ⟨s2.h, ⟨by rw [restD_length]; exact hl2, fun i d e => ?_, fun i d e => ?_, fun i j d e a hij ei ej hi hj => ?_⟩⟩
  · rw [restD_get] at e
    by_cases hj : i ∈ vs
    · simp only [hj, if_true] at e
      split at e
      · split at e
        · rename_i d' e'
          cases e
          obtain ⟨v, q, r⟩ := s1.s.fz i d e'
          exact ⟨v, q, r.mono x⟩
        · cases e
      · cases e
    · simp only [hj, if_false] at e
      obtain ⟨v, q, r⟩ := s2.s.fz i d e
      rw [wipe_get] at q
      simp only [hj, if_false] at q
      exact ⟨v, q, r⟩
  · obtain ⟨e1, e2⟩ := keyO e
    obtain ⟨a, o, q, r⟩ := s2.s.ow i d e1
    exact ⟨a, o, by rw [← e2]; exact q, r⟩
  · obtain ⟨e1, e2⟩ := keyO ei
    obtain ⟨e3, e4⟩ := keyO ej
    rw [← e2] at hi; rw [← e4] at hj
    exact s2.s.ne i j d e a hij e1 e3 hi hj
end
/-- a comprehension's target: a name, a tuple of names -/
inductive CT where
  | one (i : Nat) | many (is : List Nat)
@[simp] def CT.own : CT → List Nat
  | .one i => [i]
  | .many is => is
@[simp] def CT.bind : CT → Dat → Dl → Option Dl
  | .one i, d, δ => some (δ.set i (.fz d))
  | .many is, .tup ds, δ => setsD is (ds.map DV.fz) δ
  | .many _, _, _ => none
def tCT (K : PySem.W.Frag) : CT → TG
  | .one i => gName i
  | .many is => gTup K is.length fun vs σ H Q => ∃ σ', setsV is vs σ = some σ' ∧ Q σ' H
structure DC (X : Cx) (tg : Expr) (ct : CT) : Prop where
  run : PG X tg (tCT X.K ct)
section
variable {X : Cx} {cn : Str → Value} {pos : Pos} {e a b c : Expr} {es : List Expr} {st : Stmt} {sts : List Stmt}
theorem dc_one {i : Nat} {x : Str} (hN : X.N.Nodup) (hi : X.N[i]? = some x) (hx : Loc X.env.scope x) (hf : X.fn x = true ∨ X.env.scope.names.lookup x = some .local := by first | exact .inl rfl | exact .inr rfl | assumption) : DC X (.Name x pos) (.one i) := ⟨pg_name hN hi hx hf⟩
theorem dc_many {is : List Nat} {k : Nat} (hc : X.calm = true) (h : PNs X es is) (hn : (assignEach es X.env).length = is.length := by rfl) (hst : (assignEach es X.env).findIdx? (·.1) = none := by rfl) : DC X (.Tuple es k pos) (.many is) := ⟨pg_tup hc h.run hn hst⟩
/-- tests of a clause -/
structure DTs (X : Cx) (cn : Str → Value) (es : List Expr) (w : WT) : Prop where
  mono : MonoT w
  run : ∀ (G : Gh), GOk X cn G → ∀ ex, TakesD X G ex → PTs X es (rdT G ex w)
@[simp] def tYesD : WT := fun _ δ Q => Q true δ
theorem dts_nil : DTs X cn [] tYesD := ⟨fun _ _ _ _ hq h => hq _ _ h, fun G gk ex tk => ⟨fun pins s σ H Q I ⟨W, δ, st, q⟩ => pts_nil.run pins s σ H Q I (q W H (Ext.refl W) st)⟩⟩
theorem dts_one {w : WT} (h : DT X cn e w) : DTs X cn [e] w := ⟨h.mono, fun G gk ex tk => pts_one (h.run G gk ex tk)⟩
abbrev noX : XW := fun _ _ => False
def wCLoop (ct : CT) (own : List Nat) (t : WT) (w : WE) : List Dat → Dl → List Dat → (List Dat → Dl → Prop) → Prop
  | [], δ, acc, Q => Q acc δ
  | d :: ds, δ, acc, Q => ∃ δ1, ct.bind d δ = some δ1 ∧ t noX δ1 fun k δ2 => if k = true then w noX δ2 fun r δ3 => acc.length < 1000000 ∧ wCLoop ct own t w ds (wipeD δ3 own) (acc ++ [r]) Q else wCLoop ct own t w ds (wipeD δ2 own) acc Q
@[simp] def wComp (wi : WI) (ct : CT) (own : List Nat) (t : WT) (w : WE) : WV := fun ex δ Q => wi ex δ fun items δ1 => wCLoop ct own t w items (wipeD δ1 own) [] fun out δ2 => Q (.ow (.lst out)) (restD δ1 δ2 own)
theorem wCLoop_mono {ct : CT} {own : List Nat} {t : WT} {w : WE} (mt : MonoT t) (mw : MonoE w) : ∀ (ds : List Dat) {δ : Dl} {acc : List Dat} {Q Q' : List Dat → Dl → Prop}, (∀ o δ, Q o δ → Q' o δ) → wCLoop ct own t w ds δ acc Q → wCLoop ct own t w ds δ acc Q'
  | [], _, _, _, _, hq, h => hq _ _ h
  | d :: ds, _, _, _, _, hq, ⟨δ1, e, h⟩ => ⟨δ1, e, mt noX δ1 _ _ (fun k δ2 x => by
    cases k with
    | true => exact mw noX δ2 _ _ (fun r δ3 y => ⟨y.1, wCLoop_mono mt mw ds hq y.2⟩) x
    | false => exact wCLoop_mono mt mw ds hq x) h⟩
theorem wComp_mono {wi : WI} {ct : CT} {own : List Nat} {t : WT} {w : WE} (mi : MonoA wi) (mt : MonoT t) (mw : MonoE w) : MonoV (wComp wi ct own t w) := fun ex δ Q Q' hq h => mi ex δ _ _ (fun items δ1 x => wCLoop_mono mt mw items (fun o δ2 y => hq _ _ y) x) h
theorem Free.wipe {G : Gh} {W : Wd} {δ : Dl} {σ : L2.St} {H : Hp} {p : Addr} {o : HO} (f : Free G W δ σ H p o) (vs : List Nat) : Free G W (wipeD δ vs) (L2.wipe σ vs) H p o := by
  refine ⟨f.at_, f.g, f.b, f.h0, fun j d e z => ?_⟩
  rw [wipeD_get] at e
  rw [wipe_get] at z
  by_cases hj : j ∈ vs
  · simp only [hj, if_true] at e
    split at e <;> cases e
  · simp only [hj, if_false] at e z
    exact f.ns j d e z
theorem StOk.app {G : Gh} {W : Wd} {δ : Dl} {σ : L2.St} {H : Hp} {p : Addr} {o o' : HO} (s : StOk G W δ σ H) (f : Free G W δ σ H p o) : StOk G W δ σ (upd H p o') ∧ Free G W δ σ (upd H p o') p o' := by
  refine ⟨⟨s.h.chg f.g f.b f.h0, ⟨s.s.len, s.s.fz, fun i d e => ?_, s.s.ne⟩⟩, ⟨upd_same, f.g, f.b, f.h0, f.ns⟩⟩
  obtain ⟨b, u, q1, q2, q3⟩ := s.s.ow i d e
  exact ⟨b, u, q1, by rw [upd_ne (fun z => by subst z; exact f.ns i d e q1)]; exact q2, q3⟩
/-- binding: the slots behind -/
theorem CT.bind_ok {G : Gh} {W : Wd} {δ δ1 : Dl} {σ : L2.St} {H : Hp} {v : V} {d : Dat} {ct : CT} {own : List Nat} (hown : ∀ i ∈ ct.own, i ∈ own) (hK : G.K = X.K) (s : StOk G W δ (L2.wipe σ own) H) (r : Rep G.K W v d) (e : ct.bind d δ = some δ1) {Q : L2.St → Hp → Prop}
    (h : ∀ σ2, StOk G W δ1 σ2 H → L2.wipe σ2 own = L2.wipe σ own → Q σ2 H) : tCT X.K ct v (L2.wipe σ own) H Q := by
  have wset : ∀ {τ : L2.St} {i : Nat} {x : Option V}, i ∈ own → τ.length = σ.length → L2.wipe τ own = L2.wipe σ own → L2.wipe (τ.set i x) own = L2.wipe σ own := fun {τ i x} hi hl hw => by
    rw [← hw]
    refine wipe_ext (by simp) fun j hj => ?_
    rw [List.getElem?_set_ne (fun z => by subst z; exact hj hi)]
  have w0 : L2.wipe (L2.wipe σ own) own = L2.wipe σ own := wipe_ext (wipe_length _ _) fun j hj => by rw [wipe_get]; simp [hj]
  cases ct with
  | one i =>
    cases e
    exact h _ (s.setF r i) (wset (hown i (by simp [CT.own])) (wipe_length _ _) w0)
  | many is =>
    cases d with
    | tup ds =>
      have e : setsD is (ds.map DV.fz) δ = some δ1 := e
      obtain ⟨p, vs, rfl, h1, k1, r1⟩ := RepB.tup s.h (.inl r)
      rw [hK] at h1
      have rj : RepJs G W δ (L2.wipe σ own) H vs (ds.map DV.fz) := by
        have key : ∀ {us : List V} {fs : List Dat}, RepAll G.K W us fs → RepJs G W δ (L2.wipe σ own) H us (fs.map DV.fz) := by
          intro us fs q
          induction fs generalizing us with
          | nil => cases q; exact .nil
          | cons f fs ih =>
            cases q with
            | cons q1 q2 => exact .cons q1 (fun _ z => nomatch z) (ih q2)
        exact key r1
      obtain ⟨σ', e1, s2⟩ := sets_ok s rj e
      refine ⟨p, vs, rfl, h1, setsV_len e1, σ', e1, h σ' s2 ?_⟩
      have key : ∀ (is : List Nat) (vs : List V) (τ τ' : L2.St), (∀ i ∈ is, i ∈ own) → τ.length = σ.length → L2.wipe τ own = L2.wipe σ own → setsV is vs τ = some τ' → L2.wipe τ' own = L2.wipe σ own := by
        intro is
        induction is with
        | nil =>
          intro vs τ τ' _ _ hw e
          cases vs with
          | nil => cases e; exact hw
          | cons _ _ => cases e
        | cons i is ih =>
          intro vs τ τ' hi hl hw e
          cases vs with
          | nil => cases e
          | cons v vs => exact ih vs _ τ' (fun j hj => hi j (List.mem_cons_of_mem _ hj)) (by simp [hl]) (wset (hi i List.mem_cons_self) hl hw) e
      exact key is vs _ σ' hown (wipe_length _ _) w0 e1
    | _ => cases e
theorem takes_no {G : Gh} {Y : Cx} : TakesD Y G noX := fun u s' ⟨_, _, _, _, _, _, _, _, _, _, _, _, _, _, _, _, z⟩ => by
  obtain ⟨_, _, _, _, _, z⟩ := z
  exact z.elim
theorem rd_comp {tg : Expr} {wi : WI} {ct : CT} {own : List Nat} {t : WT} {w : WE} {G : Gh} {ex : XW} (hown : ∀ i ∈ ct.own, i ∈ own) (hK : G.K = X.K) (mi : MonoA wi) (mt : MonoT t) (mw : MonoE w) {σ : L2.St} {H : Hp} {Q : VK} {tt : TT} {te : TE}
    (htt : ∀ G' : Gh, G'.K = G.K → G'.cn = G.cn → ∀ σ H Q, rdT G' noX t σ H Q → tt σ H Q) (hte : ∀ G' : Gh, G'.K = G.K → G'.cn = G.cn → ∀ σ H Q, rdE G' noX w σ H Q → te σ H Q) (h : rdJ G ex (wComp wi ct own t w) σ H Q) :
    tLc (rdI G ex wi) (tCT X.K ct) tt te own σ H Q := by
  obtain ⟨W, δ, s, h⟩ := h
  refine ⟨W, δ, s, mi ex δ _ _ (fun items δ1 h1 W1 J H1 x1 s1 y1 => ?_) h⟩
  intro D hD
  refine ⟨fun i m H' => m = items.length - i ∧ i ≤ items.length ∧ ∃ W2 δ2 accV acc, Ext W1 W2 ∧ StOk G W2 δ2 (L2.wipe σ own) H' ∧ Free G W2 δ2 (L2.wipe σ own) H' D (.lst accV) ∧ RepAll G.K W2 accV acc ∧
    wCLoop ct own t w (items.drop i) δ2 acc fun out δ3 => PostJ G W σ Q (.ow (.lst out)) (restD δ1 δ3 own), ⟨items.length, by simp, Nat.zero_le _, W1, wipeD δ1 own, [], [], Ext.refl W1, (s1.newFree hD).1.wipe own, (s1.newFree hD).2.wipe own, .nil, by simpa using h1⟩, ?_⟩
  rintro i m H2 ⟨rfl, hle, W2, δ2, accV, acc, x2, s2, f2, r2, q2⟩
  by_cases hlt : i < items.length
  · rw [List.drop_eq_getElem_cons hlt] at q2
    obtain ⟨δb, eb, q2⟩ := q2
    have w0 : G.W0.g D = none := by
      cases e : G.W0.g D with
      | none => rfl
      | some u => exact ((s2.h.ext.g D u e).none f2.g).elim
    have b0 : ¬ G.W0.bag D := fun z => f2.b (s2.h.ext.b D z)
    obtain ⟨go, yl⟩ := (y1 G rfl W2 δ2 _ H2 x2 s2 i).1 items[i] (by simp [hlt])
    refine .inr ⟨go, fun H' => ∃ W3 δ3 accV3 acc3, Ext W1 W3 ∧ StOk G W3 δ3 (L2.wipe σ own) H' ∧ Free G W3 δ3 (L2.wipe σ own) H' D (.lst accV3) ∧ RepAll G.K W3 accV3 acc3 ∧
      wCLoop ct own t w (items.drop (i + 1)) δ3 acc3 fun out δ4 => PostJ G W σ Q (.ow (.lst out)) (restD δ1 δ4 own), fun H' h => ⟨items.length - (i + 1), by omega, rfl, hlt, h⟩, fun v H3 hy => ?_⟩
    -- the yield under the held list
    obtain ⟨_, yl'⟩ := (y1 (G.hold D (.lst accV)) rfl W2 δ2 _ H2 x2 (s2.hold f2) i).1 items[i] (by simp [hlt])
    obtain ⟨W3, x3, s3, r3⟩ := yl' v H3 hy
    refine CT.bind_ok (G := G.hold D (.lst accV)) hown hK s3 r3 eb fun σ2 s4 hw => ⟨hw, ?_⟩
    refine htt (G.hold D (.lst accV)) rfl rfl _ _ _ ⟨W3, δb, s4, mt noX δb _ _ (fun k δ5 hk W5 H5 x5 s5 => ?_) q2⟩
    have back : ∀ {W6 : Wd} {δ6 : Dl} {H6 : Hp}, Ext W3 W6 → StOk (G.hold D (.lst accV)) W6 δ6 σ2 H6 → StOk G W6 (wipeD δ6 own) (L2.wipe σ own) H6 ∧ Free G W6 (wipeD δ6 own) (L2.wipe σ own) H6 D (.lst accV) := fun {W6 δ6 H6} x6 s6 => by
      obtain ⟨a1, a2⟩ := StOk.unhold f2 (x3.trans x6) w0 b0 s6
      rw [← hw]
      exact ⟨a1.wipe own, a2.wipe own⟩
    cases k with
    | false =>
      obtain ⟨a1, a2⟩ := back x5 s5
      exact ⟨W5, _, accV, acc, (x2.trans x3).trans x5, a1, a2, r2.mono (x3.trans x5), hk⟩
    | true =>
      show if true = true then _ else _
      refine iteT ?_
      refine hte (G.hold D (.lst accV)) rfl rfl _ _ _ ⟨W5, δ5, s5, mw noX δ5 _ _ (fun r δ6 hr W6 y H6 x6 s6 r6 => ?_) hk⟩
      obtain ⟨a1, a2⟩ := back (x5.trans x6) s6
      refine ⟨accV, a2.at_, by rw [r2.length]; exact Nat.lt_of_lt_of_le hr.1 (mil (Nat.le_refl _)), W6, _, accV ++ [y], acc ++ [r], (x2.trans x3).trans (x5.trans x6), (a1.app a2).1, (a1.app a2).2, (r2.mono (x3.trans (x5.trans x6))).append (.cons r6 .nil), hr.2⟩
  · have e : i = items.length := by omega
    subst e
    rw [List.drop_length] at q2
    refine .inl ⟨(y1 G rfl W2 δ2 _ H2 x2 s2 _).2 (Nat.le_refl _), ?_⟩
    have q2 : PostJ G W σ Q (.ow (.lst acc)) (restD δ1 δ2 own) := q2
    have s3 := s1.rest x2 s2
    refine q2 W2 (.ref D) H2 (x1.trans x2) s3 ⟨D, _, rfl, .lst r2, ⟨f2.at_, f2.g, f2.b, f2.h0, fun j d ej z => ?_⟩⟩
    obtain ⟨p, u, q1, q3, q4, q5, q6, q7⟩ := s3.s.ow j d ej
    rw [restD_get] at ej
    by_cases hj : j ∈ own
    · simp only [hj, if_true] at ej
      split at ej
      · split at ej <;> cases ej
      · cases ej
    · simp only [hj, if_false] at ej
      exact f2.ns j d ej (by rw [wipe_get]; simp only [hj, if_false]; exact z)
theorem dj_comp {elt tg : Expr} {ifs : List Expr} {scope : Scope} {own : List (Str × Nat)} {wi : WI} {ct : CT} {t : WT} {w : WE} (hown : ∀ i ∈ ct.own, i ∈ own.map (·.2)) (hc : X.calm = true) (hN : X.N.Nodup) (hi : DI X cn tg e wi) (ok : BlkOk X.N X.env.scope scope own)
    (hg : ∀ (s : Shared) (H : Hp) (C : Addr) (cl : List (Str × Addr)) (fp : List Addr), DC (X.blk s H scope (compEnvC scope cl C X.env) fp) tg ct) (ht : ∀ (s : Shared) (H : Hp) (C : Addr) (cl : List (Str × Addr)) (fp : List Addr), DTs (X.blk s H scope (compEnvC scope cl C X.env) fp) cn ifs t)
    (he : ∀ (s : Shared) (H : Hp) (C : Addr) (cl : List (Str × Addr)) (fp : List Addr), DE (X.blk s H scope (compEnvC scope cl C X.env) fp) cn elt w) (mt : MonoT t) (mw : MonoE w) (hs : ∀ x, foldedSetIterable e X.env x = pure x := by intro _; rfl) :
    DJ X cn (.ListComp elt [⟨tg, e, ifs, 0⟩] scope pos) (wComp wi ct (own.map (·.2)) t w) :=
  ⟨wComp_mono hi.mono mt mw, fun G gk ex tk => (pe_lc (tt := fun σ H Q => ∃ G' : Gh, G'.K = G.K ∧ G'.cn = G.cn ∧ rdT G' noX t σ H Q) (te := fun σ H Q => ∃ G' : Gh, G'.K = G.K ∧ G'.cn = G.cn ∧ rdE G' noX w σ H Q) hc hN (hi.run G gk ex tk) ok (fun s H C cl fp => (hg s H C cl fp).run)
    (fun s H C cl fp => ⟨fun pins s' σ H Q I ⟨G', k1, k2, q⟩ => ((ht s _ C cl fp).run G' ⟨k1.trans gk.K, k2.trans gk.cn⟩ noX takes_no).run pins s' σ H Q I q⟩)
    (fun s H C cl fp => ⟨fun pins s' σ H Q I ⟨G', k1, k2, q⟩ => ((he s _ C cl fp).run G' ⟨k1.trans gk.K, k2.trans gk.cn⟩ noX takes_no).run pins s' σ H Q I q⟩) hs).imp fun σ H Q h =>
      rd_comp (tg := tg) hown gk.K hi.mono mt mw (fun G' k1 k2 σ H Q q => ⟨G', k1, k2, q⟩) (fun G' k1 k2 σ H Q q => ⟨G', k1, k2, q⟩) h⟩
/-- name = [..] on one line, the name a local -/
theorem ds_setLc {i : Nat} {y : Str} {py : Pos} {elt tg : Expr} {ifs : List Expr} {scope : Scope} {own : List (Str × Nat)} {cpos : Pos} {wi : WI} {ct : CT} {t : WT} {w : WE} (hown : ∀ i ∈ ct.own, i ∈ own.map (·.2)) (hc : X.calm = true) (hN : X.N.Nodup) (hy : X.N[i]? = some y) (hyl : X.env.scope.names.lookup y = some .local)
    (hsw : swapsWith (.ListComp elt [⟨tg, e, ifs, 0⟩] scope cpos) (some (.Name y py)) pos.line X.env = pure true) (hi : DI X cn tg e wi) (ok : BlkOk X.N X.env.scope scope own)
    (hg : ∀ (s : Shared) (H : Hp) (C : Addr) (cl : List (Str × Addr)) (fp : List Addr), DC (X.blk s H scope (compEnvC scope cl C X.env) fp) tg ct) (ht : ∀ (s : Shared) (H : Hp) (C : Addr) (cl : List (Str × Addr)) (fp : List Addr), DTs (X.blk s H scope (compEnvC scope cl C X.env) fp) cn ifs t)
    (he : ∀ (s : Shared) (H : Hp) (C : Addr) (cl : List (Str × Addr)) (fp : List Addr), DE (X.blk s H scope (compEnvC scope cl C X.env) fp) cn elt w) (mt : MonoT t) (mw : MonoE w) (hs : ∀ x, foldedSetIterable e X.env x = pure x := by intro _; rfl) :
    DS X cn (.Assign [.Name y py] (.ListComp elt [⟨tg, e, ifs, 0⟩] scope cpos) pos) (wAsg i (wComp wi ct (own.map (·.2)) t w)) :=
  ⟨fun ex D D' δ hl q => wComp_mono hi.mono mt mw ex δ _ _ (fun v δ' x => ⟨x.1, hl.nx _ x.2⟩) q, fun G gk ex tk => (ps_setLc (tt := fun σ H Q => ∃ G' : Gh, G'.K = G.K ∧ G'.cn = G.cn ∧ rdT G' noX t σ H Q) (te := fun σ H Q => ∃ G' : Gh, G'.K = G.K ∧ G'.cn = G.cn ∧ rdE G' noX w σ H Q) hc hN hy hyl hsw (hi.run G gk ex tk) ok (fun s H C cl fp => (hg s H C cl fp).run)
    (fun s H C cl fp => ⟨fun pins s' σ H Q I ⟨G', k1, k2, q⟩ => ((ht s _ C cl fp).run G' ⟨k1.trans gk.K, k2.trans gk.cn⟩ noX takes_no).run pins s' σ H Q I q⟩)
    (fun s H C cl fp => ⟨fun pins s' σ H Q I ⟨G', k1, k2, q⟩ => ((he s _ C cl fp).run G' ⟨k1.trans gk.K, k2.trans gk.cn⟩ noX takes_no).run pins s' σ H Q I q⟩) hs).imp fun D σ H ⟨W, δ, s, q⟩ =>
      rd_comp (tg := tg) (Q := fun x H1 => gName i x σ H1 D.nx) hown gk.K hi.mono mt mw (fun G' k1 k2 σ H Q q => ⟨G', k1, k2, q⟩) (fun G' k1 k2 σ H Q q => ⟨G', k1, k2, q⟩) ⟨W, δ, s, wComp_mono hi.mono mt mw ex δ _ _ (fun v δ' x W' u H' x' s' r' => x.2 W' _ H' x' (s'.setJ r' i)) q⟩⟩

/-! ### methods of owned lists -/
@[simp] def wAppend (i : Nat) (w : WE) : WE := fun ex δ Q => (∃ ds, δ[i]? = some (.ow (.lst ds))) ∧ w ex δ fun d δ1 => ∃ ds, δ1[i]? = some (.ow (.lst ds)) ∧ ds.length < 1000000 ∧ Q .non (δ1.set i (.ow (.lst (ds ++ [d]))))
theorem StOk.ownL {G : Gh} {W : Wd} {δ : Dl} {σ : L2.St} {H : Hp} {i : Nat} {ds : List Dat} (s : StOk G W δ σ H) (e : δ[i]? = some (.ow (.lst ds))) : ∃ p vs, σ[i]? = some (some (.ref p)) ∧ H p = some (.lst vs) ∧ RepAll G.K W vs ds := by
  obtain ⟨p, o, e1, e2, r, _⟩ := s.s.ow i _ e
  cases r with
  | lst r => exact ⟨p, _, e1, e2, r⟩
theorem de_append {i : Nat} {x : Str} {w : WE} {px apos cpos : Pos} (hN : X.N[i]? = some x := by rfl) (hv : Vis X.env.scope x := by first | exact Or.inl rfl | exact Or.inr (Or.inl rfl) | exact Or.inr (Or.inr rfl)) (he : DE X cn e w)
    (hbase : attributeBase (.Name x px) "append" X.env (eval (.Name x px) X.env) = eval (.Name x px) X.env := by rfl)
    (hfew : ((backTo cpos (starEach [e] X.env)).all (fun x => !x.1) && (backToKw cpos (keywordEach [] X.env)).all (fun x => x.1.isSome)
      && decide (([e] : List Expr).length + ([] : List Keyword).length + (if ([] : List Keyword).isEmpty then 0 else 1) < 30)) = true := by rfl)
    (hline : (apos.endLine == cpos.line) = true := by rfl) (hs : starEach [e] X.env = (false, eval e X.env) :: starEach [] X.env := by rfl) (hd : (x == ("__debug__" : Str)) = false := by decide)
    (hcd : (x == ("__classdict__" : Str)) = false := by decide) : DE X cn (.Call (.Attribute (.Name x px) "append" apos) [e] [] cpos) (wAppend i w) :=
  ⟨fun ex δ Q Q' hq h => ⟨h.1, he.mono ex δ _ _ (fun d δ1 ⟨ds, e1, z, q⟩ => ⟨ds, e1, z, hq _ _ q⟩) h.2⟩,
   fun G gk ex tk => (pe_bm PySem.F.plainAttrs_list PySem.F.slot_list_append PySem.F.type_list_append mt_append (pe_var hN hv hd hcd) (pa_cons (he.run G gk ex tk) pa_nil hs) hbase hfew hline hs (by rfl)).imp fun σ H Q ⟨W, δ, s, ⟨ds, e0⟩, h⟩ => by
    obtain ⟨p, vs, e1, e2, r⟩ := s.ownL e0
    refine ⟨.ref p, e1, .inl ⟨rfl, vs, SqL.of e2⟩, W, δ, s, he.mono ex δ _ _ (fun d δ1 ⟨ds1, e3, z, q⟩ W1 v H1 x1 s1 r1 => ?_) h⟩
    obtain ⟨p', vs', e4, e5, r5⟩ := s1.ownL e3
    rw [e1] at e4; cases e4
    exact ⟨p, vs', v, rfl, rfl, e5, by rw [r5.length]; exact Nat.lt_of_lt_of_le z (mil (Nat.le_refl _)), q W1 .non _ x1 (s1.chg e3 e1 (.lst (r5.append (.cons r1 .nil)))) .non⟩⟩

/-! ### a def keeps its promise -/
/-- the slots at the entry -/
@[simp] def startD (n : Nat) (ds : List Dat) : Dl := ds.map DV.fz ++ List.replicate (n - ds.length) .un
theorem start_ok {G : Gh} {W : Wd} {H : Hp} {N : List Str} {vs : List V} {ds : List Dat} (h : HpOk G W H) (r : RepAll G.K W vs ds) : StOk G W (startD N.length ds) (start N vs) H := by
  have hl := r.length
  refine ⟨h, ⟨by simp [startD, L2.start, hl], fun i d e => ?_, fun i d e => ?_, fun i j d e a _ ei _ _ _ => ?_⟩⟩
  · unfold startD at e
    by_cases hi : i < ds.length
    · rw [List.getElem?_append_left (by simpa using hi), List.getElem?_map] at e
      obtain ⟨d', e1, e2⟩ := Option.map_eq_some_iff.mp e
      cases e2
      obtain ⟨v, e3, r3⟩ := r.get e1
      refine ⟨v, ?_, r3⟩
      unfold L2.start
      rw [List.getElem?_append_left (by simp [hl, hi]), List.getElem?_map, e3]; rfl
    · rw [List.getElem?_append_right (by simpa using hi)] at e
      have := List.eq_of_mem_replicate (List.mem_of_getElem? e)
      cases this
  all_goals
    exfalso
    first
      | (unfold startD at e
         by_cases hi : i < ds.length
         · rw [List.getElem?_append_left (by simpa using hi), List.getElem?_map] at e
           obtain ⟨d', e1, e2⟩ := Option.map_eq_some_iff.mp e
           cases e2
         · rw [List.getElem?_append_right (by simpa using hi)] at e
           have := List.eq_of_mem_replicate (List.mem_of_getElem? e)
           cases this)
      | (unfold startD at ei
         by_cases hi : i < ds.length
         · rw [List.getElem?_append_left (by simpa using hi), List.getElem?_map] at ei
           obtain ⟨d', e1, e2⟩ := Option.map_eq_some_iff.mp ei
           cases e2
         · rw [List.getElem?_append_right (by simpa using hi)] at ei
           have := List.eq_of_mem_replicate (List.mem_of_getElem? ei)
           cases this)
/-- a def's body and what it promises -/
def Keeps (n m : Nat) (w : WS) (Φ : DSp) : Prop := ∀ ds P ex, Φ ds P ex → ds.length = m ∧ w (fun x _ => ex x) { nx := fun _ => P .non, rt := P } (startD n ds)
section
variable {Pg : Program} {w : World} {K : PySem.W.Frag} {mg : Str → Option Value} {base : Heap}
theorem fn_ok {x qual : Str} {st : Stmt} {f : Addr} {fd : FuncData} {N ps : List Str} {k : Nat} {Φ : DSp} {ws : WS} (F : Fun K x qual st f fd) (S : FnScope N ps (defScope st)) (hk : Keeps N.length ps.length ws Φ)
    (hbody : ∀ (cdv : Value) (A : Around) (outer : List Env) (s : Shared) (H : Hp) (E : XK), Room k (A.deeper (envOfC qual (defScope st) s.heap.objs.size f cdv)) →
      DSs (cxOf (L2.CX Pg w) Pg w K mg base N qual (defScope st) f cdv A outer s H E) cn (defBody st) ws) : FnOk Pg w K mg base (L2.CX Pg w) (k + 1) f fd ps (lift K cn Φ) := by
  refine F.okX S (fun vs H Q E h => ?_) (fun cdv A outer s H vs Q E hr h => ?_)
  · obtain ⟨W, ds, P, ex, r, _, hΦ, _⟩ := h
    rw [r.length]; exact (hk ds P ex hΦ).1
  · obtain ⟨W, ds, P, ex, r, hh, hΦ, hq, hx⟩ := h
    have D := hbody cdv A outer s H E hr
    have tk : TakesD (cxOf (L2.CX Pg w) Pg w K mg base N qual (defScope st) f cdv A outer s H E) ⟨K, W, H, cn⟩ (fun x _ => ex x) := Takes.imp (takes_of (E₁ := _) rfl rfl rfl (E := E) rfl) fun cls d σ H' ⟨W', x, δ, s', r, q⟩ => hx cls d H' ⟨W', x, s'.h, r, q⟩
    refine ⟨_, D.run ⟨K, W, H, cn⟩ ⟨rfl, rfl⟩ _ tk, W, startD N.length ds, start_ok hh r, ?_⟩
    refine D.mono _ _ _ _ ?_ (hk ds P ex hΦ).2
    exact ⟨fun δ y W' σ H' x' s' => hq W' .non .non H' s'.h .non y, fun d y W' v H' x' h' r' => hq W' v d H' h' r' y, fun δ y => y.elim, fun δ y => y.elim⟩
end
end
end DL
set_option Elab.async false
set_option linter.all false
set_option maxRecDepth 100000
namespace DL
open PySem PySem.Spec PyProof.Rows L2

theorem int_sub_bool_bool (a b : Bool) :
    Gives (Builtin.«int.__sub__» ⟨[.bool a, .bool b], []⟩) (.int ((if a = true then (1 : Int) else 0) - (if b = true then (1 : Int) else 0))) :=
  .of_wp fun M A E s Q h => by obtain ⟨hp, g, d, tk, os⟩ := s; wp_walk; exact ⟨_, rfl, h⟩
theorem sub_bool_bool' {prog : Program} {w : World} {A : Around} {E : Value → Shared → Prop} {s : Shared} {Q : Value → Shared → Prop} {a b : Bool} (h : Q (.int ((if a = true then (1 : Int) else 0) - (if b = true then (1 : Int) else 0)) s.toks) { s with toks := s.toks + 1 }) : wpAny (model prog w) A (binaryOp .Sub (.bool a) (.bool b)) Q E s :=
  binaryOp_gives (op := .Sub) (T := "bool") rfl rfl F.fills_bool_sub F.slot_bool_sub F.entry_int_sub (F.args_int_sub_2 _ _) (int_sub_bool_bool a b) trivial h

section
variable {X : Cx} {cn : Str → Value} {pos : Pos} {e a b c : Expr} {es : List Expr} {st : Stmt} {sts : List Stmt}
/-! ### - -/
@[simp] def gSubA : Dat → Dat → (DV → Prop) → Prop
  | .int i, .int j, P => P (.fz (.int (i - j)))
  | .bl i, .bl j, P => P (.fz (.int ((if i = true then 1 else 0) - (if j = true then 1 else 0))))
  | _, _, _ => False
theorem gSubA_mono : MonoG2 gSubA := fun d e P P' h q => by
  cases d <;> cases e <;> first | exact q.elim | exact h _ q
def rSubA : R2 := fun x y H Q => (rI0 (fun i j => .int (i - j)) x y H Q) ∨ (∃ i k, x = .bl i ∧ y = .bl k ∧ Q (.int ((if i = true then 1 else 0) - (if k = true then 1 else 0))) H)
theorem op_subB : OpR X (binaryOp .Sub) rSubA := op_sub.or (by
  intro pins s σ H x y v u Q I rx ry h
  obtain ⟨i, k, rfl, rfl, q⟩ := h
  cases rx; cases ry
  exact sub_bool_bool' ⟨.int _, H, I.tok _, ⟨_, rfl⟩, q⟩)
theorem does_sub : Does2 X gSubA rSubA := by
  intro G hK W δ σ H x y d e P Q s rx ry hg hz
  cases d with
  | int i =>
    cases e with
    | int j => rw [rx.int, ry.int]; exact .inl ⟨i, j, rfl, rfl, hz _ W _ H hg (Ext.refl W) s .int⟩
    | _ => exact hg.elim
  | bl i =>
    cases e with
    | bl j => rw [rx.bl, ry.bl]; exact .inr ⟨i, j, rfl, rfl, hz _ W _ H hg (Ext.refl W) s .int⟩
    | _ => exact hg.elim
  | _ => exact hg.elim

/-! ### a < b < c -/
@[simp] def wChain (g g' : Dat → Dat → (DV → Prop) → Prop) (wa wb wc : WO) : WE := fun ex δ Q => wa ex δ fun o1 δ1 => wb ex δ1 fun o2 δ2 => ∃ d1 d2, o1.get δ2 = some d1 ∧ o2.get δ2 = some d2 ∧ g d1 d2 fun r => ∃ k, r = .fz (.bl k) ∧
  if k = true then wc ex δ2 fun o3 δ3 => ∃ d2' d3, o2.get δ3 = some d2' ∧ o3.get δ3 = some d3 ∧ g' d2' d3 fun r => ∃ k, r = .fz (.bl k) ∧ Q (.bl k) δ3 else Q (.bl false) δ2
theorem wChain_mono {g g' : Dat → Dat → (DV → Prop) → Prop} {wa wb wc : WO} (mg : MonoG2 g) (mg' : MonoG2 g') (ma : MonoO wa) (mb : MonoO wb) (mc : MonoO wc) : MonoE (wChain g g' wa wb wc) := fun ex δ Q Q' hq h =>
  ma ex δ _ _ (fun o1 δ1 h1 => mb ex δ1 _ _ (fun o2 δ2 ⟨d1, d2, e1, e2, hg⟩ => ⟨d1, d2, e1, e2, mg d1 d2 _ _ (fun r ⟨k, e, x⟩ => ⟨k, e, by
    cases k with
    | false => exact hq _ _ x
    | true => exact mc ex δ2 _ _ (fun o3 δ3 ⟨d2', d3, e3, e4, hg'⟩ => ⟨d2', d3, e3, e4, mg' _ _ _ _ (fun r ⟨k, e, y⟩ => ⟨k, e, hq _ _ y⟩) hg'⟩) x⟩) hg⟩) h1) h
theorem rd_chain {g g' : Dat → Dat → (DV → Prop) → Prop} {r r' : R2} {wa wb wc : WO} {G : Gh} {ex : XW} (hd : Does2 X g r) (hd' : Does2 X g' r') (mg : MonoG2 g) (mg' : MonoG2 g') (ma : MonoO wa) (mb : MonoO wb) (mc : MonoO wc) (hK : G.K = X.K) {σ : L2.St} {H : Hp} {Q : VK} (h : rdE G ex (wChain g g' wa wb wc) σ H Q) :
    tChain r r' (rdO G ex wa) (rdO G ex wb) (rdO G ex wc) σ H Q := by
  obtain ⟨W, δ, s, h⟩ := h
  refine ⟨W, δ, s, ma ex δ _ _ (fun o1 δ1 h1 W1 v1 H1 x1 s1 r1 => ?_) h⟩
  refine ⟨W1, δ1, s1, mb ex δ1 _ _ (fun o2 δ2 h2 W2 v2 H2 x2 s2 r2 => ?_) h1⟩
  obtain ⟨d1, d2, e1, e2, hg⟩ := h2
  refine hd G hK W2 δ2 σ H2 v1 v2 d1 d2 _ _ s2 ((r1.mono x2).get s2 e1) (r2.get s2 e2) hg fun z W3 v3 H3 hz x3 s3 r3 => ?_
  obtain ⟨k, rfl, hz⟩ := hz
  have r3 : Rep G.K W3 v3 (.bl k) := r3
  refine ⟨k, r3.blV, ?_⟩
  cases k with
  | false => exact hz W3 _ H3 ((x1.trans x2).trans x3) s3 .bl
  | true =>
    refine ⟨W3, δ2, s3, mc ex δ2 _ _ (fun o3 δ3 h3 W4 v4 H4 x4 s4 r4 => ?_) hz⟩
    obtain ⟨d2', d3, e3, e4, hg'⟩ := h3
    refine hd' G hK W4 δ3 σ H4 v2 v4 d2' d3 _ Q s4 ((r2.mono (x3.trans x4)).get s4 e3) (r4.get s4 e4) hg' fun z W5 v5 H5 hz x5 s5 r5 => ?_
    obtain ⟨k, rfl, hz⟩ := hz
    exact hz W5 v5 H5 ((((x1.trans x2).trans x3).trans x4).trans x5) s5 r5
theorem de_chain {op op' : CmpOp} {g g' : Dat → Dat → (DV → Prop) → Prop} {r r' : R2} {wa wb wc : WO} (ho : OpR X (compareOp op) r) (ho' : OpR X (compareOp op') r') (hd : Does2 X g r) (hd' : Does2 X g' r') (mg : MonoG2 g) (mg' : MonoG2 g') (ha : DO X cn a wa) (hb : DO X cn b wb) (hc : DO X cn c wc)
    (hm : lastMarks [op, op'] [b, c] = false := by with_unfolding_all rfl) : DE X cn (.Compare a [op, op'] [b, c] pos) (wChain g g' wa wb wc) :=
  ⟨wChain_mono mg mg' ha.mono hb.mono hc.mono, fun G gk ex tk => (pe_chain ho ho' (ha.run G gk ex tk) (hb.run G gk ex tk) (hc.run G gk ex tk) hm).imp fun σ H Q h => rd_chain hd hd' mg mg' ha.mono hb.mono hc.mono gk.K h⟩
theorem dt_chain {op op' : CmpOp} {g g' : Dat → Dat → (DV → Prop) → Prop} {r r' : R2} {wa wb wc : WO} (ho : OpR X (compareOp op) r) (ho' : OpR X (compareOp op') r') (hd : Does2 X g r) (hd' : Does2 X g' r') (mg : MonoG2 g) (mg' : MonoG2 g') (ha : DO X cn a wa) (hb : DO X cn b wb) (hc : DO X cn c wc)
    (hm : lastMarks [op, op'] [b, c] = false := by with_unfolding_all rfl) : DT X cn (.Compare a [op, op'] [b, c] pos) (tBl (wChain g g' wa wb wc)) :=
  ⟨monoBl (wChain_mono mg mg' ha.mono hb.mono hc.mono), fun G gk ex tk => (pt_chain ho ho' (ha.run G gk ex tk) (hb.run G gk ex tk) (hc.run G gk ex tk) hm).imp fun σ H Q ⟨W, δ, s, q⟩ =>
    rd_chain (Q := fun x H' => ∃ k, x = .bl k ∧ Q k H') hd hd' mg mg' ha.mono hb.mono hc.mono gk.K ⟨W, δ, s, wChain_mono mg mg' ha.mono hb.mono hc.mono ex δ _ _ (fun d δ' ⟨k, e, q⟩ W1 v H1 x1 s1 r1 => by subst e; cases r1; exact ⟨k, rfl, q W1 H1 x1 s1⟩) q⟩⟩

/-! ### a module's name for a built-in function -/
theorem dj_callBfun {x : Str} {p : Pos} {id : String} {wa : WAO} {g : List Dat → (DV → Prop) → Prop} {r : List V → Hp → VK → Prop} (hc : CallR X (.builtin id) r) (hd : DoesL X g r) (mg : MonoGL g) (hg : Gl X x) (hm : X.mg x = some (.builtin id)) (ha : DAO X cn (e :: es) wa)
    (hdb : (x == ("__debug__" : Str)) = false := by decide)
    (he : starEach (e :: es) X.env = (false, eval e X.env) :: starEach es X.env := by rfl) (hpl : (backTo pos (starEach es X.env)).any (·.1) = false := by rfl) : DJ X cn (.Call (.Name x p) (e :: es) [] pos) (wCB g wa) :=
  ⟨monoL ha.mono mg, fun G gk ex tk => (pe_callBfun hc hg hm (ha.run G gk ex tk) hdb he hpl).imp fun σ H Q h => rdL ha.mono hd gk.K h⟩
theorem does_gcd : DoesL X gGcd rGcd := does_I2

/-! ### the bag -/
def Wd.addBag (W : Wd) (p : Addr) : Wd := ⟨W.g, fun a => W.bag a ∨ a = p⟩
@[simp] def wBag (wa : WA) : WE := fun ex δ Q => wa ex δ fun ds δ1 => ∃ x y z : Int, ds = [.int x, .int y, .int z] ∧ Q .bag δ1
theorem de_bag {wa : WA} (ha : DA X cn es wa) : DE X cn (.List es pos) (wBag wa) :=
  ⟨fun ex δ Q Q' hq h => ha.mono ex δ _ _ (fun ds δ1 ⟨x, y, z, e, q⟩ => ⟨x, y, z, e, hq _ _ q⟩) h,
   fun G gk ex tk => (pe_lst (ha.run G gk ex tk)).imp fun σ H Q ⟨W, δ, s, h⟩ => ⟨W, δ, s, ha.mono ex δ _ _ (fun ds δ1 ⟨x, y, z, e, q⟩ W1 vs H1 x1 s1 r1 => by
    subst e
    have ev : vs = [.int x, .int y, .int z] := RepAll.ints (ns := [x, y, z]) r1
    subst ev
    refine ⟨by show 3 ≤ sizeLine; rw [sizeLine_eq]; decide, fun p hp => ?_⟩
    obtain ⟨f1, f2, f3⟩ := s1.h.fresh hp
    have e1 : Ext W1 (W1.addBag p) := ⟨fun _ _ h => .inl h, fun _ h => .inl h⟩
    refine q (W1.addBag p) _ _ (x1.trans e1) ⟨⟨s1.h.ext.trans e1, (s1.h.own hp).keep, (s1.h.own hp).sub, s1.h.old, fun a ea hb => ?_, fun b hb => ?_⟩, ⟨s1.s.len, fun i d ei => ?_, fun i d ei => ?_, s1.s.ne⟩⟩ (.bag (.inr rfl))
    · rcases hb with hb | rfl
      · exact s1.h.oldb a ea hb
      · rw [f3] at ea; cases ea
    · rcases hb with hb | rfl
      · exact (s1.h.own hp).bags b hb
      · exact ⟨f1, x, y, z, upd_same⟩
    · obtain ⟨v, q1, q2⟩ := s1.s.fz i d ei
      exact ⟨v, q1, q2.mono e1⟩
    · obtain ⟨b, u, q1, q2, q3, q4, q5, q6⟩ := s1.s.ow i d ei
      have hbp : b ≠ p := ne_of_none q2 hp
      exact ⟨b, u, q1, by rw [upd_ne hbp]; exact q2, q3.mono e1, q4, fun z => z.elim q5 hbp, q6⟩) h⟩⟩

/-! ### slices -/
abbrev WPt := XW → Dl → (Option Int → Dl → Prop) → Prop
def MonoPt (w : WPt) : Prop := ∀ ex δ (Q Q' : Option Int → Dl → Prop), (∀ d δ', Q d δ' → Q' d δ') → w ex δ Q → w ex δ Q'
def PostPt (G : Gh) (W : Wd) (σ : L2.St) (Q : Option Int → Hp → Prop) (o : Option Int) (δ : Dl) : Prop := ∀ W' H', Ext W W' → StOk G W' δ σ H' → Q o H'
def rdPt (G : Gh) (ex : XW) (w : WPt) : TO := fun σ H Q => ∃ W δ, StOk G W δ σ H ∧ w ex δ (PostPt G W σ Q)
structure DPt (X : Cx) (cn : Str → Value) (e : Option Expr) (w : WPt) : Prop where
  mono : MonoPt w
  run : ∀ (G : Gh), GOk X cn G → ∀ ex, TakesD X G ex → PO X e (rdPt G ex w)
theorem _root_.L2.PO.imp {X : Cx} {e : Option Expr} {t t' : TO} (h : PO X e t) (k : ∀ σ H Q, t' σ H Q → t σ H Q) : PO X e t' := ⟨fun pins s σ H Q I q => h.run pins s σ H Q I (k _ _ _ q)⟩
@[simp] def ptNone : WPt := fun _ δ Q => Q none δ
@[simp] def ptSome (w : WE) : WPt := fun ex δ Q => w ex δ fun d δ' => ∃ i, d = .int i ∧ Q (some i) δ'
theorem dpt_none : DPt X cn none ptNone := ⟨fun _ _ _ _ hq h => hq _ _ h, fun G gk ex tk => po_none.imp fun σ H Q ⟨W, δ, s, q⟩ => q W H (Ext.refl W) s⟩
theorem dpt_some {w : WE} (h : DE X cn e w) : DPt X cn (some e) (ptSome w) := ⟨fun ex δ Q Q' hq q => h.mono ex δ _ _ (fun d δ' ⟨i, e, x⟩ => ⟨i, e, hq _ _ x⟩) q, fun G gk ex tk => (po_some (h.run G gk ex tk)).imp fun σ H Q ⟨W, δ, s, q⟩ => ⟨W, δ, s, h.mono ex δ _ _ (fun d δ' ⟨i, e, x⟩ W1 v H1 x1 s1 r1 => by
  subst e
  exact ⟨i, r1.intV, x W1 H1 x1 s1⟩) q⟩⟩
def cutD {α : Type} (xs : List α) (lo hi : Option Int) : List α := (xs.drop (HT.sIx xs.length 0 lo)).take (HT.sIx xs.length xs.length hi - HT.sIx xs.length 0 lo)
@[simp] def gSl : Dat → Option Int → Option Int → (DV → Prop) → Prop
  | .lst ds, lo, hi, P => P (.ow (.lst (cutD ds lo hi)))
  | .tup ds, lo, hi, P => P (.fz (.tup (cutD ds lo hi)))
  | .scr ns, lo, hi, P => P (.ow (.lst ((cutD ns lo hi).map Dat.int)))
  | _, _, _, _ => False
theorem gSl_mono {d : Dat} {lo hi : Option Int} {P P' : DV → Prop} (h : ∀ r, P r → P' r) (q : gSl d lo hi P) : gSl d lo hi P' := by
  cases d <;> first | exact q.elim | exact h _ q
@[simp] def wSl (wa : WO) (lo hi : WPt) : WV := fun ex δ Q => wa ex δ fun o δ1 => lo ex δ1 fun l δ2 => hi ex δ2 fun u δ3 => ∃ d, o.get δ3 = some d ∧ gSl d l u fun r => Q r δ3
theorem cut_rep {K : PySem.W.Frag} {W : Wd} {vs : List V} {ds : List Dat} {lo hi : Option Int} (r : RepAll K W vs ds) : RepAll K W (cutV vs lo hi) (cutD ds lo hi) := by
  unfold cutV cutD
  rw [r.length]
  exact (r.drop _).take _
theorem dj_slice {lo hi : Option Expr} {wa : WO} {wl wh : WPt} {p2 : Pos} (ha : DO X cn a wa) (hl : DPt X cn lo wl) (hh : DPt X cn hi wh) : DJ X cn (.Subscript a (.Slice lo hi none p2) pos) (wSl wa wl wh) :=
  ⟨fun ex δ Q Q' hq q => ha.mono ex δ _ _ (fun o δ1 x => hl.mono ex δ1 _ _ (fun l δ2 y => hh.mono ex δ2 _ _ (fun u δ3 ⟨d, e, z⟩ => ⟨d, e, gSl_mono (fun r t => hq _ _ t) z⟩) y) x) q,
   fun G gk ex tk => (pe_slice (sl_list.or sl_tupA) (ha.run G gk ex tk) (hl.run G gk ex tk) (hh.run G gk ex tk)).imp fun σ H Q ⟨W, δ, s, q⟩ => ⟨W, δ, s, ha.mono ex δ _ _ (fun o δ1 x W1 v1 H1 x1 s1 r1 =>
    ⟨W1, δ1, s1, hl.mono ex δ1 _ _ (fun l δ2 y W2 H2 x2 s2 => ⟨W2, δ2, s2, hh.mono ex δ2 _ _ (fun u δ3 ⟨d, e, z⟩ W3 H3 x3 s3 => by
      have x123 := (x1.trans x2).trans x3
      have rb := (r1.mono (x2.trans x3)).get s3 e
      cases d with
      | lst ds =>
        obtain ⟨p, vs, rfl, h1, r⟩ := rb.lst s3.h
        exact .inl ⟨p, vs, rfl, SqL.of h1, fun p hp => z W3 _ _ x123 (s3.newFree hp).1 ⟨p, _, rfl, .lst (cut_rep r), (s3.newFree hp).2⟩⟩
      | scr ns =>
        obtain ⟨p, rfl, h1⟩ := rb.scr s3.h
        rw [gk.K] at h1
        refine .inl ⟨p, _, rfl, h1, fun p hp => z W3 _ _ x123 (s3.newFree hp).1 ⟨p, _, rfl, .lst ?_, (s3.newFree hp).2⟩⟩
        have : cutV (ns.map V.int) l u = (cutD ns l u).map V.int := by
          unfold cutV cutD
          rw [List.length_map, List.map_take, List.map_drop]
        rw [this]
        exact RepAll.of_ints _
      | tup ds =>
        obtain ⟨p, vs, rfl, h1, k1, r⟩ := rb.tup s3.h
        rw [gk.K] at h1
        refine .inr ⟨p, vs, rfl, h1, fun hw => ?_, fun hw p hp => ?_⟩
        · have hc : cutD ds l u = ds := by
            rw [r.length] at hw
            unfold cutD
            rw [hw.1, hw.2]; simp
          have z : PostJ G W σ Q (.fz (.tup (cutD ds l u))) δ3 := z
          rw [hc] at z
          exact z W3 _ H3 x123 s3 (.tup k1 r)
        · have x' := Wd.put_ext (o := .tup (cutV vs l u)) (s3.h.fresh hp).1
          exact z _ _ _ (x123.trans x') (s3.put hp) (.tup (.inl (.inl (by show upd W3.g p _ p = _; exact upd_same))) ((cut_rep r).mono x'))
      | _ => exact z.elim) y⟩) x⟩) q⟩⟩

/-! ### list(), tuple() -/
def keyDat : Key → Dat
  | .inl i => .int i
  | .inr s => .str s
@[simp] theorem keyDat_inl {i : Int} : keyDat (.inl i) = .int i := rfl
@[simp] theorem keyDat_inr {i : Str} : keyDat (.inr i) = .str i := rfl
theorem keyDat_rep {K : PySem.W.Frag} {W : Wd} : ∀ k : Key, Rep K W (kV k) (keyDat k)
  | .inl _ => .int
  | .inr _ => .str
theorem RepKV.keys {K : PySem.W.Frag} {W : Wd} : ∀ {vs : List (Key × V)} {ds : List (Key × Dat)}, RepKV K W vs ds → RepAll K W (vs.map fun kv => kV kv.1) (ds.map fun p => keyDat p.1) ∧ vs.map (·.1) = ds.map (·.1)
  | _, _, .nil => ⟨.nil, rfl⟩
  | _, _, .cons _ r => ⟨.cons (keyDat_rep _) (RepKV.keys r).1, by simp [(RepKV.keys r).2]⟩
@[simp] def gList : List Dat → (DV → Prop) → Prop
  | [.lst ds], P => P (.ow (.lst ds))
  | [.tup ds], P => P (.ow (.lst ds))
  | [.dK kds], P => P (.ow (.lst (kds.map fun p => keyDat p.1)))
  | _, _ => False
theorem gList_mono : MonoGL gList := fun d P P' h q => by
  match d, q with
  | [.lst ds], q => exact h _ q
  | [.tup ds], q => exact h _ q
  | [.dK ds], q => exact h _ q
def rListA (K : PySem.W.Frag) : List V → Hp → VK → Prop := fun xs H Q => (∃ p ys, xs = [.ref p] ∧ (SqL K H p ys ∨ SqT K H p ys) ∧ ∀ l, H l = none → Q (.ref l) (upd H l (.lst ys))) ∨
  ∃ (a : Addr) (kvs : List (Key × V)), xs = [.ref a] ∧ Rd H a (.dK kvs) ∧ ∀ p, H p = none → Q (.ref p) (upd H p (.lst (kvs.map fun kv => kV kv.1)))
theorem does_list : DoesL X gList (rListA X.K) := by
  intro G hK W δ σ H xs ds P Q s rr hg hz
  match ds, hg with
  | [.lst ds], q =>
    obtain ⟨v, rfl, r⟩ := rr.one
    obtain ⟨a, vs, rfl, h1, r1⟩ := r.lst s.h
    exact .inl ⟨a, vs, rfl, .inl (SqL.of h1), fun p hp => hz _ W _ _ q (Ext.refl W) (s.newFree hp).1 ⟨p, _, rfl, .lst r1, (s.newFree hp).2⟩⟩
  | [.tup ds], q =>
    obtain ⟨v, rfl, r⟩ := rr.one
    obtain ⟨a, vs, rfl, h1, k1, r1⟩ := r.tup s.h
    rw [hK] at h1
    exact .inl ⟨a, vs, rfl, .inr h1, fun p hp => hz _ W _ _ q (Ext.refl W) (s.newFree hp).1 ⟨p, _, rfl, .lst r1, (s.newFree hp).2⟩⟩
  | [.dK ds], q =>
    obtain ⟨v, rfl, r⟩ := rr.one
    obtain ⟨a, vs, rfl, h1, r1⟩ := r.dK s.h
    exact .inr ⟨a, vs, rfl, h1, fun p hp => hz _ W _ _ q (Ext.refl W) (s.newFree hp).1 ⟨p, _, rfl, .lst r1.keys.1, (s.newFree hp).2⟩⟩
@[simp] def gTuple : List Dat → (DV → Prop) → Prop
  | [.lst ds], P => P (.fz (.tup ds))
  | [.tup ds], P => P (.fz (.tup ds))
  | _, _ => False
theorem gTuple_mono : MonoGL gTuple := fun d P P' h q => by
  match d, q with
  | [.lst ds], q => exact h _ q
  | [.tup ds], q => exact h _ q
def rTupleA (K : PySem.W.Frag) : List V → Hp → VK → Prop := fun xs H Q => ∃ p ys, xs = [.ref p] ∧ ((SqL K H p ys ∧ ∀ l, H l = none → Q (.ref l) (upd H l (.tup ys))) ∨ (SqT K H p ys ∧ Q (.ref p) H))
theorem does_tuple : DoesL X gTuple (rTupleA X.K) := by
  intro G hK W δ σ H xs ds P Q s rr hg hz
  match ds, hg with
  | [.lst ds], q =>
    obtain ⟨v, rfl, r⟩ := rr.one
    obtain ⟨a, vs, rfl, h1, r1⟩ := r.lst s.h
    refine ⟨a, vs, rfl, .inl ⟨SqL.of h1, fun p hp => ?_⟩⟩
    have x' := Wd.put_ext (o := .tup vs) (s.h.fresh hp).1
    exact hz _ _ _ _ q x' (s.put hp) (.tup (.inl (.inl (by show upd W.g p _ p = _; exact upd_same))) (r1.mono x'))
  | [.tup ds], q =>
    obtain ⟨v, rfl, r⟩ := rr.one
    obtain ⟨a, vs, rfl, h1, k1, r1⟩ := r.tup s.h
    rw [hK] at h1
    exact ⟨a, vs, rfl, .inr ⟨h1, hz _ W _ H q (Ext.refl W) s (.tup k1 r1)⟩⟩
theorem cr_list (hc : X.calm = true) : CallR X (.type "list") (rListA X.K) := call_list_of.or (call_listD hc)
theorem cr_tuple : CallR X (.type "tuple") (rTupleA X.K) := call_tuple_of
end

section
variable {X : Cx}
/-! ### x op= e of ints -/
theorem iop_mulM : OpR X (inplaceOp .Mult) (rI MulOk fun i j => .int (i * j)) := opI fun _ _ _ _ _ _ _ hc q => imul_int q hc.ok
theorem iop_divM : OpR X (inplaceOp .FloorDiv) (rI CDivM fun i j => .int (pyDiv i j)) := opI fun i j _ _ _ _ _ hc q => by
  have hc : j ≠ 0 ∧ -LIM < j ∧ j < LIM := hc
  have h9 : j.natAbs.log2 < 9000 := by have := lim_log hc.2; omega
  exact ifloordiv_int hc.1 (by rw [pyDiv_eq] at q; exact q) (.inl (PyProof.noPylong_of_log2 h9))
@[simp] def gI0 (f : Int → Int → Int) : Dat → Dat → (DV → Prop) → Prop
  | .int i, .int j, P => P (.fz (.int (f i j)))
  | _, _, _ => False
theorem gI0_mono {f : Int → Int → Int} : MonoG2 (gI0 f) := fun d e P P' h q => by
  cases d <;> cases e <;> first | exact q.elim | exact h _ q
theorem does_I0 {f : Int → Int → Int} : Does2 X (gI0 f) (rI0 fun i j => .int (f i j)) := by
  intro G hK W δ σ H x y d e P Q s rx ry hg hz
  cases d with
  | int i =>
    cases e with
    | int j => rw [rx.int, ry.int]; exact ⟨i, j, rfl, rfl, hz _ W _ H hg (Ext.refl W) s .int⟩
    | _ => exact hg.elim
  | _ => exact hg.elim
abbrev gIAdd := gI0 fun i j => i + j
abbrev gISub := gI0 fun i j => i - j
abbrev gIMul := gII MulOk fun i j => i * j
abbrev gIDiv := gII CDivM pyDiv
end

/-! ### a def as its callers see it -/
def Callee (P : Program) (w : World) (K : PySem.W.Frag) (mg : Str → Option Value) (base : Heap) (cn : Str → Value) (k : Nat) (x : Str) (ps : List Str) (Φ : DSp) : Prop :=
  ∃ f fd, FnOk P w K mg base (L2.CX P w) k f fd ps (lift K cn Φ) ∧ mg x = some (.ref f) ∧ PySem.W.keepIn K (.ref f) = true ∧ L2.Binds K fd ps []
/-- the constant n of the module -/
def IntAt (mg : Str → Option Value) (x : Str) (n : Int) : Prop := ∃ t, mg x = some (.int n t)
theorem de_gint {X : Cx} {cn : Str → Value} {x : Str} {n : Int} {pos : Pos} (h : IntAt X.mg x n) (hg : Gl X x) (hdb : (x == ("__debug__" : Str)) = false := by decide) : DE X cn (.Name x pos) (wC (.int n)) := by
  obtain ⟨t, h⟩ := h
  exact de_glob (v := .int n) hg h ⟨t, rfl⟩ (fun _ => .int) hdb
structure DefAt (K : PySem.W.Frag) (mg : Str → Option Value) (x : Str) (st : Stmt) (ps : List Str) (f : Addr) (fd : FuncData) : Prop where
  fn : Fun K x x st f fd
  mg : mg x = some (.ref f)
  binds : L2.Binds K fd ps []
theorem de_fn {X : Cx} {cn : Str → Value} {Φ : DSp} {j k : Nat} {x : Str} {ps : List Str} {p pos : Pos} {e : Expr} {es : List Expr} {wa : WA} (C : Callee X.prog X.w X.K X.mg X.base cn j x ps Φ) (mΦ : MonoSp Φ) (hr : Room k X.A) (hj : j ≤ k) (hg : Gl X x)
    (ha : DA X cn (e :: es) wa) (hdb : (x == ("__debug__" : Str)) = false := by decide) (he : starEach (e :: es) X.env = (false, eval e X.env) :: starEach es X.env := by rfl) (hpl : (backTo pos (starEach es X.env)).any (·.1) = false := by rfl) :
    DE X cn (.Call (.Name x p) (e :: es) [] pos) (wCall Φ wa) := by
  obtain ⟨f, fd, F, hm, hk, hb⟩ := C
  exact de_call F mΦ (hr.mono hj) hg hm hk hb ha hdb he hpl
theorem de_fn0 {X : Cx} {cn : Str → Value} {Φ : DSp} {j k : Nat} {x : Str} {ps : List Str} {p pos : Pos} (C : Callee X.prog X.w X.K X.mg X.base cn j x ps Φ) (mΦ : MonoSp Φ) (hr : Room k X.A) (hj : j ≤ k) (hg : Gl X x)
    (hdb : (x == ("__debug__" : Str)) = false := by decide) : DE X cn (.Call (.Name x p) [] [] pos) (wCall Φ aNil) := by
  obtain ⟨f, fd, F, hm, hk, hb⟩ := C
  exact de_call0 F mΦ (hr.mono hj) hg hm hk hb hdb
theorem def_at {K : PySem.W.Frag} {h : Heap} {mg : Str → Option Value} {x : Str} {st : Stmt} {ps : List Str} {f : Addr} {oc : Value} {od an : Option Addr} {osl : Array (Option Value)} {kV doc pm cdv ct : Value} (X : K.In h) (G : h.Ns mainGlobals mg)
    (a : PySem.W.nsIn K mainGlobals x = some (some (.ref f))) (l : K.lookup f = some ⟨oc, od, .func (PySem.W.fnOf x x (defArgs st) (defBody st) (defScope st) .none kV doc pm an cdv ct), osl⟩) (c : PySem.W.codeIn K cdv x = true) (k : PySem.W.keepIn K (.ref f) = true)
    (hb : ∀ (kV doc pm : Value) (an : Option Addr) (cdv ct : Value) (us : List Value), us.length = ps.length → bindArgs (PySem.W.fnOf x x (defArgs st) (defBody st) (defScope st) .none kV doc pm an cdv ct) ⟨us, []⟩ = pure (ps.zip us)) :
    DefAt K mg x st ps f (PySem.W.fnOf x x (defArgs st) (defBody st) (defScope st) .none kV doc pm an cdv ct) :=
  ⟨fun_mk l c k, PySem.W.mg_of X G a, (fun_mk (st := st) l c k).binds hb⟩
/-- the law's promise at its entry -/
def spLaw : DSp := fun ds P _ => ∃ ns : List Int, ds = [.scr ns] ∧ ns.length ≤ 63 ∧ P (.bl true)
theorem m_spLaw : MonoSp spLaw := fun ds P P' E h ⟨ns, e, z, q⟩ => ⟨ns, e, z, h _ q⟩
theorem law_entry {K : PySem.W.Frag} {cn : Str → Value} {H : Hp} {a : Addr} {ns : List Int} (hl : ns.length ≤ 63) (hS : SqL K H a (ns.map V.int)) : lift K cn spLaw [.ref a] H (fun v _ => v = .bl true) fun _ _ _ => False := by
  refine ⟨⟨H, fun _ => False⟩, [.scr ns], fun d => d = .bl true, fun _ => False, .cons (.scr hS) .nil, ⟨Ext.refl _, fun _ _ e _ => .inl e, fun _ _ e => .inl e, fun _ _ => .inl rfl, fun _ _ e => e, fun _ e => e.elim⟩, ⟨ns, rfl, hl, rfl⟩, fun W' v d H' c r e => ?_, fun cls d H' x => ?_⟩
  · subst e; exact r.blV
  · obtain ⟨_, _, _, _, z⟩ := x
    exact z
theorem law_end {P : Program} {w : World} {H : Hp} {s : Shared} {e : Value} {s' : Shared} (h : L2.CX P w [] H s (fun _ _ _ => False) e s') : False := by
  obtain ⟨_, _, _, _, _, _, _, _, _, _, _, _, z⟩ := h
  exact z
theorem law_walk {l : PySem.W.OpenLaw} {q : Program} {loose : List Str} {XP : (Str → Option Value) → Heap → Prop} {YP : World → Heap → Prop} {d : DefRec} {K : Params → PySem.W.Frag} {cn : Params → Str → Value} {k : Nat} {x : Str} (hn : l.most = some 63) (hdf : d.params.defaults = []) (hr : Room k callerA)
    (hY : ∀ (w : World) (h : Heap), YP w h → (K w.params).In h)
    (F : ∀ (w : World) (mg : Str → Option Value) (fa : Addr) (h : Heap), (K w.params).In h → h.Ns mainGlobals mg → mg d.name = some (.ref fa) →
      ∃ fd : FuncData, (∀ (s : Shared) (u : Value), BindsTo s fd ⟨[u], []⟩ [(x, u)]) ∧ ∀ base : Heap, (K w.params).In base → base.Ns mainGlobals mg → FnOk l.prog w (K w.params) mg base (L2.CX l.prog w) k fa fd [x] (lift (K w.params) (cn w.params) spLaw)) :
    PySem.W.WalkO q loose XP YP l.row.toRowW d [] (fun f vs => PySem.call f vs) :=
  L2.walk_of (n := 63) (k := k) (x := x) (CX := fun w => L2.CX l.prog w) (sp := fun w => lift (K w.params) (cn w.params) spLaw) hn (by decide) hdf hr hY F (fun _ _ a ns hl _ hS => law_entry hl hS) fun _ _ _ _ _ z => law_end z
end DL
set_option Elab.async false
set_option linter.all false
set_option maxRecDepth 100000
namespace DL
open PySem PySem.Spec PyProof.Rows L2

section
variable {X : Cx} {cn : Str → Value} {pos : Pos} {e a b c : Expr} {es : List Expr}
/-! ### list(d.values()) -/
def rValuesL : V → Hp → VK → Prop := fun x H Q => ∃ (d : Addr) (kvs : List (Key × V)), x = .ref d ∧ Rd H d (.dK kvs) ∧ ∀ p, H p = none → Q (.ref p) (upd H p (.lst (kvs.map (·.2))))
theorem kv_vals {kvs : List (Key × V)} {vs : List (Key × Value)} (r : KV kvs vs) : Vals (kvs.map (·.2)) (vs.map (·.2)) := by
  unfold KV at r
  induction r with
  | nil => exact .nil
  | cons h _ ih => exact .cons h.2 ih
theorem pe_listValues {te : TE} {p apos cpos : Pos} (hc : X.calm = true) (he : PE X e te) (hg : Gl X "list") (hm : X.mg "list" = none) (hv : bootBuiltins "list" = some (.type "list")) (hbase : attributeBase e "values" X.env (eval e X.env) = eval e X.env := by rfl) (hline : (apos.endLine == cpos.line) = true := by rfl)
    (hs : starEach [.Call (.Attribute e "values" apos) [] [] cpos] X.env = (false, eval (.Call (.Attribute e "values" apos) [] [] cpos) X.env) :: starEach [] X.env := by rfl) :
    PE X (.Call (.Name "list" p) [.Call (.Attribute e "values" apos) [] [] cpos] [] pos) (fun σ H Q => te σ H fun x H1 => rValuesL x H1 Q) := by
  refine ⟨fun pins s σ H Q I hq => ?_⟩
  refine wpAny_Call_Name_kw (ld_blt I hg hm hv ?_)
  refine PyProof.Rows.callWith_type1 ?_ hs rfl
  rw [hs]
  show wpAny _ _ (spliced ((false, eval (.Call (.Attribute e "values" apos) [] [] cpos) X.env) :: backTo pos (starEach [] X.env))) _ _ s
  refine Calls.spliced_cons ?_
  refine wpAny_Call_method (T := "dict") (id := "dict.values") hbase rfl hline F.plainAttrs_dict F.slot_dict_values F.type_dict_values (thn (he.run pins s σ H _ I hq) fun u s1 ⟨x, H1, I1, rx, d, kvs, ex, hd, q⟩ => ?_)
  subst ex
  obtain rfl : u = Value.ref d := rx
  obtain ⟨hz, hs0, vs, kv, hdo⟩ := dk_rd I1.hok hd
  obtain ⟨ep, hat⟩ := hdo.dictAt
  have lk : kvs.length = vs.length := Paired.length kv
  have I2 : Inv X pins σ H1 { s1 with heap := s1.heap.push { cls := .type "dict_values", data := .fields #[.ref d] } } := I1.kept (t' := s1.toks) fun b ob q => Heap.get?_push_of_some _ q
  refine ⟨hdo.typeIs, hdo.mapOf.noDict, ?_⟩
  show wpAny _ _ (callWith cpos (.builtin "dict.values") [.ref d] [] []) _ X.xe s1
  refine method_meetsIn F.slot_dict_values F.entry_dict_values rfl (PySem.evalArgs_none ⟨rfl, hdo.typeIs, F.args_dict_values_1 _, _, meets_dict_values (mixKind X.prog X.w) d hs0, ⟨vs, hdo⟩, ?_⟩)
  refine Calls.spliced_nil ?_
  refine PySem.W.kdl_call (PySem.W.kdl_values (knd := mixKind X.prog X.w) (kvs := vs) (ep := ep)) (I1.ok.hd hc) ⟨⟨_, Heap.get?_push_size _ rfl, rfl, rfl⟩, hat.push _⟩ (by omega) fun h' tk acc c hk hS hacc => ?_
  have ev : acc.toList = vs.map (·.2) := PySem.W.kdl_vals_eq acc.toList (by rw [Array.length_toList]; exact hacc.1) fun j v ej => hacc.2 j v (by rw [← Array.getElem?_toList]; exact ej)
  have hn : H1 (s1.heap.push { cls := .type "dict_values", data := .fields #[.ref d] }).objs.size = none := I2.hok.fresh (Nat.le_refl _)
  refine ⟨.ref _, _, I2.laid (t' := tk) (o := .lst (kvs.map (·.2))) hk (Nat.le_refl _) ⟨by rw [List.length_map]; omega, acc.toList, c, by rw [ev]; exact kv_vals kv, ?_⟩, rfl, q _ hn⟩
  rw [Array.toArray_toList]
  exact hS
@[simp] def wValuesL (wa : WO) : WV := fun ex δ Q => wa ex δ fun o δ1 => ∃ kvs, o.get δ1 = some (.dK kvs) ∧ Q (.ow (.lst (kvs.map (·.2)))) δ1
theorem RepKV.vals {K : PySem.W.Frag} {W : Wd} : ∀ {kvs : List (Key × V)} {kds : List (Key × Dat)}, RepKV K W kvs kds → RepAll K W (kvs.map (·.2)) (kds.map (·.2))
  | _, _, .nil => .nil
  | _, _, .cons h r => .cons h (RepKV.vals r)
theorem dj_listValues {wa : WO} {p apos cpos : Pos} (hc : X.calm = true) (ha : DO X cn e wa) (hg : Gl X "list") (hm : X.mg "list" = none) (hv : bootBuiltins "list" = some (.type "list") := by decide +kernel) (hbase : attributeBase e "values" X.env (eval e X.env) = eval e X.env := by rfl) (hline : (apos.endLine == cpos.line) = true := by rfl)
    (hs : starEach [.Call (.Attribute e "values" apos) [] [] cpos] X.env = (false, eval (.Call (.Attribute e "values" apos) [] [] cpos) X.env) :: starEach [] X.env := by rfl) :
    DJ X cn (.Call (.Name "list" p) [.Call (.Attribute e "values" apos) [] [] cpos] [] pos) (wValuesL wa) :=
  ⟨fun ex δ Q Q' hq h => ha.mono ex δ _ _ (fun o δ1 ⟨kvs, e, q⟩ => ⟨kvs, e, hq _ _ q⟩) h, fun G gk ex tk => (pe_listValues hc (ha.run G gk ex tk) hg hm hv hbase hline hs).imp fun σ H Q ⟨W, δ, s, h⟩ => ⟨W, δ, s, ha.mono ex δ _ _ (fun o δ1 ⟨kvs, e, q⟩ W1 v H1 x1 s1 r1 => by
    obtain ⟨d, vs, rfl, h1, r⟩ := (r1.get s1 e).dK s1.h
    exact ⟨d, vs, rfl, h1, fun p hp => q W1 _ _ x1 (s1.newFree hp).1 ⟨p, _, rfl, .lst r.vals, (s1.newFree hp).2⟩⟩) h⟩⟩

/-! ### d.get(k, x) -/
@[simp] def wGet (wd wk : WO) (wx : WE) : WE := fun ex δ Q => wd ex δ fun o δ1 => (∃ kvs, o.get δ1 = some (.dK kvs)) ∧ wk ex δ1 fun ok δ2 => wx ex δ2 fun x δ3 => ∃ kvs k key, o.get δ3 = some (.dK kvs) ∧ ok.get δ3 = some k ∧ keyD k = some key ∧ Q ((valD kvs key).getD x) δ3
theorem keyD_V {G : Gh} {W : Wd} {H : Hp} {v : V} {k : Dat} {key : Key} (r : RepB G W H v k) (e : keyD k = some key) : v = kV key := by
  cases k with
  | int i => cases e; rw [r.int]; rfl
  | str i => cases e; rw [r.str]; rfl
  | _ => cases e
theorem de_get {wd wk : WO} {wx : WE} {apos cpos : Pos} (hu : X.A.units + 1 < cLine) (hd : DO X cn a wd) (hk : DO X cn b wk) (hx : DE X cn c wx) (m : M2 X a "get" apos b c cpos) : DE X cn (.Call (.Attribute a "get" apos) [b, c] [] cpos) (wGet wd wk wx) :=
  ⟨fun ex δ Q Q' hq h => hd.mono ex δ _ _ (fun o δ1 ⟨z, y⟩ => ⟨z, hk.mono ex δ1 _ _ (fun ok δ2 y => hx.mono ex δ2 _ _ (fun x δ3 ⟨kvs, k, key, e1, e2, e3, q⟩ => ⟨kvs, k, key, e1, e2, e3, hq _ _ q⟩) y) y⟩) h,
   fun G gk ex tk => (pe_dget2 hu (hd.run G gk ex tk) (hk.run G gk ex tk) (hx.run G gk ex tk) m).imp fun σ H Q ⟨W, δ, s, h⟩ => ⟨W, δ, s, hd.mono ex δ _ _ (fun o δ1 ⟨⟨kvs0, e0⟩, y⟩ W1 v1 H1 x1 s1 r1 => by
    obtain ⟨d, vs, rfl, h1, r⟩ := (r1.get s1 e0).dK s1.h
    refine ⟨d, rfl, .inl ⟨vs, h1⟩, W1, δ1, s1, hk.mono ex δ1 _ _ (fun ok δ2 y W2 v2 H2 x2 s2 r2 => ⟨W2, δ2, s2, hx.mono ex δ2 _ _ (fun x δ3 ⟨kvs, k, key, e1, e2, e3, q⟩ W3 v3 H3 x3 s3 r3 => ?_) y⟩) y⟩
    obtain ⟨d', vs', ed, h3, r'⟩ := ((r1.mono (x2.trans x3)).get s3 e1).dK s3.h
    cases ed
    rw [keyD_V ((r2.mono x3).get s3 e2) e3]
    refine ⟨_, DGetR (k := key) h3, ?_⟩
    have hv := r'.val (k := key)
    have x123 := (x1.trans x2).trans x3
    cases ev : valD kvs key with
    | none =>
      rw [ev] at hv q
      have hv : valV vs' key = none := hv
      rw [hv]
      exact q W3 v3 H3 x123 s3 r3
    | some dd =>
      rw [ev] at hv q
      obtain ⟨w, hw, rw'⟩ := hv
      rw [hw]
      exact q W3 w H3 x123 s3 rw') h⟩⟩

/-! ### {} and {k: v} -/
@[simp] def wDict0 : WV := fun _ δ Q => Q (.ow (.dK [])) δ
theorem dj_dict0 : DJ X cn (.Dict [] [] pos) wDict0 := ⟨fun _ _ _ _ hq h => hq _ _ h, fun G gk ex tk => pe_dnewK.imp fun σ H Q ⟨W, δ, s, h⟩ => fun p hp => h W _ _ (Ext.refl W) (s.newFree hp).1 ⟨p, _, rfl, .dK .nil, (s.newFree hp).2⟩⟩

/-! ### in -/
theorem toPys_any (d : Dat) (n m : Nat) : ∀ ds : List Dat, okD m d = true → ds.all (okD n) = true → ((toPys ds).any fun y => PyData.eqv y (toPy d)) = ds.any fun y => eqvD y d
  | [], _, _ => by simp [toPys]
  | x :: xs, h, k => by
    simp only [List.all_cons, Bool.and_eq_true] at k
    simp only [toPys, List.any_cons]
    rw [eqvD_py n x m d k.1 h, toPys_any d n m xs h k.2]
@[simp] def gIn : Dat → Dat → (DV → Prop) → Prop
  | d, .lst ds, P => okD 16 d = true ∧ ds.all (okD 16) = true ∧ P (.fz (.bl (ds.any fun y => eqvD y d)))
  | d, .tup ds, P => okD 16 d = true ∧ ds.all (okD 16) = true ∧ P (.fz (.bl (ds.any fun y => eqvD y d)))
  | d, .dK kvs, P => ∃ k, keyD d = some k ∧ P (.fz (.bl (valD kvs k).isSome))
  | _, _, _ => False
@[simp] def gNotIn : Dat → Dat → (DV → Prop) → Prop
  | d, .lst ds, P => okD 16 d = true ∧ ds.all (okD 16) = true ∧ P (.fz (.bl (!ds.any fun y => eqvD y d)))
  | d, .tup ds, P => okD 16 d = true ∧ ds.all (okD 16) = true ∧ P (.fz (.bl (!ds.any fun y => eqvD y d)))
  | d, .dK kvs, P => ∃ k, keyD d = some k ∧ P (.fz (.bl (!(valD kvs k).isSome)))
  | _, _, _ => False
theorem gIn_mono : MonoG2 gIn := fun d e P P' h q => by
  cases e <;> first | exact q.elim | exact ⟨q.1, q.2.1, h _ q.2.2⟩ | (obtain ⟨k, e1, q⟩ := q; exact ⟨k, e1, h _ q⟩)
theorem gNotIn_mono : MonoG2 gNotIn := fun d e P P' h q => by
  cases e <;> first | exact q.elim | exact ⟨q.1, q.2.1, h _ q.2.2⟩ | (obtain ⟨k, e1, q⟩ := q; exact ⟨k, e1, h _ q⟩)
def rInA (K : PySem.W.Frag) (neg : Bool) : R2 := fun x y H Q => (∃ d ds, Dp K H x d ∧ (Dp K H y (.list ds) ∨ Dp K H y (.tuple ds)) ∧ d.plain = true ∧ PyData.plainAll ds = true ∧ d.depth ≤ 16 ∧ Q (.bl (if neg then !(ds.any fun z => PyData.eqv z d) else ds.any fun z => PyData.eqv z d)) H) ∨
  ∃ a o, y = .ref a ∧ DGet H a x o ∧ Q (.bl (if neg then !o.isSome else o.isSome)) H
theorem op_inA (hu : X.A.units + 64 < cLine) : OpR X (compareOp .In) (rInA X.K false) := by
  intro pins s σ H x y v u Q I rx ry h
  rcases h with ⟨d, ds, hd, he, sd, se, dp, q⟩ | ⟨p, o, rfl, g, q⟩
  · obtain ⟨as, r1⟩ := Dp.reads I d x v hd rx
    rcases he with he | he
    · obtain ⟨bs, r2⟩ := Dp.reads I _ y u he ry
      exact SeqAt.in_list_data r2 r1 se sd (by omega) ⟨.bl _, H, I, rfl, q⟩
    · obtain ⟨bs, r2⟩ := Dp.reads I _ y u he ry
      exact SeqAt.in_tuple_data r2 r1 se sd (by omega) ⟨.bl _, H, I, rfl, q⟩
  · cases ry
    exact d_in (by omega) I g rx fun s' I' => ⟨.bl _, H, I', rfl, q⟩
theorem op_notInA (hu : X.A.units + 64 < cLine) : OpR X (compareOp .NotIn) (rInA X.K true) := by
  intro pins s σ H x y v u Q I rx ry h
  rcases h with ⟨d, ds, hd, he, sd, se, dp, q⟩ | ⟨p, o, rfl, g, q⟩
  · obtain ⟨as, r1⟩ := Dp.reads I d x v hd rx
    rcases he with he | he
    · obtain ⟨bs, r2⟩ := Dp.reads I _ y u he ry
      exact SeqAt.notIn_list_data r2 r1 se sd (by omega) ⟨.bl _, H, I, rfl, q⟩
    · obtain ⟨bs, r2⟩ := Dp.reads I _ y u he ry
      exact SeqAt.notIn_tuple_data r2 r1 se sd (by omega) ⟨.bl _, H, I, rfl, q⟩
  · cases ry
    exact d_notIn (by omega) I g rx fun s' I' => ⟨.bl _, H, I', rfl, q⟩
theorem isSome_val {K : PySem.W.Frag} {W : Wd} {k : Key} {kvs : List (Key × V)} {kds : List (Key × Dat)} (r : RepKV K W kvs kds) : (valV kvs k).isSome = (valD kds k).isSome := by
  have h := r.val (k := k)
  cases e : valD kds k with
  | none => rw [e] at h; have h : valV kvs k = none := h; rw [h]; rfl
  | some d => rw [e] at h; obtain ⟨v, h, _⟩ := h; rw [h]; rfl
theorem plain_of {n : Nat} {ds : List Dat} (h : ds.all (okD n) = true) : PyData.plainAll (toPys ds) = true := by
  have := (okD_plain (n + 1) (.lst ds) (by simpa [okD] using h)).1
  simpa [toPy, PyData.plain] using this
theorem in_dp {G : Gh} {W : Wd} {H : Hp} {v : V} {ds : List Dat} (h : HpOk G W H) (ho : ds.all (okD 16) = true) : (RepB G W H v (.lst ds) → Dp G.K H v (.list (toPys ds))) ∧ (RepB G W H v (.tup ds) → Dp G.K H v (.tuple (toPys ds))) := by
  refine ⟨fun r => ?_, fun r => ?_⟩
  · have := r.dp (n := 17) h (by simpa [okD] using ho)
    simpa [toPy] using this
  · have := r.dp (n := 17) h (by simpa [okD] using ho)
    simpa [toPy] using this
theorem does_in : Does2 X gIn (rInA X.K false) := by
  intro G hK W δ σ H x y d e P Q s rx ry hg hz
  rw [← hK]
  cases e with
  | lst ds =>
    obtain ⟨o1, o2, hg⟩ := hg
    refine .inl ⟨_, _, rx.dp s.h o1, .inl ((in_dp s.h o2).1 ry), (okD_plain _ _ o1).1, plain_of o2, (okD_plain _ _ o1).2, ?_⟩
    rw [toPys_any d 16 16 ds o1 o2]
    exact hz _ W _ H hg (Ext.refl W) s .bl
  | tup ds =>
    obtain ⟨o1, o2, hg⟩ := hg
    refine .inl ⟨_, _, rx.dp s.h o1, .inr ((in_dp s.h o2).2 ry), (okD_plain _ _ o1).1, plain_of o2, (okD_plain _ _ o1).2, ?_⟩
    rw [toPys_any d 16 16 ds o1 o2]
    exact hz _ W _ H hg (Ext.refl W) s .bl
  | dK kvs =>
    obtain ⟨k, ek, hg⟩ := hg
    obtain ⟨p, vs, rfl, h1, r⟩ := ry.dK s.h
    rw [keyD_V rx ek]
    refine .inr ⟨p, _, rfl, DGetR (k := k) h1, ?_⟩
    rw [isSome_val r]
    exact hz _ W _ H hg (Ext.refl W) s .bl
  | _ => exact hg.elim
theorem does_notIn : Does2 X gNotIn (rInA X.K true) := by
  intro G hK W δ σ H x y d e P Q s rx ry hg hz
  rw [← hK]
  cases e with
  | lst ds =>
    obtain ⟨o1, o2, hg⟩ := hg
    refine .inl ⟨_, _, rx.dp s.h o1, .inl ((in_dp s.h o2).1 ry), (okD_plain _ _ o1).1, plain_of o2, (okD_plain _ _ o1).2, ?_⟩
    rw [toPys_any d 16 16 ds o1 o2]
    exact hz _ W _ H hg (Ext.refl W) s .bl
  | tup ds =>
    obtain ⟨o1, o2, hg⟩ := hg
    refine .inl ⟨_, _, rx.dp s.h o1, .inr ((in_dp s.h o2).2 ry), (okD_plain _ _ o1).1, plain_of o2, (okD_plain _ _ o1).2, ?_⟩
    rw [toPys_any d 16 16 ds o1 o2]
    exact hz _ W _ H hg (Ext.refl W) s .bl
  | dK kvs =>
    obtain ⟨k, ek, hg⟩ := hg
    obtain ⟨p, vs, rfl, h1, r⟩ := ry.dK s.h
    rw [keyD_V rx ek]
    refine .inr ⟨p, _, rfl, DGetR (k := k) h1, ?_⟩
    rw [isSome_val r]
    exact hz _ W _ H hg (Ext.refl W) s .bl
  | _ => exact hg.elim
end
/-! ### words only grow: for the words that stand within a comprehension -/
theorem mwVar {i : Nat} : MonoE (wVar i) := fun ex δ Q Q' hq h => by
  unfold wVar at h ⊢
  split at h
  · exact hq _ _ h
  · exact hq _ _ h
  · exact h
theorem mwC {d : Dat} : MonoE (wC d) := fun _ _ _ _ hq h => hq _ _ h
theorem moSlot {i : Nat} : MonoO (oSlot i) := fun _ _ _ _ hq h => ⟨h.1, hq _ _ h.2⟩
theorem moVal {w : WE} (m : MonoE w) : MonoO (oVal w) := fun ex δ Q Q' hq q => m ex δ _ _ (fun d δ' x => hq _ _ x) q
theorem mwE {w : WV} (m : MonoV w) : MonoE (wE w) := fun ex δ Q Q' hq q => m ex δ _ _ (fun d δ' x => by
  cases d with
  | un => exact x
  | fz d => exact hq _ _ x
  | ow d => exact hq _ _ x) q
theorem mvJ {w : WE} (m : MonoE w) : MonoV (wJ w) := fun ex δ Q Q' hq q => m ex δ _ _ (fun d δ' x => hq _ _ x) q
theorem mv1 {g : Dat → (DV → Prop) → Prop} {w : WO} (m : MonoO w) (mg : MonoG1 g) : MonoV (wOp1 g w) := fun ex δ Q Q' hq h => m ex δ _ _ (fun o1 δ1 ⟨d1, e1, hg⟩ => ⟨d1, e1, mg d1 _ _ (fun r x => hq _ _ x) hg⟩) h
theorem maNil : MonoA aNil := fun _ _ _ _ hq h => hq _ _ h
theorem maCons {w : WE} {wr : WA} (m : MonoE w) (mr : MonoA wr) : MonoA (aCons w wr) := fun ex δ Q Q' hq h => m ex δ _ _ (fun o δ1 h1 => mr ex δ1 _ _ (fun os δ2 h2 => hq _ _ h2) h1) h
theorem maoNil : MonoAO aoNil := fun _ _ _ _ hq h => hq _ _ h
theorem maoCons {w : WO} {wr : WAO} (m : MonoO w) (mr : MonoAO wr) : MonoAO (aoCons w wr) := fun ex δ Q Q' hq h => m ex δ _ _ (fun o δ1 h1 => mr ex δ1 _ _ (fun os δ2 h2 => hq _ _ h2) h1) h
theorem mwTup {w : WA} (m : MonoA w) : MonoE (wTup w) := fun ex δ Q Q' hq h => m ex δ _ _ (fun ds δ1 ⟨z, q⟩ => ⟨z, hq _ _ q⟩) h
theorem mvLst {w : WA} (m : MonoA w) : MonoV (wLst w) := fun ex δ Q Q' hq h => m ex δ _ _ (fun ds δ1 ⟨z, q⟩ => ⟨z, hq _ _ q⟩) h
theorem mwAnd {u v : WE} (mu : MonoE u) (mv : MonoE v) : MonoE (wAnd u v) := fun ex δ Q Q' hq h => mu ex δ _ _ (fun d δ' ⟨k, e, x⟩ => ⟨k, e, by
  cases k with
  | true => exact mv ex δ' _ _ hq x
  | false => exact hq _ _ x⟩) h
theorem mwOr {u v : WE} (mu : MonoE u) (mv : MonoE v) : MonoE (wOr u v) := fun ex δ Q Q' hq h => mu ex δ _ _ (fun d δ' ⟨k, e, x⟩ => ⟨k, e, by
  cases k with
  | true => exact hq _ _ x
  | false => exact mv ex δ' _ _ hq x⟩) h
theorem mwNot {u : WE} (mu : MonoE u) : MonoE (wNot u) := fun ex δ Q Q' hq h => mu ex δ _ _ (fun d δ' ⟨k, e, x⟩ => ⟨k, e, hq _ _ x⟩) h
theorem mwIte {t : WT} {p q : WE} (mt : MonoT t) (mp : MonoE p) (mq : MonoE q) : MonoE (wIte t p q) := fun ex δ Q Q' hq h => mt ex δ _ _ (fun k δ' x => by
  cases k with
  | true => exact mp ex δ' _ _ hq x
  | false => exact mq ex δ' _ _ hq x) h
theorem mtNot {u : WT} (mu : MonoT u) : MonoT (tNot u) := fun ex δ Q Q' hq q => mu ex δ _ _ (fun k δ' x => hq _ _ x) q
theorem mtYes : MonoT tYesD := fun _ _ _ _ hq h => hq _ _ h
theorem maRange1 {w : WO} (m : MonoO w) : MonoA (iRange1 w) := fun ex δ Q Q' hq q => m ex δ _ _ (fun o δ' ⟨j, e1, z, x⟩ => ⟨j, e1, z, hq _ _ x⟩) q
theorem maRange2 {w u : WO} (m : MonoO w) (m2 : MonoO u) : MonoA (iRange2 w u) := fun ex δ Q Q' hq q => m ex δ _ _ (fun o δ1 x => m2 ex δ1 _ _ (fun o2 δ2 ⟨i, j, e1, e2, z, x⟩ => ⟨i, j, e1, e2, z, hq _ _ x⟩) x) q
theorem maSeq {w : WE} (m : MonoE w) : MonoA (iSeq w) := fun ex δ Q Q' hq q => m ex δ _ _ (fun d δ' ⟨ds, z, x⟩ => ⟨ds, z, hq _ _ x⟩) q
theorem mPtNone : MonoPt ptNone := fun _ _ _ _ hq h => hq _ _ h
theorem mPtSome {w : WE} (m : MonoE w) : MonoPt (ptSome w) := fun ex δ Q Q' hq q => m ex δ _ _ (fun d δ' ⟨i, e, x⟩ => ⟨i, e, hq _ _ x⟩) q
theorem mvSl {wa : WO} {wl wh : WPt} (ma : MonoO wa) (ml : MonoPt wl) (mh : MonoPt wh) : MonoV (wSl wa wl wh) := fun ex δ Q Q' hq q => ma ex δ _ _ (fun o δ1 x => ml ex δ1 _ _ (fun l δ2 y => mh ex δ2 _ _ (fun u δ3 ⟨d, e, z⟩ => ⟨d, e, gSl_mono (fun r t => hq _ _ t) z⟩) y) x) q
theorem mwGet {wd wk : WO} {wx : WE} (hd : MonoO wd) (hk : MonoO wk) (hx : MonoE wx) : MonoE (wGet wd wk wx) := fun ex δ Q Q' hq h => hd ex δ _ _ (fun o δ1 ⟨z, y⟩ => ⟨z, hk ex δ1 _ _ (fun ok δ2 y => hx ex δ2 _ _ (fun x δ3 ⟨kvs, k, key, e1, e2, e3, q⟩ => ⟨kvs, k, key, e1, e2, e3, hq _ _ q⟩) y) y⟩) h
theorem mwAppend {i : Nat} {w : WE} (m : MonoE w) : MonoE (wAppend i w) := fun ex δ Q Q' hq h => ⟨h.1, m ex δ _ _ (fun d δ1 ⟨ds, e1, z, q⟩ => ⟨ds, e1, z, hq _ _ q⟩) h.2⟩
theorem mvValuesL {w : WO} (m : MonoO w) : MonoV (wValuesL w) := fun ex δ Q Q' hq h => m ex δ _ _ (fun o δ1 ⟨kvs, e, q⟩ => ⟨kvs, e, hq _ _ q⟩) h
theorem mvDict0 : MonoV wDict0 := fun _ _ _ _ hq h => hq _ _ h
theorem mwBag {w : WA} (m : MonoA w) : MonoE (wBag w) := fun ex δ Q Q' hq h => m ex δ _ _ (fun ds δ1 ⟨x, y, z, e, q⟩ => ⟨x, y, z, e, hq _ _ q⟩) h
theorem mcMono {f : Int → Int → Bool} : MonoG2 (gCmp f) := gCmp_mono
theorem mgDiv : MonoG2 gDiv := gII_mono
theorem mgMod : MonoG2 gMod := gII_mono
theorem mgPow : MonoG2 gPow := gII_mono
/-! statements -/
theorem msNext : MonoS wNext := fun _ _ _ _ hl h => hl.nx _ h
theorem msNever : MonoS wNever := fun _ _ _ _ _ h => h
theorem msBreak : MonoS wBreak := fun _ _ _ _ hl h => hl.bk _ h
theorem msCont : MonoS wCont := fun _ _ _ _ hl h => hl.ct _ h
theorem msRet {w : WE} (m : MonoE w) : MonoS (wRet w) := fun ex D D' δ hl q => m ex δ _ _ (fun d δ' x => hl.rt _ x) q
theorem msRetN : MonoS wRetN := fun ex D D' δ hl q => hl.rt _ q
theorem msExpr {w : WE} (m : MonoE w) : MonoS (wExpr w) := fun ex D D' δ hl q => m ex δ _ _ (fun d δ' x => hl.nx _ x) q
theorem msIf {t : WT} {u v : WS} (mt : MonoT t) (mu : MonoS u) (mv : MonoS v) : MonoS (wIf t u v) := fun ex D D' δ hl q => mt ex δ _ _ (fun k δ' x => by
  cases k with
  | true => exact mu ex _ _ δ' hl x
  | false => exact mv ex _ _ δ' hl x) q
theorem msWhile {t : WT} {u : WS} (mt : MonoT t) (mu : MonoS u) : MonoS (wWhile t u) := fun ex D D' δ hl ⟨n, q⟩ => ⟨n, wIter_mono mt mu n ex D D' δ hl q⟩
theorem msFor {w : WI} {g : WG} {u : WS} (m : MonoA w) (mg : MonoG g) (mu : MonoS u) : MonoS (wFor w g u) := fun ex D D' δ hl q => m ex δ _ _ (fun ds δ1 x => wLoop_mono mg mu ds ex D D' δ1 hl x) q
theorem mgN {i : Nat} : MonoG (wgN i) := fun ex d δ Q Q' hq h => hq _ h
theorem mgsNil : MonoGs wgNil := fun ex d δ Q Q' hq h => ⟨h.1, hq _ h.2⟩
theorem mgsCons {g : WG} {gs : WGs} (m : MonoG g) (ms : MonoGs gs) : MonoGs (wgCons g gs) := fun ex d δ Q Q' hq ⟨d1, r, e, h⟩ => ⟨d1, r, e, m ex d1 δ _ _ (fun δ' x => ms ex r δ' _ _ hq x) h⟩
theorem mgTup {n : Nat} {gs : WGs} (ms : MonoGs gs) : MonoG (wgTup n gs) := fun ex d δ Q Q' hq ⟨ds, e, z, x⟩ => ⟨ds, e, z, ms ex ds δ _ _ hq x⟩
theorem mgSub {i : Nat} {w : WO} (m : MonoO w) : MonoG (wgSub i w) := fun ex d δ Q Q' hq h => ⟨h.1, m ex δ _ _ (fun o δ1 ⟨k, e, q⟩ => ⟨k, e, putS_mono hq q⟩) h.2⟩
theorem msAsg {i : Nat} {w : WV} (m : MonoV w) : MonoS (wAsg i w) := fun ex D D' δ hl q => m ex δ _ _ (fun v δ' x => ⟨x.1, hl.nx _ x.2⟩) q
theorem msAsgG {w : WE} {g : WG} (m : MonoE w) (mg : MonoG g) : MonoS (wAsgG w g) := fun ex D D' δ hl q => m ex δ _ _ (fun d δ' x => mg ex d δ' _ _ hl.nx x) q
theorem msAug {i : Nat} {g : Dat → Dat → (DV → Prop) → Prop} {w : WO} (mg : MonoG2 g) (m : MonoO w) : MonoS (wAug i g w) := fun ex D D' δ hl q => ⟨q.1, m ex δ _ _ (fun o δ1 ⟨c, k, e1, e2, x⟩ => ⟨c, k, e1, e2, mg c k _ _ (fun r y => ⟨y.1, hl.nx _ y.2⟩) x⟩) q.2⟩
theorem majNil : MonoAJ ajNil := fun _ _ _ _ hq h => hq _ _ h
theorem majCons {w : WV} {wr : WAJ} (m : MonoV w) (mr : MonoAJ wr) : MonoAJ (ajCons w wr) := fun ex δ Q Q' hq h => m ex δ _ _ (fun v δ1 h1 => mr ex δ1 _ _ (fun vs δ2 h2 => hq _ _ h2) h1) h

class IE (w : WE) : Prop where p : MonoE w
class IV (w : WV) : Prop where p : MonoV w
class IT (w : WT) : Prop where p : MonoT w
class IA (w : WA) : Prop where p : MonoA w
class IO (w : WO) : Prop where p : MonoO w
class IAO (w : WAO) : Prop where p : MonoAO w
class IAJ (w : WAJ) : Prop where p : MonoAJ w
class IS (w : WS) : Prop where p : MonoS w
class IG (w : WG) : Prop where p : MonoG w
class IGs (w : WGs) : Prop where p : MonoGs w
class IPt (w : WPt) : Prop where p : MonoPt w
class I2 (g : Dat → Dat → (DV → Prop) → Prop) : Prop where p : MonoG2 g
class I1 (g : Dat → (DV → Prop) → Prop) : Prop where p : MonoG1 g
class IL (g : List Dat → (DV → Prop) → Prop) : Prop where p : MonoGL g
class ISp (Φ : DSp) : Prop where p : MonoSp Φ
theorem moE {w : WE} [h : IE w] : MonoE w := h.p
theorem moT {w : WT} [h : IT w] : MonoT w := h.p
theorem moS {w : WS} [h : IS w] : MonoS w := h.p
theorem moG {w : WG} [h : IG w] : MonoG w := h.p
theorem moSp {Φ : DSp} [h : ISp Φ] : MonoSp Φ := h.p
instance : I2 gAdd := ⟨gAdd_mono⟩
instance : I2 gSubA := ⟨gSubA_mono⟩
instance : I2 gMul := ⟨gMul_mono⟩
instance : I2 gDiv := ⟨gII_mono⟩
instance : I2 gMod := ⟨gII_mono⟩
instance : I2 gPow := ⟨gII_mono⟩
instance : I2 gEq := ⟨gEq_mono⟩
instance : I2 gNe := ⟨gNe_mono⟩
instance : I2 gIx := ⟨gIx_mono⟩
instance : I2 gIn := ⟨gIn_mono⟩
instance : I2 gNotIn := ⟨gNotIn_mono⟩
instance : I2 gIsN := ⟨gIsN_mono⟩
instance : I2 gNotN := ⟨gNotN_mono⟩
instance {f : Int → Int → Bool} : I2 (gCmp f) := ⟨gCmp_mono⟩
instance {f : Int → Int → Int} : I2 (gI0 f) := ⟨gI0_mono⟩
instance {C : Int → Int → Prop} {f : Int → Int → Int} : I2 (gII C f) := ⟨gII_mono⟩
instance : I1 gNeg := ⟨gNeg_mono⟩
instance : IL gLen := ⟨gLen_mono⟩
instance {f : Int → Int} : IL (gI1 f) := ⟨gI1_mono⟩
instance {f : Int → Int → Int} : IL (gI2 f) := ⟨gI2_mono⟩
instance : IL gMax := ⟨gMax_mono⟩
instance : IL gMin := ⟨gMin_mono⟩
instance : IL gInt := ⟨gInt_mono⟩
instance : IL gSum := ⟨gSum_mono⟩
instance : IL gRepr := ⟨gRepr_mono⟩
instance : IL gIsi := ⟨gIsi_mono⟩
instance : IL gList := ⟨gList_mono⟩
instance : IL gTuple := ⟨gTuple_mono⟩
instance {i : Nat} : IE (wVar i) := ⟨mwVar⟩
instance {d : Dat} : IE (wC d) := ⟨mwC⟩
instance {i : Nat} : IO (oSlot i) := ⟨moSlot⟩
instance {w : WE} [h : IE w] : IO (oVal w) := ⟨moVal h.p⟩
instance {w : WV} [h : IV w] : IE (wE w) := ⟨mwE h.p⟩
instance {w : WE} [h : IE w] : IV (wJ w) := ⟨mvJ h.p⟩
instance {g : Dat → Dat → (DV → Prop) → Prop} {a b : WO} [ha : IO a] [hb : IO b] [hg : I2 g] : IV (wOp2 g a b) := ⟨mono2 ha.p hb.p hg.p⟩
instance {g : Dat → (DV → Prop) → Prop} {a : WO} [ha : IO a] [hg : I1 g] : IV (wOp1 g a) := ⟨mv1 ha.p hg.p⟩
instance : IA aNil := ⟨maNil⟩
instance {w : WE} {r : WA} [h : IE w] [hr : IA r] : IA (aCons w r) := ⟨maCons h.p hr.p⟩
instance : IAO aoNil := ⟨maoNil⟩
instance {w : WO} {r : WAO} [h : IO w] [hr : IAO r] : IAO (aoCons w r) := ⟨maoCons h.p hr.p⟩
instance : IAJ ajNil := ⟨majNil⟩
instance {w : WV} {r : WAJ} [h : IV w] [hr : IAJ r] : IAJ (ajCons w r) := ⟨majCons h.p hr.p⟩
instance {g : List Dat → (DV → Prop) → Prop} {w : WAO} [h : IAO w] [hg : IL g] : IV (wCB g w) := ⟨monoL h.p hg.p⟩
instance {w : WA} [h : IA w] : IE (wTup w) := ⟨mwTup h.p⟩
instance {w : WA} [h : IA w] : IV (wLst w) := ⟨mvLst h.p⟩
instance {w : WA} [h : IA w] : IE (wBag w) := ⟨mwBag h.p⟩
instance {u v : WE} [h : IE u] [h' : IE v] : IE (wAnd u v) := ⟨mwAnd h.p h'.p⟩
instance {u v : WE} [h : IE u] [h' : IE v] : IE (wOr u v) := ⟨mwOr h.p h'.p⟩
instance {u : WE} [h : IE u] : IE (wNot u) := ⟨mwNot h.p⟩
instance {t : WT} {u v : WE} [ht : IT t] [h : IE u] [h' : IE v] : IE (wIte t u v) := ⟨mwIte ht.p h.p h'.p⟩
instance {g g' : Dat → Dat → (DV → Prop) → Prop} {a b c : WO} [hg : I2 g] [hg' : I2 g'] [ha : IO a] [hb : IO b] [hc : IO c] : IE (wChain g g' a b c) := ⟨wChain_mono hg.p hg'.p ha.p hb.p hc.p⟩
instance {w : WE} [h : IE w] : IT (tBl w) := ⟨monoBl h.p⟩
instance {w : WV} [h : IV w] : IT (tBlV w) := ⟨monoBlV h.p⟩
instance {u v : WT} [h : IT u] [h' : IT v] : IT (tAnd u v) := ⟨tAnd_mono h.p h'.p⟩
instance {u v : WT} [h : IT u] [h' : IT v] : IT (tOr u v) := ⟨tOr_mono h.p h'.p⟩
instance {u : WT} [h : IT u] : IT (tNot u) := ⟨mtNot h.p⟩
instance : IT tYesD := ⟨mtYes⟩
instance {w : WO} [h : IO w] : IA (iRange1 w) := ⟨maRange1 h.p⟩
instance {w u : WO} [h : IO w] [h' : IO u] : IA (iRange2 w u) := ⟨maRange2 h.p h'.p⟩
instance {w : WE} [h : IE w] : IA (iSeq w) := ⟨maSeq h.p⟩
instance : IPt ptNone := ⟨mPtNone⟩
instance {w : WE} [h : IE w] : IPt (ptSome w) := ⟨mPtSome h.p⟩
instance {w : WO} {l u : WPt} [h : IO w] [hl : IPt l] [hu : IPt u] : IV (wSl w l u) := ⟨mvSl h.p hl.p hu.p⟩
instance {w u : WO} {x : WE} [h : IO w] [h' : IO u] [hx : IE x] : IE (wGet w u x) := ⟨mwGet h.p h'.p hx.p⟩
instance {i : Nat} {w : WE} [h : IE w] : IE (wAppend i w) := ⟨mwAppend h.p⟩
instance {w : WO} [h : IO w] : IV (wValuesL w) := ⟨mvValuesL h.p⟩
instance : IV wDict0 := ⟨mvDict0⟩
instance {Φ : DSp} {w : WA} [hs : ISp Φ] [h : IA w] : IE (wCall Φ w) := ⟨wCall_mono hs.p h.p⟩
instance {wi : WI} {ct : CT} {own : List Nat} {t : WT} {w : WE} [hi : IA wi] [ht : IT t] [hw : IE w] : IV (wComp wi ct own t w) := ⟨wComp_mono hi.p ht.p hw.p⟩
instance : IS wNext := ⟨msNext⟩
instance : IS wNever := ⟨msNever⟩
instance : IS wBreak := ⟨msBreak⟩
instance : IS wCont := ⟨msCont⟩
instance : IS wRetN := ⟨msRetN⟩
instance {u v : WS} [h : IS u] [h' : IS v] : IS (wSeq u v) := ⟨wSeq_mono h.p h'.p⟩
instance {w : WE} [h : IE w] : IS (wRet w) := ⟨msRet h.p⟩
instance {w : WE} [h : IE w] : IS (wExpr w) := ⟨msExpr h.p⟩
instance {t : WT} {u v : WS} [ht : IT t] [h : IS u] [h' : IS v] : IS (wIf t u v) := ⟨msIf ht.p h.p h'.p⟩
instance {t : WT} {u : WS} [ht : IT t] [h : IS u] : IS (wWhile t u) := ⟨msWhile ht.p h.p⟩
instance {w : WI} {g : WG} {u : WS} [h : IA w] [hg : IG g] [hu : IS u] : IS (wFor w g u) := ⟨msFor h.p hg.p hu.p⟩
instance {i : Nat} : IG (wgN i) := ⟨mgN⟩
instance : IGs wgNil := ⟨mgsNil⟩
instance {g : WG} {gs : WGs} [h : IG g] [h' : IGs gs] : IGs (wgCons g gs) := ⟨mgsCons h.p h'.p⟩
instance {n : Nat} {gs : WGs} [h : IGs gs] : IG (wgTup n gs) := ⟨mgTup h.p⟩
instance {i : Nat} {w : WO} [h : IO w] : IG (wgSub i w) := ⟨mgSub h.p⟩
instance {i : Nat} {w : WV} [h : IV w] : IS (wAsg i w) := ⟨msAsg h.p⟩
instance {w : WE} {g : WG} [h : IE w] [hg : IG g] : IS (wAsgG w g) := ⟨msAsgG h.p hg.p⟩
instance {i : Nat} {g : Dat → Dat → (DV → Prop) → Prop} {w : WO} [hg : I2 g] [h : IO w] : IS (wAug i g w) := ⟨msAug hg.p h.p⟩
instance {is : List Nat} {w : WAJ} [h : IAJ w] : IS (wSets is w) := ⟨wSets_mono h.p⟩
end DL
set_option Elab.async false
set_option linter.all false
set_option maxRecDepth 100000
/-! Run lemmas: `simp [↓ …]` steps through a word in order. -/
namespace DL
open PySem PySem.Spec PyProof.Rows L2
def withG (o : Opd) (δ : Dl) (k : Dat → Prop) : Prop := ∃ d, o.get δ = some d ∧ k d
def withA (os : List Opd) (δ : Dl) (k : List Dat → Prop) : Prop := ∃ ds, getAll os δ = some ds ∧ k ds
def slotG : Option DV → (Dat → Prop) → Prop
  | some (.fz d), k => k d
  | some (.ow d), k => k d
  | _, _ => False
theorem r_get1 {o : Opd} {δ : Dl} {k : Dat → Prop} : (∃ d, o.get δ = some d ∧ k d) = withG o δ k := rfl
theorem r_get2 {o o2 : Opd} {δ : Dl} {k : Dat → Dat → Prop} : (∃ d1 d2, o.get δ = some d1 ∧ o2.get δ = some d2 ∧ k d1 d2) = withG o δ fun d1 => withG o2 δ fun d2 => k d1 d2 := by
  unfold withG; apply propext; constructor
  · rintro ⟨a, b, c, d, e⟩; exact ⟨a, c, b, d, e⟩
  · rintro ⟨a, c, b, d, e⟩; exact ⟨a, b, c, d, e⟩
theorem r_getE {o : Opd} {δ : Dl} : (∃ d, o.get δ = some d) = withG o δ fun _ => True := by unfold withG; simp
theorem r_val {d : Dat} {δ : Dl} {k : Dat → Prop} : withG (.val d) δ k = k d := by unfold withG; simp
theorem r_slot {i : Nat} {δ : Dl} {k : Dat → Prop} : withG (.slot i) δ k = slotG δ[i]? k := by
  unfold withG
  cases h : δ[i]? with
  | none => simp [h, slotG]
  | some v => cases v <;> simp [h, slotG]
theorem r_sfz {d : Dat} {k : Dat → Prop} : slotG (some (.fz d)) k = k d := rfl
theorem r_sow {d : Dat} {k : Dat → Prop} : slotG (some (.ow d)) k = k d := rfl
theorem r_sun {k : Dat → Prop} : slotG (some .un) k = False := rfl
theorem r_all {os : List Opd} {δ : Dl} {k : List Dat → Prop} : (∃ ds, getAll os δ = some ds ∧ k ds) = withA os δ k := rfl
theorem r_all0 {δ : Dl} {k : List Dat → Prop} : withA [] δ k = k [] := by unfold withA; simp
theorem r_all1 {o : Opd} {os : List Opd} {δ : Dl} {k : List Dat → Prop} : withA (o :: os) δ k = withG o δ fun d => withA os δ fun ds => k (d :: ds) := by
  unfold withA withG; apply propext; constructor
  · rintro ⟨ds, e, h⟩
    have e : ((o.get δ).bind fun d => (getAll os δ).bind fun ds => some (d :: ds)) = some ds := e
    obtain ⟨d, e1, e2⟩ := Option.bind_eq_some_iff.1 e
    obtain ⟨es, e3, e4⟩ := Option.bind_eq_some_iff.1 e2
    cases e4
    exact ⟨d, e1, es, e3, h⟩
  · rintro ⟨d, e, es, e2, h⟩
    refine ⟨_, ?_, h⟩
    show ((o.get δ).bind fun d => (getAll os δ).bind fun ds => some (d :: ds)) = _
    rw [e, Option.bind_some, e2]; rfl
theorem r_bl {b : Bool} {k : Bool → Prop} : (∃ x, Dat.bl b = .bl x ∧ k x) = k b := by simp
theorem r_fbl {b : Bool} {k : Bool → Prop} : (∃ x, DV.fz (.bl b) = .fz (.bl x) ∧ k x) = k b := by simp
theorem r_int {b : Int} {k : Int → Prop} : (∃ x, Dat.int b = .int x ∧ k x) = k b := by simp
theorem r_cons {d : Dat} {ds : List Dat} {k : Dat → List Dat → Prop} : (∃ x r, d :: ds = x :: r ∧ k x r) = k d ds := by simp [and_assoc]
theorem r_tupE {ds : List Dat} {k : List Dat → Prop} : (∃ x, Dat.tup ds = .tup x ∧ k x) = k ds := by simp
theorem r_dKE {ds : List (Key × Dat)} {k : List (Key × Dat) → Prop} : (∃ x, Dat.dK ds = .dK x ∧ k x) = k ds := by simp
theorem r_seqL {l : List Dat} {k : List Dat → Prop} : (∃ ds, (Dat.lst l = .lst ds ∨ Dat.lst l = .tup ds) ∧ k ds) = k l := by simp
theorem r_seqT {l : List Dat} {k : List Dat → Prop} : (∃ ds, (Dat.tup l = .lst ds ∨ Dat.tup l = .tup ds) ∧ k ds) = k l := by simp
theorem r_sets0 {δ : Dl} {k : Dl → Prop} : (∃ δ2, setsD [] [] δ = some δ2 ∧ k δ2) = k δ := by simp
theorem r_setsF {i : Nat} {is : List Nat} {d : Dat} {vs : List DV} {δ : Dl} {k : Dl → Prop} : (∃ δ2, setsD (i :: is) (.fz d :: vs) δ = some δ2 ∧ k δ2) = ∃ δ2, setsD is vs (δ.set i (.fz d)) = some δ2 ∧ k δ2 := rfl
theorem r_setsO {i : Nat} {is : List Nat} {d : Dat} {vs : List DV} {δ : Dl} {k : Dl → Prop} : (∃ δ2, setsD (i :: is) (.ow d :: vs) δ = some δ2 ∧ k δ2) = ∃ δ2, setsD is vs (δ.set i (.ow d)) = some δ2 ∧ k δ2 := rfl
theorem r_nun {d : Dat} : (DV.fz d ≠ .un) = True := by simp
theorem r_nuo {d : Dat} : (DV.ow d ≠ .un) = True := by simp
/-! the operators -/
theorem r_add {i j : Int} {P : DV → Prop} : gAdd (.int i) (.int j) P = P (.fz (.int (i + j))) := rfl
theorem r_addl {i j : List Dat} {P : DV → Prop} : gAdd (.lst i) (.lst j) P = (i.length + j.length ≤ 1000000 ∧ P (.ow (.lst (i ++ j)))) := rfl
theorem r_addt {i j : List Dat} {P : DV → Prop} : gAdd (.tup i) (.tup j) P = (i.length + j.length ≤ 1000000 ∧ P (.fz (.tup (i ++ j)))) := rfl
theorem r_addb {i : Int} {j : Bool} {P : DV → Prop} : gAdd (.int i) (.bl j) P = P (.fz (.int (i + b2i j))) := rfl
theorem r_sub {i j : Int} {P : DV → Prop} : gSubA (.int i) (.int j) P = P (.fz (.int (i - j))) := rfl
theorem r_subb {i j : Bool} {P : DV → Prop} : gSubA (.bl i) (.bl j) P = P (.fz (.int ((if i = true then 1 else 0) - (if j = true then 1 else 0)))) := rfl
theorem r_mul {i j : Int} {P : DV → Prop} : gMul (.int i) (.int j) P = (MulOk i j ∧ P (.fz (.int (i * j)))) := rfl
theorem r_div {i j : Int} {P : DV → Prop} : gDiv (.int i) (.int j) P = (CDivM i j ∧ P (.fz (.int (pyDiv i j)))) := rfl
theorem r_mod {i j : Int} {P : DV → Prop} : gMod (.int i) (.int j) P = (j ≠ 0 ∧ P (.fz (.int (pyMod i j)))) := rfl
theorem r_pow {i j : Int} {P : DV → Prop} : gPow (.int i) (.int j) P = (CPowM i j ∧ P (.fz (.int (i ^ j.toNat)))) := rfl
theorem r_cmp {f : Int → Int → Bool} {i j : Int} {P : DV → Prop} : gCmp f (.int i) (.int j) P = P (.fz (.bl (f i j))) := rfl
theorem r_i0 {f : Int → Int → Int} {i j : Int} {P : DV → Prop} : gI0 f (.int i) (.int j) P = P (.fz (.int (f i j))) := rfl
theorem r_neg {i : Int} {P : DV → Prop} : gNeg (.int i) P = P (.fz (.int (-i))) := rfl
theorem r_eq {d e : Dat} {P : DV → Prop} : gEq d e P = (okD 32 d = true ∧ okD 32 e = true ∧ P (.fz (.bl (eqvD d e)))) := rfl
theorem r_ne {d e : Dat} {P : DV → Prop} : gNe d e P = (okD 32 d = true ∧ okD 32 e = true ∧ P (.fz (.bl (!eqvD d e)))) := rfl
theorem r_i1 {f : Int → Int} {i : Int} {P : DV → Prop} : gI1 f [.int i] P = P (.fz (.int (f i))) := rfl
theorem r_i2 {f : Int → Int → Int} {i j : Int} {P : DV → Prop} : gI2 f [.int i, .int j] P = P (.fz (.int (f i j))) := rfl
theorem r_max {i j : Int} {P : DV → Prop} : gMax [.int i, .int j] P = P (.fz (.int (pyMax i j))) := rfl
theorem r_min {i j : Int} {P : DV → Prop} : gMin [.int i, .int j] P = P (.fz (.int (pyMin i j))) := rfl
theorem r_toI {i : Int} {P : DV → Prop} : gInt [.int i] P = P (.fz (.int i)) := rfl
theorem r_toIb {i : Bool} {P : DV → Prop} : gInt [.bl i] P = P (.fz (.int (if i then 1 else 0))) := rfl
theorem r_lenL {i : List Dat} {P : DV → Prop} : gLen [.lst i] P = P (.fz (.int i.length)) := rfl
theorem r_lenT {i : List Dat} {P : DV → Prop} : gLen [.tup i] P = P (.fz (.int i.length)) := rfl
theorem r_lenS {i : List Int} {P : DV → Prop} : gLen [.scr i] P = P (.fz (.int i.length)) := rfl
theorem r_reprI {i : Int} {P : DV → Prop} : gRepr [.int i] P = (i.natAbs.log2 < 1920 ∧ P (.fz (.str (toString i)))) := rfl
theorem r_reprB {i : Bool} {P : DV → Prop} : gRepr [.bl i] P = P (.fz (.str (if i then "True" else "False"))) := rfl
theorem r_ixT {ds : List Dat} {k : Int} {P : DV → Prop} : gIx (.tup ds) (.int k) P = ∃ d, atI ds k = some d ∧ P (.fz d) := rfl
theorem r_ixL {ds : List Dat} {k : Int} {P : DV → Prop} : gIx (.lst ds) (.int k) P = ∃ d, atI ds k = some d ∧ P (.fz d) := rfl
@[simp] theorem atI_0 {α : Type} {a : α} {l : List α} : atI (a :: l) 0 = some a := by
  unfold atI ixN; simp
@[simp] theorem atI_1 {α : Type} {a b : α} {l : List α} : atI (a :: b :: l) 1 = some b := by
  unfold atI ixN
  have : (1 : Int) < ((a :: b :: l).length : Int) := by simp; omega
  simp only [this]; simp
@[simp] theorem atI_2 {α : Type} {a b c : α} {l : List α} : atI (a :: b :: c :: l) 2 = some c := by
  unfold atI ixN
  have : (2 : Int) < ((a :: b :: c :: l).length : Int) := by simp; omega
  simp only [this]; simp
theorem r_at0 {α : Type} {a : α} {l : List α} {P : α → Prop} : (∃ d, atI (a :: l) 0 = some d ∧ P d) = P a := by simp
theorem r_at1 {α : Type} {a b : α} {l : List α} {P : α → Prop} : (∃ d, atI (a :: b :: l) 1 = some d ∧ P d) = P b := by simp
theorem r_at2 {α : Type} {a b c : α} {l : List α} {P : α → Prop} : (∃ d, atI (a :: b :: c :: l) 2 = some d ∧ P d) = P c := by simp
theorem r_exact {α : Type} {a : α} {P : α → Prop} : (∃ d, some a = some d ∧ P d) = P a := by simp
end DL
set_option Elab.async false
set_option linter.all false
set_option maxRecDepth 100000
/-! More walks: range of three, enumerate, zip. -/
namespace DL
open PySem PySem.Spec PyProof.Rows L2
section
variable {X : Cx} {cn : Str → Value} {pos : Pos} {a b c e : Expr}
def rangeC (i c : Int) (n : Nat) : List Dat := (List.range n).map fun (k : Nat) => Dat.int (i + k * c)
theorem yields_rngC {K : PySem.W.Frag} {W : Wd} (i c : Int) (n : Nat) : Yields K W (Itc i c n) (rangeC i c n) := fun G hK W' δ σ H x s k => by
  refine ⟨fun d e => ?_, fun hl => by
    have hl : (rangeC i c n).length ≤ k := hl
    unfold rangeC at hl
    rw [List.length_map, List.length_range] at hl
    exact hl⟩
  unfold rangeC at e
  rw [List.getElem?_map, Option.map_eq_some_iff] at e
  obtain ⟨m, e1, e2⟩ := e
  obtain ⟨h1, h2⟩ := List.getElem?_eq_some_iff.mp e1
  rw [List.length_range] at h1
  rw [List.getElem_range] at h2
  subst h2 e2
  refine ⟨h1, fun y H' hy => ?_⟩
  obtain ⟨rfl, rfl⟩ := hy
  exact ⟨W', Ext.refl W', s, .int⟩
/-- enumerate(xs) of a list -/
def enumD (ds : List Dat) : List Dat := ds.mapIdx fun i d => .tup [.int (i : Nat), d]
theorem yields_enum {K : PySem.W.Frag} {W : Wd} {p : Addr} {vs : List V} {ds : List Dat} (hg : W.g p = some (.lst vs)) (r : RepAll K W vs ds) : Yields K W (Ite K p) (enumD ds) := fun G hK W' δ σ H x s i => by
  subst hK
  have hH : H p = some (.lst vs) := (s.h.sub p _ (x.g p _ hg).lst).lst
  refine ⟨fun d e => ?_, fun hl => ⟨vs, SqL.of hH, by rw [r.length]; simpa [enumD] using hl⟩⟩
  have e : (enumD ds)[i]? = some d := e
  unfold enumD at e
  rw [List.getElem?_mapIdx, Option.map_eq_some_iff] at e
  obtain ⟨d', e0, rfl⟩ := e
  obtain ⟨v, e1, r1⟩ := r.get e0
  refine ⟨⟨vs, v, SqL.of hH, e1⟩, fun y H' hy => ?_⟩
  obtain ⟨T, z, rfl, hT, rfl, hz⟩ := hy
  have := hz vs (SqL.of hH)
  rw [e1] at this; cases this
  refine ⟨W'.put T (.tup [.int (i : Nat), v]), Wd.put_ext (s.h.fresh hT).1, s.put hT, ?_⟩
  exact .tup (.inl (.inl (by show upd W'.g T _ T = _; exact upd_same))) (.cons .int (.cons ((r1.mono x).mono (Wd.put_ext (s.h.fresh hT).1)) .nil))
@[simp] def iEnumL (w : WE) : WI := fun ex δ Q => w ex δ fun d δ' => ∃ ds, d = .lst ds ∧ Q (enumD ds) δ'
theorem di_enumL {elts : List Expr} {kk : Nat} {tpos : Pos} {w : WE} {p : Pos} (hg : Gl X "enumerate") (hm : X.mg "enumerate" = none) (h : DE X cn e w) (hs : starEach [e] X.env = [(false, eval e X.env)] := by rfl) : DI X cn (.Tuple elts kk tpos) (.Call (.Name "enumerate" p) [e] [] pos) (iEnumL w) :=
  ⟨fun ex δ Q Q' hq q => h.mono ex δ _ _ (fun d δ' ⟨ds, z, x⟩ => ⟨ds, z, hq _ _ x⟩) q, fun G gk ex tk => (pi_enum hg hm (pa_cons (h.run G gk ex tk) pa_nil hs) hs).imp fun σ H R ⟨W, δ, s, q⟩ => ⟨W, δ, s, h.mono ex δ _ _ (fun d δ' ⟨ds, z, x⟩ W' v H' x' s' r' => by
    subst z
    cases r' with
    | lst h1 r1 => exact ⟨_, _, rfl, SqL.of (s'.h.sub _ _ h1).lst, x W' _ H' x' s' (by rw [← gk.K]; exact yields_enum h1 r1)⟩) q⟩⟩
end
/-! enumerate(t) of a tuple -/
def IteT (K : PySem.W.Frag) (a : Addr) : It :=
  ⟨fun i H => ∃ (xs : List V) (x : V), SqT K H a xs ∧ xs[i]? = some x, fun i H v H' => ∃ T x, v = .ref T ∧ H T = none ∧ H' = upd H T (.tup [.int (i : Nat), x]) ∧ ∀ xs, SqT K H a xs → xs[i]? = some x, fun i H => ∃ xs : List V, SqT K H a xs ∧ xs.length ≤ i⟩
theorem enum_endT {prog : Program} {w : World} {A : Around} {E : Value → Shared → Prop} {s : Shared} {e it l : Addr} {c : Int} {i : Nat} {items : Array Value} {old : Value} {Q : Option Value → Shared → Prop} (hh : A.handled = none)
    (he : IsEnum s.heap e it c old) (hit : s.heap.IsTupleIter it l i) (hl : s.heap.IsTuple l items) (hx : items[i]? = none)
    (hQ : ∀ h', Heap.ExtBut it s.heap h' → Q none { s with heap := h' }) : wpAny (model prog w) A (pyNext (.ref e)) Q E s := by
  have hT : s.TypeIs (.ref e) "enumerate" := ⟨_, he, rfl⟩
  unfold pyNext
  refine wpAny_bind (wpAny_attempt (wpAny_callSpecial?_slot (name := Str.ofString "__next__") hT F.slot_enumerate_next
    (wpAny_call_entry F.slot_enumerate_next hT F.entry_enumerate_next ?_ (F.args_enumerate_next_1 _))))
  show wpAny _ _ (field (.ref e) 2 >>= _) _ _ _
  refine wpAny_bind (wpAny_field he rfl (x := .ref it) rfl ?_)
  refine wpAny_bind (wpAny_nextOf_tuple_end hh hit hl hx fun h' x he' hx' => ?_)
  obtain ⟨o, ho, hc⟩ := hx'
  refine wpAny_bind (wpAny_isInstance (T := "StopIteration") (b := true) ⟨o, ho, hc⟩ isSubtype_stop ?_)
  exact wpAny_pure (hQ _ he')
theorem turn_enumT {P : Program} {w : World} {K : PySem.W.Frag} {elts : List Expr} {kk : Nat} {tpos : Pos} (a e it : Addr) :
    Turn P w K (.Tuple elts kk tpos) (IteT K a) [e, it] e (fun i h => (∃ old, IsEnum h e it ((i : Nat) : Int) old) ∧ h.IsTupleIter it a i ∧ e ≠ it ∧ e ≠ a ∧ a ≠ it) where
  mem := by simp
  obj := fun i h st b hb => by
    obtain ⟨⟨old, he⟩, ⟨o, ho, hc, hd⟩, _⟩ := st
    have e' : b = e ∨ b = it := by simpa using hb
    rcases e' with z | z
    · rw [z]; exact ⟨_, he, fun v q => nomatch q⟩
    · rw [z]; exact ⟨o, ho, fun v q => by rw [hd] at q; cases q⟩
  keep := fun i h h' st k => let ⟨⟨old, he⟩, hi, hne⟩ := st; ⟨⟨old, k e (by simp) _ he⟩, hi.at fun o q => k it (by simp) o q, hne⟩
  item := by
    intro X hP hw hK hc i pins s σ H E I hf st hg
    subst hP hw hK
    obtain ⟨⟨old, he⟩, hit, hne, hea, hai⟩ := st
    obtain ⟨xs, x, hq, hx⟩ := hg
    obtain ⟨its, rv, p, hz⟩ := I.tuple hq
    obtain ⟨u, hu, ru⟩ := rv.get hx
    have hel : e < s.heap.objs.size := Heap.lt_size he
    have hil : it < s.heap.objs.size := by obtain ⟨_, q, _⟩ := hit; exact Heap.lt_size q
    have D : Draws X.prog X.w X.A.in1 it [it, a] its.toArray.size (fun i v => its.toArray[i]? = some v) (fun i h => h.IsTupleIter it a i ∧ h.IsTuple a its.toArray) := Draws.tuple (A := X.A.in1) (show X.A.in1.handled = none from I.ok.hd hc) it a hai its.toArray
    have hlt : i < its.toArray.size := by
      have := (List.getElem?_eq_some_iff.1 hu).1
      simpa using this
    refine wpAny_pyNext_enum_itemD D he ⟨hit, p⟩ hlt hne (by simp [hne, hea]) fun y h' tk hy ho hst hT hsz hk => ?_
    have ey : y = u := by
      have hy : its.toArray[i]? = some y := hy
      rw [List.getElem?_toArray, hu] at hy
      exact (Option.some.inj hy).symm
    subst ey
    refine ⟨_, rfl, wpAny_letOwnedTupleGo_enum (s := { s with heap := h', toks := tk + 1 }) ho fun h'' he' sb => ?_⟩
    have hT2 : h''.get? s.heap.objs.size = some { cls := .type "tuple", data := .seq #[.int i tk, y] } := (sb.2 _ (Nat.ne_of_gt hel)).trans hT
    have new : ObjOk X.prog X.w (upd H s.heap.objs.size (.tup [.int (i : Nat), x])) h'' s.heap.objs.size (.tup [.int (i : Nat), x]) :=
      ⟨by show 2 ≤ sizeLine; decide, [.int i tk, y], .cons ⟨_, rfl⟩ (.cons ru .nil), ⟨_, hT2, rfl, _, rfl⟩⟩
    have I1 : Inv X pins σ (upd H s.heap.objs.size (.tup [.int (i : Nat), x])) { s with heap := h'', toks := tk + 1 } :=
      I.turnedNew (ch := [e, it]) (fun b ob hb q => (sb.2 b (fun z => hb (by simp [z]))).trans (hk b ob (fun z => hb (by simp [z])) (fun z => hb (by simp [z])) q)) hf (Nat.le_refl _) new
    refine ⟨.ref s.heap.objs.size, _, I1, rfl, ⟨_, x, rfl, I.hok.fresh (Nat.le_refl _), rfl, fun ys hy => by rw [I.tuple_inj hy hq]; exact hx⟩, ⟨⟨y, ?_⟩, hst.1.at fun o q => (sb.2 it (Ne.symm hne)).trans q, hne, hea, hai⟩, fun b hb => ?_⟩
    · have e1 : ((i + 1 : Nat) : Int) = (i : Int) + 1 := by omega
      rw [e1]; exact he'
    · have hb' : b < s.heap.objs.size := by
        have e' : b = e ∨ b = it := by simpa using hb
        rcases e' with z | z
        · rw [z]; exact hel
        · rw [z]; exact hil
      rw [upd_ne (Nat.ne_of_lt hb')]
      exact (hf b hb).1
  done := by
    intro X hP hw hK hc i pins s σ H E I hf st hg
    subst hP hw hK
    obtain ⟨⟨old, he⟩, hit, hne, hea, hai⟩ := st
    obtain ⟨xs, hq, hx⟩ := hg
    obtain ⟨its, rv, p, hz⟩ := I.tuple hq
    obtain ⟨f0, f1, f2, f3, f4, f5⟩ := hf it (by simp)
    have hl := rv.length
    exact enum_endT (I.ok.hd hc) he hit p (by simp; omega) fun h' eb => ⟨rfl, I.turned (t' := s.toks) (fun b o hb q => eb b o hb q) f0 f1 f3 f4 f5⟩
  self := fun A i s Q E st h => let ⟨⟨_, he⟩, _⟩ := st; wpAny_pyIter_enum he h
theorem call_enumerate_tuple {prog : Program} {w : World} {A : Around} {E : Value → Shared → Prop} {s : Shared} {l : Addr} {items : Array Value} {Q : Value → Shared → Prop} (hL : s.heap.IsTuple l items)
    (h : ∀ h', IsEnum h' (s.heap.objs.size + 1) s.heap.objs.size 0 .none → h'.IsTupleIter s.heap.objs.size l 0 → h'.objs.size = s.heap.objs.size + 2 →
      (∀ b o, s.heap.get? b = some o → h'.get? b = some o) → Q (.ref (s.heap.objs.size + 1)) { s with heap := h' }) :
    wpAny (model prog w) A (call (.type "enumerate") [.ref l]) Q E s := by
  refine callType_new F.called_enumerate (by decide) (F.typeCall_enumerate_1 _) (F.newCall_enumerate_1 _) (fun obj => F.args_object_init_2 obj _) F.entry_enumerate_new
    (meets_enumerate_newB (begins_tuple l items) 0 0 (by decide)) ⟨hL, ?_⟩
  have hz : (s.heap.push { cls := .type "tuple_iterator", data := .fields #[.ref l, .int 0 0] }).objs.size = s.heap.objs.size + 1 := Heap.size_push ..
  show _ ∧ _
  rw [hz]
  have he : IsEnum ((s.heap.push { cls := .type "tuple_iterator", data := .fields #[.ref l, .int 0 0] }).push
      { cls := .type "enumerate", data := .fields #[.none, .bool false, .ref s.heap.objs.size, rawInt 0, .none, .none] }) (s.heap.objs.size + 1) s.heap.objs.size 0 .none := by
    have := Heap.get?_push_size (s.heap.push { cls := .type "tuple_iterator", data := .fields #[.ref l, .int 0 0] })
      (o := { cls := .type "enumerate", data := .fields #[.none, .bool false, .ref s.heap.objs.size, rawInt 0, .none, .none] }) rfl
    rw [hz] at this; exact this
  refine ⟨⟨_, he, rfl⟩, h _ he ⟨_, Heap.get?_push_of_some _ (Heap.get?_push_size _ rfl), rfl, rfl⟩ (by rw [Heap.size_push, hz]) fun b o x => Heap.get?_push_of_some _ (Heap.get?_push_of_some _ x)⟩
def iEnumT (K : PySem.W.Frag) (ta : TA) : TI := fun σ H R => ta σ H fun vs H1 => ∃ a xs, vs = [.ref a] ∧ SqT K H1 a xs ∧ R (IteT K a) H1
theorem pi_enumT {X : Cx} {e : Expr} {ta : TA} {p pos tpos : Pos} {elts : List Expr} {kk : Nat} (hg : Gl X "enumerate") (hm : X.mg "enumerate" = none) (ha : PA X [e] ta) (hs : starEach [e] X.env = [(false, eval e X.env)] := by rfl) :
    PI X (.Tuple elts kk tpos) (.Call (.Name "enumerate" p) [e] [] pos) (iEnumT X.K ta) := by
  refine ⟨fun pins s σ H R I h => ?_⟩
  refine Call_ (ld_blt I hg hm boot_enumerate (PyProof.Rows.callWith_type1 (thn (ha.run pos pins s σ H _ I h) fun us s1 ⟨vs, H1, I1, r1, q1⟩ => ?_) hs rfl))
  obtain ⟨a, xs, ex, hq, q⟩ := q1
  subst ex
  cases r1 with
  | cons r rr =>
    cases rr
    cases r
    obtain ⟨its, rv, p', hz⟩ := I1.tuple hq
    have hal : a < s1.heap.objs.size := by obtain ⟨_, z, _⟩ := p'; exact Heap.lt_size z
    refine call_enumerate_tuple p' fun h' he hit hsz hk => wpAny_pyIter_enum he ?_
    have I2 : Inv X pins σ H1 { s1 with heap := h' } := I1.kept (t' := s1.toks) hk
    refine ⟨s1.heap.objs.size + 1, [s1.heap.objs.size + 1, s1.heap.objs.size], _, _, H1, rfl, I2, turn_enumT a (s1.heap.objs.size + 1) s1.heap.objs.size, ⟨⟨.none, he⟩, hit, Nat.succ_ne_self _, ?_, Nat.ne_of_lt hal⟩, fun b hb => ?_, q⟩
    · exact (Nat.ne_of_lt (Nat.lt_succ_of_lt hal)).symm
    have e' : b = s1.heap.objs.size + 1 ∨ b = s1.heap.objs.size := by simpa using hb
    have hle : s1.heap.objs.size ≤ b := by
      rcases e' with z | z
      · rw [z]; exact Nat.le_add_right _ _
      · rw [z]; exact Nat.le_refl _
    exact I1.fpOk hle (I1.hok.fresh hle)
theorem yields_enumT {K : PySem.W.Frag} {W : Wd} {p : Addr} {vs : List V} {ds : List Dat} (hg : SqT K W.g p vs) (r : RepAll K W vs ds) : Yields K W (IteT K p) (enumD ds) := fun G hK W' δ σ H x s i => by
  subst hK
  have hH : SqT G.K H p vs := SqT.std s.h.sub (SqT.std x.g hg)
  refine ⟨fun d e => ?_, fun hl => ⟨vs, hH, by rw [r.length]; simpa [enumD] using hl⟩⟩
  have e : (enumD ds)[i]? = some d := e
  unfold enumD at e
  rw [List.getElem?_mapIdx, Option.map_eq_some_iff] at e
  obtain ⟨d', e0, rfl⟩ := e
  obtain ⟨v, e1, r1⟩ := r.get e0
  refine ⟨⟨vs, v, hH, e1⟩, fun y H' hy => ?_⟩
  obtain ⟨T, z, rfl, hT, rfl, hz⟩ := hy
  have := hz vs hH
  rw [e1] at this; cases this
  refine ⟨W'.put T (.tup [.int (i : Nat), v]), Wd.put_ext (s.h.fresh hT).1, s.put hT, ?_⟩
  exact .tup (.inl (.inl (by show upd W'.g T _ T = _; exact upd_same))) (.cons .int (.cons ((r1.mono x).mono (Wd.put_ext (s.h.fresh hT).1)) .nil))
def iEnumA (K : PySem.W.Frag) (ta : TA) : TI := fun σ H R => ta σ H fun vs H1 => (∃ a xs, vs = [.ref a] ∧ SqL K H1 a xs ∧ R (Ite K a) H1) ∨ ∃ a xs, vs = [.ref a] ∧ SqT K H1 a xs ∧ R (IteT K a) H1
theorem pi_enumA {X : Cx} {e : Expr} {ta : TA} {p pos tpos : Pos} {elts : List Expr} {kk : Nat} (hg : Gl X "enumerate") (hm : X.mg "enumerate" = none) (ha : PA X [e] ta) (hs : starEach [e] X.env = [(false, eval e X.env)] := by rfl) :
    PI X (.Tuple elts kk tpos) (.Call (.Name "enumerate" p) [e] [] pos) (iEnumA X.K ta) := by
  refine ⟨fun pins s σ H R I h => ?_⟩
  refine Call_ (ld_blt I hg hm boot_enumerate (PyProof.Rows.callWith_type1 (thn (ha.run pos pins s σ H _ I h) fun us s1 ⟨vs, H1, I1, r1, q1⟩ => ?_) hs rfl))
  rcases q1 with ⟨a, xs, ex, hq, q⟩ | ⟨a, xs, ex, hq, q⟩
  · subst ex
    cases r1 with
    | cons r rr =>
      cases rr
      cases r
      obtain ⟨its, rv, p', hz⟩ := I1.list hq
      refine call_enumerate_list p'.isList fun h' he hit hsz hk => wpAny_pyIter_enum he ?_
      have I2 : Inv X pins σ H1 { s1 with heap := h' } := I1.kept (t' := s1.toks) hk
      refine ⟨s1.heap.objs.size + 1, [s1.heap.objs.size + 1, s1.heap.objs.size], _, _, H1, rfl, I2, turn_enum a (s1.heap.objs.size + 1) s1.heap.objs.size, ⟨⟨.none, he⟩, hit, Nat.succ_ne_self _⟩, fun b hb => ?_, q⟩
      have e' : b = s1.heap.objs.size + 1 ∨ b = s1.heap.objs.size := by simpa using hb
      have hle : s1.heap.objs.size ≤ b := by
        rcases e' with z | z
        · rw [z]; exact Nat.le_add_right _ _
        · rw [z]; exact Nat.le_refl _
      exact I1.fpOk hle (I1.hok.fresh hle)
  · subst ex
    cases r1 with
    | cons r rr =>
      cases rr
      cases r
      obtain ⟨its, rv, p', hz⟩ := I1.tuple hq
      have hal : a < s1.heap.objs.size := by obtain ⟨_, z, _⟩ := p'; exact Heap.lt_size z
      refine call_enumerate_tuple p' fun h' he hit hsz hk => wpAny_pyIter_enum he ?_
      have I2 : Inv X pins σ H1 { s1 with heap := h' } := I1.kept (t' := s1.toks) hk
      refine ⟨s1.heap.objs.size + 1, [s1.heap.objs.size + 1, s1.heap.objs.size], _, _, H1, rfl, I2, turn_enumT a (s1.heap.objs.size + 1) s1.heap.objs.size, ⟨⟨.none, he⟩, hit, Nat.succ_ne_self _, ?_, Nat.ne_of_lt hal⟩, fun b hb => ?_, q⟩
      · exact (Nat.ne_of_lt (Nat.lt_succ_of_lt hal)).symm
      have e' : b = s1.heap.objs.size + 1 ∨ b = s1.heap.objs.size := by simpa using hb
      have hle : s1.heap.objs.size ≤ b := by
        rcases e' with z | z
        · rw [z]; exact Nat.le_add_right _ _
        · rw [z]; exact Nat.le_refl _
      exact I1.fpOk hle (I1.hok.fresh hle)
section
variable {X : Cx} {cn : Str → Value} {pos : Pos} {e a b : Expr}
/-- enumerate(xs) of a list or a tuple that stands still -/
@[simp] def iEnumD (w : WE) : WI := fun ex δ Q => w ex δ fun d δ' => ∃ ds, (d = .lst ds ∨ d = .tup ds) ∧ Q (enumD ds) δ'
theorem di_enum {elts : List Expr} {kk : Nat} {tpos : Pos} {w : WE} {p : Pos} (hg : Gl X "enumerate") (hm : X.mg "enumerate" = none) (h : DE X cn e w) (hs : starEach [e] X.env = [(false, eval e X.env)] := by rfl) : DI X cn (.Tuple elts kk tpos) (.Call (.Name "enumerate" p) [e] [] pos) (iEnumD w) :=
  ⟨fun ex δ Q Q' hq q => h.mono ex δ _ _ (fun d δ' ⟨ds, z, x⟩ => ⟨ds, z, hq _ _ x⟩) q, fun G gk ex tk => (pi_enumA hg hm (pa_cons (h.run G gk ex tk) pa_nil hs) hs).imp fun σ H R ⟨W, δ, s, q⟩ => ⟨W, δ, s, h.mono ex δ _ _ (fun d δ' ⟨ds, z, x⟩ W' v H' x' s' r' => by
    rcases z with rfl | rfl
    · cases r' with
      | lst h1 r1 => exact .inl ⟨_, _, rfl, SqL.of (s'.h.sub _ _ h1).lst, x W' _ H' x' s' (by rw [← gk.K]; exact yields_enum h1 r1)⟩
    · cases r' with
      | tup h1 r1 => exact .inr ⟨_, _, rfl, by rw [← gk.K]; exact SqT.std s'.h.sub h1, x W' _ H' x' s' (by rw [← gk.K]; exact yields_enumT h1 r1)⟩) q⟩⟩
/-- range(i, j, c) -/
@[simp] def iRange3 (w u z : WO) : WI := fun ex δ Q => w ex δ fun o δ1 => u ex δ1 fun o2 δ2 => z ex δ2 fun o3 δ3 => ∃ (i j c : Int), o.get δ3 = some (.int i) ∧ o2.get δ3 = some (.int j) ∧ o3.get δ3 = some (.int c) ∧ ∃ n : Nat, RgC i j c n ∧ Q (rangeC i c n) δ3
theorem rgc_down {i j : Int} (h : -1000000000000 ≤ i ∧ i ≤ 1000000000000 ∧ -1000000000000 ≤ j ∧ j ≤ 1000000000000) : RgC i j (-1) (i - j).toNat := RgC.neg (by omega) (by omega) (by omega) (by omega)
theorem di_range3 {tg c : Expr} {w u z : WO} {p : Pos} (hg : Gl X "range") (hm : X.mg "range" = none) (h : DO X cn a w) (h2 : DO X cn b u) (h3 : DO X cn c z) (hs : starEach [a, b, c] X.env = (false, eval a X.env) :: starEach [b, c] X.env := by rfl) (hs2 : starEach [b, c] X.env = (false, eval b X.env) :: starEach [c] X.env := by rfl) (hs3 : starEach [c] X.env = [(false, eval c X.env)] := by rfl) (hpl : (backTo pos (starEach [b, c] X.env)).any (·.1) = false := by rfl) :
    DI X cn tg (.Call (.Name "range" p) [a, b, c] [] pos) (iRange3 w u z) :=
  ⟨fun ex δ Q Q' hq q => h.mono ex δ _ _ (fun o δ1 x => h2.mono ex δ1 _ _ (fun o2 δ2 x => h3.mono ex δ2 _ _ (fun o3 δ3 ⟨i, j, c, e1, e2, e3, n, z, x⟩ => ⟨i, j, c, e1, e2, e3, n, z, hq _ _ x⟩) x) x) q,
   fun G gk ex tk => (pi_range3 hg hm (pa_cons (h.run G gk ex tk) (pa_cons (h2.run G gk ex tk) (pa_cons (h3.run G gk ex tk) pa_nil hs3) hs2) hs) hs hpl).imp fun σ H R ⟨W, δ, s, q⟩ => ⟨W, δ, s, h.mono ex δ _ _ (fun o δ1 x W1 v1 H1 x1 s1 r1 =>
    ⟨W1, δ1, s1, h2.mono ex δ1 _ _ (fun o2 δ2 x W2 v2 H2 x2 s2 r2 => ⟨W2, δ2, s2, h3.mono ex δ2 _ _ (fun o3 δ3 ⟨i, j, c, e1, e2, e3, n, z, x⟩ W3 v3 H3 x3 s3 r3 => by
      have := (((r1.mono x2).mono x3).get s3 e1).int
      subst this
      have := ((r2.mono x3).get s3 e2).int
      subst this
      have := (r3.get s3 e3).int
      subst this
      exact ⟨i, j, c, n, rfl, z, x W3 _ H3 ((x1.trans x2).trans x3) s3 (yields_rngC i c n)⟩) x⟩) x⟩) q⟩⟩
end
end DL
set_option Elab.async false
set_option linter.all false
set_option maxRecDepth 100000
/-! More builtins: all, any, divmod, sorted. -/
namespace DL
open PySem PySem.Spec PyProof.Rows L2
section
variable {X : Cx} {cn : Str → Value}
theorem _root_.DL.RepAll.bls {K : PySem.W.Frag} {W : Wd} : ∀ {vs : List V} {bs : List Bool}, RepAll K W vs (bs.map Dat.bl) → vs = bs.map V.bl
  | _, [], .nil => rfl
  | _, _ :: _, .cons h r => by cases h; rw [RepAll.bls r]; rfl
theorem _root_.DL.RepAll.ofInts {K : PySem.W.Frag} {W : Wd} : ∀ ns : List Int, RepAll K W (ns.map V.int) (ns.map Dat.int)
  | [] => .nil
  | _ :: ns => .cons .int (RepAll.ofInts ns)
@[simp] def gAll : List Dat → (DV → Prop) → Prop
  | [.lst ds], P => ∃ bs : List Bool, ds = bs.map Dat.bl ∧ P (.fz (.bl (bs.all id)))
  | _, _ => False
@[simp] def gAny : List Dat → (DV → Prop) → Prop
  | [.lst ds], P => (∃ bs : List Bool, ds = bs.map Dat.bl ∧ P (.fz (.bl (bs.any id)))) ∨ ∃ ns : List Int, ds = ns.map Dat.int ∧ P (.fz (.bl (ns.any (· != 0))))
  | _, _ => False
theorem gAll_mono : MonoGL gAll := fun d P P' h q => by
  match d, q with
  | [.lst ds], ⟨bs, e, q⟩ => exact ⟨bs, e, h _ q⟩
theorem gAny_mono : MonoGL gAny := fun d P P' h q => by
  match d, q with
  | [.lst ds], .inl ⟨bs, e, q⟩ => exact .inl ⟨bs, e, h _ q⟩
  | [.lst ds], .inr ⟨bs, e, q⟩ => exact .inr ⟨bs, e, h _ q⟩
/-- any(xs) of a list of ints -/
theorem truth_ints {prog : Program} {w : World} {A : Around} {ns : List Int} {its : List Value} (h : IntsAre its ns) :
    TruthOf prog w A (fun i v => its.toArray[i]? = some v) (fun i => ns.getD i 0 != 0) := fun i v s Q E hv hq => by
  have hv' : its[i]? = some v := by simpa using hv
  have key : ∀ {its : List Value} {ns : List Int}, IntsAre its ns → ∀ {i : Nat}, its[i]? = some v → ∃ t, v = .int (ns.getD i 0) t := by
    intro its ns h
    induction h with
    | nil => intro i e; simp at e
    | cons n k r ih =>
      intro i e
      cases i with
      | zero => simp at e; exact ⟨_, by rw [← e]; rfl⟩
      | succ j => simp at e; simpa using ih e
  obtain ⟨t, rfl⟩ := key h hv'
  exact PySem.P.truthy_int hq
theorem anyI_range : ∀ ns : List Int, (List.range ns.length).any (fun i => ns.getD i 0 != 0) = ns.any (· != 0)
  | [] => rfl
  | b :: bs => by
    rw [List.length_cons, List.range_succ_eq_map, List.any_cons, List.any_map, List.any_cons, ← anyI_range bs]
    all_goals rfl
theorem intsAre_length {its : List Value} {ns : List Int} (h : IntsAre its ns) : its.length = ns.length := by
  induction h with
  | nil => rfl
  | cons n k r ih => simp [ih]
def rAnyI (K : PySem.W.Frag) : List V → Hp → VK → Prop := fun vs H Q => ∃ (a : Addr) (ns : List Int), vs = [V.ref a] ∧ SqL K H a (ns.map V.int) ∧ Q (.bl (ns.any (· != 0))) H
theorem cr_anyI (hc : X.calm = true) : CallR X (.builtin "any") (rAnyI X.K) := by
  intro pins s σ H vs us Q I r h
  obtain ⟨a, ns, rfl, hs, q⟩ := h
  obtain ⟨its, rv, hl, _⟩ := I.list hs
  rw [Vals.ref1 r]
  have hb := rv.ints
  refine call_any_walk (iter_any hl.isList fun s₂ e2 st hne => ?_)
  subst e2
  refine ⟨_, _, _, _, _, _, _, rfl, Walks.list (A := X.A.in1) (I.ok.hd hc) _ a hne its.toArray, st, truth_ints hb, fun h' tk hk => ?_⟩
  refine ⟨.bl _, H, I.kept fun b o eo => hk b o (fun hmem => ?_) (Heap.get?_push_of_some _ eo), ?_, q⟩
  · rcases List.mem_cons.mp hmem with e1 | hmem
    · exact absurd (e1 ▸ Heap.lt_size eo) (Nat.lt_irrefl _)
    · cases hmem
  · show Value.bool _ = Value.bool _
    rw [← anyI_range, List.size_toArray, intsAre_length hb]
def rAnyBI (K : PySem.W.Frag) : List V → Hp → VK → Prop := fun vs H Q => rAny K vs H Q ∨ rAnyI K vs H Q
theorem cr_anyBI (hc : X.calm = true) : CallR X (.builtin "any") (rAnyBI X.K) := by
  intro pins s σ H vs us Q I r h
  rcases h with h | h
  · exact cr_any hc pins s σ H vs us Q I r h
  · exact cr_anyI hc pins s σ H vs us Q I r h
theorem does_all : DoesL X gAll (rAll X.K) := by
  intro G hK W δ σ H xs ds P Q s rr hg hz
  match ds, hg with
  | [.lst ds], ⟨bs, e, q⟩ =>
    obtain ⟨v, rfl, r⟩ := rr.one
    obtain ⟨a, vs, rfl, h1, r1⟩ := r.lst s.h
    subst e
    rw [r1.bls] at h1
    exact ⟨a, bs, rfl, SqL.of h1, hz _ W _ H q (Ext.refl W) s .bl⟩
theorem does_any : DoesL X gAny (rAnyBI X.K) := by
  intro G hK W δ σ H xs ds P Q s rr hg hz
  match ds, hg with
  | [.lst ds], .inl ⟨bs, e, q⟩ =>
    obtain ⟨v, rfl, r⟩ := rr.one
    obtain ⟨a, vs, rfl, h1, r1⟩ := r.lst s.h
    subst e
    rw [r1.bls] at h1
    exact .inl ⟨a, bs, rfl, SqL.of h1, hz _ W _ H q (Ext.refl W) s .bl⟩
  | [.lst ds], .inr ⟨bs, e, q⟩ =>
    obtain ⟨v, rfl, r⟩ := rr.one
    obtain ⟨a, vs, rfl, h1, r1⟩ := r.lst s.h
    subst e
    rw [r1.ints] at h1
    exact .inr ⟨a, bs, rfl, SqL.of h1, hz _ W _ H q (Ext.refl W) s .bl⟩
/-- sorted: of a list of ints -/
@[simp] def gSorted : List Dat → (DV → Prop) → Prop
  | [.lst ds], P => ∃ ns : List Int, ds = ns.map Dat.int ∧ ∀ ms : List Int, ms.Perm ns → ms.Pairwise (· ≤ ·) → P (.ow (.lst (ms.map Dat.int)))
  | [.dK kds], P => ∃ ns : List Int, kds.map (·.1) = ns.map Sum.inl ∧ ns.length < 64 ∧ ∀ ms : List Int, ms.Perm ns → ms.Pairwise (· ≤ ·) → P (.ow (.lst (ms.map Dat.int)))
  | _, _ => False
theorem gSorted_mono : MonoGL gSorted := fun d P P' h q => by
  match d, q with
  | [.lst ds], ⟨ns, e, q⟩ => exact ⟨ns, e, fun ms a b => h _ (q ms a b)⟩
  | [.dK ds], ⟨ns, e, z, q⟩ => exact ⟨ns, e, z, fun ms a b => h _ (q ms a b)⟩
def rSortedX (K : PySem.W.Frag) : List V → Hp → VK → Prop := fun xs H Q => rSortedI K xs H Q ∨ ∃ (a : Addr) (kvs : List (Key × V)) (ks : List Int), xs = [.ref a] ∧ Rd H a (.dK kvs) ∧ kvs.map (·.1) = ks.map Sum.inl ∧ ks.length < 64 ∧
    ∀ (ys : List Int) (p : Addr), ys.Perm ks → ys.Pairwise (· ≤ ·) → H p = none → Q (.ref p) (upd H p (.lst (ys.map V.int)))
theorem cr_sortedX (hc : X.calm = true) : CallR X (.builtin "sorted") (rSortedX X.K) := cr_sortedI.or (call_sortedDI hc)
theorem does_sorted : DoesL X gSorted (rSortedX X.K) := by
  intro G hK W δ σ H xs ds P Q s rr hg hz
  match ds, hg with
  | [.lst ds], ⟨ns, e, q⟩ =>
    obtain ⟨v, rfl, r⟩ := rr.one
    obtain ⟨a, vs, rfl, h1, r1⟩ := r.lst s.h
    subst e
    rw [r1.ints] at h1
    exact .inl ⟨a, ns, rfl, SqL.of h1, fun ms p hp hr hn => hz _ W _ _ (q ms hp hr) (Ext.refl W) (s.newFree hn).1 ⟨p, _, rfl, .lst (RepAll.ofInts ms), (s.newFree hn).2⟩⟩
  | [.dK kds], ⟨ns, e, z, q⟩ =>
    obtain ⟨v, rfl, r⟩ := rr.one
    obtain ⟨a, vs, rfl, h1, r1⟩ := r.dK s.h
    exact .inr ⟨a, vs, ns, rfl, h1, r1.keys.2.trans e, z, fun ms p hp hr hn => hz _ W _ _ (q ms hp hr) (Ext.refl W) (s.newFree hn).1 ⟨p, _, rfl, .lst (RepAll.ofInts ms), (s.newFree hn).2⟩⟩
/-- divmod of two ints -/
def rDivmodM : List V → Hp → VK → Prop := fun xs H Q => ∃ i j, xs = [.int i, .int j] ∧ CDivM i j ∧ ∀ p, H p = none → Q (.ref p) (upd H p (.tup [.int (pyDiv i j), .int (pyMod i j)]))
theorem cr_divmodM : CallR X (.builtin "divmod") rDivmodM := by
  intro pins s σ H xs us Q I r h
  obtain ⟨i, j, rfl, hc, q⟩ := h
  obtain ⟨u, w', rfl, ⟨t, rfl⟩, ⟨t', rfl⟩⟩ := vals2 r
  have h9 : j.natAbs.log2 < 9000 := by have := lim_log hc.2; omega
  refine divmod_int hc.1 ?_ (.inl (PyProof.noPylong_of_log2 h9))
  rw [pyDiv_eq, pyMod_eq] at q
  have hn : H s.heap.objs.size = none := I.hok.fresh (Nat.le_refl _)
  refine ⟨.ref s.heap.objs.size, _, ?_, rfl, q _ hn⟩
  refine I.laid (fun b o e => Heap.get?_push_of_some _ e) (Nat.le_refl _) ⟨by simp only [List.length_cons, List.length_nil]; rw [sizeLine_eq]; decide, [.int (i.fdiv j) s.toks, .int (i.fmod j) (s.toks + 1)], .cons ⟨_, rfl⟩ (.cons ⟨_, rfl⟩ .nil), ?_⟩
  exact ⟨_, Heap.get?_push_size s.heap rfl, rfl, 0, rfl⟩
@[simp] def gDivmod : List Dat → (DV → Prop) → Prop
  | [.int i, .int j], P => CDivM i j ∧ P (.fz (.tup [.int (pyDiv i j), .int (pyMod i j)]))
  | _, _ => False
theorem gDivmod_mono : MonoGL gDivmod := fun d P P' h q => by
  match d, q with
  | [.int i, .int j], q => exact ⟨q.1, h _ q.2⟩
theorem does_divmod : DoesL X gDivmod rDivmodM := by
  intro G hK W δ σ H xs ds P Q s rr hg hz
  match ds, hg with
  | [.int i, .int j], q =>
    obtain ⟨v, w, rfl, r, r'⟩ := rr.two
    rw [r.int, r'.int]
    refine ⟨i, j, rfl, q.1, fun p hp => ?_⟩
    have fr := (s.h.fresh hp).1
    exact hz _ _ _ _ q.2 (Wd.put_ext fr) (s.put hp) (.tup (.inl (.inl (by show upd W.g p _ p = _; exact upd_same))) (.cons .int (.cons .int .nil)))
/-! xs.pop(), xs.remove(k) of an owned list -/
variable {a b c e : Expr} {pos : Pos}
@[simp] def wPop (i : Nat) : WE := fun ex δ Q => ∃ ds d, δ[i]? = some (.ow (.lst (ds ++ [d]))) ∧ Q d (δ.set i (.ow (.lst ds)))
theorem RepAll.snocInv {K : PySem.W.Frag} {W : Wd} : ∀ {vs : List V} {ds : List Dat} {d : Dat}, RepAll K W vs (ds ++ [d]) → ∃ us u, vs = us ++ [u] ∧ RepAll K W us ds ∧ Rep K W u d
  | _, [], _, .cons h .nil => ⟨[], _, rfl, .nil, h⟩
  | _, _ :: _, _, .cons h r => by
    obtain ⟨us, u, rfl, r1, h1⟩ := RepAll.snocInv r
    exact ⟨_ :: us, u, rfl, .cons h r1, h1⟩
theorem de_pop {i : Nat} {x : Str} {px apos cpos : Pos} (hN : X.N[i]? = some x := by rfl) (hv : Vis X.env.scope x := by first | exact Or.inl rfl | exact Or.inr (Or.inl rfl) | exact Or.inr (Or.inr rfl))
    (hbase : attributeBase (.Name x px) "pop" X.env (eval (.Name x px) X.env) = eval (.Name x px) X.env := by rfl) (hline : (apos.endLine == cpos.line) = true := by rfl) (hd : (x == ("__debug__" : Str)) = false := by decide)
    (hcd : (x == ("__classdict__" : Str)) = false := by decide) : DE X cn (.Call (.Attribute (.Name x px) "pop" apos) [] [] cpos) (wPop i) :=
  ⟨fun ex δ Q Q' hq ⟨ds, d, e, h⟩ => ⟨ds, d, e, hq _ _ h⟩,
   fun G gk ex tk => (pe_bm0 PySem.F.plainAttrs_list PySem.F.slot_list_pop PySem.F.type_list_pop mt_pop (pe_var hN hv hd hcd) hbase hline).imp fun σ H Q ⟨W, δ, s, ds, d, e0, h⟩ => by
    obtain ⟨p, vs, e1, e2, r⟩ := s.ownL e0
    obtain ⟨us, u, rfl, r1, h1⟩ := RepAll.snocInv r
    refine ⟨.ref p, e1, .inl ⟨rfl, _, SqL.of e2⟩, p, _, u, rfl, rfl, e2, by simp, ?_⟩
    rw [List.dropLast_concat]
    exact h W u _ (Ext.refl W) (s.chg e0 e1 (.lst r1)) h1⟩
@[simp] def wRemove (i : Nat) (w : WE) : WE := fun ex δ Q => (∃ ds, δ[i]? = some (.ow (.lst ds))) ∧ w ex δ fun d δ1 => ∃ (ns : List Int) (k : Int), d = .int k ∧ δ1[i]? = some (.ow (.lst (ns.map Dat.int))) ∧ k ∈ ns ∧ Q .non (δ1.set i (.ow (.lst ((ns.erase k).map Dat.int))))
theorem de_remove {i : Nat} {x : Str} {w : WE} {px apos cpos : Pos} (hN : X.N[i]? = some x := by rfl) (hv : Vis X.env.scope x := by first | exact Or.inl rfl | exact Or.inr (Or.inl rfl) | exact Or.inr (Or.inr rfl)) (he : DE X cn e w)
    (hbase : attributeBase (.Name x px) "remove" X.env (eval (.Name x px) X.env) = eval (.Name x px) X.env := by rfl)
    (hfew : ((backTo cpos (starEach [e] X.env)).all (fun x => !x.1) && (backToKw cpos (keywordEach [] X.env)).all (fun x => x.1.isSome)
      && decide (([e] : List Expr).length + ([] : List Keyword).length + (if ([] : List Keyword).isEmpty then 0 else 1) < 30)) = true := by rfl)
    (hline : (apos.endLine == cpos.line) = true := by rfl) (hs : starEach [e] X.env = (false, eval e X.env) :: starEach [] X.env := by rfl) (hd : (x == ("__debug__" : Str)) = false := by decide)
    (hcd : (x == ("__classdict__" : Str)) = false := by decide) : DE X cn (.Call (.Attribute (.Name x px) "remove" apos) [e] [] cpos) (wRemove i w) :=
  ⟨fun ex δ Q Q' hq h => ⟨h.1, he.mono ex δ _ _ (fun d δ1 ⟨ns, k, e0, e1, z, q⟩ => ⟨ns, k, e0, e1, z, hq _ _ q⟩) h.2⟩,
   fun G gk ex tk => (pe_bm PySem.F.plainAttrs_list PySem.F.slot_list_remove PySem.F.type_list_remove mt_remove (pe_var hN hv hd hcd) (pa_cons (he.run G gk ex tk) pa_nil hs) hbase hfew hline hs (by rfl)).imp fun σ H Q ⟨W, δ, s, ⟨ds, e0⟩, h⟩ => by
    obtain ⟨p, vs, e1, e2, r⟩ := s.ownL e0
    refine ⟨.ref p, e1, .inl ⟨rfl, vs, SqL.of e2⟩, W, δ, s, he.mono ex δ _ _ (fun d δ1 ⟨ns, k, ed, e3, z, q⟩ W1 v H1 x1 s1 r1 => ?_) h⟩
    obtain ⟨p', vs', e4, e5, r5⟩ := s1.ownL e3
    rw [e1] at e4; cases e4
    subst ed
    have := r1.intV
    subst this
    rw [r5.ints] at e5
    have hl := List.idxOf_lt_length_iff.2 z
    refine ⟨p, ns, k, ns.idxOf k, rfl, rfl, e5, ?_, fun m hm hk => ?_, ?_⟩
    · rw [List.getElem?_eq_getElem hl, List.getElem_idxOf hl]
    · have := List.not_of_lt_findIdx (p := (· == k)) (xs := ns) (i := m) hm
      rw [List.getElem?_eq_some_iff] at hk
      obtain ⟨h1, h2⟩ := hk
      simp [h2] at this
    · rw [← List.erase_eq_eraseIdx_of_idxOf (l := ns) (a := k) rfl]
      exact q W1 .non _ x1 (s1.chg e3 e1 (.lst (RepAll.ofInts _))) .non⟩
end
end DL
set_option Elab.async false
set_option linter.all false
set_option maxRecDepth 100000
/-! x[i] op= e on an owned list. -/
namespace DL
open PySem PySem.Spec PyProof.Rows L2
section
variable {X : Cx} {cn : Str → Value} {pos : Pos} {b e : Expr}
def rGetL (K : PySem.W.Frag) : V → V → Hp → VK → Prop := fun o i H Q => ∃ p vs k y, o = .ref p ∧ i = .int k ∧ SqL K H p vs ∧ atI vs k = some y ∧ Q y H
theorem get_list : PGet X (rGetL X.K) := by
  intro pins s σ H x y v u Q I rx ry h
  obtain ⟨p, xs, i, z, rfl, rfl, hq, he, q⟩ := h
  cases rx
  obtain ⟨t, rfl⟩ := ry
  obtain ⟨its, r, pl, hz⟩ := I.list hq
  obtain ⟨j, h1, h2, h3, h4, h5⟩ := atI_get he
  obtain ⟨w, ew, rw'⟩ := r.get h2
  have hl := r.length
  have hn := line63
  have fin : EP X pins σ Q w s := ⟨z, H, I, rw', q⟩
  by_cases h0 : 0 ≤ i
  · have hj : i.toNat = j := by
      rw [seqIndex_of h0 h5] at h1
      exact Option.some.inj h1
    exact wpAny_getItem_list pl.isList h0 (by omega) (by rw [hj]; simpa using ew) fin
  · have hj : (i + (its.toArray.size : Int)).toNat = j := by
      rw [seqIndex_neg (by omega) h4] at h1
      rw [List.size_toArray, ← hl]
      exact Option.some.inj h1
    exact wpAny_getItem_list_neg pl.isList (by omega) (by rw [List.size_toArray] <;> omega) (by omega) (by rw [hj]; simpa using ew) fin
@[simp] def wAugS (i : Nat) (g : Dat → Dat → (DV → Prop) → Prop) (wk we : WO) : WS := fun ex D δ => (∃ c, (Opd.slot i).get δ = some c) ∧ wk ex δ fun o δ1 => ∃ ds k d, δ1[i]? = some (.ow (.lst ds)) ∧ o.get δ1 = some (.int k) ∧ atI ds k = some d ∧
  we ex δ1 fun o2 δ2 => ∃ y, o2.get δ2 = some y ∧ g d y fun r => ∃ v, r = .fz v ∧ ∃ ds2, δ2[i]? = some (.ow (.lst ds2)) ∧ ∃ j, ixN ds2.length k = some j ∧ D.nx (δ2.set i (.ow (.lst (ds2.set j v))))
theorem ds_augS {i : Nat} {x : Str} {op : Operator} {r : R2} {g : Dat → Dat → (DV → Prop) → Prop} {wk we : WO} {px tpos : Pos} (ho : OpR X (inplaceOp op) r) (hd : Does2 X g r) (mg : MonoG2 g) (hk : DO X cn b wk) (he : DO X cn e we)
    (hN : X.N[i]? = some x := by rfl) (hv : Vis X.env.scope x := by first | exact Or.inl rfl | exact Or.inr (Or.inl rfl) | exact Or.inr (Or.inr rfl)) (hdb : (x == ("__debug__" : Str)) = false := by decide)
    (hcd : (x == ("__classdict__" : Str)) = false := by decide)
    (ha : ∀ ov iv new, augStore b ov iv new = (do holding [new, ov, iv] (setItem ov iv new); release [new, ov, iv] []; pure .next) := by intros; rfl) :
    DS X cn (.AugAssign (.Subscript (.Name x px) b tpos) op e pos) (wAugS i g wk we) :=
  ⟨fun ex D D' δ hl q => ⟨q.1, hk.mono ex δ _ _ (fun o δ1 ⟨ds, k, d, e1, e2, e3, x⟩ => ⟨ds, k, d, e1, e2, e3, he.mono ex δ1 _ _ (fun o2 δ2 ⟨y, e4, x⟩ => ⟨y, e4, mg d y _ _ (fun r ⟨v, e5, ds2, e6, j, ej, hn⟩ => ⟨v, e5, ds2, e6, j, ej, hl.nx _ hn⟩) x⟩) x⟩) q.2⟩,
   fun G gk ex tk => (ps_augS (pe_var hN hv hdb hcd) (hk.run G gk ex tk) get_list (he.run G gk ex tk) (fun pins s σ H x y v u Q I rx ry h => ho pins s σ H x y v u Q I rx ry h) set_list ha).imp fun D σ H ⟨W, δ, s, ⟨c, ec⟩, q⟩ => by
    obtain ⟨v, ev⟩ := s.has ec
    refine ⟨v, ev, W, δ, s, hk.mono ex δ _ _ (fun o δ1 ⟨ds, k, d, e1, e2, e3, x⟩ W1 kv H1 x1 s1 r1 => ?_) q⟩
    obtain ⟨p, vs, e4, e5, r5⟩ := s1.ownL e1
    rw [ev] at e4; cases e4
    have := (r1.get s1 e2).int
    subst this
    obtain ⟨y, ey, ry⟩ := atI_rep r5 e3
    refine ⟨p, vs, k, y, rfl, rfl, SqL.of e5, ey, W1, δ1, s1, he.mono ex δ1 _ _ (fun o2 δ2 ⟨y2, e6, hg⟩ W2 u H2 x2 s2 r2 => ?_) x⟩
    exact hd G gk.K W2 δ2 σ H2 y u d y2 _ _ s2 (.inl (ry.mono x2)) (r2.get s2 e6) hg fun z W' y' H' hz x' s' r' => by
      obtain ⟨v, rfl, ds2, e7, j, ej, hn⟩ := hz
      obtain ⟨p2, vs2, e8, e9, r9⟩ := s'.ownL e7
      rw [ev] at e8; cases e8
      exact ⟨p, vs2, k, j, rfl, rfl, e9, by rw [r9.length]; exact ej, hn W' σ _ ((x1.trans x2).trans x') (s'.chg e7 ev (.lst (r9.set r' j)))⟩⟩
end
end DL
set_option Elab.async false
set_option linter.all false
set_option maxRecDepth 100000
/-! *xs in a display or a call. -/
namespace DL
open PySem PySem.Spec PyProof.Rows L2
section
variable {X : Cx} {cn : Str → Value} {pos : Pos} {b e : Expr} {es : List Expr}
@[simp] def aStar (wa : WO) (wr : WA) : WA := fun ex δ Q => wa ex δ fun o δ1 => ∃ d, o.get δ1 = some d ∧ ∃ ds, (d = .lst ds ∨ d = .tup ds) ∧ wr ex δ1 fun es δ2 => Q (ds ++ es) δ2
theorem da_star {wa : WO} {wr : WA} {p : Pos} (ha : DO X cn e wa) (hr : DA X cn es wr) (hs : starEach (.Starred e p :: es) X.env = (true, eval e X.env) :: starEach es X.env := by rfl) : DA X cn (.Starred e p :: es) (aStar wa wr) :=
  ⟨fun ex δ Q Q' hq h => ha.mono ex δ _ _ (fun o δ1 ⟨d, e1, ds, z, x⟩ => ⟨d, e1, ds, z, hr.mono ex δ1 _ _ (fun es δ2 y => hq _ _ y) x⟩) h,
   fun G gk ex tk => (StX.pa_star (ha.run G gk ex tk) (hr.run G gk ex tk) hs).imp fun σ H Q ⟨W, δ, s, h⟩ => ⟨W, δ, s, ha.mono ex δ _ _ (fun o δ1 ⟨d, e1, ds, z, x⟩ W1 v H1 x1 s1 r1 => by
    have rb := r1.get s1 e1
    rcases z with rfl | rfl
    · obtain ⟨a, vs, rfl, h1, r2⟩ := rb.lst s1.h
      exact ⟨a, vs, rfl, .inr (SqL.of h1), W1, δ1, s1, hr.mono ex δ1 _ _ (fun es δ2 y W2 us H2 x2 s2 r3 => y W2 (vs ++ us) H2 (x1.trans x2) s2 ((r2.mono x2).append r3)) x⟩
    · obtain ⟨a, vs, rfl, h1, k1, r2⟩ := rb.tup s1.h
      rw [gk.K] at h1
      exact ⟨a, vs, rfl, .inl h1, W1, δ1, s1, hr.mono ex δ1 _ _ (fun es δ2 y W2 us H2 x2 s2 r3 => y W2 (vs ++ us) H2 (x1.trans x2) s2 ((r2.mono x2).append r3)) x⟩) h⟩⟩
end
end DL
set_option Elab.async false
set_option linter.all false
set_option maxRecDepth 100000
/-! zip of two lists. -/
namespace DL
open PySem PySem.Spec PyProof.Rows L2
def zipD (ds es : List Dat) : List Dat := List.zipWith (fun a b => Dat.tup [a, b]) ds es
theorem yields_zip {K : PySem.W.Frag} {W : Wd} {p r : Addr} {vs us : List V} {ds es : List Dat} (hg : W.g p = some (.lst vs)) (rv : RepAll K W vs ds) (hg2 : W.g r = some (.lst us)) (ru : RepAll K W us es) : Yields K W (Itz K p r) (zipD ds es) := fun G hK W' δ σ H x s i => by
  subst hK
  have hH : H p = some (.lst vs) := (s.h.sub p _ (x.g p _ hg).lst).lst
  have hH2 : H r = some (.lst us) := (s.h.sub r _ (x.g r _ hg2).lst).lst
  refine ⟨fun d e => ?_, fun hl => ⟨vs, us, SqL.of hH, SqL.of hH2, by
    have hl : min ds.length es.length ≤ i := by simpa [zipD] using hl
    rw [rv.length, ru.length]; omega⟩⟩
  have e : (zipD ds es)[i]? = some d := e
  unfold zipD at e
  rw [List.getElem?_zipWith] at e
  cases e0 : ds[i]? with
  | none => rw [e0] at e; simp at e
  | some d1 =>
    cases e00 : es[i]? with
    | none => rw [e0, e00] at e; simp at e
    | some d2 =>
      rw [e0, e00] at e
      have e : d = .tup [d1, d2] := by simpa using e.symm
      subst e
      obtain ⟨v, e1, r1⟩ := rv.get e0
      obtain ⟨u, e2, r2⟩ := ru.get e00
      refine ⟨⟨vs, us, v, u, SqL.of hH, SqL.of hH2, e1, e2⟩, fun y H' hy => ?_⟩
      obtain ⟨T, z, z2, rfl, hT, rfl, hz, hz2⟩ := hy
      have := hz vs (SqL.of hH)
      rw [e1] at this; cases this
      have := hz2 us (SqL.of hH2)
      rw [e2] at this; cases this
      have x' := Wd.put_ext (o := .tup [v, u]) (s.h.fresh hT).1
      refine ⟨W'.put T (.tup [v, u]), x', s.put hT, ?_⟩
      exact .tup (.inl (.inl (by show upd W'.g T _ T = _; exact upd_same))) (.cons ((r1.mono x).mono x') (.cons ((r2.mono x).mono x') .nil))
section
variable {X : Cx} {cn : Str → Value} {pos : Pos} {e b : Expr}
@[simp] def iZipD (w u : WE) : WI := fun ex δ Q => w ex δ fun d δ1 => u ex δ1 fun d2 δ2 => ∃ ds es, d = .lst ds ∧ d2 = .lst es ∧ Q (zipD ds es) δ2
theorem di_zip {elts : List Expr} {kk : Nat} {tpos : Pos} {w u : WE} {p : Pos} (hg : Gl X "zip") (hm : X.mg "zip" = none) (h : DE X cn e w) (h2 : DE X cn b u) (hs : starEach [e, b] X.env = (false, eval e X.env) :: starEach [b] X.env := by rfl) (hs2 : starEach [b] X.env = [(false, eval b X.env)] := by rfl) (hpl : (backTo pos (starEach [b] X.env)).any (·.1) = false := by rfl) :
    DI X cn (.Tuple elts kk tpos) (.Call (.Name "zip" p) [e, b] [] pos) (iZipD w u) :=
  ⟨fun ex δ Q Q' hq q => h.mono ex δ _ _ (fun d δ1 x => h2.mono ex δ1 _ _ (fun d2 δ2 ⟨ds, es, z, z2, x⟩ => ⟨ds, es, z, z2, hq _ _ x⟩) x) q,
   fun G gk ex tk => (pi_zip hg hm (pa_cons (h.run G gk ex tk) (pa_cons (h2.run G gk ex tk) pa_nil hs2) hs) hs hpl).imp fun σ H R ⟨W, δ, s, q⟩ => ⟨W, δ, s, h.mono ex δ _ _ (fun d δ1 x W1 v1 H1 x1 s1 r1 =>
    ⟨W1, δ1, s1, h2.mono ex δ1 _ _ (fun d2 δ2 ⟨ds, es, z, z2, y⟩ W2 v2 H2 x2 s2 r2 => by
      subst z z2
      cases r1 with
      | lst h1 q1 =>
        cases r2 with
        | lst h2 q2 =>
          have hp := (x2.g _ _ h1).lst
          exact ⟨_, _, _, _, rfl, SqL.of (s2.h.sub _ _ hp).lst, SqL.of (s2.h.sub _ _ h2).lst, y W2 _ H2 (x1.trans x2) s2 (by rw [← gk.K]; exact yields_zip hp (q1.mono x2) h2 q2)⟩) x⟩) q⟩⟩
end
end DL
set_option Elab.async false
set_option linter.all false
set_option maxRecDepth 100000
/-! xs[::-1]. -/
namespace DL
open PySem PySem.Spec PyProof.Rows L2
section
variable {prog : Program} {w : World} {A : Around} {E : Value → Shared → Prop} {s : Shared}
theorem applied_rev {sl : Addr} {vk : Value} {n : Nat} {Q : Int × Int × Nat → Shared → Prop} (hs : s.heap.IsSliceOf sl .none .none vk) (pk : IsPart vk (some (-1)))
    (h : Q ((n : Int) - 1, -1, n) s) : wpAny (model prog w) A (Builtin.Slice.sliceApplied (.ref sl) (pure (n : Int))) Q E s := by
  obtain ⟨os, hos, hcs, hds⟩ := id hs
  unfold Builtin.Slice.sliceApplied Builtin.Slice.sliceFields
  refine wpAny_bind (wpAny_bind (wpAny_field hos hds (x := .none) rfl (wpAny_bind (wpAny_field hos hds (x := .none) rfl (wpAny_bind (wpAny_field hos hds (x := vk) rfl (wpAny_pure ?_)))))))
  refine wpAny_bind (HT.slicePart_ pk ?_)
  show wpAny _ _ (if ((-1 : Int) == 0) = true then _ else _) _ _ s
  rw [if_neg (by decide)]
  refine wpAny_bind (HT.slicePart_ .none (wpAny_bind (HT.slicePart_ .none (wpAny_bind (wpAny_pure ?_)))))
  show wpAny _ _ (pure ((n : Int) - 1, (-1 : Int), Builtin.Slice.slicePlaces ((n : Int) - 1) (-1) (-1))) _ _ s
  have e : Builtin.Slice.slicePlaces ((n : Int) - 1) (-1) (-1) = n := by
    unfold Builtin.Slice.slicePlaces
    rw [if_neg (by decide)]
    split <;> simp <;> omega
  rw [e]
  exact wpAny_pure h
theorem getItem_tuple_rev {t sl : Addr} {items : Array Value} {vk : Value} {Q : Value → Shared → Prop} (ht : IsTup s.heap t items) (hs : s.heap.IsSliceOf sl .none .none vk) (pk : IsPart vk (some (-1)))
    (h : Q (.ref s.heap.objs.size) { s with heap := s.heap.push { cls := .type "tuple", data := .seq items.toList.reverse.toArray } })
    (hsz : items.size ≤ sizeLine) : wpAny (model prog w) A (getItem (.ref t) (.ref sl)) Q E s := by
  have htake : sizeOk (.seq items.toList.reverse.toArray) := by
    show items.toList.reverse.toArray.size ≤ sizeLine
    simpa using hsz
  obtain ⟨os, hos, hcs, hds⟩ := id hs
  have hTs : s.TypeIs (.ref sl) "slice" := ⟨os, hos, hcs⟩
  unfold getItem
  try with_reducible refine wpAny_holding ?_
  first | refine wpAny_bind (wpAny_pure ?_) | skip
  refine wpAny_bind (wpAny_sequenceKey ht.typeIs (by decide) ?_)
  refine wpAny_bind (wpAny_callSpecial?_slot (name := Str.ofString "__getitem__") ht.typeIs PyProof.Rows.slot_tuple_getitem
    (wpAny_call_entry PyProof.Rows.slot_tuple_getitem ht.typeIs entry_tuple_getitem ?_ (args_tuple_getitem _ _)))
  show wpAny _ _ (Builtin.Tuple.tupleItemsOf (.ref t) >>= _) _ _ s
  refine wpAny_bind (tupleItemsOf_ ht ?_)
  refine wpAny_bind (wpAny_typeOf hTs ?_)
  rw [if_pos (by decide)]
  refine wpAny_bind (applied_rev hs pk ?_)
  have hno : ¬ (((items.size : Int) - 1 == 0 && (-1 : Int) == 1 && items.size == items.size) = true) := by
    intro q
    rw [Bool.and_eq_true, Bool.and_eq_true] at q
    exact absurd q.1.2 (by decide)
  show wpAny _ _ (if ((items.size : Int) - 1 == 0 && (-1 : Int) == 1 && items.size == items.size) = true then _ else _) _ _ s
  rw [if_neg hno]
  have pick : ((List.range items.size).filterMap fun (m : Nat) => items[((items.size : Int) - 1 + (m : Int) * (-1)).toNat]?).toArray = items.toList.reverse.toArray := by
    have e : (fun (m : Nat) => items[((items.size : Int) - 1 + (m : Int) * (-1)).toNat]?) = fun m => items[items.size - 1 - m]? := by
      funext m
      have : ((items.size : Int) - 1 + (m : Int) * (-1)).toNat = items.size - 1 - m := by omega
      rw [this]
    rw [e]
    have e2 : (fun m => items[items.size - 1 - m]?) = (fun x => items[x]?) ∘ fun m => items.size - 1 - m := rfl
    rw [e2, ← List.filterMap_map, PySem.W.krv_range, List.filterMap_reverse, PySem.W.krv_all]
  rw [pick]
  first
    | exact wpAny_bind (m := Builtin.Tuple.tupleExact _) (wpAny_newObj_type (wpAny_pure ⟨_, rfl, wpAny_pure h⟩) htake)
    | exact wpAny_bind (m := Builtin.Tuple.tupleExact _) (wpAny_newObj_type (wpAny_bind (wpAny_pure (wpAny_pure ⟨_, rfl, wpAny_pure h⟩))) htake)
    | exact wpAny_bind (wpAny_bind (m := Builtin.Tuple.tupleExact _) (wpAny_newObj_type (wpAny_pure (wpAny_pure ⟨_, rfl, wpAny_pure h⟩)) htake))
    | exact wpAny_bind (wpAny_bind (m := Builtin.Tuple.tupleExact _) (wpAny_newObj_type (wpAny_pure ⟨_, rfl, wpAny_pure h⟩) htake))
end
section
variable {X : Cx} {cn : Str → Value} {pos p2 : Pos} {e k : Expr} {te : TE}
def tRevS (K : PySem.W.Frag) (te : TE) : TE := fun σ H Q => te σ H fun x H1 => (∃ a xs, x = .ref a ∧ SqL K H1 a xs ∧ ∀ p, H1 p = none → Q (.ref p) (upd H1 p (.lst xs.reverse))) ∨ ∃ a xs, x = .ref a ∧ SqT K H1 a xs ∧ ∀ p, H1 p = none → Q (.ref p) (upd H1 p (.tup xs.reverse))
theorem vals_rev : ∀ {xs : List V} {ys : List Value}, Vals xs ys → Vals xs.reverse ys.reverse
  | _, _, .nil => .nil
  | _, _, .cons h r => by rw [List.reverse_cons, List.reverse_cons]; exact Vals.append (vals_rev r) (.cons h .nil)
theorem pe_revS (he : PE X e te) (hk : PE X k (tC (.int (-1)))) : PE X (.Subscript e (.Slice none none (some k) p2) pos) (tRevS X.K te) := by
  refine ⟨fun pins s σ H Q I h => ?_⟩
  refine Subscript_ (thn (he.run pins s σ H _ I h) fun v s1 ⟨x, H1, I1, r1, q1⟩ => ?_)
  refine wpAny_Slice ?_
  rw [evalPart_none]
  refine wpAny_pure (wpAny_pure ?_)
  refine thn ((po_some hk).run pins s1 σ H1 (fun o H2 => o = some (-1) ∧ H2 = H1) I1 ⟨-1, rfl, rfl, rfl⟩) fun vk s3 ⟨o, H3, I3, pk, eo, eH⟩ => ?_
  subst eo eH
  have I4 : Inv X pins σ H3 { s3 with heap := s3.heap.push { cls := .type "slice", data := .fields #[.none, .none, vk] } } := I3.kept (t' := s3.toks) fun b ob q => Heap.get?_push_of_some _ q
  have hS : (s3.heap.push { cls := .type "slice", data := .fields #[.none, .none, vk] }).IsSliceOf s3.heap.objs.size .none .none vk := Heap.IsSliceOf.new ..
  rcases q1 with ⟨a, xs, rfl, hx, q⟩ | ⟨a, xs, rfl, hx, q⟩
  · cases r1
    obtain ⟨its, r, ht, hz⟩ := I4.list hx
    have hlen := r.length
    refine tail_any (ops := [.ref a, .ref s3.heap.objs.size]) ht.isList.typeIs slot_list_getitem.lookup ?_ (by with_unfolding_all rfl)
    refine wpAny_getItem_list_slice ht.isList hS .none .none pk (by simp) ?_ (by rw [List.size_toArray] <;> omega)
    rw [PySem.W.krv_pick]
    refine ⟨.ref _, _, I4.laid (o := .lst xs.reverse) (fun b ob q => Heap.get?_push_of_some _ q) (Nat.le_refl _) ?_, rfl, q _ (I4.hok.fresh (Nat.le_refl _))⟩
    exact ⟨by rw [List.length_reverse]; exact hz, _, 0, vals_rev r, Heap.get?_push_size _ rfl⟩
  · cases r1
    obtain ⟨its, r, ht, hz⟩ := I4.tuple hx
    have hlen : its.toArray.size = xs.length := by rw [List.size_toArray]; exact r.length.symm
    refine tail_any (ops := [.ref a, .ref s3.heap.objs.size]) ht.typeIs PyProof.Rows.slot_tuple_getitem.lookup ?_ (by with_unfolding_all rfl)
    refine getItem_tuple_rev ht hS pk ?_ (by rw [hlen]; exact hz)
    refine ⟨.ref _, _, I4.laid (o := .tup xs.reverse) (fun b ob q => Heap.get?_push_of_some _ q) (Nat.le_refl _) ?_, rfl, q _ (I4.hok.fresh (Nat.le_refl _))⟩
    exact ⟨by rw [List.length_reverse]; exact hz, _, vals_rev r, IsTup.new _ _⟩
@[simp] def gRevS : Dat → (DV → Prop) → Prop
  | .lst ds, P => P (.ow (.lst ds.reverse))
  | .tup ds, P => P (.fz (.tup ds.reverse))
  | _, _ => False
theorem gRevS_mono {d : Dat} {P P' : DV → Prop} (h : ∀ r, P r → P' r) (q : gRevS d P) : gRevS d P' := by
  cases d <;> first | exact q.elim | exact h _ q
theorem RepAll.rev {K : PySem.W.Frag} {W : Wd} : ∀ {vs : List V} {ds : List Dat}, RepAll K W vs ds → RepAll K W vs.reverse ds.reverse
  | _, _, .nil => .nil
  | _, _, .cons h r => by rw [List.reverse_cons, List.reverse_cons]; exact (RepAll.rev r).append (.cons h .nil)
@[simp] def wRevS (wa : WO) : WV := fun ex δ Q => wa ex δ fun o δ1 => ∃ d, o.get δ1 = some d ∧ gRevS d fun r => Q r δ1
theorem dj_revS {wa : WO} (ha : DO X cn e wa) (hk : PE X k (tC (.int (-1)))) : DJ X cn (.Subscript e (.Slice none none (some k) p2) pos) (wRevS wa) :=
  ⟨fun ex δ Q Q' hq q => ha.mono ex δ _ _ (fun o δ1 ⟨d, e, z⟩ => ⟨d, e, gRevS_mono (fun r t => hq _ _ t) z⟩) q,
   fun G gk ex tk => (pe_revS (ha.run G gk ex tk) hk).imp fun σ H Q ⟨W, δ, s, q⟩ => ⟨W, δ, s, ha.mono ex δ _ _ (fun o δ1 ⟨d, e1, z⟩ W1 v1 H1 x1 s1 r1 => by
    have rb := r1.get s1 e1
    cases d with
    | lst ds =>
      obtain ⟨p, vs, rfl, h1, r⟩ := rb.lst s1.h
      exact .inl ⟨p, vs, rfl, SqL.of h1, fun p hp => z W1 _ _ x1 (s1.newFree hp).1 ⟨p, _, rfl, .lst r.rev, (s1.newFree hp).2⟩⟩
    | tup ds =>
      obtain ⟨p, vs, rfl, h1, k1, r⟩ := rb.tup s1.h
      rw [gk.K] at h1
      exact .inr ⟨p, vs, rfl, h1, fun p hp => by
        have x' := Wd.put_ext (o := .tup vs.reverse) (s1.h.fresh hp).1
        exact z _ _ _ (x1.trans x') (s1.put hp) (.tup (.inl (.inl (by show upd W1.g p _ p = _; exact upd_same))) (r.rev.mono x'))⟩
    | _ => exact z.elim) q⟩⟩
theorem pe_m1 {j : Nat} {p p' : Pos} : PE X (.UnaryOp .USub (.Constant (.int 1) j p) p') (tC (.int (-1))) := (pe_un un_neg pe_int).imp fun σ H Q h => ⟨1, rfl, h⟩
end
end DL
set_option Elab.async false
set_option linter.all false
set_option maxRecDepth 100000
/-! A module's constant that is a tuple of ints. -/
namespace DL
open PySem PySem.Spec PyProof.Rows L2
def TupAt (K : PySem.W.Frag) (mg : Str → Option Value) (x : Str) (ns : List Int) : Prop := ∃ a, mg x = some (.ref a) ∧ ∃ (o : Obj) (its : Array Value) (n : Nat), K.lookup a = some o ∧ o.cls = .type "tuple" ∧ o.data = .seq its n ∧ its.size ≤ sizeLine ∧ Vals (ns.map V.int) its.toList
theorem de_gtup {X : Cx} {cn : Str → Value} {x : Str} {ns : List Int} {pos : Pos} (h : TupAt X.K X.mg x ns) (hg : Gl X x) (hdb : (x == ("__debug__" : Str)) = false := by decide) : DE X cn (.Name x pos) (wC (.tup (ns.map Dat.int))) := by
  obtain ⟨a, hm, h⟩ := h
  exact de_glob (v := .ref a) hg hm rfl (fun W => .tup (.inr h) (RepAll.ofInts ns)) hdb
end DL
set_option Elab.async false
set_option linter.all false
set_option maxRecDepth 100000
/-! Monotony of the words of DL12 … DL17, and their run lemmas. -/
namespace DL
open PySem PySem.Spec PyProof.Rows L2
instance : IL gAll := ⟨gAll_mono⟩
instance : IL gAny := ⟨gAny_mono⟩
instance : IL gSorted := ⟨gSorted_mono⟩
instance : IL gDivmod := ⟨gDivmod_mono⟩
instance {w u z : WO} [h : IO w] [h2 : IO u] [h3 : IO z] : IA (iRange3 w u z) := ⟨fun ex δ Q Q' hq q => h.p ex δ _ _ (fun o δ1 x => h2.p ex δ1 _ _ (fun o2 δ2 x => h3.p ex δ2 _ _ (fun o3 δ3 ⟨i, j, c, e1, e2, e3, n, z, x⟩ => ⟨i, j, c, e1, e2, e3, n, z, hq _ _ x⟩) x) x) q⟩
instance {w : WE} [h : IE w] : IA (iEnumD w) := ⟨fun ex δ Q Q' hq q => h.p ex δ _ _ (fun d δ' ⟨ds, z, x⟩ => ⟨ds, z, hq _ _ x⟩) q⟩
instance {w u : WE} [h : IE w] [h2 : IE u] : IA (iZipD w u) := ⟨fun ex δ Q Q' hq q => h.p ex δ _ _ (fun d δ1 x => h2.p ex δ1 _ _ (fun d2 δ2 ⟨ds, es, z, z2, x⟩ => ⟨ds, es, z, z2, hq _ _ x⟩) x) q⟩
instance {i : Nat} : IE (wPop i) := ⟨fun ex δ Q Q' hq ⟨ds, d, e, h⟩ => ⟨ds, d, e, hq _ _ h⟩⟩
instance {i : Nat} {w : WE} [he : IE w] : IE (wRemove i w) := ⟨fun ex δ Q Q' hq h => ⟨h.1, he.p ex δ _ _ (fun d δ1 ⟨ns, k, e0, e1, z, q⟩ => ⟨ns, k, e0, e1, z, hq _ _ q⟩) h.2⟩⟩
instance {i : Nat} {g : Dat → Dat → (DV → Prop) → Prop} {wk we : WO} [mg : I2 g] [hk : IO wk] [he : IO we] : IS (wAugS i g wk we) :=
  ⟨fun ex D D' δ hl q => ⟨q.1, hk.p ex δ _ _ (fun o δ1 ⟨ds, k, d, e1, e2, e3, x⟩ => ⟨ds, k, d, e1, e2, e3, he.p ex δ1 _ _ (fun o2 δ2 ⟨y, e4, x⟩ => ⟨y, e4, mg.p d y _ _ (fun r ⟨v, e5, ds2, e6, j, ej, hn⟩ => ⟨v, e5, ds2, e6, j, ej, hl.nx _ hn⟩) x⟩) x⟩) q.2⟩⟩
instance {w : WO} {r : WA} [ha : IO w] [hr : IA r] : IA (aStar w r) := ⟨fun ex δ Q Q' hq h => ha.p ex δ _ _ (fun o δ1 ⟨d, e1, ds, z, x⟩ => ⟨d, e1, ds, z, hr.p ex δ1 _ _ (fun es δ2 y => hq _ _ y) x⟩) h⟩
instance {w : WO} [ha : IO w] : IV (wRevS w) := ⟨fun ex δ Q Q' hq q => ha.p ex δ _ _ (fun o δ1 ⟨d, e, z⟩ => ⟨d, e, gRevS_mono (fun r t => hq _ _ t) z⟩) q⟩
section
variable {X : Cx} {cn : Str → Value} {a b c : Expr} {pos : Pos}
/-- x if t else y, new things among them -/
@[simp] def wIteJ (t : WT) (p q : WV) : WV := fun ex δ Q => t ex δ fun k δ' => if k = true then p ex δ' Q else q ex δ' Q
theorem mvIteJ {t : WT} {p q : WV} (mt : MonoT t) (mp : MonoV p) (mq : MonoV q) : MonoV (wIteJ t p q) := fun ex δ Q Q' hq h => mt ex δ _ _ (fun k δ' x => by
  cases k with
  | true => exact mp ex δ' _ _ hq x
  | false => exact mq ex δ' _ _ hq x) h
instance {t : WT} {p q : WV} [ht : IT t] [h : IV p] [h2 : IV q] : IV (wIteJ t p q) := ⟨mvIteJ ht.p h.p h2.p⟩
theorem dj_ite {u : WT} {p q : WV} (ht : DT X cn c u) (ha : DJ X cn a p) (hb : DJ X cn b q) : DJ X cn (.IfExp c a b pos) (wIteJ u p q) :=
  ⟨mvIteJ ht.mono ha.mono hb.mono, fun G gk ex tk => (pe_ifExp (ht.run G gk ex tk) (ha.run G gk ex tk) (hb.run G gk ex tk)).imp fun σ H Q ⟨W, δ, s, h⟩ => ⟨W, δ, s, ht.mono ex δ _ _ (fun k δ' x W1 H1 x1 s1 => by
    cases k with
    | true => exact ⟨W1, δ', s1, ha.mono ex δ' _ _ (fun d δ2 y W2 v2 H2 x2 s2 r2 => y W2 v2 H2 (x1.trans x2) s2 r2) x⟩
    | false => exact ⟨W1, δ', s1, hb.mono ex δ' _ _ (fun d δ2 y W2 v2 H2 x2 s2 r2 => y W2 v2 H2 (x1.trans x2) s2 r2) x⟩) h⟩⟩
end
theorem r_mull {xs : List Dat} {k : Int} {P : DV → Prop} : gMul (.lst xs) (.int k) P = ((-(2 ^ 63) ≤ k ∧ k < 2 ^ 63 ∧ xs.length * k.toNat ≤ 1000000) ∧ P (.ow (.lst (List.replicate k.toNat xs).flatten))) := rfl
theorem r_mult {xs : List Dat} {k : Int} {P : DV → Prop} : gMul (.tup xs) (.int k) P = ((xs ≠ [] ∧ 0 ≤ k ∧ k ≤ 1000 ∧ xs.length ≤ 1000) ∧ P (.fz (.tup (List.replicate k.toNat xs).flatten))) := rfl
theorem r_listL {ds : List Dat} {P : DV → Prop} : gList [.lst ds] P = P (.ow (.lst ds)) := rfl
theorem r_listT {ds : List Dat} {P : DV → Prop} : gList [.tup ds] P = P (.ow (.lst ds)) := rfl
theorem r_tupL {ds : List Dat} {P : DV → Prop} : gTuple [.lst ds] P = P (.fz (.tup ds)) := rfl
theorem r_tupT {ds : List Dat} {P : DV → Prop} : gTuple [.tup ds] P = P (.fz (.tup ds)) := rfl
theorem r_dvm {i j : Int} {P : DV → Prop} : gDivmod [.int i, .int j] P = (CDivM i j ∧ P (.fz (.tup [.int (pyDiv i j), .int (pyMod i j)]))) := rfl
theorem r_slL {ds : List Dat} {l u : Option Int} {P : DV → Prop} : gSl (.lst ds) l u P = P (.ow (.lst (DL.cutD ds l u))) := rfl
theorem r_slT {ds : List Dat} {l u : Option Int} {P : DV → Prop} : gSl (.tup ds) l u P = P (.fz (.tup (DL.cutD ds l u))) := rfl
end DL
set_option Elab.async false
set_option linter.all false
set_option maxRecDepth 100000
/-! Dicts: walked, listed, sorted, made, compared. -/
namespace DL
open PySem PySem.Spec PyProof.Rows L2
section
variable {X : Cx} {cn : Str → Value} {pos : Pos} {e a b c : Expr} {es : List Expr}
/-! ### a dict that stands still is locked, for good -/
theorem StOk.lock {G : Gh} {W : Wd} {δ : Dl} {σ : L2.St} {H H' : Hp} {d : Addr} {ob : Obj} {vs : List (Key × V)} (s : StOk G W δ σ H) (hw : W.g d = some (.dK vs)) (hh : H d = some (.dK vs) ∨ H d = some (.frz ob (.dK vs))) (hn : H' d = some (.frz ob (.dK vs))) (ho : ∀ a, a ≠ d → H' a = H a) :
    Ext W (W.put d (.frz ob (.dK vs))) ∧ StOk G (W.put d (.frz ob (.dK vs))) δ σ H' := by
  have x1 : Ext W (W.put d (.frz ob (.dK vs))) := ⟨fun a o h => by
    by_cases z : a = d
    · subst z; rw [hw] at h; cases h
      exact .inr ⟨ob, vs, rfl, by show upd W.g a _ a = _; exact upd_same⟩
    · exact .inl (by show upd W.g d _ a = _; rw [upd_ne z]; exact h), fun _ h => h⟩
  refine ⟨x1, ⟨s.h.ext.trans x1, fun a o e nb => ?_, fun a o e => ?_, fun a e => ?_, s.h.oldb, fun b hb => ?_⟩, ⟨s.s.len, fun i dd e => ?_, fun i dd e => ?_, s.s.ne⟩⟩
  · by_cases z : a = d
    · subst z
      have hg : G.W0.g a = some (.dK vs) := by
        rcases s.h.old a (by rw [e]; rfl) with y | ⟨_, _, _, y⟩
        · rw [← y]; exact hw
        · rw [hw] at y; cases y
      rcases s.h.keep a o e nb with y | ⟨y1, y2⟩
      · rcases hh with t | t
        · rw [y] at t; cases t
          exact .inr ⟨hg, .inr ⟨ob, vs, rfl, hn⟩⟩
        · rw [y] at t; cases t
          exact .inl hn
      · rw [hg] at y1; cases y1
        exact .inr ⟨hg, .inr ⟨ob, vs, rfl, hn⟩⟩
    · exact (s.h.keep a o e nb).imp (fun q => by rw [ho a z]; exact q) fun q => ⟨q.1, q.2.of (ho a z)⟩
  · by_cases z : a = d
    · subst z
      have e : upd W.g a _ a = some o := e
      rw [upd_same] at e; cases e
      exact .inl hn
    · have e : upd W.g d _ a = some o := e
      rw [upd_ne z] at e
      exact (s.h.sub a o e).of (ho a z)
  · by_cases z : a = d
    · subst z
      rcases s.h.old a e with y | ⟨_, _, _, y⟩
      · exact .inr ⟨ob, vs, by rw [← y]; exact hw, by show upd W.g a _ a = _; exact upd_same⟩
      · rw [hw] at y; cases y
    · have q : (W.put d (.frz ob (.dK vs))).g a = W.g a := upd_ne z
      rw [q]; exact s.h.old a e
  · obtain ⟨g1, x, y, z, g2⟩ := s.h.bags b hb
    have hne : b ≠ d := fun z => by subst z; rw [hw] at g1; cases g1
    exact ⟨(upd_ne hne).trans g1, x, y, z, by rw [ho b hne]; exact g2⟩
  · obtain ⟨v, e1, r⟩ := s.s.fz i dd e
    exact ⟨v, e1, r.mono x1⟩
  · obtain ⟨a, u, e1, e2, r, n1, n2, n3⟩ := s.s.ow i dd e
    have hne : a ≠ d := fun z => by subst z; rw [hw] at n1; cases n1
    exact ⟨a, u, e1, by rw [ho a hne]; exact e2, r.mono x1, (upd_ne hne).trans n1, n2, n3⟩
/-- e is evaluated to a dict that stands still; behind it the dict is locked -/
def PostL (G : Gh) (W : Wd) (σ : L2.St) (Q : VK) (kds : List (Key × Dat)) (δ : Dl) : Prop := ∀ W' dd ob vs H', Ext W W' → StOk G W' δ σ H' → W'.g dd = some (.frz ob (.dK vs)) → RepKV G.K W' vs kds → Q (.ref dd) H'
theorem pe_dlock {w : WE} (h : DE X cn e w) {G : Gh} (gk : GOk X cn G) {ex : XW} (tk : TakesD X G ex) : PE X e (fun σ H Q => ∃ W δ, StOk G W δ σ H ∧ w ex δ fun d δ' => ∃ kds, d = .dK kds ∧ PostL G W σ Q kds δ') := by
  refine ⟨fun pins s0 σ H Q I ⟨W, δ, s, q⟩ => ?_⟩
  refine thn ((h.run G gk ex tk).run pins s0 σ H (fun v H1 => ∃ W1 δ1 kds, Ext W W1 ∧ StOk G W1 δ1 σ H1 ∧ Rep G.K W1 v (.dK kds) ∧ PostL G W σ Q kds δ1) I
    ⟨W, δ, s, h.mono ex δ _ _ (fun d δ' ⟨kds, z, x⟩ W' v H' x' s' r' => ⟨W', δ', kds, x', s', z ▸ r', x⟩) q⟩) fun v s1 ⟨x, H1, I1, rv, W1, δ1, kds, x1, st1, r1, hq⟩ => ?_
  cases r1 with
  | @dK dd vs _ hd r =>
    rcases hd with hd | ⟨ob, hd⟩
    · rcases st1.h.sub dd _ hd with hh | ⟨ob, kvs, ek, hh⟩
      · obtain ⟨ob, I2⟩ := I1.lock hh trivial
        obtain ⟨x2, st2⟩ := st1.lock hd (.inl hh) (H' := upd H1 dd (.frz ob (.dK vs))) upd_same (fun a z => upd_ne z)
        exact ⟨.ref dd, _, I2, rv, hq _ dd ob vs _ (x1.trans x2) st2 (by show upd W1.g dd _ dd = _; exact upd_same) (r.mono x2)⟩
      · cases ek
        obtain ⟨x2, st2⟩ := st1.lock hd (.inr hh) (H' := H1) hh (fun a z => rfl)
        exact ⟨.ref dd, _, I1, rv, hq _ dd ob vs _ (x1.trans x2) st2 (by show upd W1.g dd _ dd = _; exact upd_same) (r.mono x2)⟩
    · exact ⟨.ref dd, _, I1, rv, hq _ dd ob vs _ x1 st1 hd r⟩
theorem RepKV.at_ {K : PySem.W.Frag} {W : Wd} : ∀ {vs : List (Key × V)} {ds : List (Key × Dat)} {i : Nat} {p : Key × Dat}, RepKV K W vs ds → ds[i]? = some p → ∃ v, vs[i]? = some (p.1, v) ∧ Rep K W v p.2
  | _, _, _, _, .nil, e => by simp at e
  | _, _, 0, _, .cons h _, e => by simp at e; subst e; exact ⟨_, rfl, h⟩
  | _, _, i + 1, _, .cons _ r, e => by
    obtain ⟨v, h1, h2⟩ := RepKV.at_ (i := i) r (by simpa using e)
    exact ⟨v, by simpa using h1, h2⟩
theorem yields_keys {K : PySem.W.Frag} {W : Wd} {d : Addr} {ob : Obj} {vs : List (Key × V)} {kds : List (Key × Dat)} (hg : W.g d = some (.frz ob (.dK vs))) (r : RepKV K W vs kds) : Yields K W (Itk d ob vs) (kds.map fun p => keyDat p.1) := fun G hK W' δ σ H x s i => by
  subst hK
  have hH : H d = some (.frz ob (.dK vs)) := (s.h.sub d _ (x.g d _ hg).frz).frz
  refine ⟨fun dd e => ?_, fun hl => ⟨hH, by rw [r.length]; simpa using hl⟩⟩
  have e : (kds.map fun p => keyDat p.1)[i]? = some dd := e
  rw [List.getElem?_map, Option.map_eq_some_iff] at e
  obtain ⟨p, e0, rfl⟩ := e
  obtain ⟨v, e1, r1⟩ := r.at_ e0
  refine ⟨⟨hH, (List.getElem?_eq_some_iff.1 e1).1⟩, fun y H' hy => ?_⟩
  obtain ⟨rfl, k, v', e2, rfl⟩ := hy
  rw [e1] at e2; cases e2
  exact ⟨W', Ext.refl W', s, keyDat_rep _⟩
theorem yields_vals {K : PySem.W.Frag} {W : Wd} {d : Addr} {ob : Obj} {vs : List (Key × V)} {kds : List (Key × Dat)} (hg : W.g d = some (.frz ob (.dK vs))) (r : RepKV K W vs kds) : Yields K W (Itd d ob vs) (kds.map (·.2)) := fun G hK W' δ σ H x s i => by
  subst hK
  have hH : H d = some (.frz ob (.dK vs)) := (s.h.sub d _ (x.g d _ hg).frz).frz
  refine ⟨fun dd e => ?_, fun hl => ⟨hH, by rw [r.length]; simpa using hl⟩⟩
  have e : (kds.map (·.2))[i]? = some dd := e
  rw [List.getElem?_map, Option.map_eq_some_iff] at e
  obtain ⟨p, e0, rfl⟩ := e
  obtain ⟨v, e1, r1⟩ := r.at_ e0
  refine ⟨⟨hH, (List.getElem?_eq_some_iff.1 e1).1⟩, fun y H' hy => ?_⟩
  obtain ⟨rfl, k, e2⟩ := hy
  rw [e1] at e2; cases e2
  exact ⟨W', Ext.refl W', s, r1.mono x⟩
def itemDat (p : Key × Dat) : Dat := .tup [keyDat p.1, p.2]
theorem yields_items {K : PySem.W.Frag} {W : Wd} {d : Addr} {ob : Obj} {vs : List (Key × V)} {kds : List (Key × Dat)} (hg : W.g d = some (.frz ob (.dK vs))) (r : RepKV K W vs kds) : Yields K W (Iti d ob vs) (kds.map itemDat) := fun G hK W' δ σ H x s i => by
  subst hK
  have hH : H d = some (.frz ob (.dK vs)) := (s.h.sub d _ (x.g d _ hg).frz).frz
  refine ⟨fun dd e => ?_, fun hl => ⟨hH, by rw [r.length]; simpa using hl⟩⟩
  have e : (kds.map itemDat)[i]? = some dd := e
  rw [List.getElem?_map, Option.map_eq_some_iff] at e
  obtain ⟨p, e0, rfl⟩ := e
  obtain ⟨v, e1, r1⟩ := r.at_ e0
  refine ⟨⟨hH, (List.getElem?_eq_some_iff.1 e1).1⟩, fun y H' hy => ?_⟩
  obtain ⟨T, k, v', e2, rfl, hT, rfl⟩ := hy
  rw [e1] at e2; cases e2
  refine ⟨W'.put T (.tup [kV p.1, v]), Wd.put_ext (s.h.fresh hT).1, s.put hT, ?_⟩
  exact .tup (.inl (.inl (by show upd W'.g T _ T = _; exact upd_same))) (.cons (keyDat_rep _) (.cons ((r1.mono x).mono (Wd.put_ext (s.h.fresh hT).1)) .nil))
/-- for k in d; for x in d.values(); for k, x in d.items() -/
@[simp] def iKeysD (w : WE) : WI := fun ex δ Q => w ex δ fun d δ' => ∃ kds, d = .dK kds ∧ Q (kds.map fun p => keyDat p.1) δ'
@[simp] def iValsD (w : WE) : WI := fun ex δ Q => w ex δ fun d δ' => ∃ kds, d = .dK kds ∧ Q (kds.map (·.2)) δ'
@[simp] def iItemsD (w : WE) : WI := fun ex δ Q => w ex δ fun d δ' => ∃ kds, d = .dK kds ∧ Q (kds.map itemDat) δ'
theorem di_keys {tg : Expr} {w : WE} (h : DE X cn e w) : DI X cn tg e (iKeysD w) :=
  ⟨fun ex δ Q Q' hq q => h.mono ex δ _ _ (fun d δ' ⟨ds, z, x⟩ => ⟨ds, z, hq _ _ x⟩) q, fun G gk ex tk => (pi_keys (pe_dlock h gk tk)).imp fun σ H R ⟨W, δ, s, q⟩ => ⟨W, δ, s, h.mono ex δ _ _ (fun d δ' ⟨kds, z, x⟩ => ⟨kds, z, fun W' dd ob vs H' x' s' hg r => by
    exact ⟨dd, ob, rfl, .inl ⟨vs, (s'.h.sub dd _ hg).frz, x W' _ H' x' s' (yields_keys hg r)⟩⟩⟩) q⟩⟩
theorem di_vals {tg : Expr} {w : WE} {apos cpos : Pos} (h : DE X cn e w) (hbase : attributeBase e "values" X.env (eval e X.env) = eval e X.env := by rfl) (hline : (apos.endLine == cpos.line) = true := by rfl) : DI X cn tg (.Call (.Attribute e "values" apos) [] [] cpos) (iValsD w) :=
  ⟨fun ex δ Q Q' hq q => h.mono ex δ _ _ (fun d δ' ⟨ds, z, x⟩ => ⟨ds, z, hq _ _ x⟩) q, fun G gk ex tk => (pi_values (pe_dlock h gk tk) hbase hline).imp fun σ H R ⟨W, δ, s, q⟩ => ⟨W, δ, s, h.mono ex δ _ _ (fun d δ' ⟨kds, z, x⟩ => ⟨kds, z, fun W' dd ob vs H' x' s' hg r => by
    exact ⟨dd, ob, vs, rfl, (s'.h.sub dd _ hg).frz, x W' _ H' x' s' (yields_vals hg r)⟩⟩) q⟩⟩
theorem di_items {elts : List Expr} {kk : Nat} {tpos : Pos} {w : WE} {apos cpos : Pos} (h : DE X cn e w) (hbase : attributeBase e "items" X.env (eval e X.env) = eval e X.env := by rfl) (hline : (apos.endLine == cpos.line) = true := by rfl) : DI X cn (.Tuple elts kk tpos) (.Call (.Attribute e "items" apos) [] [] cpos) (iItemsD w) :=
  ⟨fun ex δ Q Q' hq q => h.mono ex δ _ _ (fun d δ' ⟨ds, z, x⟩ => ⟨ds, z, hq _ _ x⟩) q, fun G gk ex tk => (pi_items (pe_dlock h gk tk) hbase hline).imp fun σ H R ⟨W, δ, s, q⟩ => ⟨W, δ, s, h.mono ex δ _ _ (fun d δ' ⟨kds, z, x⟩ => ⟨kds, z, fun W' dd ob vs H' x' s' hg r => by
    exact ⟨dd, ob, vs, rfl, (s'.h.sub dd _ hg).frz, x W' _ H' x' s' (yields_items hg r)⟩⟩) q⟩⟩
instance {w : WE} [h : IE w] : IA (iKeysD w) := ⟨fun ex δ Q Q' hq q => h.p ex δ _ _ (fun d δ' ⟨ds, z, x⟩ => ⟨ds, z, hq _ _ x⟩) q⟩
instance {w : WE} [h : IE w] : IA (iValsD w) := ⟨fun ex δ Q Q' hq q => h.p ex δ _ _ (fun d δ' ⟨ds, z, x⟩ => ⟨ds, z, hq _ _ x⟩) q⟩
instance {w : WE} [h : IE w] : IA (iItemsD w) := ⟨fun ex δ Q Q' hq q => h.p ex δ _ _ (fun d δ' ⟨ds, z, x⟩ => ⟨ds, z, hq _ _ x⟩) q⟩
end
end DL
set_option Elab.async false
set_option linter.all false
set_option maxRecDepth 100000
/-! Dicts: dict(..), displays, == with dicts. -/
namespace DL
open PySem PySem.Spec PyProof.Rows L2
section
variable {X : Cx} {cn : Str → Value} {pos : Pos} {e a b c : Expr} {es : List Expr}
/-! ### dict(d), dict(pairs) -/
def mergeD (kds more : List (Key × Dat)) : List (Key × Dat) := more.foldl (fun acc p => putD acc p.1 p.2) kds
theorem RepKV.merge {K : PySem.W.Frag} {W : Wd} : ∀ {more : List (Key × V)} {moreD : List (Key × Dat)} {kvs : List (Key × V)} {kds : List (Key × Dat)}, RepKV K W more moreD → RepKV K W kvs kds → RepKV K W (mergeK kvs more) (mergeD kds moreD)
  | _, _, _, _, .nil, h => h
  | _, _, kvs, kds, @RepKV.cons _ _ k v d vs ds h r, h2 => by
    show RepKV K W (mergeK (putK kvs k v) vs) (mergeD (putD kds k d) ds)
    exact RepKV.merge r (h2.put h)
@[simp] def gDict : List Dat → (DV → Prop) → Prop
  | [.lst ds], P => ∃ kds : List (Key × Dat), ds = kds.map itemDat ∧ P (.ow (.dK (mergeD [] kds)))
  | [.dK kds], P => P (.ow (.dK kds))
  | _, _ => False
theorem gDict_mono : MonoGL gDict := fun d P P' h q => by
  match d, q with
  | [.lst ds], ⟨kds, e, q⟩ => exact ⟨kds, e, h _ q⟩
  | [.dK kds], q => exact h _ q
instance : IL gDict := ⟨gDict_mono⟩
def rDictX (K : PySem.W.Frag) : List V → Hp → VK → Prop := fun xs H Q => (∃ (a : Addr) (kvs : List (Key × V)), xs = [.ref a] ∧ Rd H a (.dK kvs) ∧ ∀ p, H p = none → Q (.ref p) (upd H p (.dK kvs))) ∨
  ∃ (a : Addr) (ps : List Addr) (kvs : List (Key × V)), xs = [.ref a] ∧ SqL K H a (ps.map V.ref) ∧ Paired (fun p kv => SqT K H p [kV kv.1, kv.2]) ps kvs ∧ ∀ p, H p = none → Q (.ref p) (upd H p (.dK (mergeK [] kvs)))
theorem cr_dictX (hc : X.calm = true) : CallR X (.type "dict") (rDictX X.K) := call_dictD.or (call_dictP hc)
theorem Rep.key {K : PySem.W.Frag} {W : Wd} {v : V} : ∀ {k : Key}, Rep K W v (keyDat k) → v = kV k
  | .inl _, h => by cases h; rfl
  | .inr _, h => by cases h; rfl
theorem rep_pairs {G : Gh} {W : Wd} {H : Hp} (h : HpOk G W H) : ∀ {vs : List V} {kds : List (Key × Dat)}, RepAll G.K W vs (kds.map itemDat) → ∃ (ps : List Addr) (kvs : List (Key × V)), vs = ps.map V.ref ∧ Paired (fun p kv => SqT G.K H p [kV kv.1, kv.2]) ps kvs ∧ RepKV G.K W kvs kds
  | _, [], .nil => ⟨[], [], rfl, .nil, .nil⟩
  | _, (k, d) :: kds, .cons h1 r => by
    obtain ⟨ps, kvs, rfl, p1, r1⟩ := rep_pairs h r
    cases h1 with
    | @tup a vs _ hs rr =>
      cases rr with
      | cons q1 rr =>
        cases rr with
        | cons q2 rr =>
          cases rr
          have := q1.key
          subst this
          exact ⟨a :: ps, (k, _) :: kvs, rfl, .cons (SqT.std h.sub hs) p1, .cons q2 r1⟩
theorem does_dict : DoesL X gDict (rDictX X.K) := by
  intro G hK W δ σ H xs ds P Q s rr hg hz
  match ds, hg with
  | [.lst ds], ⟨kds, e, q⟩ =>
    obtain ⟨v, rfl, r⟩ := rr.one
    obtain ⟨a, vs, rfl, h1, r1⟩ := r.lst s.h
    subst e
    obtain ⟨ps, kvs, rfl, p1, r2⟩ := rep_pairs s.h r1
    rw [hK] at p1
    exact .inr ⟨a, ps, kvs, rfl, SqL.of h1, p1, fun p hp => hz _ W _ _ q (Ext.refl W) (s.newFree hp).1 ⟨p, _, rfl, .dK (RepKV.merge r2 .nil), (s.newFree hp).2⟩⟩
  | [.dK kds], q =>
    obtain ⟨v, rfl, r⟩ := rr.one
    obtain ⟨a, vs, rfl, h1, r1⟩ := r.dK s.h
    exact .inl ⟨a, vs, rfl, h1, fun p hp => hz _ W _ _ q (Ext.refl W) (s.newFree hp).1 ⟨p, _, rfl, .dK r1, (s.newFree hp).2⟩⟩
/-! ### {k: x, ..} -/
@[simp] def wPairs : List (WE × WE) → XW → Dl → (List (Dat × Dat) → Dl → Prop) → Prop
  | [], _, δ, Q => Q [] δ
  | (wk, wv) :: r, ex, δ, Q => wk ex δ fun k δ1 => wv ex δ1 fun v δ2 => wPairs r ex δ2 fun ps δ3 => Q ((k, v) :: ps) δ3
inductive DPs (X : Cx) (cn : Str → Value) : List (Option Expr) → List Expr → List (WE × WE) → Prop
  | nil : DPs X cn [] [] []
  | cons {k v : Expr} {ks : List (Option Expr)} {vs : List Expr} {wk wv : WE} {ws : List (WE × WE)} : DE X cn k wk → DE X cn v wv → DPs X cn ks vs ws → DPs X cn (some k :: ks) (v :: vs) ((wk, wv) :: ws)
theorem wPairs_mono {ks : List (Option Expr)} {vs : List Expr} {ws : List (WE × WE)} (h : DPs X cn ks vs ws) : ∀ {ex : XW} {δ : Dl} {Q Q' : List (Dat × Dat) → Dl → Prop}, (∀ p δ, Q p δ → Q' p δ) → wPairs ws ex δ Q → wPairs ws ex δ Q' := by
  induction h with
  | nil => exact fun hq h => hq _ _ h
  | cons hk hv _ ih => exact fun hq h => hk.mono _ _ _ _ (fun k δ1 h1 => hv.mono _ _ _ _ (fun v δ2 h2 => ih (fun p δ h => hq _ _ h) h2) h1) h
@[simp] def wDisp (ws : List (WE × WE)) : WV := fun ex δ Q => wPairs ws ex δ fun kvs δ' => ∃ kds : List (Key × Dat), kvs = kds.map (fun p => (keyDat p.1, p.2)) ∧ kds.length ≤ 15 ∧ Q (.ow (.dK (mergeD [] kds))) δ'
def exTE (X : Cx) (G : Gh) (ex : XW) (w : WE) : TE := fun σ H Q => ∃ G' : Gh, G'.K = G.K ∧ G'.cn = G.cn ∧ TakesD X G' ex ∧ rdE G' ex w σ H Q
theorem pps_of {ks : List (Option Expr)} {vs : List Expr} {ws : List (WE × WE)} (h : DPs X cn ks vs ws) {G : Gh} (gk : GOk X cn G) {ex : XW} : PPs X pos ks vs (ws.map fun p => (exTE X G ex p.1, exTE X G ex p.2)) := by
  induction h with
  | nil => exact pps_nil
  | cons hk hv _ ih =>
    exact pps_cons ⟨fun pins s σ H Q I ⟨G', k1, k2, tk, q⟩ => (hk.run G' ⟨k1.trans gk.K, k2.trans gk.cn⟩ ex tk).run pins s σ H Q I q⟩
      ⟨fun pins s σ H Q I ⟨G', k1, k2, tk, q⟩ => (hv.run G' ⟨k1.trans gk.K, k2.trans gk.cn⟩ ex tk).run pins s σ H Q I q⟩ ih
inductive RepPs (K : PySem.W.Frag) (W : Wd) : List (V × V) → List (Dat × Dat) → Prop
  | nil : RepPs K W [] []
  | cons {x y : V} {k d : Dat} {vs : List (V × V)} {ds : List (Dat × Dat)} : Rep K W x k → Rep K W y d → RepPs K W vs ds → RepPs K W ((x, y) :: vs) ((k, d) :: ds)
theorem RepPs.mono {K : PySem.W.Frag} {W W' : Wd} (e : Ext W W') {vs : List (V × V)} {ds : List (Dat × Dat)} (r : RepPs K W vs ds) : RepPs K W' vs ds := by
  induction r with
  | nil => exact .nil
  | cons h1 h2 _ ih => exact .cons (h1.mono e) (h2.mono e) ih
theorem RepPs.kv {K : PySem.W.Frag} {W : Wd} : ∀ {vs : List (V × V)} {kds : List (Key × Dat)}, RepPs K W vs (kds.map fun p => (keyDat p.1, p.2)) → ∃ kvs : List (Key × V), vs = kvs.map (fun kv => (kV kv.1, kv.2)) ∧ RepKV K W kvs kds
  | _, [], .nil => ⟨[], rfl, .nil⟩
  | _, (k, d) :: kds, .cons h1 h2 r => by
    obtain ⟨kvs, rfl, r1⟩ := RepPs.kv r
    have := h1.key
    subst this
    exact ⟨(k, _) :: kvs, rfl, .cons h2 r1⟩
theorem tPairs_of {G G' : Gh} {ex : XW} (hK : G'.K = G.K) (hc : G'.cn = G.cn) (tk : TakesD X G' ex) {σ : L2.St} {ks : List (Option Expr)} {vs : List Expr} {ws : List (WE × WE)} (h : DPs X cn ks vs ws) : ∀ {W : Wd} {δ : Dl} {H : Hp} {Q : List (Dat × Dat) → Dl → Prop} {R : List (V × V) → Hp → Prop}, StOk G' W δ σ H → wPairs ws ex δ Q →
    (∀ ps δ1 W1 vs H1, Q ps δ1 → Ext W W1 → StOk G' W1 δ1 σ H1 → RepPs G'.K W1 vs ps → R vs H1) → tPairs (ws.map fun p => (exTE X G ex p.1, exTE X G ex p.2)) σ H R := by
  induction h with
  | nil => exact fun s q r => r _ _ _ _ _ q (Ext.refl _) s .nil
  | cons hk hv _ ih =>
    intro W δ H Q R s q r
    refine ⟨G', hK, hc, tk, W, δ, s, hk.mono _ _ _ _ (fun k δ1 h1 W1 x H1 x1 s1 r1 => ?_) q⟩
    refine ⟨G', hK, hc, tk, W1, δ1, s1, hv.mono _ _ _ _ (fun v δ2 h2 W2 y H2 x2 s2 r2 => ?_) h1⟩
    exact ih s2 h2 fun ps δ3 W3 vs H3 q3 x3 s3 r3 => r _ _ W3 _ _ q3 ((x1.trans x2).trans x3) s3 (.cons (r1.mono (x2.trans x3)) (r2.mono x3) r3)
theorem dj_disp {ks : List (Option Expr)} {vs : List Expr} {ws : List (WE × WE)} (h : DPs X cn ks vs ws) (hall : ks.all (·.isSome) = true) (hl : ks.length = vs.length) (h0 : ks ≠ []) (h15 : ks.length ≤ 15) : DJ X cn (.Dict ks vs pos) (wDisp ws) :=
  ⟨fun ex δ Q Q' hq q => wPairs_mono h (fun ps δ' ⟨kds, e, l, x⟩ => ⟨kds, e, l, hq _ _ x⟩) q, fun G gk ex tk => (pe_disp (pps_of h gk (ex := ex)) hall hl h0 h15).imp fun σ H Q ⟨W, δ, s, q⟩ => fun p hp => by
    obtain ⟨s1, f1⟩ := s.newFree (o := .dK []) hp
    have w0 : G.W0.g p = none := by
      cases e : G.W0.g p with
      | none => rfl
      | some u => exact ((s1.h.ext.g p u e).none f1.g).elim
    have b0 : ¬ G.W0.bag p := fun z => f1.b (s1.h.ext.b p z)
    refine tPairs_of (G' := G.hold p (.dK [])) rfl rfl (tk.hold f1.h0) h (s1.hold f1) q fun ps δ1 W1 vs' H1 ⟨kds, e, l, x⟩ x1 s2 r2 => ?_
    obtain ⟨s3, f3⟩ := StOk.unhold f1 x1 w0 b0 s2
    subst e
    obtain ⟨kvs, rfl, r3⟩ := r2.kv
    refine ⟨f3.at_, kvs, rfl, by rw [r3.length]; exact l, ?_⟩
    obtain ⟨s4, f4⟩ := s3.app (o' := .dK (mergeK [] kvs)) f3
    exact x W1 _ _ x1 s4 ⟨p, _, rfl, .dK (RepKV.merge r3 .nil), f4⟩⟩
class IPs (ws : List (WE × WE)) : Prop where p : ∀ (ex : XW) (δ : Dl) (Q Q' : List (Dat × Dat) → Dl → Prop), (∀ p δ, Q p δ → Q' p δ) → wPairs ws ex δ Q → wPairs ws ex δ Q'
instance : IPs [] := ⟨fun _ _ _ _ hq h => hq _ _ h⟩
instance {wk wv : WE} {ws : List (WE × WE)} [hk : IE wk] [hv : IE wv] [h : IPs ws] : IPs ((wk, wv) :: ws) := ⟨fun ex δ Q Q' hq q => hk.p _ _ _ _ (fun k δ1 h1 => hv.p _ _ _ _ (fun v δ2 h2 => h.p _ _ _ _ (fun p δ h => hq _ _ h) h2) h1) q⟩
instance {ws : List (WE × WE)} [h : IPs ws] : IV (wDisp ws) := ⟨fun ex δ Q Q' hq q => h.p _ _ _ _ (fun ps δ' ⟨kds, e, l, x⟩ => ⟨kds, e, l, hq _ _ x⟩) q⟩
/-! ### == of data with dicts in it: what is equal -/
inductive DEq : Nat → Dat → Dat → Prop
  | leaf {n : Nat} {d e : Dat} : okD 16 d = true → okD 16 e = true → eqvD d e = true → DEq n d e
  | lst {n : Nat} {ds es : List Dat} : ds.length = es.length → (∀ (j : Nat) (d e : Dat), ds[j]? = some d → es[j]? = some e → DEq n d e) → DEq (n + 1) (.lst ds) (.lst es)
  | tup {n : Nat} {ds es : List Dat} : ds.length = es.length → (∀ (j : Nat) (d e : Dat), ds[j]? = some d → es[j]? = some e → DEq n d e) → DEq (n + 1) (.tup ds) (.tup es)
  | dK {n : Nat} {ks ls : List (Key × Dat)} (g : Key → Dat) : ks.length = ls.length → (∀ (j : Nat) (k : Key) (v : Dat), ks[j]? = some (k, v) → valD ls k = some (g k)) → (∀ (j : Nat) (k : Key) (v : Dat), ks[j]? = some (k, v) → DEq n v (g k)) → DEq (n + 1) (.dK ks) (.dK ls)
theorem RepAll.atV {K : PySem.W.Frag} {W : Wd} {vs : List V} {ds : List Dat} (r : RepAll K W vs ds) {i : Nat} {v : V} (e : vs[i]? = some v) : ∃ d, ds[i]? = some d ∧ Rep K W v d := r.getV e
theorem Vals.atU : ∀ {xs : List V} {us : List Value} {i : Nat} {u : Value}, Vals xs us → us[i]? = some u → ∃ x, xs[i]? = some x ∧ RelV x u
  | _, _, _, _, .nil, e => by simp at e
  | _, _, 0, _, .cons r _, e => by simp at e; subst e; exact ⟨_, rfl, r⟩
  | _, _, i + 1, x, .cons _ t, e => by
    obtain ⟨y, h1, h2⟩ := Vals.atU (i := i) t (by simpa using e)
    exact ⟨y, by simpa using h1, h2⟩
theorem KV.atU {vs : List (Key × Value)} : ∀ {kvs : List (Key × V)} {i : Nat} {p : Key × Value}, KV kvs vs → vs[i]? = some p → ∃ x, kvs[i]? = some (p.1, x) ∧ RelV x p.2 := by
  intro kvs i p r e
  unfold KV at r
  induction r generalizing i with
  | nil => simp at e
  | @cons p q ps qs h t ih =>
    cases i with
    | zero =>
      simp at e; subst e
      exact ⟨p.2, by simp [← h.1], h.2⟩
    | succ i => simpa using ih (by simpa using e)
theorem RepKV.atV {K : PySem.W.Frag} {W : Wd} : ∀ {vs : List (Key × V)} {ds : List (Key × Dat)} {i : Nat} {k : Key} {v : V}, RepKV K W vs ds → vs[i]? = some (k, v) → ∃ d, ds[i]? = some (k, d) ∧ Rep K W v d
  | _, _, _, _, _, .nil, e => by simp at e
  | _, _, 0, _, _, .cons h _, e => by simp at e; obtain ⟨rfl, rfl⟩ := e; exact ⟨_, rfl, h⟩
  | _, _, i + 1, _, _, .cons _ r, e => by
    obtain ⟨v, h1, h2⟩ := RepKV.atV (i := i) r (by simpa using e)
    exact ⟨v, by simpa using h1, h2⟩
/-- what valueAt finds in a dict that stands for data -/
theorem val_rep {K : PySem.W.Frag} {W : Wd} {kvs : List (Key × V)} {ls : List (Key × Dat)} {vs : List (Key × Value)} (r : RepKV K W kvs ls) (rel : KV kvs vs) {k : Key} {d : Dat} (h : valD ls k = some d) : ∃ x y, valueAt vs k = some y ∧ RelV x y ∧ Rep K W x d := by
  have h1 := r.val (k := k)
  rw [h] at h1
  obtain ⟨x, e1, r1⟩ := h1
  have h2 := rel.val k
  rw [e1] at h2
  obtain ⟨y, e2, r2⟩ := RelO.some_of (v := x) (o := valueAt vs k) (by simpa using h2)
  exact ⟨x, y, e2, r2, r1⟩
theorem eqTree {G : Gh} (hK : G.K = X.K) {W : Wd} {δ : Dl} {σ0 σ : L2.St} {H : Hp} {s : Shared} {pins : List (Addr × Obj)} (st : StOk G W δ σ0 H) (I : L2.Inv X pins σ H s) : ∀ {n : Nat} {d e : Dat}, DEq n d e → ∀ {v u : V} {a b : Value}, Rep G.K W v d → Rep G.K W u e → RelV v a → RelV u b → PySem.W.EqTree X.prog X.w s (n + 20) a b true := by
  intro n d e h
  induction h with
  | @leaf n d e h1 h2 h3 =>
    intro v u a b r1 r2 q1 q2
    have p1 := Rep.dp (H := H) st.h.sub _ r1 h1
    have p2 := Rep.dp (H := H) st.h.sub _ r2 h2
    rw [hK] at p1 p2
    obtain ⟨as, x1⟩ := Dp.reads I _ _ _ p1 q1
    obtain ⟨bs, x2⟩ := Dp.reads I _ _ _ p2 q2
    have z1 := okD_plain _ _ h1
    have z2 := okD_plain _ _ h2
    refine .leaf fun A hu => ?_
    have := SeqAt.eqAt_plain (toPy d) (toPy e) A s a b as bs x1 x2 z1.1 z2.1 (by have := z1.2; omega)
    rw [eqvD_py _ _ _ _ h1 h2, h3] at this
    exact this
  | @lst n ds es hl h ih =>
    intro v u a b r1 r2 q1 q2
    cases r1 with
    | @lst p vs _ g1 r1 =>
      cases r2 with
      | @lst p' vs' _ g2 r2 =>
        cases q1; cases q2
        by_cases hne : p = p'
        · subst hne; exact .same
        · obtain ⟨its, w1, l1, _⟩ := I.list (SqL.of (st.h.sub _ _ g1).lst)
          obtain ⟨its', w2, l2, _⟩ := I.list (SqL.of (st.h.sub _ _ g2).lst)
          have e1 : its.length = ds.length := by rw [← w1.length, r1.length]
          have e2 : its'.length = es.length := by rw [← w2.length, r2.length]
          have := PySem.W.EqTree.lists (prog := X.prog) (w := X.w) (s := s) (n := n + 20) (e := fun _ => true) hne l1.isList l2.isList (by simp; omega) (fun j h1 h2 => ?_)
          · have q : ((List.range its.toArray.size).all fun _ => true) = true := by simp
            rw [q] at this
            exact this
          · obtain ⟨x, y1, y2⟩ := Vals.atU w1 (i := j) (u := its.toArray[j]) (by simp)
            obtain ⟨x', y1', y2'⟩ := Vals.atU w2 (i := j) (u := its'.toArray[j]) (by simp)
            obtain ⟨d, z1, z2⟩ := r1.atV y1
            obtain ⟨d', z1', z2'⟩ := r2.atV y1'
            exact ih j d d' z1 z1' z2 z2' y2 y2'
  | @tup n ds es hl h ih =>
    intro v u a b r1 r2 q1 q2
    cases r1 with
    | @tup p vs _ g1 r1 =>
      cases r2 with
      | @tup p' vs' _ g2 r2 =>
        cases q1; cases q2
        by_cases hne : p = p'
        · subst hne; exact .same
        · have k1 := SqT.std st.h.sub g1
          have k2 := SqT.std st.h.sub g2
          rw [hK] at k1 k2
          obtain ⟨its, w1, l1, _⟩ := I.tuple k1
          obtain ⟨its', w2, l2, _⟩ := I.tuple k2
          have e1 : its.length = ds.length := by rw [← w1.length, r1.length]
          have e2 : its'.length = es.length := by rw [← w2.length, r2.length]
          have := PySem.W.EqTree.tuples (prog := X.prog) (w := X.w) (s := s) (n := n + 20) (e := fun _ => true) hne (show s.heap.IsTuple p its.toArray from l1) (show s.heap.IsTuple p' its'.toArray from l2) (fun j h1 h2 => ?_)
          · have q : ((List.range (min its.toArray.size its'.toArray.size)).all (fun _ => true) && its.toArray.size == its'.toArray.size) = true := by simp; omega
            rw [q] at this
            exact this
          · obtain ⟨x, y1, y2⟩ := Vals.atU w1 (i := j) (u := its.toArray[j]) (by simp)
            obtain ⟨x', y1', y2'⟩ := Vals.atU w2 (i := j) (u := its'.toArray[j]) (by simp)
            obtain ⟨d, z1, z2⟩ := r1.atV y1
            obtain ⟨d', z1', z2'⟩ := r2.atV y1'
            exact ih j d d' z1 z1' z2 z2' y2 y2'
  | @dK n ks ls g hl hv h ih =>
    intro v u a b r1 r2 q1 q2
    cases r1 with
    | @dK p vs _ g1 r1 =>
      cases r2 with
      | @dK p' vs' _ g2 r2 =>
        cases q1; cases q2
        by_cases hne : p = p'
        · subst hne; exact .same
        · obtain ⟨_, lo1, us, rel1, dd1⟩ := dk_rd I.hok (Rd.std st.h.sub g1)
          obtain ⟨_, lo2, us', rel2, dd2⟩ := dk_rd I.hok (Rd.std st.h.sub g2)
          have e1 : us.length = ks.length := by rw [← rel1.length, r1.length]
          have e2 : us'.length = ls.length := by rw [← rel2.length, r2.length]
          have := PySem.W.EqTree.dicts (prog := X.prog) (w := X.w) (s := s) (n := n + 20) (e := fun _ => true) hne lo1 lo2 dd1 dd2 (fun k v y hm hy => ?_)
          · have q : (us.length == us'.length && us.all fun p => (valueAt us' p.1).isSome && true) = true := by
              rw [Bool.and_eq_true]
              refine ⟨by simp; omega, List.all_eq_true.2 fun pr hpr => ?_⟩
              obtain ⟨i, hi, rfl⟩ := List.getElem_of_mem hpr
              obtain ⟨x, y1, y2⟩ := KV.atU rel1 (i := i) (p := us[i]) (by simp)
              obtain ⟨d, z1, z2⟩ := r1.atV y1
              obtain ⟨x', y', t1, t2, t3⟩ := val_rep r2 rel2 (hv i _ d z1)
              rw [t1]; rfl
            rw [q] at this
            exact this
          · obtain ⟨i, hi, e⟩ := List.getElem_of_mem hm
            obtain ⟨x, y1, y2⟩ := KV.atU rel1 (i := i) (p := (k, v)) (by rw [List.getElem?_eq_getElem hi, e])
            obtain ⟨d, z1, z2⟩ := r1.atV y1
            obtain ⟨x', y', t1, t2, t3⟩ := val_rep r2 rel2 (hv i _ d z1)
            rw [hy] at t1; cases t1
            exact ih i k d z1 z2 t3 y2 t2
/-- x == y, equal data -/
def rEqK (X : Cx) : R2 := fun x y H Q => ∃ (G : Gh) (W : Wd) (δ : Dl) (σ : L2.St) (n : Nat) (d e : Dat), G.K = X.K ∧ StOk G W δ σ H ∧ RepB G W H x d ∧ RepB G W H y e ∧ DEq n d e ∧ n ≤ 8 ∧ Q (.bl true) H
theorem op_eqK (hu : X.A.units + 64 < cLine) : OpR X (compareOp .Eq) (rEqK X) := by
  intro pins s σ H x y v u Q I rx ry h
  obtain ⟨G, W, δ, σ0, n, d, e, hK, st, r1, r2, he, hn, q⟩ := h
  cases he with
  | leaf h1 h2 h3 =>
    have p1 := r1.dp st.h h1
    have p2 := r2.dp st.h h2
    rw [hK] at p1 p2
    obtain ⟨as, x1⟩ := Dp.reads I _ _ _ p1 rx
    obtain ⟨bs, x2⟩ := Dp.reads I _ _ _ p2 ry
    have z1 := okD_plain _ _ h1
    have z2 := okD_plain _ _ h2
    refine SeqAt.eq_plain x1 x2 z1.1 z2.1 (by have := z1.2; omega) ⟨.bl _, H, I, rfl, ?_⟩
    rw [eqvD_py _ _ _ _ h1 h2, h3]; exact q
  | @lst n ds es hl h =>
    obtain ⟨p, vs, rfl, g1, r1⟩ := r1.lst st.h
    obtain ⟨p', vs', rfl, g2, r2⟩ := r2.lst st.h
    cases rx; cases ry
    obtain ⟨its, w1, l1, _⟩ := I.list (SqL.of g1)
    obtain ⟨its', w2, l2, _⟩ := I.list (SqL.of g2)
    have e1 : its.length = ds.length := by rw [← w1.length, r1.length]
    have e2 : its'.length = es.length := by rw [← w2.length, r2.length]
    refine PySem.W.eq_listsT (n := n + 20) (e := fun _ => true) l1.isList l2.isList (by simp; omega) (fun j h1 h2 => ?_) (by omega) ?_
    · obtain ⟨x, y1, y2⟩ := Vals.atU w1 (i := j) (u := its.toArray[j]) (by simp)
      obtain ⟨x', y1', y2'⟩ := Vals.atU w2 (i := j) (u := its'.toArray[j]) (by simp)
      obtain ⟨d, z1, z2⟩ := r1.atV y1
      obtain ⟨d', z1', z2'⟩ := r2.atV y1'
      exact eqTree hK st I (h j d d' z1 z1') z2 z2' y2 y2'
    · have q' : ((List.range its.toArray.size).all fun _ => true) = true := by simp
      rw [q']; exact ⟨.bl _, H, I, rfl, q⟩
  | @tup n ds es hl h =>
    obtain ⟨p, vs, rfl, k1, _, r1⟩ := r1.tup st.h
    obtain ⟨p', vs', rfl, k2, _, r2⟩ := r2.tup st.h
    cases rx; cases ry
    rw [hK] at k1 k2
    obtain ⟨its, w1, l1, _⟩ := I.tuple k1
    obtain ⟨its', w2, l2, _⟩ := I.tuple k2
    have e1 : its.length = ds.length := by rw [← w1.length, r1.length]
    have e2 : its'.length = es.length := by rw [← w2.length, r2.length]
    refine PySem.W.eq_tuplesT (n := n + 20) (e := fun _ => true) (show s.heap.IsTuple p its.toArray from l1) (show s.heap.IsTuple p' its'.toArray from l2) (fun j h1 h2 => ?_) (by omega) ?_
    · obtain ⟨x, y1, y2⟩ := Vals.atU w1 (i := j) (u := its.toArray[j]) (by simp)
      obtain ⟨x', y1', y2'⟩ := Vals.atU w2 (i := j) (u := its'.toArray[j]) (by simp)
      obtain ⟨d, z1, z2⟩ := r1.atV y1
      obtain ⟨d', z1', z2'⟩ := r2.atV y1'
      exact eqTree hK st I (h j d d' z1 z1') z2 z2' y2 y2'
    · have q' : ((List.range (min its.toArray.size its'.toArray.size)).all (fun _ => true) && its.toArray.size == its'.toArray.size) = true := by simp; omega
      rw [q']; exact ⟨.bl _, H, I, rfl, q⟩
  | @dK n ks ls g hl hv h =>
    obtain ⟨p, vs, rfl, k1, r1⟩ := r1.dK st.h
    obtain ⟨p', vs', rfl, k2, r2⟩ := r2.dK st.h
    cases rx; cases ry
    obtain ⟨_, lo1, us, rel1, dd1⟩ := dk_rd I.hok k1
    obtain ⟨_, lo2, us', rel2, dd2⟩ := dk_rd I.hok k2
    have e1 : us.length = ks.length := by rw [← rel1.length, r1.length]
    have e2 : us'.length = ls.length := by rw [← rel2.length, r2.length]
    refine PySem.W.eq_dictsT (n := n + 20) (e := fun _ => true) lo1 lo2 dd1 dd2 (fun k v y hm hy => ?_) (by omega) ?_
    · obtain ⟨i, hi, e⟩ := List.getElem_of_mem hm
      obtain ⟨x, y1, y2⟩ := KV.atU rel1 (i := i) (p := (k, v)) (by rw [List.getElem?_eq_getElem hi, e])
      obtain ⟨d, z1, z2⟩ := r1.atV y1
      obtain ⟨x', y', t1, t2, t3⟩ := val_rep r2 rel2 (hv i _ d z1)
      rw [hy] at t1; cases t1
      exact eqTree hK st I (h i k d z1) z2 t3 y2 t2
    · have q' : (us.length == us'.length && us.all fun p => (valueAt us' p.1).isSome && true) = true := by
        rw [Bool.and_eq_true]
        refine ⟨by simp; omega, List.all_eq_true.2 fun pr hpr => ?_⟩
        obtain ⟨i, hi, rfl⟩ := List.getElem_of_mem hpr
        obtain ⟨x, y1, y2⟩ := KV.atU rel1 (i := i) (p := us[i]) (by simp)
        obtain ⟨d, z1, z2⟩ := r1.atV y1
        obtain ⟨x', y', t1, t2, t3⟩ := val_rep r2 rel2 (hv i _ d z1)
        rw [t1]; rfl
      rw [q']; exact ⟨.bl _, H, I, rfl, q⟩
@[simp] def gEqK : Dat → Dat → (DV → Prop) → Prop := fun d e P => (∃ n, n ≤ 8 ∧ DEq n d e) ∧ P (.fz (.bl true))
theorem gEqK_mono : MonoG2 gEqK := fun d e P P' h q => ⟨q.1, h _ q.2⟩
instance : I2 gEqK := ⟨gEqK_mono⟩
theorem does_eqK : Does2 X gEqK (rEqK X) := by
  intro G hK W δ σ H x y d e P Q s rx ry hg hz
  obtain ⟨⟨n, hn, he⟩, q⟩ := hg
  exact ⟨G, W, δ, σ, n, d, e, hK, s, rx, ry, he, hn, hz _ W _ H q (Ext.refl W) s .bl⟩
/-- x != y of equal plain data, or of equal dicts of plain data -/
inductive DNe : Dat → Dat → Prop
  | leaf {d e : Dat} : okD 16 d = true → okD 16 e = true → eqvD d e = true → DNe d e
  | dK {ks ls : List (Key × Dat)} (g : Key → Dat) : ks.length = ls.length → (∀ (j : Nat) (k : Key) (v : Dat), ks[j]? = some (k, v) → valD ls k = some (g k) ∧ okD 16 v = true ∧ okD 16 (g k) = true ∧ eqvD v (g k) = true) → DNe (.dK ks) (.dK ls)
def rNeK (X : Cx) : R2 := fun x y H Q => ∃ (G : Gh) (W : Wd) (δ : Dl) (σ : L2.St) (d e : Dat), G.K = X.K ∧ StOk G W δ σ H ∧ RepB G W H x d ∧ RepB G W H y e ∧ DNe d e ∧ Q (.bl false) H
theorem hits_of {A : Around} {s : Shared} {vb : List (Key × Value)} : ∀ {va : List (Key × Value)}, (∀ p ∈ va, ∃ y, valueAt vb p.1 = some y ∧ SeqAt.EqAt A s p.2 y true) → PySem.W.KeqHits A s vb va true
  | [], _ => .nil
  | (k, v) :: r, h => by
    obtain ⟨y, h1, h2⟩ := h (k, v) List.mem_cons_self
    have := PySem.W.KeqHits.hit (r := r) (b := true) h1 h2 (hits_of fun p hp => h p (List.mem_cons_of_mem _ hp))
    exact this
theorem op_neK (hu : X.A.units + 64 < cLine) : OpR X (compareOp .NotEq) (rNeK X) := by
  intro pins s σ H x y v u Q I rx ry h
  obtain ⟨G, W, δ, σ0, d, e, hK, st, r1, r2, he, q⟩ := h
  cases he with
  | leaf h1 h2 h3 =>
    have p1 := r1.dp st.h h1
    have p2 := r2.dp st.h h2
    rw [hK] at p1 p2
    obtain ⟨as, x1⟩ := Dp.reads I _ _ _ p1 rx
    obtain ⟨bs, x2⟩ := Dp.reads I _ _ _ p2 ry
    have z1 := okD_plain _ _ h1
    have z2 := okD_plain _ _ h2
    refine SeqAt.ne_plain x1 x2 z1.1 z2.1 (by have := z1.2; omega) ⟨.bl _, H, I, rfl, ?_⟩
    rw [eqvD_py _ _ _ _ h1 h2, h3]; exact q
  | @dK ks ls g hl hv =>
    obtain ⟨p, vs, rfl, k1, r1⟩ := r1.dK st.h
    obtain ⟨p', vs', rfl, k2, r2⟩ := r2.dK st.h
    cases rx; cases ry
    obtain ⟨_, lo1, us, rel1, dd1⟩ := dk_rd I.hok k1
    obtain ⟨_, lo2, us', rel2, dd2⟩ := dk_rd I.hok k2
    have e1 : us.length = ks.length := by rw [← rel1.length, r1.length]
    have e2 : us'.length = ls.length := by rw [← rel2.length, r2.length]
    refine PySem.W.keq_ne (knd := mixKind X.prog X.w) (r := true) lo1 lo2 dd1 dd2 (by omega) (fun _ => hits_of fun pr hpr => ?_) ?_
    · obtain ⟨i, hi, rfl⟩ := List.getElem_of_mem hpr
      obtain ⟨x, y1, y2⟩ := KV.atU rel1 (i := i) (p := us[i]) (by simp)
      obtain ⟨d, z1, z2⟩ := r1.atV y1
      obtain ⟨w1, h1, h2, h3⟩ := hv i _ d z1
      obtain ⟨x', y', t1, t2, t3⟩ := val_rep r2 rel2 w1
      refine ⟨y', t1, ?_⟩
      have p1 := Rep.dp (H := H) st.h.sub _ z2 h1
      have p2 := Rep.dp (H := H) st.h.sub _ t3 h2
      rw [hK] at p1 p2
      obtain ⟨as, x1⟩ := Dp.reads I _ _ _ p1 y2
      obtain ⟨bs, x2⟩ := Dp.reads I _ _ _ p2 t2
      have q1 := okD_plain _ _ h1
      have q2 := okD_plain _ _ h2
      have := SeqAt.eqAt_plain (toPy d) (toPy (g us[i].1)) X.A.in1 s _ _ as bs x1 x2 q1.1 q2.1 (by have := q1.2; show X.A.units + 1 + _ < cLine; omega)
      rw [eqvD_py _ _ _ _ h1 h2, h3] at this
      exact this
    · have : (us.length == us'.length) = true := by simp; omega
      rw [this]; exact ⟨.bl _, H, I, rfl, q⟩
@[simp] def gNeK : Dat → Dat → (DV → Prop) → Prop := fun d e P => DNe d e ∧ P (.fz (.bl false))
theorem gNeK_mono : MonoG2 gNeK := fun d e P P' h q => ⟨q.1, h _ q.2⟩
instance : I2 gNeK := ⟨gNeK_mono⟩
theorem does_neK : Does2 X gNeK (rNeK X) := by
  intro G hK W δ σ H x y d e P Q s rx ry hg hz
  exact ⟨G, W, δ, σ, d, e, hK, s, rx, ry, hg.1, hz _ W _ H hg.2 (Ext.refl W) s .bl⟩
end
end DL
namespace LW
open PySem PySem.Spec PyProof.Rows L2 DL
set_option exponentiation.threshold 3000
/-! ### the bag of draws -/
theorem pyMod_nn {i j : Int} (h : 0 < j) : 0 ≤ pyMod i j := by unfold pyMod; rw [if_pos h]; exact Int.emod_nonneg _ (by omega)
theorem pyMod_lt {i j : Int} (h : 0 < j) : pyMod i j < j := by unfold pyMod; rw [if_pos h]; exact Int.emod_lt_of_pos _ h
theorem pyMod_pos {i j : Int} (h : 0 < j) : pyMod i j = i % j := by unfold pyMod; rw [if_pos h]
theorem pyDiv_pos {i j : Int} (h : 0 < j) : pyDiv i j = i / j := by unfold pyDiv; rw [if_pos h]
theorem mulL {i j : Int} (h : -(2 ^ 64) < i ∧ i < 2 ^ 64) : MulOk i j := .inl h
theorem mulR {i j : Int} (h : -(2 ^ 64) < j ∧ j < 2 ^ 64) : MulOk i j := .inr (.inl h)
theorem mulB {i j : Int} (h : -LIM < i ∧ i < LIM) (h2 : -LIM < j ∧ j < LIM) : MulOk i j := .inr (.inr ⟨h, h2⟩)
theorem pow_ok {i j : Int} (h : 0 ≤ j) (h1 : j ≤ 10000) (h2 : -(10 ^ 700) < i) (h3 : i < 10 ^ 700) : CPowM i j := ⟨h, h1, by have := LIM_ge; omega, by have := LIM_ge; omega⟩
theorem div_ok {i j : Int} (h : j ≠ 0) (h2 : -(10 ^ 700) < j) (h3 : j < 10 ^ 700) : CDivM i j := ⟨h, by have := LIM_ge; omega, by have := LIM_ge; omega⟩
def sp__law_bag : DSp := fun ds P _ => ∃ (ns : List Int) (s : Int), ds = [.scr ns, .int s] ∧ 0 ≤ s ∧ s < 3 ∧ P .bag
instance : ISp sp__law_bag := ⟨fun ds P P' E h ⟨ns, s, e, a, b, q⟩ => ⟨ns, s, e, a, b, h _ q⟩⟩
/-- 0 _law_script 1 _law_spot 2 _law_cell 3 _law_great 4 _law_mixed -/
def w__law_bag : WS :=
    (wSeq (wAsg 2 (wJ (wIte (tBlV (wOp2 gLt (oSlot 1) (oVal (wE (wCB gLen (aoCons (oSlot 0) aoNil)))))) (wE (wOp2 gIx (oSlot 0) (oSlot 1))) (wE (wOp2 gAdd (oVal (wE (wOp2 gAdd (oVal (wE (wCB gSum (aoCons (oVal (wE (wSl (oSlot 0) ptNone (ptSome (wC (.int 1)))))) aoNil)))) (oVal (wE (wOp2 gMul (oVal (wC (.int 151))) (oSlot 1))))))) (oVal (wC (.int 89))))))))
    (wSeq (wAsg 3 (wOp2 gMod (oVal (wE (wCB gInt (aoCons (oVal (wE (wCB gAbs (aoCons (oSlot 2) aoNil)))) aoNil)))) (oVal (wE (wOp2 gPow (oVal (wE (wOp2 gPow (oVal (wC (.int 10))) (oVal (wC (.int 45)))))) (oVal (wC (.int 13))))))))
    (wSeq (wAsg 4 (wOp2 gAdd (oVal (wE (wOp2 gAdd (oVal (wE (wOp2 gAdd (oVal (wE (wOp2 gMul (oVal (wE (wOp2 gMod (oVal (wE (wCB gInt (aoCons (oSlot 3) aoNil)))) (oVal (wC (.int 2305843009213693723)))))) (oVal (wC (.int 1000457)))))) (oVal (wE (wOp2 gMul (oVal (wC (.int 9029))) (oSlot 1))))))) (oVal (wE (wOp2 gMul (oVal (wC (.int 53))) (oVal (wE (wCB gInt (aoCons (oVal (wE (wOp2 gLt (oSlot 2) (oVal (wC (.int 0)))))) aoNil)))))))))) (oVal (wC (.int 37)))))
    (wRet (wBag (aCons (wE (wCB gMax (aoCons (oVal (wC (.int 0))) (aoCons (oVal (wE (wOp2 gSubA (oSlot 3) (oVal (wE (wOp2 gPow (oVal (wC (.int 10))) (oVal (wC (.int 18))))))))) aoNil)))) (aCons (wE (wOp2 gMod (oVal (wE (wCB gInt (aoCons (oSlot 4) aoNil)))) (oVal (wC (.int 2305843009213693951))))) (aCons (wC (.int 0)) aNil))))))))
theorem k__law_bag : Keeps 5 2 w__law_bag sp__law_bag := by
  rintro _ P ex0 ⟨ns, s, rfl, h0, h3, q⟩
  refine ⟨rfl, ?_⟩
  generalize (fun (x : XD) (_ : Dl) => ex0 x) = ex
  have m1 : MulOk 9029 s := mulL (by decide)
  have m2 : ∀ k : Int, MulOk 53 k := fun k => mulL (by decide)
  have m3 : ∀ k : Int, MulOk k 1000457 := fun k => mulR (by decide)
  have m4 : MulOk 151 s := mulL (by decide)
  have p1 : CPowM 10 45 := pow_ok (by decide) (by decide) (by decide) (by decide)
  have p2 : CPowM 1000000000000000000000000000000000000000000000 13 := pow_ok (by decide) (by decide) (by decide) (by decide)
  have p3 : CPowM 10 18 := pow_ok (by decide) (by decide) (by decide) (by decide)
  by_cases h : (ns.length : Int) ≤ s
  · have hs : ¬ s < (ns.length : Int) := by omega
    simp [w__law_bag, h, m1, m2, m3, m4, p1, p2, p3]
    exact .inl ⟨⟨_, rfl⟩, q⟩
  · have hs : s < (ns.length : Int) := by omega
    have ha : atI ns s = some ns[s.toNat] := by
      have e : ixN ns.length s = some s.toNat := by unfold ixN; rw [if_pos h0, if_pos hs]
      unfold atI
      rw [e]
      show ns[s.toNat]? = _
      simp
    simp [w__law_bag, hs, m1, m2, m3, m4, p1, p2, p3, ha]
    exact q
theorem ints_inj {a b : List Int} : (a.map Dat.int = b.map Dat.int) ↔ a = b := ⟨fun h => by
  have : ∀ {a b : List Int}, a.map Dat.int = b.map Dat.int → a = b := by
    intro a
    induction a with
    | nil => intro b h; cases b with | nil => rfl | cons _ _ => simp at h
    | cons x xs ih =>
      intro b h
      cases b with
      | nil => simp at h
      | cons y ys => simp at h; rw [h.1, ih h.2]
  exact this h, fun h => h ▸ rfl⟩
theorem rat_inj {a b : Rat} : (a.num = b.num ∧ (a.den : Int) = (b.den : Int)) ↔ a = b := ⟨fun h => Rat.ext h.1 (by omega), fun h => h ▸ ⟨rfl, rfl⟩⟩
def sp__law_grab : DSp := fun ds P _ => ∃ (n : Int), ds = [.bag, .int n] ∧ (0 < n ∧ n < LIM) ∧ ∀ (k : Int), (0 ≤ k ∧ k < n) → P (.int k)
instance : ISp sp__law_grab := ⟨fun _ _ _ _ hM ⟨n, e, c, q⟩ => ⟨n, e, c, fun k hk => hM _ (q k hk)⟩⟩
theorem e__law_grab {n : Int} {P : Dat → Prop} {ex : XP} : sp__law_grab [.bag, .int n] P ex ↔ (0 < n ∧ n < LIM) ∧ ∀ (k : Int), (0 ≤ k ∧ k < n) → P (.int k) := ⟨fun ⟨_, e, hE⟩ => by (simp [rat_inj, ints_inj, Int.natCast_inj] at e); (obtain rfl := e); exact hE, fun hE => ⟨_, rfl, hE⟩⟩
/-- 0 _law_bag_here 1 _law_total 2 _law_found 3 _law_one 4 _law_two -/
def w__law_grab : WS :=
    (wSeq (wIf (tBlV (wOp2 gGt (oVal (wE (wOp2 gIx (oSlot 0) (oVal (wC (.int 0)))))) (oVal (wC (.int 0))))) (wSeq (wAsg 2 (wOp2 gMod (oVal (wE (wCB gInt (aoCons (oVal (wE (wOp2 gIx (oSlot 0) (oVal (wC (.int 0)))))) aoNil)))) (oSlot 1)))
    (wSeq (wAsgG (wE (wOp2 gDiv (oVal (wE (wOp2 gIx (oSlot 0) (oVal (wC (.int 0)))))) (oSlot 1))) (wgSub 0 (oVal (wC (.int 0)))))
    (wRet (wVar 2)))) wNext)
    (wSeq (wAsgG (wE (wOp2 gAdd (oVal (wE (wOp2 gIx (oSlot 0) (oVal (wC (.int 2)))))) (oVal (wC (.int 1))))) (wgSub 0 (oVal (wC (.int 2)))))
    (wSeq (wAsg 3 (wOp2 gMod (oVal (wE (wCB gInt (aoCons (oVal (wE (wOp2 gAdd (oVal (wE (wOp2 gIx (oSlot 0) (oVal (wC (.int 1)))))) (oVal (wE (wOp2 gMul (oVal (wC (.int 1048637))) (oVal (wE (wOp2 gIx (oSlot 0) (oVal (wC (.int 2)))))))))))) aoNil)))) (oVal (wC (.int 2305843009213693951)))))
    (wSeq (wAsg 4 (wOp2 gAdd (oVal (wE (wOp2 gMul (oVal (wE (wOp2 gMod (oVal (wE (wCB gInt (aoCons (oVal (wE (wOp2 gMul (oSlot 3) (oSlot 3)))) aoNil)))) (oVal (wC (.int 2305843009213693723)))))) (oSlot 3)))) (oVal (wE (wOp2 gMul (oVal (wC (.int 8161))) (oVal (wE (wOp2 gIx (oSlot 0) (oVal (wC (.int 2)))))))))))
    (wRet (wE (wOp2 gMod (oVal (wE (wCB gInt (aoCons (oVal (wE (wOp2 gDiv (oVal (wE (wOp2 gMod (oVal (wE (wCB gInt (aoCons (oSlot 4) aoNil)))) (oVal (wC (.int 2305843009213693921)))))) (oVal (wC (.int 16384)))))) aoNil)))) (oSlot 1))))))))
theorem k__law_grab : Keeps 5 2 w__law_grab sp__law_grab := by
  rintro _ P ex0 ⟨n, rfl, hc, q⟩
  refine ⟨rfl, ?_⟩
  generalize (fun (x : XD) (_ : Dl) => ex0 x) = ex
  obtain ⟨h0, hL⟩ := hc
  have n0 : ¬ n = 0 := by omega
  have dn : ∀ k : Int, CDivM k n := fun k => ⟨n0, by omega, hL⟩
  have d1 : ∀ k : Int, CDivM k 16384 := fun k => div_ok (by decide) (by decide) (by decide)
  have m1 : ∀ k : Int, MulOk 1048637 k := fun k => mulL (by decide)
  have m2 : ∀ k : Int, MulOk 8161 k := fun k => mulL (by decide)
  have m3 : ∀ i k : Int, MulOk k (pyMod i 2305843009213693951) := fun i k => mulR ⟨by have := pyMod_nn (i := i) (j := 2305843009213693951) (by decide); omega, by have := pyMod_lt (i := i) (j := 2305843009213693951) (by decide); omega⟩
  have hq : ∀ i : Int, P (.int (pyMod i n)) := fun i => q _ ⟨pyMod_nn h0, pyMod_lt h0⟩
  simp [w__law_grab, n0, dn, d1, m1, m2, m3, hq]
  omega
def sp__law_one_of : DSp := fun ds P _ => ∃ (xs : List Dat), ds = [.bag, .lst xs] ∧ (0 < xs.length ∧ xs.length < 1000000) ∧ ∀ (x : Dat), x ∈ xs → P (x)
instance : ISp sp__law_one_of := ⟨fun _ _ _ _ hM ⟨xs, e, c, q⟩ => ⟨xs, e, c, fun x hk => hM _ (q x hk)⟩⟩
theorem e__law_one_of {xs : List Dat} {P : Dat → Prop} {ex : XP} : sp__law_one_of [.bag, .lst xs] P ex ↔ (0 < xs.length ∧ xs.length < 1000000) ∧ ∀ (x : Dat), x ∈ xs → P (x) := ⟨fun ⟨_, e, hE⟩ => by (simp [rat_inj, ints_inj, Int.natCast_inj] at e); (obtain rfl := e); exact hE, fun hE => ⟨_, rfl, hE⟩⟩
/-- 0 _law_bag_here 1 _law_items -/
def w__law_one_of : WS :=
    (wRet (wE (wOp2 gIx (oSlot 1) (oVal (wCall sp__law_grab (aCons (wVar 0) (aCons (wE (wCB gLen (aoCons (oSlot 1) aoNil))) aNil)))))))
theorem k__law_one_of : Keeps 2 2 w__law_one_of sp__law_one_of := by
  rintro _ P ex0 ⟨xs, rfl, hc, q⟩
  refine ⟨rfl, ?_⟩
  generalize (fun (x : XD) (_ : Dl) => ex0 x) = ex
  obtain ⟨h0, h1⟩ := hc
  have L := LIM_ge
  simp [w__law_one_of, e__law_grab]
  refine ⟨⟨h0, by omega⟩, fun k k0 k1 => ?_⟩
  have e : ixN xs.length k = some k.toNat := by unfold ixN; rw [if_pos k0, if_pos k1]
  refine ⟨xs[k.toNat], ?_, q _ (by simp)⟩
  unfold atI
  rw [e]
  show xs[k.toNat]? = _
  simp
/-! ### comprehensions, places, loops -/
/-- a comprehension that keeps nothing -/
theorem wCLoop_none {ct : CT} {own : List Nat} {t : WT} {w : WE} (mt : MonoT t) {Q : List Dat → Dl → Prop} {δ0 : Dl} : ∀ (ds : List Dat) {acc : List Dat},
    (∀ d ∈ ds, ∃ δ1, ct.bind d δ0 = some δ1 ∧ t noX δ1 fun k δ2 => k = false ∧ wipeD δ2 own = δ0) → Q acc δ0 → wCLoop ct own t w ds δ0 acc Q
  | [], _, _, q => q
  | d :: ds, acc, h, q => by
    obtain ⟨δ1, e, ht⟩ := h d (List.mem_cons_self ..)
    refine ⟨δ1, e, mt _ _ _ _ ?_ ht⟩
    rintro k δ2 ⟨rfl, e2⟩
    show wCLoop ct own t w ds (wipeD δ2 own) acc Q
    rw [e2]
    exact wCLoop_none mt ds (fun x hx => h x (List.mem_cons_of_mem _ hx)) q
theorem wCLoop_map {ct : CT} {own : List Nat} {t : WT} {w : WE} (f : Dat → Dat) (mt : MonoT t) (mw : MonoE w) {Q : List Dat → Dl → Prop} {δ0 : Dl} : ∀ (ds : List Dat) {acc : List Dat}, acc.length + ds.length ≤ 1000000 →
    (∀ d ∈ ds, ∃ δ1, ct.bind d δ0 = some δ1 ∧ t noX δ1 fun k δ2 => k = true ∧ w noX δ2 fun r δ3 => r = f d ∧ wipeD δ3 own = δ0) → Q (acc ++ ds.map f) δ0 → wCLoop ct own t w ds δ0 acc Q
  | [], acc, _, _, q => by
    show Q acc δ0
    simpa using q
  | d :: ds, acc, hl, h, q => by
    have hl : acc.length + (ds.length + 1) ≤ 1000000 := hl
    obtain ⟨δ1, e, ht⟩ := h d (List.mem_cons_self ..)
    refine ⟨δ1, e, mt _ _ _ _ ?_ ht⟩
    rintro k δ2 ⟨rfl, hw⟩
    refine mw _ _ _ _ ?_ hw
    rintro r δ3 ⟨rfl, e2⟩
    refine ⟨by omega, ?_⟩
    rw [e2]
    refine wCLoop_map f mt mw ds (by rw [List.length_append, List.length_singleton]; omega) (fun x hx => h x (List.mem_cons_of_mem _ hx)) ?_
    rw [List.append_assoc]; exact q
/-- a comprehension that keeps and maps -/
theorem wCLoop_fm {ct : CT} {own : List Nat} {t : WT} {w : WE} (f : Dat → Option Dat) (mt : MonoT t) (mw : MonoE w) {Q : List Dat → Dl → Prop} {δ0 : Dl} : ∀ (ds : List Dat) {acc : List Dat}, acc.length + ds.length ≤ 1000000 →
    (∀ d ∈ ds, ∃ δ1, ct.bind d δ0 = some δ1 ∧ t noX δ1 fun k δ2 => k = (f d).isSome ∧ wipeD δ2 own = δ0 ∧ (k = true → w noX δ2 fun r δ3 => f d = some r ∧ wipeD δ3 own = δ0)) → Q (acc ++ ds.filterMap f) δ0 → wCLoop ct own t w ds δ0 acc Q
  | [], acc, _, _, q => by
    show Q acc δ0
    simpa using q
  | d :: ds, acc, hl, h, q => by
    have hl : acc.length + (ds.length + 1) ≤ 1000000 := hl
    obtain ⟨δ1, e, ht⟩ := h d (List.mem_cons_self ..)
    refine ⟨δ1, e, mt _ _ _ _ ?_ ht⟩
    rintro k δ2 ⟨hk, e2, hw⟩
    cases k with
    | false =>
      show wCLoop ct own t w ds (wipeD δ2 own) acc Q
      rw [e2]
      refine wCLoop_fm f mt mw ds (by omega) (fun x hx => h x (List.mem_cons_of_mem _ hx)) ?_
      have hn : f d = none := by cases hf : f d with | none => rfl | some r => rw [hf] at hk; cases hk
      rw [List.filterMap_cons_none hn] at q; exact q
    | true =>
      refine mw _ _ _ _ ?_ (hw rfl)
      rintro r δ3 ⟨hr, e3⟩
      refine ⟨by omega, ?_⟩
      rw [e3]
      refine wCLoop_fm f mt mw ds (by rw [List.length_append, List.length_singleton]; omega) (fun x hx => h x (List.mem_cons_of_mem _ hx)) ?_
      rw [List.filterMap_cons_some hr] at q
      rw [List.append_assoc]; exact q
theorem ixN_nat {n k : Nat} (h : k < n) : ixN n (k : Int) = some k := by unfold ixN; rw [if_pos (by omega), if_pos (by omega)]; simp
theorem ixN_m1 {n : Nat} (h : 0 < n) : ixN n (-1) = some (n - 1) := by unfold ixN; rw [if_neg (by omega), if_pos (by omega)]; congr 1; omega
theorem at_of {α : Type} {l : List α} {k : Int} {j : Nat} (h : ixN l.length k = some j) : atI l k = l[j]? := by
  unfold atI; rw [h]; rfl
theorem enumD_at {ds : List Dat} {i : Nat} {d : Dat} (h : (enumD ds)[i]? = some d) : ∃ h : i < ds.length, d = .tup [.int i, ds[i]] := by
  unfold enumD at h
  rw [List.getElem?_mapIdx] at h
  obtain ⟨x, h1, rfl⟩ := Option.map_eq_some_iff.1 h
  obtain ⟨h2, rfl⟩ := List.getElem?_eq_some_iff.1 h1
  exact ⟨h2, rfl⟩
theorem enumD_len {ds : List Dat} : (enumD ds).length = ds.length := by unfold enumD; simp
/-- the integer of a slot -/
def slI (δ : Dl) (i : Nat) : Int := match δ[i]? with
  | some (.fz (.int k)) => k
  | _ => 0
/-- the length of the list in a slot -/
def slL (δ : Dl) (i : Nat) : Nat := match δ[i]? with
  | some (.ow (.lst l)) => l.length
  | _ => 0
theorem cut_take {α : Type} {l : List α} {n : Nat} (h : n ≤ l.length) : DL.cutD l none (some (n : Int)) = l.take n := by
  unfold DL.cutD
  have e1 : HT.sIx l.length 0 none = 0 := rfl
  have e2 : HT.sIx l.length l.length (some (n : Int)) = n := by
    show (if (n : Int) < 0 then ((n : Int) + l.length).toNat else min (n : Int).toNat l.length) = n
    rw [if_neg (by omega)]; simp; omega
  rw [e1, e2]; simp
/-- a comprehension whose elements are any ones -/
theorem wCLoop_inv {ct : CT} {own : List Nat} {t : WT} {w : WE} (I : List Dat → Prop) (mt : MonoT t) (mw : MonoE w) {Q : List Dat → Dl → Prop} {δ0 : Dl} : ∀ (ds : List Dat) {acc : List Dat}, acc.length + ds.length ≤ 1000000 → I acc →
    (∀ d ∈ ds, ∀ acc, I acc → ∃ δ1, ct.bind d δ0 = some δ1 ∧ t noX δ1 fun k δ2 => k = true ∧ w noX δ2 fun r δ3 => I (acc ++ [r]) ∧ wipeD δ3 own = δ0) → (∀ out, I out → out.length = acc.length + ds.length → Q out δ0) → wCLoop ct own t w ds δ0 acc Q
  | [], acc, _, hi, _, q => q _ hi rfl
  | d :: ds, acc, hl, hi, h, q => by
    have hl : acc.length + (ds.length + 1) ≤ 1000000 := hl
    obtain ⟨δ1, e, ht⟩ := h d (List.mem_cons_self ..) acc hi
    refine ⟨δ1, e, mt _ _ _ _ ?_ ht⟩
    rintro k δ2 ⟨rfl, hw⟩
    refine mw _ _ _ _ ?_ hw
    rintro r δ3 ⟨hr, e2⟩
    refine ⟨by omega, ?_⟩
    rw [e2]
    refine wCLoop_inv I mt mw ds (by rw [List.length_append, List.length_singleton]; omega) hr (fun x hx => h x (List.mem_cons_of_mem _ hx)) fun out ho hlen => q out ho ?_
    rw [List.length_append, List.length_singleton] at hlen
    rw [List.length_cons]; omega
/-! ### fractions: the plain law -/
abbrev rD (q : Rat) : Dat := .tup [.int q.num, .int q.den]
theorem pyGcd_eq (t b : Int) : pyGcd t b = (Int.gcd t b : Int) := rfl
theorem low_num {t b : Int} (h : 0 < b) : pyDiv t (pyGcd t b) = (Rat.divInt t b).num := by
  have g0 : 0 < pyGcd t b := by
    rw [pyGcd_eq]
    have := Int.gcd_pos_of_ne_zero_right t (b := b) (by omega)
    omega
  rw [pyDiv_pos g0, Rat.num_divInt, Int.sign_eq_one_of_pos h, Int.one_mul, Int.gcd_comm]; rfl
theorem low_den {t b : Int} (h : 0 < b) : pyDiv b (pyGcd t b) = (Rat.divInt t b).den := by
  have g0 : 0 < pyGcd t b := by
    rw [pyGcd_eq]
    have := Int.gcd_pos_of_ne_zero_right t (b := b) (by omega)
    omega
  rw [pyDiv_pos g0, Rat.den_divInt, if_neg (by omega), Int.gcd_comm, pyGcd_eq, Int.natCast_ediv]
  congr 1
  omega
theorem low_numN {t b : Int} (h : b < 0) : pyDiv t (-pyGcd t b) = (Rat.divInt t b).num := by
  have e : pyDiv t (-pyGcd t b) = pyDiv (-t) (pyGcd (-t) (-b)) := by
    have : pyGcd (-t) (-b) = pyGcd t b := by unfold pyGcd; simp
    rw [this]
    have g0 : 0 < pyGcd t b := by
      rw [pyGcd_eq]
      have := Int.gcd_pos_of_ne_zero_right t (b := b) (by omega)
      omega
    rw [pyDiv_pos g0]; unfold pyDiv; rw [if_neg (by omega)]; have e2 := Int.neg_fdiv_neg (-t) (pyGcd t b); rw [Int.neg_neg] at e2; rw [e2, Int.fdiv_eq_ediv_of_nonneg _ (by omega)]
  rw [e, low_num (by omega), Rat.neg_divInt_neg]
theorem low_denN {t b : Int} (h : b < 0) : pyDiv b (-pyGcd t b) = (Rat.divInt t b).den := by
  have e : pyDiv b (-pyGcd t b) = pyDiv (-b) (pyGcd (-t) (-b)) := by
    have : pyGcd (-t) (-b) = pyGcd t b := by unfold pyGcd; simp
    rw [this]
    have g0 : 0 < pyGcd t b := by
      rw [pyGcd_eq]
      have := Int.gcd_pos_of_ne_zero_right t (b := b) (by omega)
      omega
    rw [pyDiv_pos g0]; unfold pyDiv; rw [if_neg (by omega)]; have e2 := Int.neg_fdiv_neg (-b) (pyGcd t b); rw [Int.neg_neg] at e2; rw [e2, Int.fdiv_eq_ediv_of_nonneg _ (by omega)]
  rw [e, low_den (by omega), Rat.neg_divInt_neg]
theorem gcd_ne {t b : Int} (h : b ≠ 0) : 0 < pyGcd t b := by
  rw [pyGcd_eq]
  have := Int.gcd_pos_of_ne_zero_right t (b := b) h
  omega
theorem gcd_le {t b : Int} (h : b ≠ 0) : pyGcd t b ≤ b.natAbs := by
  rw [pyGcd_eq]
  have := Int.gcd_dvd_natAbs_right t b
  have := Nat.le_of_dvd (by omega) this
  omega
/-- the parts of t/b are no longer than t and b -/
theorem divInt_num_le {t b : Int} (h : b ≠ 0) : (Rat.divInt t b).num.natAbs ≤ t.natAbs := by
  rw [Rat.num_divInt]
  have h1 : (b.sign * t / (b.gcd t : Int)).natAbs ≤ (b.sign * t).natAbs := Int.natAbs_ediv_le_natAbs _ _
  have h2 : (b.sign * t).natAbs = t.natAbs := by
    rw [Int.natAbs_mul, Int.natAbs_sign_of_ne_zero h, Nat.one_mul]
  omega
theorem divInt_den_le {t b : Int} (h : b ≠ 0) : (Rat.divInt t b).den ≤ b.natAbs := by
  rw [Rat.den_divInt, if_neg h]; exact Nat.div_le_self _ _

/-! sizes -/
def RB (n : Nat) (q : Rat) : Prop := q.num.natAbs ≤ 10 ^ n ∧ q.den ≤ 10 ^ n
theorem RB.mono {m n : Nat} {q : Rat} (h : m ≤ n) (r : RB m q) : RB n q :=
  ⟨Nat.le_trans r.1 (Nat.pow_le_pow_right (by decide) h), Nat.le_trans r.2 (Nat.pow_le_pow_right (by decide) h)⟩
theorem RB_divInt {n : Nat} {t b : Int} (h : b ≠ 0) (h1 : t.natAbs ≤ 10 ^ n) (h2 : b.natAbs ≤ 10 ^ n) : RB n (Rat.divInt t b) :=
  ⟨Nat.le_trans (divInt_num_le h) h1, Nat.le_trans (divInt_den_le h) h2⟩
theorem den_ne (q : Rat) : (q.den : Int) ≠ 0 := by have := q.den_pos; omega
theorem add_divInt (p q : Rat) : p + q = Rat.divInt (p.num * q.den + q.num * p.den) (p.den * q.den) := by
  conv => lhs; rw [← Rat.num_divInt_den p, ← Rat.num_divInt_den q]
  rw [Rat.divInt_add_divInt _ _ (den_ne p) (den_ne q)]
theorem sub_divInt (p q : Rat) : p - q = Rat.divInt (p.num * q.den - q.num * p.den) (p.den * q.den) := by
  conv => lhs; rw [← Rat.num_divInt_den p, ← Rat.num_divInt_den q]
  rw [Rat.divInt_sub_divInt _ _ (den_ne p) (den_ne q)]
theorem mul_divInt (p q : Rat) : p * q = Rat.divInt (p.num * q.num) (p.den * q.den) := by
  conv => lhs; rw [← Rat.num_divInt_den p, ← Rat.num_divInt_den q]
  rw [Rat.divInt_mul_divInt]
theorem div_divInt (p q : Rat) : p / q = Rat.divInt (p.num * q.den) (p.den * q.num) := by
  conv => lhs; rw [← Rat.num_divInt_den p, ← Rat.num_divInt_den q]
  rw [Rat.div_def, Rat.inv_divInt, Rat.divInt_mul_divInt]
theorem num_ne {q : Rat} (h : q ≠ 0) : q.num ≠ 0 := fun e => h (Rat.num_eq_zero.1 e)
theorem mulBd {m n : Nat} {i j : Int} (h : i.natAbs ≤ 10 ^ m) (h2 : j.natAbs ≤ 10 ^ n) : (i * j).natAbs ≤ 10 ^ (m + n) := by
  rw [Int.natAbs_mul, Nat.pow_add]; exact Nat.mul_le_mul h h2
theorem addBd {n : Nat} {i j : Int} (h : i.natAbs ≤ 10 ^ n) (h2 : j.natAbs ≤ 10 ^ n) : (i + j).natAbs ≤ 10 ^ (n + 1) := by
  rw [Nat.pow_succ]; omega
theorem subBd {n : Nat} {i j : Int} (h : i.natAbs ≤ 10 ^ n) (h2 : j.natAbs ≤ 10 ^ n) : (i - j).natAbs ≤ 10 ^ (n + 1) := by
  rw [Nat.pow_succ]; omega
theorem RB.den {n : Nat} {q : Rat} (h : RB n q) : (q.den : Int).natAbs ≤ 10 ^ n := h.2
theorem bdUp {m n : Nat} (h : m ≤ n) {i : Int} (r : i.natAbs ≤ 10 ^ m) : i.natAbs ≤ 10 ^ n := Nat.le_trans r (Nat.pow_le_pow_right (by decide) h)
theorem RB.add {m n : Nat} {p q : Rat} (h : RB m p) (h2 : RB n q) : RB (m + n + 1) (p + q) := by
  rw [add_divInt]
  refine RB_divInt (Int.mul_ne_zero (den_ne p) (den_ne q)) (addBd (mulBd h.1 h2.den) (bdUp (by omega) (mulBd h2.1 h.den))) (bdUp (Nat.le_succ _) (mulBd h.den h2.den))
theorem RB.sub {m n : Nat} {p q : Rat} (h : RB m p) (h2 : RB n q) : RB (m + n + 1) (p - q) := by
  rw [sub_divInt]
  refine RB_divInt (Int.mul_ne_zero (den_ne p) (den_ne q)) (subBd (mulBd h.1 h2.den) (bdUp (by omega) (mulBd h2.1 h.den))) (bdUp (Nat.le_succ _) (mulBd h.den h2.den))
theorem RB.mul {m n : Nat} {p q : Rat} (h : RB m p) (h2 : RB n q) : RB (m + n) (p * q) := by
  rw [mul_divInt]
  exact RB_divInt (Int.mul_ne_zero (den_ne p) (den_ne q)) (mulBd h.1 h2.1) (mulBd h.den h2.den)
theorem RB.div {m n : Nat} {p q : Rat} (hq : q ≠ 0) (h : RB m p) (h2 : RB n q) : RB (m + n) (p / q) := by
  rw [div_divInt]
  exact RB_divInt (Int.mul_ne_zero (den_ne p) (num_ne hq)) (mulBd h.1 h2.den) (mulBd h.den h2.1)
theorem RB.int {n : Nat} {i : Int} (h : i.natAbs ≤ 10 ^ n) : RB n (i : Rat) := ⟨h, Nat.one_le_pow _ _ (by decide)⟩
theorem limP {n : Nat} (hn : n ≤ 600) {i : Int} (h : i.natAbs ≤ 10 ^ n) : -LIM < i ∧ i < LIM := by
  have h1 : i.natAbs ≤ 10 ^ 600 := bdUp hn h
  have h2 : (10 : Nat) ^ 600 < 10 ^ 700 := by decide +kernel
  have h3 : (10 : Int) ^ 700 = ((10 ^ 700 : Nat) : Int) := by decide +kernel
  have := LIM_ge
  omega
theorem mulP {m n : Nat} (hm : m ≤ 600) (hn : n ≤ 600) {i j : Int} (h : i.natAbs ≤ 10 ^ m) (h2 : j.natAbs ≤ 10 ^ n) : MulOk i j := mulB (limP hm h) (limP hn h2)
theorem divP {n : Nat} (hn : n ≤ 600) {i j : Int} (h0 : j ≠ 0) (h : j.natAbs ≤ 10 ^ n) : CDivM i j := ⟨h0, limP hn h⟩
/-! ### fractions -/
def FARn : Int := 10 ^ 60
theorem FARn_eq : (1000000000000000000000000000000000000000000000000000000000000 : Int) = FARn := by decide
def isIntD : Dat → Bool
  | .int _ => true
  | _ => false
def isShortD : Dat → Bool
  | .int i => decide (-FARn < i) && decide (i < FARn)
  | _ => false
def isWithinD (d : Dat) (l h : Int) : Bool := match d with
  | .int i => decide (l ≤ i) && decide (i ≤ h)
  | _ => false
def pairAnyD : Dat → Bool
  | .tup [.int a, .int b] => decide (0 < b) && decide (pyGcd a b = 1)
  | _ => false
def isRatD : Dat → Bool
  | .tup [.int a, .int b] => isShortD (.int a) && isShortD (.int b) && (decide (0 < b) && decide (pyGcd a b = 1))
  | _ => false
def RF (q : Rat) : Prop := isRatD (rD q) = true
theorem RB.rf {n : Nat} (hn : n ≤ 59) {q : Rat} (h : RB n q) : RF q := by
  have h1 := RB.mono hn h
  have h2 : (10 : Nat) ^ 59 < 10 ^ 60 := by decide +kernel
  have h3 : FARn = ((10 ^ 60 : Nat) : Int) := by decide +kernel
  have h4 := q.den_pos
  have h5 : pyGcd q.num q.den = 1 := by
    have := q.reduced
    unfold pyGcd
    rw [Int.natAbs_natCast]
    have h6 : Nat.gcd q.num.natAbs q.den = 1 := this
    omega
  have a := h1.1
  have b := h1.2
  simp [RF, isRatD, isShortD, h5]
  omega
theorem RF.rb {q : Rat} (h : RF q) : RB 60 q := by
  have h3 : FARn = ((10 ^ 60 : Nat) : Int) := by decide +kernel
  simp [RF, isRatD, isShortD] at h
  constructor <;> omega
theorem RF.of {t b : Int} (h : isRatD (.tup [.int t, .int b]) = true) : (Rat.divInt t b).num = t ∧ ((Rat.divInt t b).den : Int) = b := by
  simp [isRatD, isShortD] at h
  obtain ⟨⟨⟨_, _⟩, _, _⟩, hb, hg⟩ := h
  rw [← low_num hb, ← low_den hb, hg]
  constructor
  · rw [pyDiv_pos (by decide)]; simp
  · rw [pyDiv_pos (by decide)]; simp
def sp_is_plain : DSp := fun ds P _ => ∃ (d : Dat), ds = [d] ∧ ((tyNm d).isSome = true) ∧ P (.bl (isIntD d))
instance : ISp sp_is_plain := ⟨fun _ _ _ _ hM ⟨d, e, c, q⟩ => ⟨d, e, c, hM _ q⟩⟩
theorem e_is_plain {d : Dat} {P : Dat → Prop} {ex : XP} : sp_is_plain [d] P ex ↔ ((tyNm d).isSome = true) ∧ P (.bl (isIntD d)) := ⟨fun ⟨_, e, hE⟩ => by (simp [rat_inj, ints_inj, Int.natCast_inj] at e); (obtain rfl := e); exact hE, fun hE => ⟨_, rfl, hE⟩⟩
/-- 0 value -/
def w_is_plain : WS :=
    (wRet (wAnd (wE (wCB gIsi (aoCons (oSlot 0) (aoCons (oVal (wC (.ty "int"))) aoNil)))) (wNot (wE (wCB gIsi (aoCons (oSlot 0) (aoCons (oVal (wC (.ty "bool"))) aoNil)))))))
theorem k_is_plain : Keeps 1 1 w_is_plain sp_is_plain := by
  rintro _ P ex0 ⟨d, rfl, hc, q⟩
  refine ⟨rfl, ?_⟩
  generalize (fun (x : XD) (_ : Dl) => ex0 x) = ex
  cases d <;> first
    | (simp at hc; done)
    | (simp [w_is_plain]; exact q)
def sp_is_integer : DSp := fun ds P _ => ∃ (d : Dat), ds = [d] ∧ ((tyNm d).isSome = true) ∧ P (.bl (isShortD d))
instance : ISp sp_is_integer := ⟨fun _ _ _ _ hM ⟨d, e, c, q⟩ => ⟨d, e, c, hM _ q⟩⟩
theorem e_is_integer {d : Dat} {P : Dat → Prop} {ex : XP} : sp_is_integer [d] P ex ↔ ((tyNm d).isSome = true) ∧ P (.bl (isShortD d)) := ⟨fun ⟨_, e, hE⟩ => by (simp [rat_inj, ints_inj, Int.natCast_inj] at e); (obtain rfl := e); exact hE, fun hE => ⟨_, rfl, hE⟩⟩
/-- 0 value -/
def w_is_integer : WS :=
    (wRet (wAnd (wCall sp_is_plain (aCons (wVar 0) aNil)) (wChain gLt gLt (oVal (wE (wOp1 gNeg (oVal (wC (.int 1000000000000000000000000000000000000000000000000000000000000)))))) (oSlot 0) (oVal (wC (.int 1000000000000000000000000000000000000000000000000000000000000))))))
theorem k_is_integer : Keeps 1 1 w_is_integer sp_is_integer := by
  rintro _ P ex0 ⟨d, rfl, hc, q⟩
  refine ⟨rfl, ?_⟩
  generalize (fun (x : XD) (_ : Dl) => ex0 x) = ex
  cases d <;> first
    | (simp at hc; done)
    | (simp [w_is_integer, sp_is_plain, isIntD]; exact q)
    | (rename_i i
       simp [w_is_integer, sp_is_plain, isIntD, FARn_eq]
       by_cases h1 : -FARn < i
       · refine .inr ⟨h1, ?_⟩
         by_cases h2 : i < FARn
         · refine .inr ⟨h2, ?_⟩; simpa [isShortD, h1, h2] using q
         · refine .inl ⟨by omega, ?_⟩; simpa [isShortD, h1, h2] using q
       · refine .inl ⟨by omega, ?_⟩; simpa [isShortD, h1] using q)
@[simp] theorem okD_non {n : Nat} : okD n .non = true := by cases n <;> rfl
@[simp] theorem okD_bl {n : Nat} {b : Bool} : okD n (.bl b) = true := by cases n <;> rfl
@[simp] theorem okD_int {n : Nat} {i : Int} : okD n (.int i) = true := by cases n <;> rfl
@[simp] theorem okD_str {n : Nat} {i : Str} : okD n (.str i) = true := by cases n <;> rfl
@[simp] theorem okD_tup {n : Nat} {ds : List Dat} : okD (n + 1) (.tup ds) = ds.all (okD n) := rfl
@[simp] theorem okD_lst {n : Nat} {ds : List Dat} : okD (n + 1) (.lst ds) = ds.all (okD n) := rfl
@[simp] theorem eqvD_int {i j : Int} : eqvD (.int i) (.int j) = decide (i = j) := by simp [eqvD]; rfl
@[simp] theorem eqvD_bl {i j : Bool} : eqvD (.bl i) (.bl j) = (i == j) := by simp [eqvD]
@[simp] theorem eqvD_str {i j : Str} : eqvD (.str i) (.str j) = (i == j) := by simp [eqvD]
@[simp] theorem eqvD_tup {i j : List Dat} : eqvD (.tup i) (.tup j) = eqvDs i j := by simp [eqvD]
@[simp] theorem eqvD_lst {i j : List Dat} : eqvD (.lst i) (.lst j) = eqvDs i j := by simp [eqvD]
@[simp] theorem eqvDs_nil : eqvDs [] [] = true := by simp [eqvDs]
@[simp] theorem eqvDs_cons {x y : Dat} {xs ys : List Dat} : eqvDs (x :: xs) (y :: ys) = (eqvD x y && eqvDs xs ys) := by simp [eqvDs]
@[simp] theorem eqvDs_nc {y : Dat} {ys : List Dat} : eqvDs [] (y :: ys) = false := by simp [eqvDs]
@[simp] theorem eqvDs_cn {y : Dat} {ys : List Dat} : eqvDs (y :: ys) [] = false := by simp [eqvDs]
theorem okD_ty {n : Nat} {d : Dat} (h : okD n d = true) : (tyNm d).isSome = true := by
  cases d <;> first | rfl | (cases n <;> simp [okD] at h)
theorem isIntD_of {d : Dat} (h : isIntD d = true) : ∃ i, d = .int i := by
  cases d <;> first | exact ⟨_, rfl⟩ | cases h
theorem isShortD_of {d : Dat} (h : isShortD d = true) : ∃ i, d = .int i ∧ -FARn < i ∧ i < FARn := by
  cases d <;> first | (simp [isShortD] at h; exact ⟨_, rfl, h⟩) | cases h
def anyD (d : Dat) : Prop := okD 32 d = true ∨ d = .dK []
theorem any_rD (q : Rat) : anyD (rD q) := .inl (by simp)
/-! ### lines of integers: the plain law -/
abbrev lD (l : List Int) : Dat := .tup (l.map Dat.int)
def co (l : List Int) (i : Nat) : Int := l.getD i 0
@[simp] theorem co_nil {i : Nat} : co [] i = 0 := by simp [co]
@[simp] theorem co_cons0 {c : Int} {l : List Int} : co (c :: l) 0 = c := by simp [co]
@[simp] theorem co_consS {c : Int} {l : List Int} {i : Nat} : co (c :: l) (i + 1) = co l i := by simp [co]
theorem co_ge {l : List Int} {i : Nat} (h : l.length ≤ i) : co l i = 0 := by
  unfold co; rw [List.getD_eq_getElem?_getD, List.getElem?_eq_none h]; rfl
theorem co_lt {l : List Int} {i : Nat} (h : i < l.length) : co l i = l[i] := by
  unfold co; rw [List.getD_eq_getElem?_getD, List.getElem?_eq_getElem h]; rfl
theorem co_app {a b : List Int} {i : Nat} : co (a ++ b) i = if i < a.length then co a i else co b (i - a.length) := by
  unfold co
  rw [List.getD_eq_getElem?_getD, List.getElem?_append]
  split <;> simp [List.getD_eq_getElem?_getD]
theorem co_set {l : List Int} {j i : Nat} {v : Int} (h : j < l.length) : co (l.set j v) i = if i = j then v else co l i := by
  unfold co
  rw [List.getD_eq_getElem?_getD, List.getElem?_set]
  by_cases e : j = i
  · subst e; simp [h]
  · have e2 : ¬ i = j := fun x => e x.symm
    simp [e, e2, List.getD_eq_getElem?_getD]
theorem co_rep {n i : Nat} : co (List.replicate n 0) i = 0 := by
  unfold co; rw [List.getD_eq_getElem?_getD, List.getElem?_replicate]; split <;> rfl
theorem ext_co {a b : List Int} (hl : a.length = b.length) (h : ∀ i, co a i = co b i) : a = b := by
  apply List.ext_getElem hl
  intro i h1 h2
  have := h i
  rwa [co_lt h1, co_lt h2] at this
/-- from the end: without zeros, but one number stays -/
def trimR : List Int → List Int
  | [] => []
  | [c] => [c]
  | c :: d :: r => if c = 0 then trimR (d :: r) else c :: d :: r
def nrm (l : List Int) : List Int := (trimR l.reverse).reverse
theorem snoc_cases (l : List Int) : l = [] ∨ ∃ k c, l = k ++ [c] := by
  rcases List.eq_nil_or_concat l with h | ⟨k, c, h⟩
  · exact .inl h
  · exact .inr ⟨k, c, by rw [h, List.concat_eq_append]⟩
theorem nrm_one (c : Int) : nrm [c] = [c] := rfl
theorem nrm_snoc0 {l : List Int} (h : l ≠ []) : nrm (l ++ [0]) = nrm l := by
  rcases snoc_cases l with rfl | ⟨k, c, rfl⟩
  · exact absurd rfl h
  · simp [nrm, trimR]
theorem nrm_snoc {l : List Int} {c : Int} (h : c ≠ 0) : nrm (l ++ [c]) = l ++ [c] := by
  rcases snoc_cases l with rfl | ⟨k, d, rfl⟩
  · rfl
  · simp [nrm, trimR, h]
theorem snoc_ind {P : List Int → Prop} (h0 : P []) (hs : ∀ k c, P k → P (k ++ [c])) : ∀ l, P l := by
  have key : ∀ n, ∀ l : List Int, l.length = n → P l := by
    intro n
    induction n with
    | zero => intro l h; rw [List.length_eq_zero_iff.1 h]; exact h0
    | succ n ih =>
      intro l h
      rcases snoc_cases l with rfl | ⟨k, c, rfl⟩
      · exact h0
      · refine hs _ _ (ih _ ?_); simpa using h
  exact fun l => key _ l rfl
theorem nrm_props (l : List Int) : (∀ i, co (nrm l) i = co l i) ∧ nrm (nrm l) = nrm l ∧ (nrm l).length ≤ l.length ∧ (l ≠ [] → nrm l ≠ []) ∧ (∀ c ∈ nrm l, c ∈ l) := by
  refine snoc_ind (P := fun l => (∀ i, co (nrm l) i = co l i) ∧ nrm (nrm l) = nrm l ∧ (nrm l).length ≤ l.length ∧ (l ≠ [] → nrm l ≠ []) ∧ (∀ c ∈ nrm l, c ∈ l)) ⟨fun _ => rfl, rfl, Nat.le_refl _, id, fun _ h => h⟩ ?_ l
  rintro k c ⟨h1, h2, h3, h4, h5⟩
  by_cases hk : k = []
  · subst hk; exact ⟨fun _ => rfl, rfl, Nat.le_refl _, fun h => h, fun _ h => h⟩
  · by_cases hc : c = 0
    · subst hc
      rw [nrm_snoc0 hk]
      refine ⟨fun i => ?_, h2, by simp; omega, fun _ => h4 hk, fun c hc => List.mem_append_left _ (h5 c hc)⟩
      rw [h1, co_app]
      split
      · rfl
      · rename_i h; rw [co_ge (by omega)]; cases i - k.length <;> simp
    · rw [nrm_snoc hc]
      exact ⟨fun _ => rfl, nrm_snoc hc, Nat.le_refl _, fun h => h, fun _ h => h⟩
theorem co_nrm {l : List Int} {i : Nat} : co (nrm l) i = co l i := (nrm_props l).1 i
def Can (l : List Int) : Prop := l ≠ [] ∧ nrm l = l
theorem Can.nrm {l : List Int} (h : l ≠ []) : Can (nrm l) := ⟨(nrm_props l).2.2.2.1 h, (nrm_props l).2.1⟩
theorem nrm_len {l : List Int} : (nrm l).length ≤ l.length := (nrm_props l).2.2.1
theorem nrm_mem {l : List Int} {c : Int} (h : c ∈ nrm l) : c ∈ l := (nrm_props l).2.2.2.2 c h
theorem Can.last {l : List Int} (h : Can l) (h2 : 2 ≤ l.length) : co l (l.length - 1) ≠ 0 := by
  rcases snoc_cases l with rfl | ⟨k, c, rfl⟩
  · exact absurd rfl h.1
  · simp at h2
    have hk : k ≠ [] := by rintro rfl; simp at h2
    rw [co_app]
    simp
    rintro rfl
    have e := h.2
    rw [nrm_snoc0 hk] at e
    have := nrm_len (l := k)
    rw [e] at this
    simp at this
    omega
theorem Can.of {l : List Int} (h : l ≠ []) (h2 : l.length = 1 ∨ co l (l.length - 1) ≠ 0) : Can l := by
  refine ⟨h, ?_⟩
  rcases snoc_cases l with rfl | ⟨k, c, rfl⟩
  · rfl
  · rcases h2 with h2 | h2
    · simp at h2; subst h2; rfl
    · rw [co_app] at h2
      simp at h2
      exact nrm_snoc h2
theorem Can.len {l : List Int} (h : Can l) : 1 ≤ l.length := by
  have := List.length_pos_iff.2 h.1; omega
theorem Can.ext {a b : List Int} (ha : Can a) (hb : Can b) (h : ∀ i, co a i = co b i) : a = b := by
  apply ext_co _ h
  have key : ∀ {a b : List Int}, Can a → Can b → (∀ i, co a i = co b i) → ¬ a.length < b.length := by
    intro a b ha hb h hl
    have := ha.len
    have e := hb.last (by omega)
    rw [← h, co_ge (by omega)] at e
    exact e rfl
  have := key ha hb h
  have := key hb ha fun i => (h i).symm
  omega
theorem nrm_ext {a b : List Int} (ha : a ≠ []) (hb : b ≠ []) (h : ∀ i, co a i = co b i) : nrm a = nrm b :=
  (Can.nrm ha).ext (Can.nrm hb) fun i => by rw [co_nrm, co_nrm, h]
theorem nrm_of {a b : List Int} (ha : a ≠ []) (hb : Can b) (h : ∀ i, co a i = co b i) : nrm a = b := by
  rw [← hb.2]; exact nrm_ext ha hb.1 h
/-! sums and products -/
def padd : List Int → List Int → List Int
  | [], b => b
  | a :: as, [] => a :: as
  | a :: as, b :: bs => (a + b) :: padd as bs
def pmul : List Int → List Int → List Int
  | [], _ => []
  | a :: as, b => padd (b.map (a * ·)) (0 :: pmul as b)
theorem co_padd : ∀ {a b : List Int} {i : Nat}, co (padd a b) i = co a i + co b i
  | [], b, i => by simp [padd]
  | a :: as, [], i => by simp [padd]
  | a :: as, b :: bs, 0 => by simp [padd]
  | a :: as, b :: bs, i + 1 => by simp [padd, co_padd]
theorem len_padd : ∀ {a b : List Int}, (padd a b).length = max a.length b.length
  | [], b => by simp [padd]
  | a :: as, [] => by simp [padd]
  | a :: as, b :: bs => by simp [padd, len_padd]
theorem co_psm {c : Int} {b : List Int} {i : Nat} : co (b.map (c * ·)) i = c * co b i := by
  unfold co
  rw [List.getD_eq_getElem?_getD, List.getElem?_map, List.getD_eq_getElem?_getD]
  cases b[i]? <;> simp
theorem co_pmul0 {a : Int} {as b : List Int} : co (pmul (a :: as) b) 0 = a * co b 0 := by
  simp [pmul, co_padd, co_psm]
theorem co_pmulS {a : Int} {as b : List Int} {i : Nat} : co (pmul (a :: as) b) (i + 1) = a * co b (i + 1) + co (pmul as b) i := by
  simp [pmul, co_padd, co_psm]
theorem len_pmul : ∀ {a b : List Int}, a ≠ [] → b ≠ [] → (pmul a b).length = a.length + b.length - 1
  | [], _, h, _ => absurd rfl h
  | [a], b, _, h => by
    have := List.length_pos_iff.2 h
    simp [pmul, len_padd]; omega
  | a :: c :: as, b, _, h => by
    have := List.length_pos_iff.2 h
    have ih := len_pmul (a := c :: as) (b := b) (by simp) h
    rw [pmul, len_padd, List.length_map, List.length_cons, ih]
    simp only [List.length_cons]; omega
theorem pmul_ne {a b : List Int} (h : a ≠ []) (h2 : b ≠ []) : pmul a b ≠ [] := by
  have := len_pmul h h2
  have := List.length_pos_iff.2 h
  have := List.length_pos_iff.2 h2
  rw [← List.length_pos_iff]; omega
theorem padd_ne {a b : List Int} (h : a ≠ []) : padd a b ≠ [] := by
  have := len_padd (a := a) (b := b)
  have := List.length_pos_iff.2 h
  rw [← List.length_pos_iff]; omega
theorem co_pmul_nil : ∀ {b : List Int} {i : Nat}, co (pmul b []) i = 0
  | [], i => rfl
  | b :: bs, 0 => by rw [co_pmul0]; simp
  | b :: bs, i + 1 => by rw [co_pmulS, co_pmul_nil]; simp
theorem co_pmul_cons0 : ∀ {b as : List Int} {a : Int}, co (pmul b (a :: as)) 0 = a * co b 0
  | [], _, _ => by simp [pmul]
  | b :: bs, _, _ => by rw [co_pmul0]; simp [Int.mul_comm]
theorem co_pmul_consS : ∀ {b as : List Int} {a : Int} {i : Nat}, co (pmul b (a :: as)) (i + 1) = a * co b (i + 1) + co (pmul b as) i
  | [], _, _, _ => by simp [pmul]
  | b :: bs, as, a, 0 => by rw [co_pmulS, co_pmul_cons0, co_pmul0]; simp; omega
  | b :: bs, as, a, i + 1 => by rw [co_pmulS, co_pmul_consS, co_pmulS]; simp; omega
theorem co_pmul_comm : ∀ {a b : List Int} {i : Nat}, co (pmul a b) i = co (pmul b a) i
  | [], b, i => by rw [co_pmul_nil]; rfl
  | a :: as, b, 0 => by rw [co_pmul0, co_pmul_cons0]
  | a :: as, b, i + 1 => by rw [co_pmulS, co_pmul_consS, co_pmul_comm]
theorem co_pmul_snoc : ∀ {u b : List Int} {c : Int} {i : Nat}, co (pmul (u ++ [c]) b) i = co (pmul u b) i + if u.length ≤ i then c * co b (i - u.length) else 0
  | [], b, c, 0 => by rw [List.nil_append, co_pmul0]; simp [pmul]
  | [], b, c, i + 1 => by rw [List.nil_append, co_pmulS]; simp [pmul]
  | a :: as, b, c, 0 => by rw [List.cons_append, co_pmul0, co_pmul0]; simp
  | a :: as, b, c, i + 1 => by rw [List.cons_append, co_pmulS, co_pmulS, co_pmul_snoc]; simp; omega
def lineMul (a b : List Int) : List Int := nrm (pmul a b)
def lineSum (a b : List Int) : List Int := nrm (padd a b)
theorem lineMul_comm {a b : List Int} (h : a ≠ []) (h2 : b ≠ []) : lineMul a b = lineMul b a := nrm_ext (pmul_ne h h2) (pmul_ne h2 h) fun _ => co_pmul_comm
theorem lineSum_comm {a b : List Int} (h : a ≠ []) (h2 : b ≠ []) : lineSum a b = lineSum b a := nrm_ext (padd_ne h) (padd_ne h2) fun _ => by rw [co_padd, co_padd, Int.add_comm]
theorem lineMul_zero {a : List Int} (h : a ≠ []) : lineMul a [0] = [0] := nrm_of (pmul_ne h (by simp)) ⟨by simp, rfl⟩ fun i => by
  rw [co_pmul_comm]
  cases i with
  | zero => rw [co_pmul0]; simp
  | succ i => rw [co_pmulS]; simp [pmul]
theorem lineSum_zero {a : List Int} (h : Can a) : lineSum a [0] = a := nrm_of (padd_ne h.1) h fun i => by
  rw [co_padd]; cases i <;> simp
theorem lineMul_can {a b : List Int} (h : a ≠ []) (h2 : b ≠ []) : Can (lineMul a b) := Can.nrm (pmul_ne h h2)
theorem lineSum_can {a b : List Int} (h : a ≠ []) : Can (lineSum a b) := Can.nrm (padd_ne h)
theorem lineMul_len {a b : List Int} (h : a ≠ []) (h2 : b ≠ []) : (lineMul a b).length ≤ a.length + b.length - 1 := by
  rw [← len_pmul h h2]; exact nrm_len
theorem lineSum_len {a b : List Int} : (lineSum a b).length ≤ max a.length b.length := by
  rw [← len_padd]; exact nrm_len
/-! sizes -/
def LB (n : Nat) (l : List Int) : Prop := ∀ i, (co l i).natAbs ≤ n
theorem LB.mem {n : Nat} {l : List Int} (h : LB n l) {c : Int} (hc : c ∈ l) : c.natAbs ≤ n := by
  obtain ⟨i, hi, rfl⟩ := List.getElem_of_mem hc
  have := h i
  rwa [co_lt hi] at this
theorem LB.of {n : Nat} {l : List Int} (h : ∀ c ∈ l, c.natAbs ≤ n) : LB n l := fun i => by
  by_cases hi : i < l.length
  · rw [co_lt hi]; exact h _ (List.getElem_mem hi)
  · rw [co_ge (by omega)]; simp
theorem LB.mono {m n : Nat} {l : List Int} (h : m ≤ n) (hl : LB m l) : LB n l := fun i => Nat.le_trans (hl i) h
theorem LB.nrm {n : Nat} {l : List Int} (h : LB n l) : LB n (nrm l) := fun i => by rw [co_nrm]; exact h i
theorem LB.add {m n : Nat} {a b : List Int} (h : LB m a) (h2 : LB n b) : LB (m + n) (lineSum a b) := LB.nrm fun i => by
  rw [co_padd]
  have := h i
  have := h2 i
  omega
theorem LB.pmul {m n : Nat} {b : List Int} (h2 : LB n b) : ∀ {a : List Int}, LB m a → LB (a.length * (m * n)) (pmul a b)
  | [], _ => fun i => by simp [LW.pmul]
  | a :: as, h => fun i => by
    have ih := LB.pmul (m := m) h2 (a := as) fun i => by have := h (i + 1); simpa using this
    have ha : a.natAbs ≤ m := by simpa using h 0
    have key : ∀ i, (a * co b i).natAbs ≤ m * n := fun i => by rw [Int.natAbs_mul]; exact Nat.mul_le_mul ha (h2 i)
    rw [List.length_cons, Nat.add_mul, Nat.one_mul]
    cases i with
    | zero => rw [co_pmul0]; have := key 0; omega
    | succ i => rw [co_pmulS]; have := key (i + 1); have := ih i; omega
theorem LB.mul {m n : Nat} {a b : List Int} (h : LB m a) (h2 : LB n b) : LB (a.length * (m * n)) (lineMul a b) := LB.nrm (LB.pmul h2 h)
/-! values -/
def ev : List Int → Rat → Rat
  | [], _ => 0
  | c :: l, x => c + x * ev l x
theorem ev_zero {x : Rat} : ∀ {l : List Int}, (∀ i, co l i = 0) → ev l x = 0
  | [], _ => rfl
  | c :: l, h => by
    have h0 : c = 0 := by simpa using h 0
    have h1 := ev_zero (x := x) (l := l) fun i => by simpa using h (i + 1)
    rw [ev, h1, h0]; grind
theorem ev_ext {x : Rat} : ∀ {a b : List Int}, (∀ i, co a i = co b i) → ev a x = ev b x
  | [], b, h => by rw [ev_zero fun i => (h i).symm]; rfl
  | a :: as, [], h => by rw [ev_zero h]; rfl
  | a :: as, b :: bs, h => by
    have h0 : a = b := by simpa using h 0
    have h1 := ev_ext (x := x) (a := as) (b := bs) fun i => by simpa using h (i + 1)
    rw [ev, ev, h0, h1]
theorem ev_nrm {l : List Int} {x : Rat} : ev (nrm l) x = ev l x := ev_ext fun _ => co_nrm
theorem ev_padd {x : Rat} : ∀ {a b : List Int}, ev (padd a b) x = ev a x + ev b x
  | [], b => by simp [padd, ev]; grind
  | a :: as, [] => by simp [padd, ev]; grind
  | a :: as, b :: bs => by simp [padd, ev, ev_padd, Rat.intCast_add]; grind
theorem ev_psm {x : Rat} {c : Int} : ∀ {b : List Int}, ev (b.map (c * ·)) x = c * ev b x
  | [] => by simp [ev]
  | b :: bs => by simp [ev, ev_psm, Rat.intCast_mul]; grind
theorem ev_pmul {x : Rat} : ∀ {a b : List Int}, ev (pmul a b) x = ev a x * ev b x
  | [], b => by simp [pmul, ev]
  | a :: as, b => by rw [pmul, ev_padd, ev_psm]; simp [ev, ev_pmul]; grind
theorem ev_mul {a b : List Int} {x : Rat} : ev (lineMul a b) x = ev a x * ev b x := by rw [lineMul, ev_nrm, ev_pmul]
theorem ev_sum {a b : List Int} {x : Rat} : ev (lineSum a b) x = ev a x + ev b x := by rw [lineSum, ev_nrm, ev_padd]
theorem ev_snoc {x : Rat} {c : Int} : ∀ {u : List Int}, ev (u ++ [c]) x = ev u x + c * x ^ u.length
  | [] => by simp [ev]; grind
  | u :: us => by simp [ev, ev_snoc, Rat.pow_succ]; grind
theorem RB.ev {n m : Nat} {x : Rat} (hx : RB m x) : ∀ {l : List Int}, LB (10 ^ n) l → RB (l.length * (n + m + 1)) (ev l x)
  | [], _ => ⟨by simp [LW.ev], by simp [LW.ev]⟩
  | c :: l, h => by
    have hc : c.natAbs ≤ 10 ^ n := by simpa using h 0
    have ih := RB.ev (n := n) hx (l := l) fun i => by simpa using h (i + 1)
    have := RB.add (RB.int hc) (RB.mul hx ih)
    rw [LW.ev, List.length_cons, Nat.add_mul, Nat.one_mul]
    exact this.mono (by omega)
/-! division -/
def shf (b : List Int) (k i : Nat) : Int := if k ≤ i then co b (i - k) else 0
abbrev led (b : List Int) : Int := co b (b.length - 1)
def dvL (b : List Int) : Nat → (Nat → Int) → Option (List Int × (Nat → Int))
  | 0, f => some ([], f)
  | k + 1, f => if pyDiv (f (k + b.length - 1)) (led b) * led b = f (k + b.length - 1) then
      (dvL b k fun i => f i - pyDiv (f (k + b.length - 1)) (led b) * shf b k i).map fun r => (r.1 ++ [pyDiv (f (k + b.length - 1)) (led b)], r.2)
    else none
def divL (a b : List Int) : Option (List Int) := match dvL b (a.length + 1 - b.length) (co a) with
  | none => none
  | some r => if ∀ i, i < a.length → r.2 i = 0 then some (nrm (if r.1 = [] then [0] else r.1)) else none
theorem pyMod_zero {t l : Int} : pyMod t l = 0 ↔ pyDiv t l * l = t := by
  rw [pyMod_eq, pyDiv_eq]
  have := Int.mul_fdiv_add_fmod t l
  rw [Int.mul_comm (t.fdiv l)]
  omega
theorem dvL_len {b : List Int} : ∀ {k : Nat} {f : Nat → Int} {r : List Int × (Nat → Int)}, dvL b k f = some r → r.1.length = k
  | 0, f, r, h => by cases h; rfl
  | k + 1, f, r, h => by
    rw [dvL] at h
    split at h
    · obtain ⟨r', h1, rfl⟩ := Option.map_eq_some_iff.1 h
      simp [dvL_len h1]
    · cases h
def optD : Option (List Int) → Dat
  | none => .non
  | some l => lD l
theorem eqvDs_ints : ∀ {a b : List Int}, eqvDs (a.map Dat.int) (b.map Dat.int) = decide (a = b)
  | [], [] => by simp
  | [], _ :: _ => by simp
  | _ :: _, [] => by simp
  | a :: as, b :: bs => by simp [eqvDs_ints, Bool.decide_and]
theorem eqvD_lD {a b : List Int} : eqvD (lD a) (lD b) = decide (a = b) := by simp [eqvDs_ints]
theorem okD_lD {n : Nat} {a : List Int} : okD (n + 1) (lD a) = true := by simp
theorem okD_optD {n : Nat} {a : Option (List Int)} : okD (n + 1) (optD a) = true := by cases a <;> simp [optD]
theorem eqvD_optD {a : Option (List Int)} : eqvD (optD a) (optD a) = true := by
  cases a with
  | none => rfl
  | some l => exact (eqvD_lD).trans (by simp)
/-! ### wholerises.base.polynomials: lines -/
theorem at_co {l : List Int} {k : Nat} (h : k < l.length) : atI (l.map Dat.int) (k : Int) = some (.int (co l k)) := by
  rw [at_of (ixN_nat (by simpa using h)), List.getElem?_map, List.getElem?_eq_getElem h, co_lt h]; rfl
theorem at_coI {l : List Int} {k : Int} (h0 : 0 ≤ k) (h : k < l.length) : atI (l.map Dat.int) k = some (.int (co l k.toNat)) := by
  obtain ⟨n, rfl⟩ := Int.eq_ofNat_of_zero_le h0
  exact at_co (by omega)
theorem at_last {l : List Int} (h : l ≠ []) : atI (l.map Dat.int) (-1) = some (.int (led l)) := by
  have h := List.length_pos_iff.2 h
  rw [at_of (ixN_m1 (by simpa using h)), List.getElem?_map, List.length_map, List.getElem?_eq_getElem (by omega), led, co_lt (by omega)]; rfl
theorem enum_at {l : List Int} {i : Nat} {d : Dat} (h : (enumD (l.map Dat.int))[i]? = some d) : i < l.length ∧ d = .tup [.int i, .int (co l i)] := by
  obtain ⟨h1, rfl⟩ := enumD_at h
  have h2 : i < l.length := by simpa using h1
  refine ⟨h2, ?_⟩
  rw [co_lt h2]; simp
theorem take_snoc {l : List Int} {n : Nat} (h : n < l.length) : l.take (n + 1) = l.take n ++ [co l n] := by
  rw [co_lt h, List.take_append_getElem]
theorem nrm_take_step {l : List Int} {n : Nat} (h : n < l.length) (h2 : 1 ≤ n) (h3 : co l n = 0) : nrm (l.take (n + 1)) = nrm (l.take n) := by
  rw [take_snoc h, h3, nrm_snoc0]
  rw [← List.length_pos_iff, List.length_take]; omega
theorem nrm_take_end {l : List Int} {n : Nat} (h : n < l.length) (h2 : n = 0 ∨ co l n ≠ 0) : nrm (l.take (n + 1)) = l.take (n + 1) := by
  rw [take_snoc h]
  rcases h2 with rfl | h2
  · rfl
  · exact nrm_snoc h2
def sp_without_end : DSp := fun ds P _ => ∃ (l : List Int), ds = [.lst (l.map Dat.int)] ∧ (l ≠ []) ∧ P (lD (nrm l))
instance : ISp sp_without_end := ⟨fun _ _ _ _ hM ⟨l, e, c, q⟩ => ⟨l, e, c, hM _ q⟩⟩
theorem e_without_end {l : List Int} {P : Dat → Prop} {ex : XP} : sp_without_end [.lst (l.map Dat.int)] P ex ↔ (l ≠ []) ∧ P (lD (nrm l)) := ⟨fun ⟨_, e, hE⟩ => by (simp [rat_inj, ints_inj, Int.natCast_inj] at e); (obtain rfl := e); exact hE, fun hE => ⟨_, rfl, hE⟩⟩
/-- 0 line 1 size -/
def w_without_end_r2 : WS :=
    (wRet (wE (wCB gTuple (aoCons (oVal (wE (wSl (oSlot 0) ptNone (ptSome (wVar 1))))) aoNil))))
def w_without_end_r1 : WS :=
    wSeq (wWhile (tAnd (tBlV (wOp2 gGt (oSlot 1) (oVal (wC (.int 1))))) (tBlV (wOp2 gEq (oVal (wE (wOp2 gIx (oSlot 0) (oVal (wE (wOp2 gSubA (oSlot 1) (oVal (wC (.int 1))))))))) (oVal (wC (.int 0)))))) (wAug 1 gISub (oVal (wC (.int 1))))) w_without_end_r2
def w_without_end : WS :=
    wSeq (wAsg 1 (wCB gLen (aoCons (oSlot 0) aoNil))) w_without_end_r1
theorem k_without_end : Keeps 2 1 w_without_end sp_without_end := by
  rintro _ P ex0 ⟨l, rfl, hc, q⟩
  refine ⟨rfl, ?_⟩
  generalize (fun (x : XD) (_ : Dl) => ex0 x) = ex
  have h0 := List.length_pos_iff.2 hc
  simp only [w_without_end]
  simp [↓r_get2, ↓r_get1, ↓r_getE, ↓r_val, ↓r_slot, ↓r_sfz, ↓r_sow, ↓r_all, ↓r_all0, ↓r_all1, ↓r_bl, ↓r_fbl, ↓r_int, ↓r_cons, ↓r_tupE, ↓r_dKE, ↓r_seqL, ↓r_seqT, ↓r_sets0, ↓r_setsF, ↓r_setsO, ↓r_nun, ↓r_nuo, ↓r_add, ↓r_addl, ↓r_addt, ↓r_addb, ↓r_sub, ↓r_subb, ↓r_mul, ↓r_div, ↓r_mod, ↓r_pow, ↓r_cmp, ↓r_i0, ↓r_neg, ↓r_eq, ↓r_ne, ↓r_i1, ↓r_i2, ↓r_max, ↓r_min, ↓r_toI, ↓r_toIb, ↓r_lenL, ↓r_lenT, ↓r_lenS, ↓r_reprI, ↓r_reprB, ↓r_ixT, ↓r_ixL, ↓r_at0, ↓r_at1, ↓r_at2, ↓r_mull, ↓r_mult, ↓r_listL, ↓r_listT, ↓r_tupL, ↓r_tupT, ↓r_dvm, ↓r_slL, ↓r_slT]
  simp only [w_without_end_r1]
  refine while_inv moT moS (fun δ => ∃ n : Nat, δ = [.fz (.lst (l.map Dat.int)), .fz (.int ((n : Int) + 1))] ∧ n < l.length ∧ nrm (l.take (n + 1)) = nrm l) (fun δ => (slI δ 1).toNat) ?_ ⟨l.length - 1, by simp; omega, by omega, by rw [show l.length - 1 + 1 = l.length by omega, List.take_length]⟩
  rintro δ ⟨n, rfl, h1, h2⟩
  have fin : n = 0 ∨ co l n ≠ 0 → w_without_end_r2 ex { nx := fun x => P Dat.non, rt := P } [.fz (.lst (l.map Dat.int)), .fz (.int ((n : Int) + 1))] := by
    intro h3
    simp only [w_without_end_r2]
    simp [↓r_get2, ↓r_get1, ↓r_getE, ↓r_val, ↓r_slot, ↓r_sfz, ↓r_sow, ↓r_all, ↓r_all0, ↓r_all1, ↓r_bl, ↓r_fbl, ↓r_int, ↓r_cons, ↓r_tupE, ↓r_dKE, ↓r_seqL, ↓r_seqT, ↓r_sets0, ↓r_setsF, ↓r_setsO, ↓r_nun, ↓r_nuo, ↓r_add, ↓r_addl, ↓r_addt, ↓r_addb, ↓r_sub, ↓r_subb, ↓r_mul, ↓r_div, ↓r_mod, ↓r_pow, ↓r_cmp, ↓r_i0, ↓r_neg, ↓r_eq, ↓r_ne, ↓r_i1, ↓r_i2, ↓r_max, ↓r_min, ↓r_toI, ↓r_toIb, ↓r_lenL, ↓r_lenT, ↓r_lenS, ↓r_reprI, ↓r_reprB, ↓r_ixT, ↓r_ixL, ↓r_at0, ↓r_at1, ↓r_at2, ↓r_mull, ↓r_mult, ↓r_listL, ↓r_listT, ↓r_tupL, ↓r_tupT, ↓r_dvm, ↓r_slL, ↓r_slT]
    rw [show (n : Int) + 1 = ((n + 1 : Nat) : Int) from rfl, cut_take (by simp; omega), ← List.map_take, ← nrm_take_end h1 h3, h2]
    exact q
  by_cases hn : n = 0
  · subst hn
    simp [↓r_get2, ↓r_get1, ↓r_getE, ↓r_val, ↓r_slot, ↓r_sfz, ↓r_sow, ↓r_all, ↓r_all0, ↓r_all1, ↓r_bl, ↓r_fbl, ↓r_int, ↓r_cons, ↓r_tupE, ↓r_dKE, ↓r_seqL, ↓r_seqT, ↓r_sets0, ↓r_setsF, ↓r_setsO, ↓r_nun, ↓r_nuo, ↓r_add, ↓r_addl, ↓r_addt, ↓r_addb, ↓r_sub, ↓r_subb, ↓r_mul, ↓r_div, ↓r_mod, ↓r_pow, ↓r_cmp, ↓r_i0, ↓r_neg, ↓r_eq, ↓r_ne, ↓r_i1, ↓r_i2, ↓r_max, ↓r_min, ↓r_toI, ↓r_toIb, ↓r_lenL, ↓r_lenT, ↓r_lenS, ↓r_reprI, ↓r_reprB, ↓r_ixT, ↓r_ixL, ↓r_at0, ↓r_at1, ↓r_at2, ↓r_mull, ↓r_mult, ↓r_listL, ↓r_listT, ↓r_tupL, ↓r_tupT, ↓r_dvm, ↓r_slL, ↓r_slT]
    exact fin (.inl rfl)
  · have e1 : (n : Int) + 1 - 1 = ((n : Nat) : Int) := by omega
    have e2 : (1 : Int) < (n : Int) + 1 := by omega
    simp [↓r_get2, ↓r_get1, ↓r_getE, ↓r_val, ↓r_slot, ↓r_sfz, ↓r_sow, ↓r_all, ↓r_all0, ↓r_all1, ↓r_bl, ↓r_fbl, ↓r_int, ↓r_cons, ↓r_tupE, ↓r_dKE, ↓r_seqL, ↓r_seqT, ↓r_sets0, ↓r_setsF, ↓r_setsO, ↓r_nun, ↓r_nuo, ↓r_add, ↓r_addl, ↓r_addt, ↓r_addb, ↓r_sub, ↓r_subb, ↓r_mul, ↓r_div, ↓r_mod, ↓r_pow, ↓r_cmp, ↓r_i0, ↓r_neg, ↓r_eq, ↓r_ne, ↓r_i1, ↓r_i2, ↓r_max, ↓r_min, ↓r_toI, ↓r_toIb, ↓r_lenL, ↓r_lenT, ↓r_lenS, ↓r_reprI, ↓r_reprB, ↓r_ixT, ↓r_ixL, ↓r_at0, ↓r_at1, ↓r_at2, ↓r_mull, ↓r_mult, ↓r_listL, ↓r_listT, ↓r_tupL, ↓r_tupT, ↓r_dvm, ↓r_slL, ↓r_slT, e1, e2, at_co h1]
    by_cases h3 : co l n = 0
    · simp [h3, slI]
      refine ⟨⟨n - 1, by omega, by omega, ?_⟩, by omega⟩
      rw [show n - 1 + 1 = n by omega, ← nrm_take_step h1 (by omega) h3, h2]
    · simp [h3]
      exact fin (.inr h3)
theorem pyMax_nat {a b : Nat} : pyMax (a : Int) (b : Int) = ((max a b : Nat) : Int) := by unfold pyMax; split <;> omega
theorem rep_zero {k : Nat} : (List.replicate k [Dat.int 0]).flatten = (List.replicate k (0 : Int)).map Dat.int := by
  induction k with
  | zero => rfl
  | succ k ih => rw [List.replicate_succ, List.flatten_cons, ih]; rfl
theorem co_pad {a : List Int} {k i : Nat} : co (a ++ List.replicate k 0) i = co a i := by
  rw [co_app]
  split
  · rfl
  · rw [co_rep, co_ge (by omega)]
theorem zip_padd {a b : List Int} {n : Nat} (h : n = max a.length b.length) : List.zipWith (· + ·) (a ++ List.replicate (n - a.length) 0) (b ++ List.replicate (n - b.length) 0) = padd a b := by
  apply ext_co
  · rw [len_padd]; simp; omega
  · intro i
    rw [co_padd]
    by_cases hi : i < n
    · rw [co_lt (by simp; omega), List.getElem_zipWith, ← co_lt, ← co_lt, co_pad, co_pad]
    · rw [co_ge (by simp; omega), co_ge (by omega), co_ge (by omega)]; rfl
def addD : Dat → Dat
  | .tup [.int x, .int y] => .int (x + y)
  | _ => .non
theorem zip_map {a b : List Int} : (zipD (a.map Dat.int) (b.map Dat.int)).map addD = (List.zipWith (· + ·) a b).map Dat.int := by
  unfold zipD
  rw [List.map_zipWith, List.zipWith_map, List.map_zipWith]
  rfl
theorem zip_mem {a b : List Int} {d : Dat} (h : d ∈ zipD (a.map Dat.int) (b.map Dat.int)) : ∃ x y, d = .tup [.int x, .int y] := by
  unfold zipD at h
  rw [List.zipWith_map] at h
  obtain ⟨i, hi, rfl⟩ := List.getElem_of_mem h
  rw [List.getElem_zipWith]
  exact ⟨_, _, rfl⟩
/-! ### the law's own lines -/
abbrev wPopZ (i : Nat) : WS := wWhile (tAnd (tBlV (wOp2 gGt (oVal (wE (wCB gLen (aoCons (oSlot i) aoNil)))) (oVal (wC (.int 1))))) (tBlV (wOp2 gEq (oVal (wE (wOp2 gIx (oSlot i) (oVal (wE (wOp1 gNeg (oVal (wC (.int 1))))))))) (oVal (wC (.int 0)))))) (wExpr (wPop i))
theorem pop_loop {i : Nat} {ex : XW} {D : WEnds} {δ : Dl} {l : List Int} (h : δ[i]? = some (.ow (.lst (l.map Dat.int)))) (hl : l ≠ []) (q : D.nx (δ.set i (.ow (.lst ((nrm l).map Dat.int))))) : wPopZ i ex D δ := by
  have hi := (List.getElem?_eq_some_iff.1 h).1
  refine while_inv moT moS (fun δ2 => ∃ k : List Int, k ≠ [] ∧ nrm k = nrm l ∧ δ2 = δ.set i (.ow (.lst (k.map Dat.int)))) (fun δ => slL δ i) ?_ ⟨l, hl, rfl, ?_⟩
  · rintro δ2 ⟨k, hk, hn, rfl⟩
    have hs : ∀ v : DV, (δ.set i v)[i]? = some v := fun v => List.getElem?_set_self hi
    rcases snoc_cases k with rfl | ⟨u, c, rfl⟩
    · exact absurd rfl hk
    · have hlast : led (u ++ [c]) = c := by rw [led, co_app]; simp
      by_cases hu : u = []
      · subst hu
        simp [↓r_get2, ↓r_get1, ↓r_getE, ↓r_val, ↓r_slot, ↓r_sfz, ↓r_sow, ↓r_all, ↓r_all0, ↓r_all1, ↓r_bl, ↓r_fbl, ↓r_int, ↓r_cons, ↓r_tupE, ↓r_dKE, ↓r_seqL, ↓r_seqT, ↓r_sets0, ↓r_setsF, ↓r_setsO, ↓r_nun, ↓r_nuo, ↓r_add, ↓r_addl, ↓r_addt, ↓r_addb, ↓r_sub, ↓r_subb, ↓r_mul, ↓r_div, ↓r_mod, ↓r_pow, ↓r_cmp, ↓r_i0, ↓r_neg, ↓r_eq, ↓r_ne, ↓r_i1, ↓r_i2, ↓r_max, ↓r_min, ↓r_toI, ↓r_toIb, ↓r_lenL, ↓r_lenT, ↓r_lenS, ↓r_reprI, ↓r_reprB, ↓r_ixT, ↓r_ixL, ↓r_at0, ↓r_at1, ↓r_at2, ↓r_mull, ↓r_mult, ↓r_listL, ↓r_listT, ↓r_tupL, ↓r_tupT, ↓r_dvm, ↓r_slL, ↓r_slT, hs]
        rw [← hn] at q
        exact q
      · have := List.length_pos_iff.2 hu
        have e1 : (1 : Int) < (u.length : Int) + 1 := by omega
        have ea := at_last hk
        rw [hlast, List.map_append] at ea
        have ea : atI (List.map Dat.int u ++ [Dat.int c]) (-1) = some (.int c) := ea
        simp [↓r_get2, ↓r_get1, ↓r_getE, ↓r_val, ↓r_slot, ↓r_sfz, ↓r_sow, ↓r_all, ↓r_all0, ↓r_all1, ↓r_bl, ↓r_fbl, ↓r_int, ↓r_cons, ↓r_tupE, ↓r_dKE, ↓r_seqL, ↓r_seqT, ↓r_sets0, ↓r_setsF, ↓r_setsO, ↓r_nun, ↓r_nuo, ↓r_add, ↓r_addl, ↓r_addt, ↓r_addb, ↓r_sub, ↓r_subb, ↓r_mul, ↓r_div, ↓r_mod, ↓r_pow, ↓r_cmp, ↓r_i0, ↓r_neg, ↓r_eq, ↓r_ne, ↓r_i1, ↓r_i2, ↓r_max, ↓r_min, ↓r_toI, ↓r_toIb, ↓r_lenL, ↓r_lenT, ↓r_lenS, ↓r_reprI, ↓r_reprB, ↓r_ixT, ↓r_ixL, ↓r_at0, ↓r_at1, ↓r_at2, ↓r_mull, ↓r_mult, ↓r_listL, ↓r_listT, ↓r_tupL, ↓r_tupT, ↓r_dvm, ↓r_slL, ↓r_slT, hs, e1, ea]
        by_cases hc : c = 0
        · subst hc
          simp [slL, hs]
          exact ⟨_, hu, by rw [← hn, nrm_snoc0 hu], rfl⟩
        · simp [hc]
          rw [← hn, nrm_snoc hc] at q
          simpa using q
  · obtain ⟨hi, e⟩ := List.getElem?_eq_some_iff.1 h
    rw [← e]; exact (List.set_getElem_self hi).symm
def sp__law_line_times : DSp := fun ds P _ => ∃ (a b : List Int), ds = [lD a, lD b] ∧ (a ≠ [] ∧ b ≠ [] ∧ a.length ≤ 1000 ∧ b.length ≤ 1000 ∧ LB (2 ^ 64 - 1) a) ∧ P (lD (lineMul a b))
instance : ISp sp__law_line_times := ⟨fun _ _ _ _ hM ⟨a, b, e, c, q⟩ => ⟨a, b, e, c, hM _ q⟩⟩
theorem e__law_line_times {a b : List Int} {P : Dat → Prop} {ex : XP} : sp__law_line_times [lD a, lD b] P ex ↔ (a ≠ [] ∧ b ≠ [] ∧ a.length ≤ 1000 ∧ b.length ≤ 1000 ∧ LB (2 ^ 64 - 1) a) ∧ P (lD (lineMul a b)) := ⟨fun ⟨_, _, e, hE⟩ => by (simp [rat_inj, ints_inj, Int.natCast_inj] at e); (obtain ⟨rfl, rfl⟩ := e); exact hE, fun hE => ⟨_, _, rfl, hE⟩⟩
/-- 0 _law_one 1 _law_other 2 _law_found 3 _law_at 4 _law_here 5 _law_place 6 _law_there -/
def w__law_line_times_r3 : WS :=
    (wRet (wE (wCB gTuple (aoCons (oSlot 2) aoNil))))
def w__law_line_times_r2 : WS :=
    wSeq (wWhile (tAnd (tBlV (wOp2 gGt (oVal (wE (wCB gLen (aoCons (oSlot 2) aoNil)))) (oVal (wC (.int 1))))) (tBlV (wOp2 gEq (oVal (wE (wOp2 gIx (oSlot 2) (oVal (wE (wOp1 gNeg (oVal (wC (.int 1))))))))) (oVal (wC (.int 0)))))) (wExpr (wPop 2))) w__law_line_times_r3
def w__law_line_times_r1 : WS :=
    wSeq (wFor (iEnumD (wVar 0)) (wgTup 2 (wgCons (wgN 3) (wgCons (wgN 4) wgNil))) (wFor (iEnumD (wVar 1)) (wgTup 2 (wgCons (wgN 5) (wgCons (wgN 6) wgNil))) (wAsgG (wE (wOp2 gAdd (oVal (wE (wOp2 gIx (oSlot 2) (oVal (wE (wOp2 gAdd (oSlot 3) (oSlot 5))))))) (oVal (wE (wOp2 gMul (oSlot 4) (oSlot 6)))))) (wgSub 2 (oVal (wE (wOp2 gAdd (oSlot 3) (oSlot 5)))))))) w__law_line_times_r2
def w__law_line_times : WS :=
    wSeq (wAsg 2 (wOp2 gMul (oVal (wE (wLst (aCons (wC (.int 0)) aNil)))) (oVal (wE (wOp2 gSubA (oVal (wE (wOp2 gAdd (oVal (wE (wCB gLen (aoCons (oSlot 0) aoNil)))) (oVal (wE (wCB gLen (aoCons (oSlot 1) aoNil))))))) (oVal (wC (.int 1)))))))) w__law_line_times_r1
theorem k__law_line_times : Keeps 7 2 w__law_line_times sp__law_line_times := by
  rintro _ P ex0 ⟨a, b, rfl, hc, q⟩
  refine ⟨rfl, ?_⟩
  generalize (fun (x : XD) (_ : Dl) => ex0 x) = ex
  obtain ⟨ha, hb, la, lb, sa⟩ := hc
  have pa := List.length_pos_iff.2 ha
  have pb := List.length_pos_iff.2 hb
  have hl := len_pmul ha hb
  simp only [w__law_line_times]
  have e1 : ((a.length : Int) + (b.length : Int) - 1).toNat = a.length + b.length - 1 := by omega
  simp [↓r_get2, ↓r_get1, ↓r_getE, ↓r_val, ↓r_slot, ↓r_sfz, ↓r_sow, ↓r_all, ↓r_all0, ↓r_all1, ↓r_bl, ↓r_fbl, ↓r_int, ↓r_cons, ↓r_tupE, ↓r_dKE, ↓r_seqL, ↓r_seqT, ↓r_sets0, ↓r_setsF, ↓r_setsO, ↓r_nun, ↓r_nuo, ↓r_add, ↓r_addl, ↓r_addt, ↓r_addb, ↓r_sub, ↓r_subb, ↓r_mul, ↓r_div, ↓r_mod, ↓r_pow, ↓r_cmp, ↓r_i0, ↓r_neg, ↓r_eq, ↓r_ne, ↓r_i1, ↓r_i2, ↓r_max, ↓r_min, ↓r_toI, ↓r_toIb, ↓r_lenL, ↓r_lenT, ↓r_lenS, ↓r_reprI, ↓r_reprB, ↓r_ixT, ↓r_ixL, ↓r_at0, ↓r_at1, ↓r_at2, ↓r_mull, ↓r_mult, ↓r_listL, ↓r_listT, ↓r_tupL, ↓r_tupT, ↓r_dvm, ↓r_slL, ↓r_slT, e1, rep_zero]
  refine ⟨⟨by omega, by omega, by omega⟩, ?_⟩
  rw [show List.replicate (a.length + b.length - 1) (Dat.int 0) = (List.replicate (a.length + b.length - 1) (0 : Int)).map Dat.int by simp]
  simp only [w__law_line_times_r1]
  simp [↓r_get2, ↓r_get1, ↓r_getE, ↓r_val, ↓r_slot, ↓r_sfz, ↓r_sow, ↓r_all, ↓r_all0, ↓r_all1, ↓r_bl, ↓r_fbl, ↓r_int, ↓r_cons, ↓r_tupE, ↓r_dKE, ↓r_seqL, ↓r_seqT, ↓r_sets0, ↓r_setsF, ↓r_setsO, ↓r_nun, ↓r_nuo, ↓r_add, ↓r_addl, ↓r_addt, ↓r_addb, ↓r_sub, ↓r_subb, ↓r_mul, ↓r_div, ↓r_mod, ↓r_pow, ↓r_cmp, ↓r_i0, ↓r_neg, ↓r_eq, ↓r_ne, ↓r_i1, ↓r_i2, ↓r_max, ↓r_min, ↓r_toI, ↓r_toIb, ↓r_lenL, ↓r_lenT, ↓r_lenS, ↓r_reprI, ↓r_reprB, ↓r_ixT, ↓r_ixL, ↓r_at0, ↓r_at1, ↓r_at2, ↓r_mull, ↓r_mult, ↓r_listL, ↓r_listT, ↓r_tupL, ↓r_tupT, ↓r_dvm, ↓r_slL, ↓r_slT, -List.map_replicate]
  have sm : ∀ i (x : Int), MulOk (co a i) x := fun i x => mulL (by have := sa i; omega)
  refine for_inv moG moS (fun i δ => ∃ (F : List Int) (u v w z : DV), δ = [.fz (lD a), .fz (lD b), .ow (.lst (F.map Dat.int)), u, v, w, z] ∧ F.length = a.length + b.length - 1 ∧ ∀ k, co F k = co (pmul (a.take i) b) k) ?_ ?_ ⟨_, _, _, _, _, rfl, by simp, fun k => by rw [co_rep]; rfl⟩
  · rintro i d δ hi ⟨F, u, v, w, z, rfl, hF, hk⟩
    obtain ⟨h1, rfl⟩ := enum_at hi
    simp [↓r_get2, ↓r_get1, ↓r_getE, ↓r_val, ↓r_slot, ↓r_sfz, ↓r_sow, ↓r_all, ↓r_all0, ↓r_all1, ↓r_bl, ↓r_fbl, ↓r_int, ↓r_cons, ↓r_tupE, ↓r_dKE, ↓r_seqL, ↓r_seqT, ↓r_sets0, ↓r_setsF, ↓r_setsO, ↓r_nun, ↓r_nuo, ↓r_add, ↓r_addl, ↓r_addt, ↓r_addb, ↓r_sub, ↓r_subb, ↓r_mul, ↓r_div, ↓r_mod, ↓r_pow, ↓r_cmp, ↓r_i0, ↓r_neg, ↓r_eq, ↓r_ne, ↓r_i1, ↓r_i2, ↓r_max, ↓r_min, ↓r_toI, ↓r_toIb, ↓r_lenL, ↓r_lenT, ↓r_lenS, ↓r_reprI, ↓r_reprB, ↓r_ixT, ↓r_ixL, ↓r_at0, ↓r_at1, ↓r_at2, ↓r_mull, ↓r_mult, ↓r_listL, ↓r_listT, ↓r_tupL, ↓r_tupT, ↓r_dvm, ↓r_slL, ↓r_slT]
    have step : ∀ k, co (pmul (a.take (i + 1)) b) k = co F k + if i ≤ k then co a i * co b (k - i) else 0 := by
      intro k
      rw [take_snoc h1, co_pmul_snoc, hk]
      simp [List.length_take, Nat.min_eq_left (Nat.le_of_lt h1)]
    refine for_inv moG moS (fun j δ => ∃ (G : List Int) (u v : DV), δ = [.fz (lD a), .fz (lD b), .ow (.lst (G.map Dat.int)), .fz (.int i), .fz (.int (co a i)), u, v] ∧ G.length = a.length + b.length - 1 ∧ ∀ k, co G k = co F k + if i ≤ k ∧ k < i + j then co a i * co b (k - i) else 0) ?_ ?_ ⟨_, _, _, rfl, hF, fun k => by rw [if_neg (by omega)]; simp⟩
    · rintro j d δ hj ⟨G, u, v, rfl, hG, hk2⟩
      obtain ⟨h2, rfl⟩ := enum_at hj
      have e2 : ixN G.length ((i : Int) + (j : Int)) = some (i + j) := ixN_nat (n := G.length) (k := i + j) (by omega)
      have e3 : atI (G.map Dat.int) ((i : Int) + (j : Int)) = some (.int (co G (i + j))) := at_co (l := G) (k := i + j) (by omega)
      simp [↓r_get2, ↓r_get1, ↓r_getE, ↓r_val, ↓r_slot, ↓r_sfz, ↓r_sow, ↓r_all, ↓r_all0, ↓r_all1, ↓r_bl, ↓r_fbl, ↓r_int, ↓r_cons, ↓r_tupE, ↓r_dKE, ↓r_seqL, ↓r_seqT, ↓r_sets0, ↓r_setsF, ↓r_setsO, ↓r_nun, ↓r_nuo, ↓r_add, ↓r_addl, ↓r_addt, ↓r_addb, ↓r_sub, ↓r_subb, ↓r_mul, ↓r_div, ↓r_mod, ↓r_pow, ↓r_cmp, ↓r_i0, ↓r_neg, ↓r_eq, ↓r_ne, ↓r_i1, ↓r_i2, ↓r_max, ↓r_min, ↓r_toI, ↓r_toIb, ↓r_lenL, ↓r_lenT, ↓r_lenS, ↓r_reprI, ↓r_reprB, ↓r_ixT, ↓r_ixL, ↓r_at0, ↓r_at1, ↓r_at2, ↓r_mull, ↓r_mult, ↓r_listL, ↓r_listT, ↓r_tupL, ↓r_tupT, ↓r_dvm, ↓r_slL, ↓r_slT, sm, e3, e2, ← List.map_set]
      refine ⟨_, rfl, by simpa using hG, fun k => ?_⟩
      rw [co_set (by omega)]
      by_cases hk3 : k = i + j
      · subst hk3
        rw [if_pos rfl, if_pos (by omega), hk2, if_neg (by omega), show i + j - i = j by omega]; simp
      · rw [if_neg hk3, hk2]
        congr 1
        by_cases h5 : i ≤ k ∧ k < i + j
        · rw [if_pos h5, if_pos (by omega)]
        · rw [if_neg h5, if_neg (by omega)]
    · rintro δ ⟨G, u, v, rfl, hG, hk2⟩
      simp
      refine ⟨_, rfl, hG, fun k => ?_⟩
      rw [step, hk2, enumD_len, List.length_map]
      congr 1
      by_cases h5 : i ≤ k
      · by_cases h6 : k < i + b.length
        · rw [if_pos ⟨h5, h6⟩, if_pos h5]
        · rw [if_neg (by omega), if_pos h5, co_ge (l := b) (by omega)]; simp
      · rw [if_neg (by omega), if_neg h5]
  · rintro δ ⟨F, u, v, w, z, rfl, hF, hk⟩
    simp [enumD_len] at hk
    have e : F = pmul a b := ext_co (by omega) hk
    subst e
    simp only [w__law_line_times_r2]
    refine pop_loop (i := 2) rfl (pmul_ne ha hb) ?_
    simp only [w__law_line_times_r3]
    simp [↓r_get2, ↓r_get1, ↓r_getE, ↓r_val, ↓r_slot, ↓r_sfz, ↓r_sow, ↓r_all, ↓r_all0, ↓r_all1, ↓r_bl, ↓r_fbl, ↓r_int, ↓r_cons, ↓r_tupE, ↓r_dKE, ↓r_seqL, ↓r_seqT, ↓r_sets0, ↓r_setsF, ↓r_setsO, ↓r_nun, ↓r_nuo, ↓r_add, ↓r_addl, ↓r_addt, ↓r_addb, ↓r_sub, ↓r_subb, ↓r_mul, ↓r_div, ↓r_mod, ↓r_pow, ↓r_cmp, ↓r_i0, ↓r_neg, ↓r_eq, ↓r_ne, ↓r_i1, ↓r_i2, ↓r_max, ↓r_min, ↓r_toI, ↓r_toIb, ↓r_lenL, ↓r_lenT, ↓r_lenS, ↓r_reprI, ↓r_reprB, ↓r_ixT, ↓r_ixL, ↓r_at0, ↓r_at1, ↓r_at2, ↓r_mull, ↓r_mult, ↓r_listL, ↓r_listT, ↓r_tupL, ↓r_tupT, ↓r_dvm, ↓r_slL, ↓r_slT]
    exact q
theorem cut_one {l : List Int} {n : Nat} : ∃ s : List Int, DL.cutD (l.map Dat.int) (some (n : Int)) (some ((n : Int) + 1)) = s.map Dat.int ∧ s.sum = co l n ∧ s.length ≤ 1 := by
  unfold DL.cutD
  have e1 : HT.sIx (l.map Dat.int).length 0 (some (n : Int)) = min n l.length := by
    show (if (n : Int) < 0 then ((n : Int) + (l.map Dat.int).length).toNat else min (n : Int).toNat (l.map Dat.int).length) = _
    rw [if_neg (by omega)]; simp
  have e2 : HT.sIx (l.map Dat.int).length (l.map Dat.int).length (some ((n : Int) + 1)) = min (n + 1) l.length := by
    show (if (n : Int) + 1 < 0 then ((n : Int) + 1 + (l.map Dat.int).length).toNat else min ((n : Int) + 1).toNat (l.map Dat.int).length) = _
    rw [if_neg (by omega)]; simp
  rw [e1, e2, ← List.map_drop, ← List.map_take]
  refine ⟨(l.drop (min n l.length)).take (min (n + 1) l.length - min n l.length), rfl, ?_, by rw [List.length_take]; omega⟩
  by_cases h : n < l.length
  · rw [Nat.min_eq_left (Nat.le_of_lt h), Nat.min_eq_left (show n + 1 ≤ l.length by omega), show n + 1 - n = 1 by omega, co_lt h, List.drop_eq_getElem_cons h, List.take_succ_cons, List.take_zero, List.sum_cons, List.sum_nil, Int.add_zero]
  · have e : min n l.length = l.length := Nat.min_eq_right (by omega)
    rw [e, List.drop_length, co_ge (by omega)]; simp
/-! ### quotients -/
theorem r_anyI {ns : List Int} {P : DV → Prop} : gAny [.lst (ns.map Dat.int)] P = P (.fz (.bl (ns.any (· != 0)))) := by
  apply propext
  constructor
  · rintro (⟨bs, e, h⟩ | ⟨ms, e, h⟩)
    · cases ns with
      | nil =>
        cases bs with
        | nil => exact h
        | cons b bs => simp at e
      | cons n ns => cases bs <;> simp at e
    · rw [ints_inj] at e; subst e; exact h
  · exact fun h => .inr ⟨_, rfl, h⟩
theorem any_co {F : List Int} : F.any (· != 0) = true ↔ ∃ i, i < F.length ∧ co F i ≠ 0 := by
  rw [List.any_eq_true]
  constructor
  · rintro ⟨x, hx, h⟩
    obtain ⟨i, hi, rfl⟩ := List.getElem_of_mem hx
    exact ⟨i, hi, by rw [co_lt hi]; simpa using h⟩
  · rintro ⟨i, hi, h⟩
    rw [co_lt hi] at h
    exact ⟨_, List.getElem_mem hi, by simpa using h⟩
theorem led_ne {b : List Int} (h : Can b) (h2 : b ≠ [0]) : led b ≠ 0 := by
  by_cases hl : 2 ≤ b.length
  · exact h.last hl
  · have := h.len
    match b, hl, h2 with
    | [c], _, h2 => simpa [led] using h2
    | c :: d :: r, hl, _ => simp at hl
theorem shf_eq {b : List Int} {m k : Nat} {t : Int} : (if m ≤ k ∧ k < m + b.length then t * co b (k - m) else 0) = t * shf b m k := by
  unfold shf
  by_cases h5 : m ≤ k
  · by_cases h6 : k < m + b.length
    · rw [if_pos ⟨h5, h6⟩, if_pos h5]
    · rw [if_neg (by omega), if_pos h5, co_ge (l := b) (by omega)]; simp
  · rw [if_neg (by omega), if_neg h5]; simp
theorem rangeC_at {i c : Int} {n j : Nat} {d : Dat} (h : (rangeC i c n)[j]? = some d) : j < n ∧ d = .int (i + j * c) := by
  unfold rangeC at h
  rw [List.getElem?_map] at h
  obtain ⟨x, h1, rfl⟩ := Option.map_eq_some_iff.1 h
  obtain ⟨h2, rfl⟩ := List.getElem?_eq_some_iff.1 h1
  simp at h2 ⊢
  exact h2
def sp_quotient_of_lines : DSp := fun ds P _ => ∃ (a b : List Int), ds = [lD a, lD b] ∧ (a ≠ [] ∧ b ≠ [] ∧ a.length ≤ 1000 ∧ b.length ≤ 1000 ∧ LB (2 ^ 64 - 1) b ∧ led b ≠ 0) ∧ P (optD (divL a b))
instance : ISp sp_quotient_of_lines := ⟨fun _ _ _ _ hM ⟨a, b, e, c, q⟩ => ⟨a, b, e, c, hM _ q⟩⟩
theorem e_quotient_of_lines {a b : List Int} {P : Dat → Prop} {ex : XP} : sp_quotient_of_lines [lD a, lD b] P ex ↔ (a ≠ [] ∧ b ≠ [] ∧ a.length ≤ 1000 ∧ b.length ≤ 1000 ∧ LB (2 ^ 64 - 1) b ∧ led b ≠ 0) ∧ P (optD (divL a b)) := ⟨fun ⟨_, _, e, hE⟩ => by (simp [rat_inj, ints_inj, Int.natCast_inj] at e); (obtain ⟨rfl, rfl⟩ := e); exact hE, fun hE => ⟨_, _, rfl, hE⟩⟩
/-- 0 one 1 other 2 left 3 size 4 found 5 at 6 top 7 rest 8 place 9 number -/
def w_quotient_of_lines_r3 : WS :=
    (wRet (wIte (tBl (wE (wCB gAny (aoCons (oSlot 2) aoNil)))) (wC .non) (wCall sp_without_end (aCons (wVar 4) aNil))))
def w_quotient_of_lines_r2 : WS :=
    wSeq (wFor (iRange3 (oVal (wE (wOp2 gSubA (oVal (wE (wCB gLen (aoCons (oSlot 0) aoNil)))) (oSlot 3)))) (oVal (wE (wOp1 gNeg (oVal (wC (.int 1)))))) (oVal (wE (wOp1 gNeg (oVal (wC (.int 1))))))) (wgN 5) (wSeq (wAsgG (wE (wCB gDivmod (aoCons (oVal (wE (wOp2 gIx (oSlot 2) (oVal (wE (wOp2 gSubA (oVal (wE (wOp2 gAdd (oSlot 5) (oSlot 3)))) (oVal (wC (.int 1))))))))) (aoCons (oVal (wE (wOp2 gIx (oSlot 1) (oVal (wE (wOp1 gNeg (oVal (wC (.int 1))))))))) aoNil)))) (wgTup 2 (wgCons (wgN 6) (wgCons (wgN 7) wgNil))))
    (wSeq (wIf (tBlV (wOp2 gNe (oSlot 7) (oVal (wC (.int 0))))) (wRet (wC .non)) wNext)
    (wSeq (wAsgG (wVar 6) (wgSub 4 (oSlot 5)))
    (wFor (iEnumD (wVar 1)) (wgTup 2 (wgCons (wgN 8) (wgCons (wgN 9) wgNil))) (wAugS 2 gISub (oVal (wE (wOp2 gAdd (oSlot 5) (oSlot 8)))) (oVal (wE (wOp2 gMul (oSlot 6) (oSlot 9)))))))))) w_quotient_of_lines_r3
def w_quotient_of_lines_r1 : WS :=
    wSeq (wAsg 4 (wOp2 gMul (oVal (wE (wLst (aCons (wC (.int 0)) aNil)))) (oVal (wE (wCB gMax (aoCons (oVal (wC (.int 1))) (aoCons (oVal (wE (wOp2 gAdd (oVal (wE (wOp2 gSubA (oVal (wE (wCB gLen (aoCons (oSlot 0) aoNil)))) (oSlot 3)))) (oVal (wC (.int 1)))))) aoNil))))))) w_quotient_of_lines_r2
def w_quotient_of_lines : WS :=
    wSeq (wSets [2, 3] (ajCons (wCB gList (aoCons (oSlot 0) aoNil)) (ajCons (wCB gLen (aoCons (oSlot 1) aoNil)) ajNil))) w_quotient_of_lines_r1
theorem k_quotient_of_lines : Keeps 10 2 w_quotient_of_lines sp_quotient_of_lines := by
  rintro _ P ex0 ⟨a, b, rfl, hc, q⟩
  refine ⟨rfl, ?_⟩
  generalize (fun (x : XD) (_ : Dl) => ex0 x) = ex
  obtain ⟨ha, hb, la, lb, sb, hd⟩ := hc
  have pa := List.length_pos_iff.2 ha
  have pb := List.length_pos_iff.2 hb
  have sm : ∀ i (x : Int), MulOk x (co b i) := fun i x => mulR (by have := sb i; omega)
  have dm : ∀ x, CDivM x (led b) := fun x => by
    have h5 : (led b).natAbs ≤ 2 ^ 64 - 1 := sb _
    exact div_ok hd (by omega) (by omega)
  simp only [w_quotient_of_lines]
  simp [↓r_get2, ↓r_get1, ↓r_getE, ↓r_val, ↓r_slot, ↓r_sfz, ↓r_sow, ↓r_all, ↓r_all0, ↓r_all1, ↓r_bl, ↓r_fbl, ↓r_int, ↓r_cons, ↓r_tupE, ↓r_dKE, ↓r_seqL, ↓r_seqT, ↓r_sets0, ↓r_setsF, ↓r_setsO, ↓r_nun, ↓r_nuo, ↓r_add, ↓r_addl, ↓r_addt, ↓r_addb, ↓r_sub, ↓r_subb, ↓r_mul, ↓r_div, ↓r_mod, ↓r_pow, ↓r_cmp, ↓r_i0, ↓r_neg, ↓r_eq, ↓r_ne, ↓r_i1, ↓r_i2, ↓r_max, ↓r_min, ↓r_toI, ↓r_toIb, ↓r_lenL, ↓r_lenT, ↓r_lenS, ↓r_reprI, ↓r_reprB, ↓r_ixT, ↓r_ixL, ↓r_at0, ↓r_at1, ↓r_at2, ↓r_mull, ↓r_mult, ↓r_listL, ↓r_listT, ↓r_tupL, ↓r_tupT, ↓r_dvm, ↓r_slL, ↓r_slT]
  simp only [w_quotient_of_lines_r1]
  have e1 : pyMax 1 ((a.length : Int) - (b.length : Int) + 1) = ((max 1 (a.length + 1 - b.length) : Nat) : Int) := by unfold pyMax; split <;> omega
  generalize hK : a.length + 1 - b.length = K at e1
  simp [↓r_get2, ↓r_get1, ↓r_getE, ↓r_val, ↓r_slot, ↓r_sfz, ↓r_sow, ↓r_all, ↓r_all0, ↓r_all1, ↓r_bl, ↓r_fbl, ↓r_int, ↓r_cons, ↓r_tupE, ↓r_dKE, ↓r_seqL, ↓r_seqT, ↓r_sets0, ↓r_setsF, ↓r_setsO, ↓r_nun, ↓r_nuo, ↓r_add, ↓r_addl, ↓r_addt, ↓r_addb, ↓r_sub, ↓r_subb, ↓r_mul, ↓r_div, ↓r_mod, ↓r_pow, ↓r_cmp, ↓r_i0, ↓r_neg, ↓r_eq, ↓r_ne, ↓r_i1, ↓r_i2, ↓r_max, ↓r_min, ↓r_toI, ↓r_toIb, ↓r_lenL, ↓r_lenT, ↓r_lenS, ↓r_reprI, ↓r_reprB, ↓r_ixT, ↓r_ixL, ↓r_at0, ↓r_at1, ↓r_at2, ↓r_mull, ↓r_mult, ↓r_listL, ↓r_listT, ↓r_tupL, ↓r_tupT, ↓r_dvm, ↓r_slL, ↓r_slT, e1, rep_zero]
  refine ⟨⟨by omega, by omega⟩, ?_⟩
  rw [show List.replicate (max 1 K) (Dat.int 0) = (List.replicate (max 1 K) (0 : Int)).map Dat.int by simp]
  simp only [w_quotient_of_lines_r2]
  simp [↓r_get2, ↓r_get1, ↓r_getE, ↓r_val, ↓r_slot, ↓r_sfz, ↓r_sow, ↓r_all, ↓r_all0, ↓r_all1, ↓r_bl, ↓r_fbl, ↓r_int, ↓r_cons, ↓r_tupE, ↓r_dKE, ↓r_seqL, ↓r_seqT, ↓r_sets0, ↓r_setsF, ↓r_setsO, ↓r_nun, ↓r_nuo, ↓r_add, ↓r_addl, ↓r_addt, ↓r_addb, ↓r_sub, ↓r_subb, ↓r_mul, ↓r_div, ↓r_mod, ↓r_pow, ↓r_cmp, ↓r_i0, ↓r_neg, ↓r_eq, ↓r_ne, ↓r_i1, ↓r_i2, ↓r_max, ↓r_min, ↓r_toI, ↓r_toIb, ↓r_lenL, ↓r_lenT, ↓r_lenS, ↓r_reprI, ↓r_reprB, ↓r_ixT, ↓r_ixL, ↓r_at0, ↓r_at1, ↓r_at2, ↓r_mull, ↓r_mult, ↓r_listL, ↓r_listT, ↓r_tupL, ↓r_tupT, ↓r_dvm, ↓r_slL, ↓r_slT, -List.map_replicate]
  refine ⟨K, by have := rgc_down (i := (a.length : Int) - b.length) (j := -1) (by omega); rwa [show ((a.length : Int) - b.length - -1).toNat = K by omega] at this, ?_⟩
  have lenR : (rangeC ((a.length : Int) - b.length) (-1) K).length = K := by unfold rangeC; simp
  refine for_inv moG moS (fun j δ => ∃ (F qs : List Int) (u v w x z : DV), δ = [.fz (lD a), .fz (lD b), .ow (.lst (F.map Dat.int)), .fz (.int b.length), .ow (.lst ((List.replicate (max 1 K - j) 0 ++ qs).map Dat.int)), u, v, w, x, z] ∧ F.length = a.length ∧ qs.length = j ∧ j ≤ K ∧ dvL b K (co a) = (dvL b (K - j) (co F)).map fun r => (r.1 ++ qs, r.2)) ?_ ?_ ⟨a, [], .un, .un, .un, .un, .un, by simp, rfl, rfl, by omega, by simp⟩
  · rintro j d δ hj ⟨F, qs, u, v, w, x, z, rfl, hF, hq, hjK, hdv⟩
    obtain ⟨hj, rfl⟩ := rangeC_at hj
    obtain ⟨m, hm⟩ : ∃ m, K = m + 1 + j := ⟨K - 1 - j, by omega⟩
    have e2 : (a.length : Int) - b.length + j * -1 = (m : Int) := by omega
    have e3 : (m : Int) + (b.length : Int) - 1 = ((m + b.length - 1 : Nat) : Int) := by omega
    have e4 := at_co (l := F) (k := m + b.length - 1) (by omega)
    have e5 := at_last hb
    rw [show K - j = m + 1 by omega, dvL] at hdv
    generalize ht : co F (m + b.length - 1) = t at e4 hdv
    have e7 : max 1 K - j = m + 1 := by omega
    rw [e2]
    simp [↓r_get2, ↓r_get1, ↓r_getE, ↓r_val, ↓r_slot, ↓r_sfz, ↓r_sow, ↓r_all, ↓r_all0, ↓r_all1, ↓r_bl, ↓r_fbl, ↓r_int, ↓r_cons, ↓r_tupE, ↓r_dKE, ↓r_seqL, ↓r_seqT, ↓r_sets0, ↓r_setsF, ↓r_setsO, ↓r_nun, ↓r_nuo, ↓r_add, ↓r_addl, ↓r_addt, ↓r_addb, ↓r_sub, ↓r_subb, ↓r_mul, ↓r_div, ↓r_mod, ↓r_pow, ↓r_cmp, ↓r_i0, ↓r_neg, ↓r_eq, ↓r_ne, ↓r_i1, ↓r_i2, ↓r_max, ↓r_min, ↓r_toI, ↓r_toIb, ↓r_lenL, ↓r_lenT, ↓r_lenS, ↓r_reprI, ↓r_reprB, ↓r_ixT, ↓r_ixL, ↓r_at0, ↓r_at1, ↓r_at2, ↓r_mull, ↓r_mult, ↓r_listL, ↓r_listT, ↓r_tupL, ↓r_tupT, ↓r_dvm, ↓r_slL, ↓r_slT, e3, e4, e5, dm, -List.map_append, -List.map_replicate, ht]
    by_cases h0 : pyMod t (led b) = 0
    · have h1 := pyMod_zero.1 h0
      rw [if_pos h1] at hdv
      have e6 : ixN ((max 1 K - j) + qs.length) (m : Int) = some m := ixN_nat (by omega)
      simp [h0, e6, ← List.map_set, -List.map_append, -List.map_replicate]
      have e9 : ((List.replicate (max 1 K - j) 0 ++ qs).set m (pyDiv t (led b))) = List.replicate (max 1 K - (j + 1)) 0 ++ (pyDiv t (led b) :: qs) := by
        rw [e7, show max 1 K - (j + 1) = m by omega, List.replicate_succ', List.append_assoc]; simp [List.set_append]
      rw [e9]
      generalize pyDiv t (led b) = tp at *
      refine for_inv moG moS (fun p δ => ∃ (G : List Int) (x z : DV), δ = [.fz (lD a), .fz (lD b), .ow (.lst (G.map Dat.int)), .fz (.int b.length), .ow (.lst ((List.replicate (max 1 K - (j + 1)) 0 ++ (tp :: qs)).map Dat.int)), .fz (.int m), .fz (.int tp), .fz (.int 0), x, z] ∧ G.length = a.length ∧ ∀ k, co G k = co F k - if m ≤ k ∧ k < m + p then tp * co b (k - m) else 0) ?_ ?_ ⟨F, x, z, rfl, hF, fun k => by rw [if_neg (by omega)]; simp⟩
      · rintro p d δ hp ⟨G, x, z, rfl, hG, hk2⟩
        obtain ⟨h2, rfl⟩ := enum_at hp
        have e2 : ixN G.length ((m : Int) + (p : Int)) = some (m + p) := ixN_nat (n := G.length) (k := m + p) (by omega)
        have e3 : atI (G.map Dat.int) ((m : Int) + (p : Int)) = some (.int (co G (m + p))) := at_co (l := G) (k := m + p) (by omega)
        simp [↓r_get2, ↓r_get1, ↓r_getE, ↓r_val, ↓r_slot, ↓r_sfz, ↓r_sow, ↓r_all, ↓r_all0, ↓r_all1, ↓r_bl, ↓r_fbl, ↓r_int, ↓r_cons, ↓r_tupE, ↓r_dKE, ↓r_seqL, ↓r_seqT, ↓r_sets0, ↓r_setsF, ↓r_setsO, ↓r_nun, ↓r_nuo, ↓r_add, ↓r_addl, ↓r_addt, ↓r_addb, ↓r_sub, ↓r_subb, ↓r_mul, ↓r_div, ↓r_mod, ↓r_pow, ↓r_cmp, ↓r_i0, ↓r_neg, ↓r_eq, ↓r_ne, ↓r_i1, ↓r_i2, ↓r_max, ↓r_min, ↓r_toI, ↓r_toIb, ↓r_lenL, ↓r_lenT, ↓r_lenS, ↓r_reprI, ↓r_reprB, ↓r_ixT, ↓r_ixL, ↓r_at0, ↓r_at1, ↓r_at2, ↓r_mull, ↓r_mult, ↓r_listL, ↓r_listT, ↓r_tupL, ↓r_tupT, ↓r_dvm, ↓r_slL, ↓r_slT, sm, e3, e2, ← List.map_set, -List.map_append, -List.map_replicate]
        refine ⟨_, rfl, by simpa using hG, fun k => ?_⟩
        rw [co_set (by omega)]
        by_cases hk3 : k = m + p
        · subst hk3
          rw [if_pos rfl, if_pos (by omega), hk2, if_neg (by omega), show m + p - m = p by omega]; simp
        · rw [if_neg hk3, hk2]
          congr 1
          by_cases h5 : m ≤ k ∧ k < m + p
          · rw [if_pos h5, if_pos (by omega)]
          · rw [if_neg h5, if_neg (by omega)]
      · rintro δ ⟨G, x, z, rfl, hG, hk2⟩
        refine ⟨G, tp :: qs, ⟨_, _, _, _, _, rfl⟩, hG, by simp [hq], by omega, ?_⟩
        have e : (fun i => co F i - tp * shf b m i) = co G := funext fun k => by
          rw [hk2, enumD_len, List.length_map, shf_eq]
        rw [hdv, e, show K - (j + 1) = m by omega]
        simp [Function.comp_def]
    · have h1 : ¬ pyDiv t (led b) * led b = t := fun h => h0 (pyMod_zero.2 h)
      rw [if_neg h1] at hdv
      have e8 : divL a b = none := by
        unfold divL; rw [hK, hdv]; rfl
      rw [e8] at q
      simp [h0]
      exact q
  · rintro δ ⟨F, qs, u, v, w, x, z, rfl, hF, hq, hjK, hdv⟩
    rw [lenR] at hq hdv
    simp only [w_quotient_of_lines_r3]
    rw [Nat.sub_self, dvL] at hdv
    have e8 : divL a b = if ∀ i, i < a.length → co F i = 0 then some (nrm (if qs = [] then [0] else qs)) else none := by
      unfold divL; rw [hK, hdv]; simp
    simp [↓r_get2, ↓r_get1, ↓r_getE, ↓r_val, ↓r_slot, ↓r_sfz, ↓r_sow, ↓r_all, ↓r_all0, ↓r_all1, ↓r_bl, ↓r_fbl, ↓r_int, ↓r_cons, ↓r_tupE, ↓r_dKE, ↓r_seqL, ↓r_seqT, ↓r_sets0, ↓r_setsF, ↓r_setsO, ↓r_nun, ↓r_nuo, ↓r_add, ↓r_addl, ↓r_addt, ↓r_addb, ↓r_sub, ↓r_subb, ↓r_mul, ↓r_div, ↓r_mod, ↓r_pow, ↓r_cmp, ↓r_i0, ↓r_neg, ↓r_eq, ↓r_ne, ↓r_i1, ↓r_i2, ↓r_max, ↓r_min, ↓r_toI, ↓r_toIb, ↓r_lenL, ↓r_lenT, ↓r_lenS, ↓r_reprI, ↓r_reprB, ↓r_ixT, ↓r_ixL, ↓r_at0, ↓r_at1, ↓r_at2, ↓r_mull, ↓r_mult, ↓r_listL, ↓r_listT, ↓r_tupL, ↓r_tupT, ↓r_dvm, ↓r_slL, ↓r_slT, ↓r_anyI, -List.map_append, -List.map_replicate, -List.any_eq_true, -List.any_eq_false]
    refine .inr ⟨F, rfl, ?_⟩
    by_cases h : ∀ i, i < a.length → co F i = 0
    · have hn : F.any (· != 0) = false := by
        rw [← Bool.not_eq_true, any_co]
        rintro ⟨i, hi, h2⟩
        exact h2 (h i (by omega))
      rw [e8, if_pos h] at q
      refine .inl ⟨hn, ?_⟩
      rw [lenR]
      have e : List.replicate (max 1 K - K) 0 ++ qs = if qs = [] then [0] else qs := by
        by_cases hK0 : K = 0
        · have : qs = [] := List.length_eq_zero_iff.1 (by omega)
          subst this; rw [hK0]; rfl
        · have : qs ≠ [] := by rintro rfl; simp at hq; omega
          rw [if_neg this, show max 1 K - K = 0 by omega]; rfl
      rw [e]
      exact ⟨_, rfl, by split <;> simp_all, q⟩
    · have hn : F.any (· != 0) = true := by
        rw [any_co]
        rw [Classical.not_forall] at h
        obtain ⟨i, h⟩ := h
        rw [Classical.not_imp] at h
        exact ⟨i, by omega, h.2⟩
      rw [e8, if_neg h] at q
      exact .inr ⟨hn, q⟩
theorem eqvDs_nilR {l : List Dat} : eqvDs l [] = decide (l = []) := by cases l <;> simp
theorem eqvD_nilL {l : List Dat} : eqvD (.lst l) (.lst []) = decide (l = []) := by cases l <;> simp
def nzD : Dat → Option Dat
  | .int i => if i = 0 then none else some (.int i)
  | _ => none
theorem okD_nz1 {a : Int} {x : Dat} {n : Nat} (h : nzD (.int a) = some x) : okD n x = true := by
  simp only [nzD] at h
  split at h
  · cases h
  · cases h; simp
theorem nz_nil {F : List Int} : (F.map Dat.int).filterMap nzD = [] ↔ ∀ i, i < F.length → co F i = 0 := by
  rw [List.filterMap_eq_nil_iff]
  constructor
  · intro h i hi
    have := h (.int F[i]) (List.mem_map.2 ⟨_, List.getElem_mem hi, rfl⟩)
    rw [co_lt hi]
    by_cases h2 : F[i] = 0
    · exact h2
    · simp [nzD, h2] at this
  · intro h d hd
    obtain ⟨x, hx, rfl⟩ := List.mem_map.1 hd
    obtain ⟨i, hi, rfl⟩ := List.getElem_of_mem hx
    have := h i hi
    rw [co_lt hi] at this
    simp [nzD, this]
theorem okD_nz {F : List Int} {n : Nat} : okD (n + 1) (.lst ((F.map Dat.int).filterMap nzD)) = true := by
  rw [okD_lst, List.all_eq_true]
  intro d hd
  obtain ⟨x, hx, h⟩ := List.mem_filterMap.1 hd
  obtain ⟨y, hy, rfl⟩ := List.mem_map.1 hx
  simp only [nzD] at h
  split at h
  · cases h
  · cases h; simp
def sp__law_line_over : DSp := fun ds P _ => ∃ (a b : List Int), ds = [lD a, lD b] ∧ (a ≠ [] ∧ b ≠ [] ∧ a.length ≤ 1000 ∧ b.length ≤ 1000 ∧ LB (2 ^ 64 - 1) b ∧ led b ≠ 0) ∧ P (optD (divL a b))
instance : ISp sp__law_line_over := ⟨fun _ _ _ _ hM ⟨a, b, e, c, q⟩ => ⟨a, b, e, c, hM _ q⟩⟩
theorem e__law_line_over {a b : List Int} {P : Dat → Prop} {ex : XP} : sp__law_line_over [lD a, lD b] P ex ↔ (a ≠ [] ∧ b ≠ [] ∧ a.length ≤ 1000 ∧ b.length ≤ 1000 ∧ LB (2 ^ 64 - 1) b ∧ led b ≠ 0) ∧ P (optD (divL a b)) := ⟨fun ⟨_, _, e, hE⟩ => by (simp [rat_inj, ints_inj, Int.natCast_inj] at e); (obtain ⟨rfl, rfl⟩ := e); exact hE, fun hE => ⟨_, _, rfl, hE⟩⟩
/-- 0 _law_one 1 _law_other 2 _law_left 3 _law_found 4 _law_many 5 _law_at 6 _law_place 7 _law_number -/
def w__law_line_over_r5 : WS :=
    (wRet (wE (wCB gTuple (aoCons (oSlot 3) aoNil))))
def w__law_line_over_r4 : WS :=
    wSeq (wWhile (tAnd (tBlV (wOp2 gGt (oVal (wE (wCB gLen (aoCons (oSlot 3) aoNil)))) (oVal (wC (.int 1))))) (tBlV (wOp2 gEq (oVal (wE (wOp2 gIx (oSlot 3) (oVal (wE (wOp1 gNeg (oVal (wC (.int 1))))))))) (oVal (wC (.int 0)))))) (wExpr (wPop 3))) w__law_line_over_r5
def w__law_line_over_r3 : WS :=
    wSeq (wAsg 3 (wIteJ (tBlV (wOp2 gNe (oSlot 3) (oVal (wE (wLst aNil))))) (wRevS (oSlot 3)) (wLst (aCons (wC (.int 0)) aNil)))) w__law_line_over_r4
def w__law_line_over_r2 : WS :=
    wSeq (wIf (tBlV (wOp2 gNe (oVal (wE (wComp (iSeq (wVar 2)) (.one 7) [7] (tBlV (wOp2 gNe (oSlot 7) (oVal (wC (.int 0))))) (wVar 7)))) (oVal (wE (wLst aNil))))) (wRet (wC .non)) wNext) w__law_line_over_r3
def w__law_line_over_r1 : WS :=
    wSeq (wWhile (tBlV (wOp2 gGe (oVal (wE (wCB gLen (aoCons (oSlot 2) aoNil)))) (oVal (wE (wCB gLen (aoCons (oSlot 1) aoNil)))))) (wSeq (wAsg 4 (wOp2 gDiv (oVal (wE (wOp2 gIx (oSlot 2) (oVal (wE (wOp1 gNeg (oVal (wC (.int 1))))))))) (oVal (wE (wOp2 gIx (oSlot 1) (oVal (wE (wOp1 gNeg (oVal (wC (.int 1)))))))))))
    (wSeq (wIf (tBlV (wOp2 gNe (oVal (wE (wOp2 gMul (oSlot 4) (oVal (wE (wOp2 gIx (oSlot 1) (oVal (wE (wOp1 gNeg (oVal (wC (.int 1)))))))))))) (oVal (wE (wOp2 gIx (oSlot 2) (oVal (wE (wOp1 gNeg (oVal (wC (.int 1))))))))))) (wRet (wC .non)) wNext)
    (wSeq (wAsg 5 (wOp2 gSubA (oVal (wE (wCB gLen (aoCons (oSlot 2) aoNil)))) (oVal (wE (wCB gLen (aoCons (oSlot 1) aoNil))))))
    (wSeq (wFor (iEnumD (wVar 1)) (wgTup 2 (wgCons (wgN 6) (wgCons (wgN 7) wgNil))) (wAsgG (wE (wOp2 gSubA (oVal (wE (wOp2 gIx (oSlot 2) (oVal (wE (wOp2 gAdd (oSlot 5) (oSlot 6))))))) (oVal (wE (wOp2 gMul (oSlot 4) (oSlot 7)))))) (wgSub 2 (oVal (wE (wOp2 gAdd (oSlot 5) (oSlot 6)))))))
    (wSeq (wExpr (wPop 2))
    (wExpr (wAppend 3 (wVar 4))))))))) w__law_line_over_r2
def w__law_line_over : WS :=
    wSeq (wSets [2, 3] (ajCons (wCB gList (aoCons (oSlot 0) aoNil)) (ajCons (wLst aNil) ajNil))) w__law_line_over_r1
theorem k__law_line_over : Keeps 8 2 w__law_line_over sp__law_line_over := by
  rintro _ P ex0 ⟨a, b, rfl, hc, q⟩
  refine ⟨rfl, ?_⟩
  generalize (fun (x : XD) (_ : Dl) => ex0 x) = ex
  obtain ⟨ha, hb, la, lb, sb, hd⟩ := hc
  have pa := List.length_pos_iff.2 ha
  have pb := List.length_pos_iff.2 hb
  have sm : ∀ i (x : Int), MulOk x (co b i) := fun i x => mulR (by have := sb i; omega)
  have dm : ∀ x, CDivM x (led b) := fun x => by
    have h5 : (led b).natAbs ≤ 2 ^ 64 - 1 := sb _
    exact div_ok hd (by omega) (by omega)
  generalize hK : a.length + 1 - b.length = K
  simp only [w__law_line_over]
  simp [↓r_get2, ↓r_get1, ↓r_getE, ↓r_val, ↓r_slot, ↓r_sfz, ↓r_sow, ↓r_all, ↓r_all0, ↓r_all1, ↓r_bl, ↓r_fbl, ↓r_int, ↓r_cons, ↓r_tupE, ↓r_dKE, ↓r_seqL, ↓r_seqT, ↓r_sets0, ↓r_setsF, ↓r_setsO, ↓r_nun, ↓r_nuo, ↓r_add, ↓r_addl, ↓r_addt, ↓r_addb, ↓r_sub, ↓r_subb, ↓r_mul, ↓r_div, ↓r_mod, ↓r_pow, ↓r_cmp, ↓r_i0, ↓r_neg, ↓r_eq, ↓r_ne, ↓r_i1, ↓r_i2, ↓r_max, ↓r_min, ↓r_toI, ↓r_toIb, ↓r_lenL, ↓r_lenT, ↓r_lenS, ↓r_reprI, ↓r_reprB, ↓r_ixT, ↓r_ixL, ↓r_at0, ↓r_at1, ↓r_at2, ↓r_mull, ↓r_mult, ↓r_listL, ↓r_listT, ↓r_tupL, ↓r_tupT, ↓r_dvm, ↓r_slL, ↓r_slT]
  simp only [w__law_line_over_r1]
  refine while_inv moT moS (fun δ => ∃ (m : Nat) (F qs : List Int) (u v w x : DV), δ = [.fz (lD a), .fz (lD b), .ow (.lst (F.map Dat.int)), .ow (.lst (qs.reverse.map Dat.int)), u, v, w, x] ∧ m + qs.length = K ∧ (1 ≤ m → F.length + 1 = m + b.length) ∧ (m = 0 → F.length < b.length) ∧ F.length ≤ a.length ∧ (∀ i, F.length ≤ i → co F i = 0) ∧ dvL b K (co a) = (dvL b m (co F)).map fun r => (r.1 ++ qs, r.2)) (fun δ => slL δ 2) ?_ ⟨K, a, [], .un, .un, .un, .un, rfl, rfl, by omega, by omega, by omega, fun i hi => co_ge hi, by simp⟩
  rintro δ ⟨m, F, qs, u, v, w, x, rfl, hm, h1, h0, hF, hz, hdv⟩
  by_cases hm0 : m = 0
  · subst hm0
    have hlt : ¬ (b.length : Int) ≤ (F.length : Int) := by have := h0 rfl; omega
    rw [dvL] at hdv
    have e8 : divL a b = if ∀ i, i < F.length → co F i = 0 then some (nrm (if qs = [] then [0] else qs)) else none := by
      have e9 : (∀ i, i < a.length → co F i = 0) ↔ ∀ i, i < F.length → co F i = 0 := ⟨fun h i hi => h i (by omega), fun h i _ => by
        by_cases hi : i < F.length
        · exact h i hi
        · exact hz i (by omega)⟩
      unfold divL; rw [hK, hdv]; simp [e9]
    simp [↓r_get2, ↓r_get1, ↓r_getE, ↓r_val, ↓r_slot, ↓r_sfz, ↓r_sow, ↓r_all, ↓r_all0, ↓r_all1, ↓r_bl, ↓r_fbl, ↓r_int, ↓r_cons, ↓r_tupE, ↓r_dKE, ↓r_seqL, ↓r_seqT, ↓r_sets0, ↓r_setsF, ↓r_setsO, ↓r_nun, ↓r_nuo, ↓r_add, ↓r_addl, ↓r_addt, ↓r_addb, ↓r_sub, ↓r_subb, ↓r_mul, ↓r_div, ↓r_mod, ↓r_pow, ↓r_cmp, ↓r_i0, ↓r_neg, ↓r_eq, ↓r_ne, ↓r_i1, ↓r_i2, ↓r_max, ↓r_min, ↓r_toI, ↓r_toIb, ↓r_lenL, ↓r_lenT, ↓r_lenS, ↓r_reprI, ↓r_reprB, ↓r_ixT, ↓r_ixL, ↓r_at0, ↓r_at1, ↓r_at2, ↓r_mull, ↓r_mult, ↓r_listL, ↓r_listT, ↓r_tupL, ↓r_tupT, ↓r_dvm, ↓r_slL, ↓r_slT, hlt, -List.map_reverse]
    simp only [w__law_line_over_r2]
    simp [↓r_get2, ↓r_get1, ↓r_getE, ↓r_val, ↓r_slot, ↓r_sfz, ↓r_sow, ↓r_all, ↓r_all0, ↓r_all1, ↓r_bl, ↓r_fbl, ↓r_int, ↓r_cons, ↓r_tupE, ↓r_dKE, ↓r_seqL, ↓r_seqT, ↓r_sets0, ↓r_setsF, ↓r_setsO, ↓r_nun, ↓r_nuo, ↓r_add, ↓r_addl, ↓r_addt, ↓r_addb, ↓r_sub, ↓r_subb, ↓r_mul, ↓r_div, ↓r_mod, ↓r_pow, ↓r_cmp, ↓r_i0, ↓r_neg, ↓r_eq, ↓r_ne, ↓r_i1, ↓r_i2, ↓r_max, ↓r_min, ↓r_toI, ↓r_toIb, ↓r_lenL, ↓r_lenT, ↓r_lenS, ↓r_reprI, ↓r_reprB, ↓r_ixT, ↓r_ixL, ↓r_at0, ↓r_at1, ↓r_at2, ↓r_mull, ↓r_mult, ↓r_listL, ↓r_listT, ↓r_tupL, ↓r_tupT, ↓r_dvm, ↓r_slL, ↓r_slT, -List.map_reverse]
    refine wCLoop_fm nzD moT moE _ (by simp; omega) ?_ ?_
    · intro d hd
      obtain ⟨y, hy, rfl⟩ := List.mem_map.1 hd
      by_cases hy0 : y = 0
      · subst hy0; simp [CT.bind, nzD, -List.map_reverse]
      · simp [CT.bind, nzD, hy0, -List.map_reverse]
    · rw [List.nil_append]
      by_cases hall : ∀ i, i < F.length → co F i = 0
      · rw [if_pos hall] at e8
        rw [nz_nil.2 hall]
        simp [↓r_get2, ↓r_get1, ↓r_getE, ↓r_val, ↓r_slot, ↓r_sfz, ↓r_sow, ↓r_all, ↓r_all0, ↓r_all1, ↓r_bl, ↓r_fbl, ↓r_int, ↓r_cons, ↓r_tupE, ↓r_dKE, ↓r_seqL, ↓r_seqT, ↓r_sets0, ↓r_setsF, ↓r_setsO, ↓r_nun, ↓r_nuo, ↓r_add, ↓r_addl, ↓r_addt, ↓r_addb, ↓r_sub, ↓r_subb, ↓r_mul, ↓r_div, ↓r_mod, ↓r_pow, ↓r_cmp, ↓r_i0, ↓r_neg, ↓r_eq, ↓r_ne, ↓r_i1, ↓r_i2, ↓r_max, ↓r_min, ↓r_toI, ↓r_toIb, ↓r_lenL, ↓r_lenT, ↓r_lenS, ↓r_reprI, ↓r_reprB, ↓r_ixT, ↓r_ixL, ↓r_at0, ↓r_at1, ↓r_at2, ↓r_mull, ↓r_mult, ↓r_listL, ↓r_listT, ↓r_tupL, ↓r_tupT, ↓r_dvm, ↓r_slL, ↓r_slT, -List.map_reverse]
        simp only [w__law_line_over_r3]
        have fin : ∀ (l : List Int) (X Y : DV), l ≠ [] → nrm l = nrm (if qs = [] then [0] else qs) → w__law_line_over_r4 ex { nx := fun x => P Dat.non, rt := P } [.fz (lD a), .fz (lD b), X, .ow (.lst (l.map Dat.int)), u, v, w, Y] := by
          intro l X Y hl e
          simp only [w__law_line_over_r4]
          refine pop_loop (i := 3) rfl hl ?_
          simp only [w__law_line_over_r5]
          simp [↓r_get2, ↓r_get1, ↓r_getE, ↓r_val, ↓r_slot, ↓r_sfz, ↓r_sow, ↓r_all, ↓r_all0, ↓r_all1, ↓r_bl, ↓r_fbl, ↓r_int, ↓r_cons, ↓r_tupE, ↓r_dKE, ↓r_seqL, ↓r_seqT, ↓r_sets0, ↓r_setsF, ↓r_setsO, ↓r_nun, ↓r_nuo, ↓r_add, ↓r_addl, ↓r_addt, ↓r_addb, ↓r_sub, ↓r_subb, ↓r_mul, ↓r_div, ↓r_mod, ↓r_pow, ↓r_cmp, ↓r_i0, ↓r_neg, ↓r_eq, ↓r_ne, ↓r_i1, ↓r_i2, ↓r_max, ↓r_min, ↓r_toI, ↓r_toIb, ↓r_lenL, ↓r_lenT, ↓r_lenS, ↓r_reprI, ↓r_reprB, ↓r_ixT, ↓r_ixL, ↓r_at0, ↓r_at1, ↓r_at2, ↓r_mull, ↓r_mult, ↓r_listL, ↓r_listT, ↓r_tupL, ↓r_tupT, ↓r_dvm, ↓r_slL, ↓r_slT]
          rw [e8] at q
          rw [e]; exact q
        by_cases hq : qs = []
        · subst hq
          simp [↓r_get2, ↓r_get1, ↓r_getE, ↓r_val, ↓r_slot, ↓r_sfz, ↓r_sow, ↓r_all, ↓r_all0, ↓r_all1, ↓r_bl, ↓r_fbl, ↓r_int, ↓r_cons, ↓r_tupE, ↓r_dKE, ↓r_seqL, ↓r_seqT, ↓r_sets0, ↓r_setsF, ↓r_setsO, ↓r_nun, ↓r_nuo, ↓r_add, ↓r_addl, ↓r_addt, ↓r_addb, ↓r_sub, ↓r_subb, ↓r_mul, ↓r_div, ↓r_mod, ↓r_pow, ↓r_cmp, ↓r_i0, ↓r_neg, ↓r_eq, ↓r_ne, ↓r_i1, ↓r_i2, ↓r_max, ↓r_min, ↓r_toI, ↓r_toIb, ↓r_lenL, ↓r_lenT, ↓r_lenS, ↓r_reprI, ↓r_reprB, ↓r_ixT, ↓r_ixL, ↓r_at0, ↓r_at1, ↓r_at2, ↓r_mull, ↓r_mult, ↓r_listL, ↓r_listT, ↓r_tupL, ↓r_tupT, ↓r_dvm, ↓r_slL, ↓r_slT]
          exact fin [0] _ _ (by simp) (by simp)
        · have e2 : ¬ List.map Dat.int qs.reverse = [] := by simp [hq]
          simp [↓r_get2, ↓r_get1, ↓r_getE, ↓r_val, ↓r_slot, ↓r_sfz, ↓r_sow, ↓r_all, ↓r_all0, ↓r_all1, ↓r_bl, ↓r_fbl, ↓r_int, ↓r_cons, ↓r_tupE, ↓r_dKE, ↓r_seqL, ↓r_seqT, ↓r_sets0, ↓r_setsF, ↓r_setsO, ↓r_nun, ↓r_nuo, ↓r_add, ↓r_addl, ↓r_addt, ↓r_addb, ↓r_sub, ↓r_subb, ↓r_mul, ↓r_div, ↓r_mod, ↓r_pow, ↓r_cmp, ↓r_i0, ↓r_neg, ↓r_eq, ↓r_ne, ↓r_i1, ↓r_i2, ↓r_max, ↓r_min, ↓r_toI, ↓r_toIb, ↓r_lenL, ↓r_lenT, ↓r_lenS, ↓r_reprI, ↓r_reprB, ↓r_ixT, ↓r_ixL, ↓r_at0, ↓r_at1, ↓r_at2, ↓r_mull, ↓r_mult, ↓r_listL, ↓r_listT, ↓r_tupL, ↓r_tupT, ↓r_dvm, ↓r_slL, ↓r_slT, ↓eqvD_nilL, e2, -List.map_reverse, -List.map_eq_nil_iff]
          rw [← List.map_reverse, List.reverse_reverse]
          exact fin qs _ _ hq (by rw [if_neg hq])
      · have hne : ¬ (F.map Dat.int).filterMap nzD = [] := fun h => hall (nz_nil.1 h)
        rw [if_neg hall] at e8
        rw [e8] at q
        simp [↓r_get2, ↓r_get1, ↓r_getE, ↓r_val, ↓r_slot, ↓r_sfz, ↓r_sow, ↓r_all, ↓r_all0, ↓r_all1, ↓r_bl, ↓r_fbl, ↓r_int, ↓r_cons, ↓r_tupE, ↓r_dKE, ↓r_seqL, ↓r_seqT, ↓r_sets0, ↓r_setsF, ↓r_setsO, ↓r_nun, ↓r_nuo, ↓r_add, ↓r_addl, ↓r_addt, ↓r_addb, ↓r_sub, ↓r_subb, ↓r_mul, ↓r_div, ↓r_mod, ↓r_pow, ↓r_cmp, ↓r_i0, ↓r_neg, ↓r_eq, ↓r_ne, ↓r_i1, ↓r_i2, ↓r_max, ↓r_min, ↓r_toI, ↓r_toIb, ↓r_lenL, ↓r_lenT, ↓r_lenS, ↓r_reprI, ↓r_reprB, ↓r_ixT, ↓r_ixL, ↓r_at0, ↓r_at1, ↓r_at2, ↓r_mull, ↓r_mult, ↓r_listL, ↓r_listT, ↓r_tupL, ↓r_tupT, ↓r_dvm, ↓r_slL, ↓r_slT, ↓eqvD_nilL, ↓okD_nz, hne, q, optD, -List.map_reverse, -List.filterMap_map]
        exact ⟨fun x a _ h => okD_nz1 h, by rw [eqvDs_nilR, decide_eq_false hne]; exact q⟩
  · obtain ⟨m, rfl⟩ := Nat.exists_eq_succ_of_ne_zero hm0
    have hge : (b.length : Int) ≤ (F.length : Int) := by have := h1 (by omega); omega
    have pF : F ≠ [] := by rw [← List.length_pos_iff]; omega
    have e4 := at_last pF
    have e5 := at_last hb
    have hlF : F.length - 1 = m + b.length - 1 := by omega
    rw [dvL] at hdv
    have ht : led F = co F (m + b.length - 1) := by rw [led, hlF]
    rw [← ht] at hdv
    simp [↓r_get2, ↓r_get1, ↓r_getE, ↓r_val, ↓r_slot, ↓r_sfz, ↓r_sow, ↓r_all, ↓r_all0, ↓r_all1, ↓r_bl, ↓r_fbl, ↓r_int, ↓r_cons, ↓r_tupE, ↓r_dKE, ↓r_seqL, ↓r_seqT, ↓r_sets0, ↓r_setsF, ↓r_setsO, ↓r_nun, ↓r_nuo, ↓r_add, ↓r_addl, ↓r_addt, ↓r_addb, ↓r_sub, ↓r_subb, ↓r_mul, ↓r_div, ↓r_mod, ↓r_pow, ↓r_cmp, ↓r_i0, ↓r_neg, ↓r_eq, ↓r_ne, ↓r_i1, ↓r_i2, ↓r_max, ↓r_min, ↓r_toI, ↓r_toIb, ↓r_lenL, ↓r_lenT, ↓r_lenS, ↓r_reprI, ↓r_reprB, ↓r_ixT, ↓r_ixL, ↓r_at0, ↓r_at1, ↓r_at2, ↓r_mull, ↓r_mult, ↓r_listL, ↓r_listT, ↓r_tupL, ↓r_tupT, ↓r_dvm, ↓r_slL, ↓r_slT, hge, e4, e5, dm, -List.map_reverse]
    refine ⟨sm _ _, ?_⟩
    by_cases hc : pyDiv (led F) (led b) * led b = led F
    · rw [if_pos hc] at hdv
      rw [if_pos hc]
      generalize pyDiv (led F) (led b) = tp at *
      have e6 : (F.length : Int) - (b.length : Int) = (m : Int) := by have := h1 (by omega); omega
      rw [e6]
      refine for_inv moG moS (fun p δ => ∃ (G : List Int) (x z : DV), δ = [.fz (lD a), .fz (lD b), .ow (.lst (G.map Dat.int)), .ow (.lst (qs.reverse.map Dat.int)), .fz (.int tp), .fz (.int m), x, z] ∧ G.length = F.length ∧ ∀ k, co G k = co F k - if m ≤ k ∧ k < m + p then tp * co b (k - m) else 0) ?_ ?_ ⟨F, w, x, rfl, rfl, fun k => by rw [if_neg (by omega)]; simp⟩
      · rintro p d δ hp ⟨G, x, z, rfl, hG, hk2⟩
        obtain ⟨h2, rfl⟩ := enum_at hp
        have h3 := h1 (by omega)
        have e2 : ixN G.length ((m : Int) + (p : Int)) = some (m + p) := ixN_nat (n := G.length) (k := m + p) (by omega)
        have e3 : atI (G.map Dat.int) ((m : Int) + (p : Int)) = some (.int (co G (m + p))) := at_co (l := G) (k := m + p) (by omega)
        simp [↓r_get2, ↓r_get1, ↓r_getE, ↓r_val, ↓r_slot, ↓r_sfz, ↓r_sow, ↓r_all, ↓r_all0, ↓r_all1, ↓r_bl, ↓r_fbl, ↓r_int, ↓r_cons, ↓r_tupE, ↓r_dKE, ↓r_seqL, ↓r_seqT, ↓r_sets0, ↓r_setsF, ↓r_setsO, ↓r_nun, ↓r_nuo, ↓r_add, ↓r_addl, ↓r_addt, ↓r_addb, ↓r_sub, ↓r_subb, ↓r_mul, ↓r_div, ↓r_mod, ↓r_pow, ↓r_cmp, ↓r_i0, ↓r_neg, ↓r_eq, ↓r_ne, ↓r_i1, ↓r_i2, ↓r_max, ↓r_min, ↓r_toI, ↓r_toIb, ↓r_lenL, ↓r_lenT, ↓r_lenS, ↓r_reprI, ↓r_reprB, ↓r_ixT, ↓r_ixL, ↓r_at0, ↓r_at1, ↓r_at2, ↓r_mull, ↓r_mult, ↓r_listL, ↓r_listT, ↓r_tupL, ↓r_tupT, ↓r_dvm, ↓r_slL, ↓r_slT, sm, e3, e2, ← List.map_set, -List.map_reverse]
        refine ⟨_, rfl, by simpa using hG, fun k => ?_⟩
        rw [co_set (by omega)]
        by_cases hk3 : k = m + p
        · subst hk3
          rw [if_pos rfl, if_pos (by omega), hk2, if_neg (by omega), show m + p - m = p by omega]; simp
        · rw [if_neg hk3, hk2]
          congr 1
          by_cases h5 : m ≤ k ∧ k < m + p
          · rw [if_pos h5, if_pos (by omega)]
          · rw [if_neg h5, if_neg (by omega)]
      · rintro δ ⟨G, x, z, rfl, hG, hk2⟩
        have h3 := h1 (by omega)
        have e : (fun i => co F i - tp * shf b m i) = co G := funext fun k => by
          rw [hk2, enumD_len, List.length_map, shf_eq]
        rw [e] at hdv
        rcases snoc_cases G with rfl | ⟨H, c, rfl⟩
        · simp at hG; omega
        · have hc0 : c = 0 := by
            have := hk2 H.length
            rw [co_app] at this
            simp at this hG
            rw [this, enumD_len, List.length_map, shf_eq]
            have e7 : H.length = m + b.length - 1 := by omega
            unfold shf
            rw [if_pos (by omega), e7, ← ht, show m + b.length - 1 - m = b.length - 1 by omega, hc]; omega
          subst hc0
          have e8 : co (H ++ [0]) = co H := funext fun k => by
            rw [co_app]
            split
            · rfl
            · rename_i hh; rw [co_ge (l := H) (by omega)]; cases k - H.length <;> simp
          rw [e8] at hdv
          simp at hG
          simp [slL, -List.map_reverse]
          refine ⟨by omega, ⟨m, H, tp :: qs, ⟨rfl, by simp⟩, by simp; omega, by omega, by omega, by omega, fun i hi => co_ge hi, ?_⟩, by omega⟩
          rw [hdv]
          simp [Function.comp_def]
    · rw [if_neg hc] at hdv
      rw [if_neg hc]
      have e8 : divL a b = none := by
        unfold divL; rw [hK, hdv]; rfl
      rw [e8] at q
      exact q
/-! ### the law's fractions and draws -/
theorem limQ {n : Nat} (hn : n ≤ 1900) {i : Int} (h : i.natAbs ≤ 10 ^ n) : -LIM < i ∧ i < LIM := by
  have h1 : i.natAbs ≤ 10 ^ 1900 := bdUp hn h
  have h2 : (10 : Nat) ^ 1900 < 10 ^ 2000 := by decide +kernel
  have h3 : LIM = ((10 ^ 2000 : Nat) : Int) := by unfold LIM; decide +kernel
  rw [h3]
  generalize (10 : Nat) ^ 2000 = A at *
  generalize (10 : Nat) ^ 1900 = B at *
  omega
theorem mulQ {m n : Nat} (hm : m ≤ 1900) (hn : n ≤ 1900) {i j : Int} (h : i.natAbs ≤ 10 ^ m) (h2 : j.natAbs ≤ 10 ^ n) : MulOk i j := mulB (limQ hm h) (limQ hn h2)
theorem divQ {n : Nat} (hn : n ≤ 1900) {i j : Int} (h0 : j ≠ 0) (h : j.natAbs ≤ 10 ^ n) : CDivM i j := ⟨h0, limQ hn h⟩
theorem pyGcd_nn {a b : Int} : 0 ≤ pyGcd a b := by rw [pyGcd_eq]; omega
theorem pyGcd_step {x y : Int} (hx : 0 ≤ x) : pyGcd y (x % y) = pyGcd x y := by
  unfold pyGcd
  congr 1
  have e : (x % y).natAbs = x.natAbs % y.natAbs := Int.natAbs_emod_of_nonneg hx y
  rw [e, Nat.gcd_comm y.natAbs, ← Nat.gcd_rec, Nat.gcd_comm]
def sp__law_common : DSp := fun ds P _ => ∃ (ns : List Int), ds = [.lst (ns.map Dat.int)] ∧ P (.int (ns.foldl pyGcd 0))
instance : ISp sp__law_common := ⟨fun _ _ _ _ hM ⟨ns, e, q⟩ => ⟨ns, e, hM _ q⟩⟩
theorem e__law_common {ns : List Int} {P : Dat → Prop} {ex : XP} : sp__law_common [.lst (ns.map Dat.int)] P ex ↔ P (.int (ns.foldl pyGcd 0)) := ⟨fun ⟨_, e, hE⟩ => by (simp [rat_inj, ints_inj, Int.natCast_inj] at e); (obtain rfl := e); exact hE, fun hE => ⟨_, rfl, hE⟩⟩
/-- 0 _law_numbers 1 _law_found 2 _law_number 3 _law_one 4 _law_other -/
def w__law_common : WS :=
    (wSeq (wAsg 1 (wJ (wC (.int 0))))
    (wSeq (wFor (iSeq (wVar 0)) (wgN 2) (wSeq (wSets [3, 4] (ajCons (wJ (wVar 1)) (ajCons (wCB gAbs (aoCons (oSlot 2) aoNil)) ajNil)))
    (wSeq (wWhile (tBlV (wOp2 gNe (oSlot 4) (oVal (wC (.int 0))))) (wSets [3, 4] (ajCons (wJ (wVar 4)) (ajCons (wOp2 gMod (oVal (wE (wCB gInt (aoCons (oSlot 3) aoNil)))) (oSlot 4)) ajNil))))
    (wAsg 1 (wJ (wVar 3))))))
    (wRet (wVar 1))))
theorem k__law_common : Keeps 5 1 w__law_common sp__law_common := by
  rintro _ P ex0 ⟨ns, rfl, q⟩
  refine ⟨rfl, ?_⟩
  generalize (fun (x : XD) (_ : Dl) => ex0 x) = ex
  simp only [w__law_common]
  simp [↓r_get2, ↓r_get1, ↓r_getE, ↓r_val, ↓r_slot, ↓r_sfz, ↓r_sow, ↓r_all, ↓r_all0, ↓r_all1, ↓r_bl, ↓r_fbl, ↓r_int, ↓r_cons, ↓r_tupE, ↓r_dKE, ↓r_seqL, ↓r_seqT, ↓r_sets0, ↓r_setsF, ↓r_setsO, ↓r_nun, ↓r_nuo, ↓r_add, ↓r_addl, ↓r_addt, ↓r_addb, ↓r_sub, ↓r_subb, ↓r_mul, ↓r_div, ↓r_mod, ↓r_pow, ↓r_cmp, ↓r_i0, ↓r_neg, ↓r_eq, ↓r_ne, ↓r_i1, ↓r_i2, ↓r_max, ↓r_min, ↓r_toI, ↓r_toIb, ↓r_lenL, ↓r_lenT, ↓r_lenS, ↓r_reprI, ↓r_reprB, ↓r_ixT, ↓r_ixL, ↓r_at0, ↓r_at1, ↓r_at2, ↓r_mull, ↓r_mult, ↓r_listL, ↓r_listT, ↓r_tupL, ↓r_tupT, ↓r_dvm, ↓r_slL, ↓r_slT]
  refine for_inv moG moS (fun i δ => ∃ u v w, δ = [.fz (.lst (ns.map Dat.int)), .fz (.int ((ns.take i).foldl pyGcd 0)), u, v, w] ∧ 0 ≤ (ns.take i).foldl pyGcd 0) ?_ ?_ ⟨_, _, _, rfl, by simp⟩
  · rintro i d δ hi ⟨u, v, w, rfl, h0⟩
    have h1 : i < ns.length := by
      have := (List.getElem?_eq_some_iff.1 hi).1
      simpa using this
    have e1 : d = .int ns[i] := by
      rw [List.getElem?_map, List.getElem?_eq_getElem h1] at hi
      simpa using hi.symm
    subst e1
    have e2 : (ns.take (i + 1)).foldl pyGcd 0 = pyGcd ((ns.take i).foldl pyGcd 0) ns[i] := by
      rw [← List.take_append_getElem h1, List.foldl_append]; rfl
    rw [e2]
    generalize (ns.take i).foldl pyGcd 0 = f at *
    generalize ns[i] = n at *
    simp [↓r_get2, ↓r_get1, ↓r_getE, ↓r_val, ↓r_slot, ↓r_sfz, ↓r_sow, ↓r_all, ↓r_all0, ↓r_all1, ↓r_bl, ↓r_fbl, ↓r_int, ↓r_cons, ↓r_tupE, ↓r_dKE, ↓r_seqL, ↓r_seqT, ↓r_sets0, ↓r_setsF, ↓r_setsO, ↓r_nun, ↓r_nuo, ↓r_add, ↓r_addl, ↓r_addt, ↓r_addb, ↓r_sub, ↓r_subb, ↓r_mul, ↓r_div, ↓r_mod, ↓r_pow, ↓r_cmp, ↓r_i0, ↓r_neg, ↓r_eq, ↓r_ne, ↓r_i1, ↓r_i2, ↓r_max, ↓r_min, ↓r_toI, ↓r_toIb, ↓r_lenL, ↓r_lenT, ↓r_lenS, ↓r_reprI, ↓r_reprB, ↓r_ixT, ↓r_ixL, ↓r_at0, ↓r_at1, ↓r_at2, ↓r_mull, ↓r_mult, ↓r_listL, ↓r_listT, ↓r_tupL, ↓r_tupT, ↓r_dvm, ↓r_slL, ↓r_slT]
    refine while_inv moT moS (fun δ => ∃ x y : Int, δ = [.fz (.lst (ns.map Dat.int)), .fz (.int f), .fz (.int n), .fz (.int x), .fz (.int y)] ∧ 0 ≤ x ∧ 0 ≤ y ∧ pyGcd x y = pyGcd f n) (fun δ => (slI δ 4).natAbs) ?_ ⟨_, _, rfl, h0, by rw [pyAbs_eq]; omega, by rw [pyAbs_eq]; unfold pyGcd; simp⟩
    rintro δ ⟨x, y, rfl, hx, hy, hg⟩
    by_cases h : 0 < y
    · have h1 : y ≠ 0 := by omega
      have h2 := Int.emod_nonneg x h1
      have h3 := Int.emod_lt_of_pos x h
      simp [h, h1, pyMod_pos h, slI]
      exact ⟨⟨_, _, ⟨rfl, rfl⟩, hy, h2, (pyGcd_step hx).trans hg⟩, by omega⟩
    · have h1 : y = 0 := by omega
      subst h1
      have h2 : pyGcd x 0 = x := by unfold pyGcd; simp; omega
      rw [h2] at hg
      subst hg
      simp
      exact hx
  · rintro δ ⟨u, v, w, rfl, h0⟩
    rw [List.length_map, List.take_length]
    simp
    exact q
/-! ### division, the plain law -/
theorem co_pmul_congr {q q' : List Int} (h : ∀ i, co q i = co q' i) : ∀ {b : List Int} {i : Nat}, co (pmul q b) i = co (pmul q' b) i := by
  have key : ∀ {b : List Int} {i : Nat}, co (pmul b q) i = co (pmul b q') i := by
    intro b
    induction b with
    | nil => intro i; rfl
    | cons c b ih =>
      intro i
      cases i with
      | zero => rw [co_pmul0, co_pmul0, h]
      | succ i => rw [co_pmulS, co_pmulS, h, ih]
  intro b i
  rw [co_pmul_comm, key, co_pmul_comm]
theorem co_pmul_congr2 {b b' : List Int} (h : ∀ i, co b i = co b' i) {q : List Int} {i : Nat} : co (pmul q b) i = co (pmul q b') i := by
  rw [co_pmul_comm, co_pmul_congr h, co_pmul_comm]
theorem co_pmul_add : ∀ {c a b : List Int} {i : Nat}, co (pmul c (padd a b)) i = co (pmul c a) i + co (pmul c b) i
  | [], _, _, _ => rfl
  | x :: c, a, b, 0 => by rw [co_pmul0, co_pmul0, co_pmul0, co_padd, Int.mul_add]
  | x :: c, a, b, i + 1 => by rw [co_pmulS, co_pmulS, co_pmulS, co_padd, co_pmul_add, Int.mul_add]; omega
theorem co_pmul_sm : ∀ {c b : List Int} {k : Int} {i : Nat}, co (pmul c (b.map (k * ·))) i = k * co (pmul c b) i
  | [], _, _, _ => by simp [pmul]
  | x :: c, b, k, 0 => by rw [co_pmul0, co_pmul0, co_psm, Int.mul_left_comm]
  | x :: c, b, k, i + 1 => by rw [co_pmulS, co_pmulS, co_psm, co_pmul_sm, Int.mul_add, Int.mul_left_comm]
theorem co_pmul_sh {c b : List Int} {i : Nat} : co (pmul c (0 :: b)) i = co (0 :: pmul c b) i := by
  rw [co_pmul_comm]
  cases i with
  | zero => rw [co_pmul0]; simp
  | succ i => rw [co_pmulS, co_pmul_comm]; simp
theorem co_pmul_assoc {c : List Int} : ∀ {a b : List Int} {i : Nat}, co (pmul (pmul a b) c) i = co (pmul a (pmul b c)) i
  | [], _, _ => rfl
  | x :: a, b, i => by
    have ih := fun i => co_pmul_assoc (c := c) (a := a) (b := b) (i := i)
    have e1 : co (pmul (pmul (x :: a) b) c) i = co (pmul c (padd (b.map (x * ·)) (0 :: pmul a b))) i := by rw [co_pmul_comm]; rfl
    rw [e1, co_pmul_add, co_pmul_sm, co_pmul_sh]
    cases i with
    | zero => rw [co_pmul0, co_pmul_comm]; simp
    | succ i =>
      rw [co_pmulS, co_consS, co_pmul_comm, co_pmul_comm (a := c), ih]
theorem led_pmul {q b : List Int} (hq : q ≠ []) (hb : b ≠ []) : co (pmul q b) (q.length + b.length - 2) = led q * led b := by
  rcases snoc_cases q with rfl | ⟨u, c, rfl⟩
  · exact absurd rfl hq
  · have pb := List.length_pos_iff.2 hb
    have hl : led (u ++ [c]) = c := by rw [led, co_app]; simp
    rw [hl, co_pmul_snoc]
    have e : (u ++ [c]).length + b.length - 2 = u.length + (b.length - 1) := by simp; omega
    rw [e, if_pos (by omega), Nat.add_sub_cancel_left]
    have h0 : co (pmul u b) (u.length + (b.length - 1)) = 0 := by
      by_cases hu : u = []
      · subst hu; rfl
      · exact co_ge (by rw [len_pmul hu hb]; omega)
    rw [h0, Int.zero_add]
theorem lineMul_eq {q b : List Int} (hq : q ≠ []) (hb : b ≠ []) (h1 : led q ≠ 0) (h2 : led b ≠ 0) : lineMul q b = pmul q b ∧ Can (pmul q b) ∧ led (pmul q b) ≠ 0 := by
  have hl := len_pmul hq hb
  have pq := List.length_pos_iff.2 hq
  have pb := List.length_pos_iff.2 hb
  have h3 : led (pmul q b) ≠ 0 := by
    have := led_pmul hq hb
    rw [led, hl, show q.length + b.length - 1 - 1 = q.length + b.length - 2 by omega, this]
    exact Int.mul_ne_zero h1 h2
  have h4 : Can (pmul q b) := Can.of (pmul_ne hq hb) (.inr h3)
  exact ⟨h4.2, h4, h3⟩
theorem dvL_congr {b : List Int} {k : Nat} {f f' : Nat → Int} (h : ∀ i, f i = f' i) : dvL b k f = dvL b k f' := by rw [funext h]
theorem pyDiv_mul {c l : Int} (h : l ≠ 0) : pyDiv (c * l) l = c := by rw [pyDiv_eq]; exact Int.mul_fdiv_cancel _ h
theorem dvL_mul {b : List Int} (hb : b ≠ []) (hd : led b ≠ 0) : ∀ q : List Int, dvL b q.length (co (pmul q b)) = some (q, fun _ => 0) := by
  have pb := List.length_pos_iff.2 hb
  refine snoc_ind ?_ ?_
  · show some _ = some _
    congr 1
  · intro u c ih
    rw [List.length_append, List.length_singleton, dvL]
    have ht : co (pmul (u ++ [c]) b) (u.length + b.length - 1) = c * led b := by
      have := led_pmul (q := u ++ [c]) (b := b) (by simp) hb
      have hl : led (u ++ [c]) = c := by rw [led, co_app]; simp
      rw [hl] at this
      rw [← this]; congr 1; simp; omega
    rw [ht, pyDiv_mul hd, if_pos rfl]
    have e : ∀ i, co (pmul (u ++ [c]) b) i - c * shf b u.length i = co (pmul u b) i := fun i => by
      rw [co_pmul_snoc]; unfold shf
      split <;> simp
    rw [dvL_congr e, ih]; rfl
theorem dvL_sound {b : List Int} : ∀ {k : Nat} {f : Nat → Int} {r : List Int × (Nat → Int)}, dvL b k f = some r → ∀ i, f i = co (pmul r.1 b) i + r.2 i
  | 0, f, r, h, i => by cases h; simp [pmul]
  | k + 1, f, r, h, i => by
    rw [dvL] at h
    split at h
    · obtain ⟨r', h1, rfl⟩ := Option.map_eq_some_iff.1 h
      have := dvL_sound h1 i
      simp only at this ⊢
      rw [co_pmul_snoc, dvL_len h1]
      unfold shf at this
      split at this
      · rename_i hh; rw [if_pos hh]; omega
      · rename_i hh; rw [if_neg hh]; simp at this; omega
    · cases h
theorem divL_mul {q b : List Int} (hq : Can q) (hb : b ≠ []) (h1 : led q ≠ 0) (h2 : led b ≠ 0) : divL (lineMul q b) b = some q := by
  have hl := len_pmul hq.1 hb
  have pq := hq.len
  have pb := List.length_pos_iff.2 hb
  rw [(lineMul_eq hq.1 hb h1 h2).1]
  unfold divL
  rw [hl, show q.length + b.length - 1 + 1 - b.length = q.length by omega, dvL_mul hb h2]
  simp [hq.1, hq.2]
theorem divL_sound {a b q : List Int} (ha : a ≠ []) (hb : b ≠ []) (h : divL a b = some q) : (∀ i, co (pmul q b) i = co a i) ∧ Can q ∧ q.length ≤ max 1 (a.length + 1 - b.length) := by
  have pa := List.length_pos_iff.2 ha
  have pb := List.length_pos_iff.2 hb
  unfold divL at h
  cases hd : dvL b (a.length + 1 - b.length) (co a) with
  | none => rw [hd] at h; cases h
  | some r =>
    rw [hd] at h
    simp only at h
    split at h
    · rename_i hz
      cases h
      have hl := dvL_len hd
      have hs := dvL_sound hd
      have e0 : ∀ i, co (if r.1 = [] then [0] else r.1) i = co r.1 i := fun i => by
        split
        · rename_i h; rw [h]; cases i <;> simp
        · rfl
      refine ⟨fun i => ?_, Can.nrm (by split <;> simp_all), ?_⟩
      · rw [co_pmul_congr (fun i => (co_nrm (l := if r.1 = [] then [0] else r.1)).trans (e0 i))]
        by_cases hi : i < a.length
        · rw [hs i, hz i hi]; simp
        · rw [co_ge (l := a) (by omega)]
          by_cases hr : r.1 = []
          · rw [hr]; rfl
          · have : r.1.length ≠ 0 := fun z => hr (List.length_eq_zero_iff.1 z)
            exact co_ge (by rw [len_pmul hr hb]; omega)
      · refine Nat.le_trans nrm_len ?_
        split
        · simp; omega
        · rw [hl]; omega
    · cases h
/-- the quotient of another polynomial than zero by one of a degree above 0 is shorter -/
theorem divL_lt {a b q : List Int} (ha : Can a) (h0 : a ≠ [0]) (hb : 2 ≤ b.length) (hd : led b ≠ 0) (h : divL a b = some q) : Can q ∧ q ≠ [0] ∧ q.length < a.length := by
  have hb' : b ≠ [] := by rintro rfl; simp at hb
  obtain ⟨h1, h2, h3⟩ := divL_sound ha.1 hb' h
  have hq0 : q ≠ [0] := by
    rintro rfl
    refine h0 (ha.ext ⟨by simp, rfl⟩ fun i => ?_)
    rw [← h1 i]
    cases i with
    | zero => rw [co_pmul0]; simp
    | succ i => rw [co_pmulS]; simp [pmul]
  refine ⟨h2, hq0, ?_⟩
  have := ha.len
  by_cases hl : 2 ≤ a.length
  · omega
  · exfalso
    have hl1 : a.length = 1 := by omega
    have hq1 := h2.len
    have e1 : q.length = 1 := by omega
    have := led_pmul h2.1 hb'
    rw [h1, co_ge (by omega)] at this
    exact (Int.mul_ne_zero (led_ne h2 hq0) hd) this.symm
/-- a longer one divides no shorter one but zero -/
theorem divL_short {a b : List Int} (ha : Can a) (h0 : a ≠ [0]) (hl : a.length < b.length) : divL a b = none := by
  unfold divL
  rw [show a.length + 1 - b.length = 0 by omega]
  simp only [dvL]
  rw [if_neg]
  intro h
  refine h0 (ha.ext ⟨by simp, rfl⟩ fun i => ?_)
  by_cases hi : i < a.length
  · rw [h i hi]; cases i <;> simp
  · rw [co_ge (by omega)]; cases i <;> simp
/-- how often, and what is left -/
def tdF : Nat → List Int → List Int → Nat × List Int
  | 0, a, _ => (0, a)
  | k + 1, a, b => match divL a b with
    | none => (0, a)
    | some q => ((tdF k q b).1 + 1, (tdF k q b).2)
theorem tdF_none {k : Nat} {a b : List Int} (h : divL a b = none) : tdF k a b = (0, a) := by
  cases k with
  | zero => rfl
  | succ k => rw [tdF, h]
theorem tdF_props {b : List Int} (hb : 2 ≤ b.length) (hd : led b ≠ 0) : ∀ {k : Nat} {a : List Int}, Can a → a ≠ [0] → Can (tdF k a b).2 ∧ (tdF k a b).2 ≠ [0] ∧ (tdF k a b).2.length ≤ a.length ∧ ∃ c : Int, (co b 0).natAbs = 1 → (co (tdF k a b).2 0).natAbs = (co a 0).natAbs
  | 0, a, ha, h0 => ⟨ha, h0, Nat.le_refl _, 0, fun _ => rfl⟩
  | k + 1, a, ha, h0 => by
    cases h : divL a b with
    | none => rw [tdF_none h]; exact ⟨ha, h0, Nat.le_refl _, 0, fun _ => rfl⟩
    | some q =>
      obtain ⟨h1, h2, h3⟩ := divL_lt ha h0 hb hd h
      obtain ⟨i1, i2, i3, c, i4⟩ := tdF_props hb hd (k := k) h1 h2
      have hb' : b ≠ [] := by rintro rfl; simp at hb
      rw [tdF, h]
      refine ⟨i1, i2, by simp only; omega, c, fun hc => ?_⟩
      have := (divL_sound ha.1 hb' h).1 0
      have e : co (pmul q b) 0 = co q 0 * co b 0 := by
        cases q with
        | nil => exact absurd rfl h1.1
        | cons x q => rw [co_pmul0]; simp
      rw [i4 hc, ← this, e, Int.natAbs_mul, hc, Nat.mul_one]
theorem tdF_fuel {b : List Int} (hb : 2 ≤ b.length) (hd : led b ≠ 0) : ∀ {k m : Nat} {a : List Int}, Can a → a ≠ [0] → a.length ≤ k → a.length ≤ m → tdF k a b = tdF m a b
  | 0, _, a, ha, _, h, _ => by have := ha.len; omega
  | _ + 1, 0, a, ha, _, _, h => by have := ha.len; omega
  | k + 1, m + 1, a, ha, h0, h1, h2 => by
    cases h : divL a b with
    | none => rw [tdF_none h, tdF_none h]
    | some q =>
      obtain ⟨g1, g2, g3⟩ := divL_lt ha h0 hb hd h
      rw [tdF, tdF, h]
      simp only
      rw [tdF_fuel hb hd (k := k) (m := m) g1 g2 (by omega) (by omega)]
def powm : Nat → List Int → List Int → List Int
  | 0, f, _ => f
  | e + 1, f, b => lineMul (powm e f b) b
theorem powm_props {b : List Int} (hb : b ≠ []) (hd : led b ≠ 0) : ∀ {e : Nat} {f : List Int}, Can f → led f ≠ 0 → Can (powm e f b) ∧ led (powm e f b) ≠ 0
  | 0, f, h, h1 => ⟨h, h1⟩
  | e + 1, f, h, h1 => by
    obtain ⟨i1, i2⟩ := powm_props hb hd (e := e) h h1
    have := lineMul_eq i1.1 hb i2 hd
    rw [powm, this.1]; exact this.2
theorem tdF_powm {b : List Int} (hb : b ≠ []) (hd : led b ≠ 0) {f : List Int} (hf : Can f) (h1 : led f ≠ 0) (hn : divL f b = none) : ∀ {e k : Nat}, e ≤ k → tdF k (powm e f b) b = (e, f)
  | 0, k, _ => tdF_none hn
  | e + 1, 0, h => by omega
  | e + 1, k + 1, h => by
    obtain ⟨i1, i2⟩ := powm_props hb hd (e := e) hf h1
    rw [tdF, powm, divL_mul i1 hb i2 hd]
    simp only
    rw [tdF_powm hb hd hf h1 hn (by omega)]
/-- the value at an integer -/
def evI : List Int → Int → Int
  | [], _ => 0
  | c :: l, x => c + x * evI l x
theorem evI_zero {x : Int} : ∀ {l : List Int}, (∀ i, co l i = 0) → evI l x = 0
  | [], _ => rfl
  | c :: l, h => by
    have h0 : c = 0 := by simpa using h 0
    rw [evI, evI_zero fun i => by simpa using h (i + 1), h0]; simp
theorem evI_ext {x : Int} : ∀ {a b : List Int}, (∀ i, co a i = co b i) → evI a x = evI b x
  | [], b, h => by rw [evI_zero fun i => (h i).symm]; rfl
  | a :: as, [], h => by rw [evI_zero h]; rfl
  | a :: as, b :: bs, h => by
    have h0 : a = b := by simpa using h 0
    rw [evI, evI, h0, evI_ext fun i => by simpa using h (i + 1)]
theorem evI_padd {x : Int} : ∀ {a b : List Int}, evI (padd a b) x = evI a x + evI b x
  | [], b => by simp [padd, evI]
  | a :: as, [] => by simp [padd, evI]
  | a :: as, b :: bs => by simp [padd, evI, evI_padd, Int.mul_add]; omega
theorem evI_psm {x c : Int} : ∀ {b : List Int}, evI (b.map (c * ·)) x = c * evI b x
  | [] => by simp [evI]
  | b :: bs => by simp [evI, evI_psm, Int.mul_add, Int.mul_left_comm]
theorem evI_pmul {x : Int} : ∀ {a b : List Int}, evI (pmul a b) x = evI a x * evI b x
  | [], b => by simp [pmul, evI]
  | a :: as, b => by
    rw [pmul, evI_padd, evI_psm, evI, evI, evI_pmul, Int.add_mul, Int.mul_assoc]; simp
theorem evI_mul {x : Int} {a b : List Int} : evI (lineMul a b) x = evI a x * evI b x := by rw [lineMul, evI_ext fun i => co_nrm, evI_pmul]
theorem evI_powm {x : Int} {b : List Int} : ∀ {e : Nat} {f : List Int}, evI (powm e f b) x = evI f x * evI b x ^ e
  | 0, f => by simp [powm]
  | e + 1, f => by rw [powm, evI_mul, evI_powm, Int.pow_succ, Int.mul_assoc]
/-- the sum of the absolute values -/
def l1 : List Int → Nat
  | [] => 0
  | c :: l => c.natAbs + l1 l
theorem co_l1 : ∀ {l : List Int} {i : Nat}, (co l i).natAbs ≤ l1 l
  | [], _ => by simp [l1]
  | c :: l, 0 => by simp [l1]
  | c :: l, i + 1 => by have := co_l1 (l := l) (i := i); simp [l1]; omega
theorem l1_padd : ∀ {a b : List Int}, l1 (padd a b) ≤ l1 a + l1 b
  | [], b => by simp [padd, l1]
  | a :: as, [] => by simp [padd, l1]
  | a :: as, b :: bs => by have := l1_padd (a := as) (b := bs); simp [padd, l1]; omega
theorem l1_psm {c : Int} : ∀ {b : List Int}, l1 (b.map (c * ·)) = c.natAbs * l1 b
  | [] => by simp [l1]
  | b :: bs => by simp [l1, l1_psm, Int.natAbs_mul, Nat.mul_add]
theorem l1_pmul : ∀ {a b : List Int}, l1 (pmul a b) ≤ l1 a * l1 b
  | [], b => by simp [pmul, l1]
  | a :: as, b => by
    have h1 := l1_padd (a := b.map (a * ·)) (b := 0 :: pmul as b)
    have h2 := l1_pmul (a := as) (b := b)
    rw [l1_psm] at h1
    have h3 : l1 (0 :: pmul as b) = l1 (pmul as b) := by simp [l1]
    rw [pmul, l1, Nat.add_mul]
    omega
theorem l1_app {a b : List Int} : l1 (a ++ b) = l1 a + l1 b := by
  induction a with
  | nil => simp [l1]
  | cons x a ih => simp [l1, ih]; omega
theorem l1_nrm {l : List Int} : l1 (nrm l) ≤ l1 l := by
  refine snoc_ind (P := fun l => l1 (nrm l) ≤ l1 l) (Nat.le_refl _) ?_ l
  intro k c ih
  by_cases hk : k = []
  · subst hk; exact Nat.le_refl _
  · by_cases hc : c = 0
    · subst hc; rw [nrm_snoc0 hk, l1_app]; omega
    · rw [nrm_snoc hc]; exact Nat.le_refl _
theorem l1_mul {a b : List Int} : l1 (lineMul a b) ≤ l1 a * l1 b := Nat.le_trans l1_nrm l1_pmul
theorem LB.l1 {l : List Int} {n : Nat} (h : l1 l ≤ n) : LB n l := fun i => Nat.le_trans co_l1 h
/-! ### cyclotomic polynomials: the table, and what is checked of it -/
/-! the cyclotomic polynomials up to 150, those of a degree to 40 -/
def ph1 : List Int := [-1, 1]
def ph2 : List Int := [1, 1]
def ph3 : List Int := [1, 1, 1]
def ph4 : List Int := [1, 0, 1]
def ph5 : List Int := [1, 1, 1, 1, 1]
def ph6 : List Int := [1, -1, 1]
def ph7 : List Int := [1, 1, 1, 1, 1, 1, 1]
def ph8 : List Int := [1, 0, 0, 0, 1]
def ph9 : List Int := [1, 0, 0, 1, 0, 0, 1]
def ph10 : List Int := [1, -1, 1, -1, 1]
def ph11 : List Int := [1, 1, 1, 1, 1, 1, 1, 1, 1, 1, 1]
def ph12 : List Int := [1, 0, -1, 0, 1]
def ph13 : List Int := [1, 1, 1, 1, 1, 1, 1, 1, 1, 1, 1, 1, 1]
def ph14 : List Int := [1, -1, 1, -1, 1, -1, 1]
def ph15 : List Int := [1, -1, 0, 1, -1, 1, 0, -1, 1]
def ph16 : List Int := [1, 0, 0, 0, 0, 0, 0, 0, 1]
def ph17 : List Int := [1, 1, 1, 1, 1, 1, 1, 1, 1, 1, 1, 1, 1, 1, 1, 1, 1]
def ph18 : List Int := [1, 0, 0, -1, 0, 0, 1]
def ph19 : List Int := [1, 1, 1, 1, 1, 1, 1, 1, 1, 1, 1, 1, 1, 1, 1, 1, 1, 1, 1]
def ph20 : List Int := [1, 0, -1, 0, 1, 0, -1, 0, 1]
def ph21 : List Int := [1, -1, 0, 1, -1, 0, 1, 0, -1, 1, 0, -1, 1]
def ph22 : List Int := [1, -1, 1, -1, 1, -1, 1, -1, 1, -1, 1]
def ph23 : List Int := [1, 1, 1, 1, 1, 1, 1, 1, 1, 1, 1, 1, 1, 1, 1, 1, 1, 1, 1, 1, 1, 1, 1]
def ph24 : List Int := [1, 0, 0, 0, -1, 0, 0, 0, 1]
def ph25 : List Int := [1, 0, 0, 0, 0, 1, 0, 0, 0, 0, 1, 0, 0, 0, 0, 1, 0, 0, 0, 0, 1]
def ph26 : List Int := [1, -1, 1, -1, 1, -1, 1, -1, 1, -1, 1, -1, 1]
def ph27 : List Int := [1, 0, 0, 0, 0, 0, 0, 0, 0, 1, 0, 0, 0, 0, 0, 0, 0, 0, 1]
def ph28 : List Int := [1, 0, -1, 0, 1, 0, -1, 0, 1, 0, -1, 0, 1]
def ph29 : List Int := [1, 1, 1, 1, 1, 1, 1, 1, 1, 1, 1, 1, 1, 1, 1, 1, 1, 1, 1, 1, 1, 1, 1, 1, 1, 1, 1, 1, 1]
def ph30 : List Int := [1, 1, 0, -1, -1, -1, 0, 1, 1]
def ph31 : List Int := [1, 1, 1, 1, 1, 1, 1, 1, 1, 1, 1, 1, 1, 1, 1, 1, 1, 1, 1, 1, 1, 1, 1, 1, 1, 1, 1, 1, 1, 1, 1]
def ph32 : List Int := [1, 0, 0, 0, 0, 0, 0, 0, 0, 0, 0, 0, 0, 0, 0, 0, 1]
def ph33 : List Int := [1, -1, 0, 1, -1, 0, 1, -1, 0, 1, -1, 1, 0, -1, 1, 0, -1, 1, 0, -1, 1]
def ph34 : List Int := [1, -1, 1, -1, 1, -1, 1, -1, 1, -1, 1, -1, 1, -1, 1, -1, 1]
def ph35 : List Int := [1, -1, 0, 0, 0, 1, -1, 1, -1, 0, 1, -1, 1, -1, 1, 0, -1, 1, -1, 1, 0, 0, 0, -1, 1]
def ph36 : List Int := [1, 0, 0, 0, 0, 0, -1, 0, 0, 0, 0, 0, 1]
def ph37 : List Int := [1, 1, 1, 1, 1, 1, 1, 1, 1, 1, 1, 1, 1, 1, 1, 1, 1, 1, 1, 1, 1, 1, 1, 1, 1, 1, 1, 1, 1, 1, 1, 1, 1, 1, 1, 1, 1]
def ph38 : List Int := [1, -1, 1, -1, 1, -1, 1, -1, 1, -1, 1, -1, 1, -1, 1, -1, 1, -1, 1]
def ph39 : List Int := [1, -1, 0, 1, -1, 0, 1, -1, 0, 1, -1, 0, 1, 0, -1, 1, 0, -1, 1, 0, -1, 1, 0, -1, 1]
def ph40 : List Int := [1, 0, 0, 0, -1, 0, 0, 0, 1, 0, 0, 0, -1, 0, 0, 0, 1]
def ph41 : List Int := [1, 1, 1, 1, 1, 1, 1, 1, 1, 1, 1, 1, 1, 1, 1, 1, 1, 1, 1, 1, 1, 1, 1, 1, 1, 1, 1, 1, 1, 1, 1, 1, 1, 1, 1, 1, 1, 1, 1, 1, 1]
def ph42 : List Int := [1, 1, 0, -1, -1, 0, 1, 0, -1, -1, 0, 1, 1]
def ph44 : List Int := [1, 0, -1, 0, 1, 0, -1, 0, 1, 0, -1, 0, 1, 0, -1, 0, 1, 0, -1, 0, 1]
def ph45 : List Int := [1, 0, 0, -1, 0, 0, 0, 0, 0, 1, 0, 0, -1, 0, 0, 1, 0, 0, 0, 0, 0, -1, 0, 0, 1]
def ph46 : List Int := [1, -1, 1, -1, 1, -1, 1, -1, 1, -1, 1, -1, 1, -1, 1, -1, 1, -1, 1, -1, 1, -1, 1]
def ph48 : List Int := [1, 0, 0, 0, 0, 0, 0, 0, -1, 0, 0, 0, 0, 0, 0, 0, 1]
def ph50 : List Int := [1, 0, 0, 0, 0, -1, 0, 0, 0, 0, 1, 0, 0, 0, 0, -1, 0, 0, 0, 0, 1]
def ph51 : List Int := [1, -1, 0, 1, -1, 0, 1, -1, 0, 1, -1, 0, 1, -1, 0, 1, -1, 1, 0, -1, 1, 0, -1, 1, 0, -1, 1, 0, -1, 1, 0, -1, 1]
def ph52 : List Int := [1, 0, -1, 0, 1, 0, -1, 0, 1, 0, -1, 0, 1, 0, -1, 0, 1, 0, -1, 0, 1, 0, -1, 0, 1]
def ph54 : List Int := [1, 0, 0, 0, 0, 0, 0, 0, 0, -1, 0, 0, 0, 0, 0, 0, 0, 0, 1]
def ph55 : List Int := [1, -1, 0, 0, 0, 1, -1, 0, 0, 0, 1, 0, -1, 0, 0, 1, 0, -1, 0, 0, 1, 0, 0, -1, 0, 1, 0, 0, -1, 0, 1, 0, 0, 0, -1, 1, 0, 0, 0, -1, 1]
def ph56 : List Int := [1, 0, 0, 0, -1, 0, 0, 0, 1, 0, 0, 0, -1, 0, 0, 0, 1, 0, 0, 0, -1, 0, 0, 0, 1]
def ph57 : List Int := [1, -1, 0, 1, -1, 0, 1, -1, 0, 1, -1, 0, 1, -1, 0, 1, -1, 0, 1, 0, -1, 1, 0, -1, 1, 0, -1, 1, 0, -1, 1, 0, -1, 1, 0, -1, 1]
def ph58 : List Int := [1, -1, 1, -1, 1, -1, 1, -1, 1, -1, 1, -1, 1, -1, 1, -1, 1, -1, 1, -1, 1, -1, 1, -1, 1, -1, 1, -1, 1]
def ph60 : List Int := [1, 0, 1, 0, 0, 0, -1, 0, -1, 0, -1, 0, 0, 0, 1, 0, 1]
def ph62 : List Int := [1, -1, 1, -1, 1, -1, 1, -1, 1, -1, 1, -1, 1, -1, 1, -1, 1, -1, 1, -1, 1, -1, 1, -1, 1, -1, 1, -1, 1, -1, 1]
def ph63 : List Int := [1, 0, 0, -1, 0, 0, 0, 0, 0, 1, 0, 0, -1, 0, 0, 0, 0, 0, 1, 0, 0, 0, 0, 0, -1, 0, 0, 1, 0, 0, 0, 0, 0, -1, 0, 0, 1]
def ph64 : List Int := [1, 0, 0, 0, 0, 0, 0, 0, 0, 0, 0, 0, 0, 0, 0, 0, 0, 0, 0, 0, 0, 0, 0, 0, 0, 0, 0, 0, 0, 0, 0, 0, 1]
def ph66 : List Int := [1, 1, 0, -1, -1, 0, 1, 1, 0, -1, -1, -1, 0, 1, 1, 0, -1, -1, 0, 1, 1]
def ph68 : List Int := [1, 0, -1, 0, 1, 0, -1, 0, 1, 0, -1, 0, 1, 0, -1, 0, 1, 0, -1, 0, 1, 0, -1, 0, 1, 0, -1, 0, 1, 0, -1, 0, 1]
def ph70 : List Int := [1, 1, 0, 0, 0, -1, -1, -1, -1, 0, 1, 1, 1, 1, 1, 0, -1, -1, -1, -1, 0, 0, 0, 1, 1]
def ph72 : List Int := [1, 0, 0, 0, 0, 0, 0, 0, 0, 0, 0, 0, -1, 0, 0, 0, 0, 0, 0, 0, 0, 0, 0, 0, 1]
def ph74 : List Int := [1, -1, 1, -1, 1, -1, 1, -1, 1, -1, 1, -1, 1, -1, 1, -1, 1, -1, 1, -1, 1, -1, 1, -1, 1, -1, 1, -1, 1, -1, 1, -1, 1, -1, 1, -1, 1]
def ph75 : List Int := [1, 0, 0, 0, 0, -1, 0, 0, 0, 0, 0, 0, 0, 0, 0, 1, 0, 0, 0, 0, -1, 0, 0, 0, 0, 1, 0, 0, 0, 0, 0, 0, 0, 0, 0, -1, 0, 0, 0, 0, 1]
def ph76 : List Int := [1, 0, -1, 0, 1, 0, -1, 0, 1, 0, -1, 0, 1, 0, -1, 0, 1, 0, -1, 0, 1, 0, -1, 0, 1, 0, -1, 0, 1, 0, -1, 0, 1, 0, -1, 0, 1]
def ph78 : List Int := [1, 1, 0, -1, -1, 0, 1, 1, 0, -1, -1, 0, 1, 0, -1, -1, 0, 1, 1, 0, -1, -1, 0, 1, 1]
def ph80 : List Int := [1, 0, 0, 0, 0, 0, 0, 0, -1, 0, 0, 0, 0, 0, 0, 0, 1, 0, 0, 0, 0, 0, 0, 0, -1, 0, 0, 0, 0, 0, 0, 0, 1]
def ph82 : List Int := [1, -1, 1, -1, 1, -1, 1, -1, 1, -1, 1, -1, 1, -1, 1, -1, 1, -1, 1, -1, 1, -1, 1, -1, 1, -1, 1, -1, 1, -1, 1, -1, 1, -1, 1, -1, 1, -1, 1, -1, 1]
def ph84 : List Int := [1, 0, 1, 0, 0, 0, -1, 0, -1, 0, 0, 0, 1, 0, 0, 0, -1, 0, -1, 0, 0, 0, 1, 0, 1]
def ph88 : List Int := [1, 0, 0, 0, -1, 0, 0, 0, 1, 0, 0, 0, -1, 0, 0, 0, 1, 0, 0, 0, -1, 0, 0, 0, 1, 0, 0, 0, -1, 0, 0, 0, 1, 0, 0, 0, -1, 0, 0, 0, 1]
def ph90 : List Int := [1, 0, 0, 1, 0, 0, 0, 0, 0, -1, 0, 0, -1, 0, 0, -1, 0, 0, 0, 0, 0, 1, 0, 0, 1]
def ph96 : List Int := [1, 0, 0, 0, 0, 0, 0, 0, 0, 0, 0, 0, 0, 0, 0, 0, -1, 0, 0, 0, 0, 0, 0, 0, 0, 0, 0, 0, 0, 0, 0, 0, 1]
def ph100 : List Int := [1, 0, 0, 0, 0, 0, 0, 0, 0, 0, -1, 0, 0, 0, 0, 0, 0, 0, 0, 0, 1, 0, 0, 0, 0, 0, 0, 0, 0, 0, -1, 0, 0, 0, 0, 0, 0, 0, 0, 0, 1]
def ph102 : List Int := [1, 1, 0, -1, -1, 0, 1, 1, 0, -1, -1, 0, 1, 1, 0, -1, -1, -1, 0, 1, 1, 0, -1, -1, 0, 1, 1, 0, -1, -1, 0, 1, 1]
def ph108 : List Int := [1, 0, 0, 0, 0, 0, 0, 0, 0, 0, 0, 0, 0, 0, 0, 0, 0, 0, -1, 0, 0, 0, 0, 0, 0, 0, 0, 0, 0, 0, 0, 0, 0, 0, 0, 0, 1]
def ph110 : List Int := [1, 1, 0, 0, 0, -1, -1, 0, 0, 0, 1, 0, -1, 0, 0, -1, 0, 1, 0, 0, 1, 0, 0, 1, 0, -1, 0, 0, -1, 0, 1, 0, 0, 0, -1, -1, 0, 0, 0, 1, 1]
def ph114 : List Int := [1, 1, 0, -1, -1, 0, 1, 1, 0, -1, -1, 0, 1, 1, 0, -1, -1, 0, 1, 0, -1, -1, 0, 1, 1, 0, -1, -1, 0, 1, 1, 0, -1, -1, 0, 1, 1]
def ph120 : List Int := [1, 0, 0, 0, 1, 0, 0, 0, 0, 0, 0, 0, -1, 0, 0, 0, -1, 0, 0, 0, -1, 0, 0, 0, 0, 0, 0, 0, 1, 0, 0, 0, 1]
def ph126 : List Int := [1, 0, 0, 1, 0, 0, 0, 0, 0, -1, 0, 0, -1, 0, 0, 0, 0, 0, 1, 0, 0, 0, 0, 0, -1, 0, 0, -1, 0, 0, 0, 0, 0, 1, 0, 0, 1]
def ph132 : List Int := [1, 0, 1, 0, 0, 0, -1, 0, -1, 0, 0, 0, 1, 0, 1, 0, 0, 0, -1, 0, -1, 0, -1, 0, 0, 0, 1, 0, 1, 0, 0, 0, -1, 0, -1, 0, 0, 0, 1, 0, 1]
def ph150 : List Int := [1, 0, 0, 0, 0, 1, 0, 0, 0, 0, 0, 0, 0, 0, 0, -1, 0, 0, 0, 0, -1, 0, 0, 0, 0, -1, 0, 0, 0, 0, 0, 0, 0, 0, 0, 1, 0, 0, 0, 0, 1]
def PHIt : List (List Int) := [[], ph1, ph2, ph3, ph4, ph5, ph6, ph7, ph8, ph9, ph10, ph11, ph12, ph13, ph14, ph15, ph16, ph17, ph18, ph19, ph20, ph21, ph22, ph23, ph24, ph25, ph26, ph27, ph28, ph29, ph30, ph31, ph32, ph33, ph34, ph35, ph36, ph37, ph38, ph39, ph40, ph41, ph42, [], ph44, ph45, ph46, [], ph48, [], ph50, ph51, ph52, [], ph54, ph55, ph56, ph57, ph58, [], ph60, [], ph62, ph63, ph64, [], ph66, [], ph68, [], ph70, [], ph72, [], ph74, ph75, ph76, [], ph78, [], ph80, [], ph82, [], ph84, [], [], [], ph88, [], ph90, [], [], [], [], [], ph96, [], [], [], ph100, [], ph102, [], [], [], [], [], ph108, [], ph110, [], [], [], ph114, [], [], [], [], [], ph120, [], [], [], [], [], ph126, [], [], [], [], [], ph132, [], [], [], [], [], [], [], [], [], [], [], [], [], [], [], [], [], ph150]
def PHI (n : Nat) : List Int := PHIt.getD n []
/-- how many units there are -/
def units (n : Nat) : List Nat := (List.range (n + 1)).filter fun k => decide (1 ≤ k) && Nat.gcd k n == 1
def phiN (n : Nat) : Nat := (units n).length
def inS (n : Nat) : Bool := decide (1 ≤ n) && decide (n ≤ 60) && decide (phiN n ≤ 18)
def SS : List Nat := (List.range 151).filter inS
def canB (l : List Int) : Bool := decide (2 ≤ l.length) && (led l == 1) && decide ((co l 0).natAbs = 1)
def propDivs (n : Nat) : List Nat := (List.range n).filter fun d => decide (1 ≤ d) && n % d == 0
/-- the divisors' product, the last one first -/
def rprod (f : List Int) (ds : List Nat) : List Int := ds.foldr (fun d acc => pmul acc (PHI d)) f
def xn1 (n : Nat) : List Int := -1 :: (List.replicate (n - 1) 0 ++ [1])
def stretch (l : List Int) (m : Nat) : List Int := (List.range ((l.length - 1) * m + 1)).map fun i => if i % m = 0 then co l (i / m) else 0
theorem phi_ok : (SS.all fun n => canB (PHI n) && decide ((PHI n).length = phiN n + 1) && decide (l1 (PHI n) ≤ 2 ^ phiN n)) = true := by decide +kernel
theorem phi_far : ((List.range 151).all fun n => decide (n = 0) || inS n || decide (20 ≤ phiN n)) = true := by decide +kernel
theorem phi_prod : (SS.all fun n => rprod (PHI n) (propDivs n) == xn1 n) = true := by decide +kernel
def XX : Int := 1922760350154212639070
theorem phi_apart : (SS.all fun n => decide (1 < (evI (PHI n) XX).natAbs) && SS.all fun m => decide (m ≤ n) || (Int.gcd (evI (PHI n) XX) (evI (PHI m) XX) == 1)) = true := by decide +kernel
/-! ### products of cyclotomic polynomials told back -/
theorem S_iff {n : Nat} : n ∈ SS ↔ n < 151 ∧ inS n = true := by unfold SS; simp
structure Phi (n : Nat) : Prop where
  len2 : 2 ≤ (PHI n).length
  led : led (PHI n) ≠ 0
  c0 : (co (PHI n) 0).natAbs = 1
  len : (PHI n).length = phiN n + 1
  l1 : l1 (PHI n) ≤ 2 ^ phiN n
  deg : phiN n ≤ 18
theorem Phi.of {n : Nat} (h : n ∈ SS) : Phi n := by
  have h1 := List.all_eq_true.1 phi_ok n h
  simp only [canB, Bool.and_eq_true, decide_eq_true_eq, beq_iff_eq] at h1
  have h2 := (S_iff.1 h).2
  simp only [inS, Bool.and_eq_true, decide_eq_true_eq] at h2
  exact ⟨h1.1.1.1.1, by rw [h1.1.1.1.2]; decide, h1.1.1.2, h1.1.2, h1.2, h2.2⟩
theorem Phi.ne {n : Nat} (h : Phi n) : PHI n ≠ [] := by have := h.len2; intro z; rw [z] at this; simp at this
theorem Phi.can {n : Nat} (h : Phi n) : Can (PHI n) := Can.of h.ne (.inr h.led)
theorem Phi.lb {n : Nat} (h : Phi n) : LB (2 ^ 64 - 1) (PHI n) := LB.l1 (Nat.le_trans h.l1 (Nat.le_trans (Nat.pow_le_pow_right (by decide) h.deg) (by decide)))
def stp (s : List (Nat × Nat) × List Int) (n : Nat) : List (Nat × Nat) × List Int :=
  (if (tdF s.2.length s.2 (PHI n)).1 = 0 then s.1 else s.1 ++ [(n, (tdF s.2.length s.2 (PHI n)).1)], (tdF s.2.length s.2 (PHI n)).2)
def stpG (s : List (Nat × Nat) × List Int) (n : Nat) : List (Nat × Nat) × List Int := if phiN n < s.2.length then stp s n else s
def grd (l : List Int) : List (Nat × Nat) × List Int := SS.foldl stp ([], l)
def partsOf (l : List Int) : Option (List (Nat × Nat)) := if (co l 0).natAbs = 1 ∧ (grd l).2 = [1] then some (grd l).1 else none
theorem stp_props {s : List (Nat × Nat) × List Int} {n : Nat} (h : Phi n) (hc : Can s.2) (h0 : s.2 ≠ [0]) : Can (stp s n).2 ∧ (stp s n).2 ≠ [0] ∧ (stp s n).2.length ≤ s.2.length ∧ (co (stp s n).2 0).natAbs = (co s.2 0).natAbs := by
  obtain ⟨a, b, c, d, e⟩ := tdF_props h.len2 h.led (k := s.2.length) hc h0
  exact ⟨a, b, c, e h.c0⟩
theorem fold_stp_props : ∀ {ns : List Nat} {s : List (Nat × Nat) × List Int}, (∀ n ∈ ns, n ∈ SS) → Can s.2 → s.2 ≠ [0] → Can (ns.foldl stp s).2 ∧ (ns.foldl stp s).2 ≠ [0] ∧ (co (ns.foldl stp s).2 0).natAbs = (co s.2 0).natAbs
  | [], s, _, h1, h2 => ⟨h1, h2, rfl⟩
  | n :: ns, s, h, h1, h2 => by
    obtain ⟨a, b, _, d⟩ := stp_props (Phi.of (h n List.mem_cons_self)) h1 h2
    obtain ⟨i1, i2, i3⟩ := fold_stp_props (ns := ns) (fun m hm => h m (List.mem_cons_of_mem _ hm)) a b
    exact ⟨i1, i2, i3.trans d⟩
/-- what the program does is the same, for short polynomials -/
theorem fold_same : ∀ {ns : List Nat} {s : List (Nat × Nat) × List Int}, (∀ n ∈ ns, 1 ≤ n ∧ n ≤ 150) → Can s.2 → s.2 ≠ [0] → s.2.length ≤ 20 → ns.foldl stpG s = (ns.filter inS).foldl stp s
  | [], _, _, _, _, _ => rfl
  | n :: ns, s, h, h1, h2, h3 => by
    have hn := h n List.mem_cons_self
    have hr := fun m hm => h m (List.mem_cons_of_mem _ hm)
    have far := List.all_eq_true.1 phi_far n (by simp; omega)
    simp only [Bool.or_eq_true, decide_eq_true_eq] at far
    rw [List.foldl_cons]
    by_cases hS : inS n = true
    · have hp := Phi.of (S_iff.2 ⟨by omega, hS⟩)
      rw [List.filter_cons_of_pos hS, List.foldl_cons]
      have e : stpG s n = stp s n := by
        unfold stpG
        split
        · rfl
        · rename_i hh
          have : divL s.2 (PHI n) = none := divL_short h1 h2 (by rw [hp.len]; omega)
          unfold stp; rw [tdF_none this]; rfl
      rw [e]
      obtain ⟨a, b, c, _⟩ := stp_props hp h1 h2
      exact fold_same hr a b (by omega)
    · rw [List.filter_cons_of_neg hS]
      have e : stpG s n = s := by unfold stpG; rw [if_neg]; have : 20 ≤ phiN n := by rcases far with (f | f) | f; omega; exact absurd f hS; exact f
                                  omega
      rw [e]
      exact fold_same hr h1 h2 h3
theorem grd_same {l : List Int} (h1 : Can l) (h2 : l ≠ [0]) (h3 : l.length ≤ 20) : ((List.range 150).map (· + 1)).foldl stpG ([], l) = grd l := by
  rw [fold_same (by simp; omega) h1 h2 h3]
  have : ((List.range 150).map (· + 1)).filter inS = SS := by decide +kernel
  rw [this]; rfl
/-! the product -/
def prodL : List (Nat × Nat) → List Int
  | [] => [1]
  | (n, e) :: r => powm e (prodL r) (PHI n)
def Parts (ps : List (Nat × Nat)) : Prop := (∀ p ∈ ps, p.1 ∈ SS ∧ 1 ≤ p.2) ∧ ps.Pairwise fun p q => p.1 < q.1
def degP : List (Nat × Nat) → Nat
  | [] => 0
  | (n, e) :: r => e * phiN n + degP r
theorem len_powm {b : List Int} (hb : 2 ≤ b.length) (hd : led b ≠ 0) : ∀ {e : Nat} {f : List Int}, Can f → led f ≠ 0 → (powm e f b).length = f.length + e * (b.length - 1)
  | 0, f, _, _ => by simp [powm]
  | e + 1, f, h, h1 => by
    have hb' : b ≠ [] := by rintro rfl; simp at hb
    obtain ⟨i1, i2⟩ := powm_props hb' hd (e := e) h h1
    have := len_powm hb hd (e := e) h h1
    have p1 := h.len
    rw [powm, (lineMul_eq i1.1 hb' i2 hd).1, len_pmul i1.1 hb', this, Nat.add_mul]
    omega
theorem l1_powm {b : List Int} {n m : Nat} (hb : l1 b ≤ 2 ^ n) : ∀ {e : Nat} {f : List Int}, l1 f ≤ 2 ^ m → l1 (powm e f b) ≤ 2 ^ (m + e * n)
  | 0, f, h => by simpa [powm] using h
  | e + 1, f, h => by
    have ih := l1_powm hb (e := e) h
    refine Nat.le_trans l1_mul (Nat.le_trans (Nat.mul_le_mul ih hb) ?_)
    rw [← Nat.pow_add, Nat.add_mul, Nat.one_mul, Nat.add_assoc]; exact Nat.le_refl _
theorem prodL_props : ∀ {ps : List (Nat × Nat)}, (∀ p ∈ ps, p.1 ∈ SS) → Can (prodL ps) ∧ led (prodL ps) ≠ 0 ∧ (prodL ps).length = degP ps + 1 ∧ l1 (prodL ps) ≤ 2 ^ degP ps
  | [], _ => ⟨⟨by simp [prodL], rfl⟩, by decide, rfl, by decide⟩
  | (n, e) :: r, h => by
    have hp := Phi.of (h _ List.mem_cons_self)
    obtain ⟨i1, i2, i3, i4⟩ := prodL_props (ps := r) fun p hp => h p (List.mem_cons_of_mem _ hp)
    obtain ⟨j1, j2⟩ := powm_props hp.ne hp.led (e := e) i1 i2
    refine ⟨j1, j2, ?_, ?_⟩
    · rw [prodL, len_powm hp.len2 hp.led i1 i2, i3, degP, hp.len]; simp; omega
    · rw [prodL, degP, Nat.add_comm]; exact l1_powm hp.l1 i4
def evP (ps : List (Nat × Nat)) : Int := evI (prodL ps) XX
theorem gcd_pow {a b : Int} (h : Int.gcd a b = 1) (e : Nat) : Int.gcd a (b ^ e) = 1 := by
  have h : Nat.gcd a.natAbs b.natAbs = 1 := h
  show Nat.gcd a.natAbs (b ^ e).natAbs = 1
  rw [Int.natAbs_pow]
  exact Nat.Coprime.pow_right e h
theorem gcd_mul {a b c : Int} (h : Int.gcd a b = 1) (h2 : Int.gcd a c = 1) : Int.gcd a (b * c) = 1 := by
  have h : Nat.gcd a.natAbs b.natAbs = 1 := h
  have h2 : Nat.gcd a.natAbs c.natAbs = 1 := h2
  show Nat.gcd a.natAbs (b * c).natAbs = 1
  rw [Int.natAbs_mul]
  exact Nat.Coprime.mul_right h h2
theorem apart {n : Nat} (hn : n ∈ SS) : ∀ {ps : List (Nat × Nat)}, (∀ p ∈ ps, p.1 ∈ SS ∧ n < p.1) → Int.gcd (evI (PHI n) XX) (evI (prodL ps) XX) = 1
  | [], _ => by simp [prodL, evI]
  | (m, e) :: r, h => by
    have hm := h _ List.mem_cons_self
    have ih := apart hn (ps := r) fun p hp => h p (List.mem_cons_of_mem _ hp)
    rw [prodL, evI_powm]
    have c := List.all_eq_true.1 phi_apart n hn
    rw [Bool.and_eq_true] at c
    have d := List.all_eq_true.1 c.2 m hm.1
    rw [Bool.or_eq_true, decide_eq_true_eq, beq_iff_eq] at d
    exact gcd_mul ih (gcd_pow (d.resolve_left (by have := hm.2; omega)) e)
theorem not_div {n : Nat} (hn : n ∈ SS) {ps : List (Nat × Nat)} (h : ∀ p ∈ ps, p.1 ∈ SS ∧ n < p.1) : divL (prodL ps) (PHI n) = none := by
  have hp := Phi.of hn
  obtain ⟨i1, i2, _⟩ := prodL_props (ps := ps) fun p hp => (h p hp).1
  cases hd : divL (prodL ps) (PHI n) with
  | none => rfl
  | some q =>
    exfalso
    have e := (divL_sound i1.1 hp.ne hd).1
    have e2 : evI q XX * evI (PHI n) XX = evI (prodL ps) XX := by rw [← evI_pmul]; exact evI_ext e
    have g := apart hn h
    rw [← e2] at g
    have c := List.all_eq_true.1 phi_apart n hn
    rw [Bool.and_eq_true, decide_eq_true_eq] at c
    have : (evI (PHI n) XX).natAbs ∣ Int.gcd (evI (PHI n) XX) (evI q XX * evI (PHI n) XX) := by
      refine Nat.dvd_gcd (Nat.dvd_refl _) ?_
      rw [Int.natAbs_mul]; exact Nat.dvd_mul_left _ _
    rw [g] at this
    have := Nat.le_of_dvd (by decide) this
    omega
theorem told_back : ∀ {ns : List Nat} {ps acc : List (Nat × Nat)}, (∀ n ∈ ns, n ∈ SS) → ns.Pairwise (· < ·) → (∀ p ∈ ps, p.1 ∈ ns ∧ 1 ≤ p.2) → (ps.Pairwise fun p q => p.1 < q.1) → ns.foldl stp (acc, prodL ps) = (acc ++ ps, [1])
  | [], ps, acc, _, _, h, _ => by
    cases ps with
    | nil => simp [prodL]
    | cons p ps => exact absurd (h p List.mem_cons_self).1 (by simp)
  | n :: ns, ps, acc, hS, hs, h, hp => by
    have hn := hS n List.mem_cons_self
    have hP := Phi.of hn
    have hs2 := List.pairwise_cons.1 hs
    rw [List.foldl_cons]
    have later : ∀ {qs : List (Nat × Nat)}, (∀ p ∈ qs, p.1 ∈ n :: ns ∧ 1 ≤ p.2) → (∀ p ∈ qs, p.1 ≠ n) → (∀ p ∈ qs, p.1 ∈ ns ∧ 1 ≤ p.2) ∧ divL (prodL qs) (PHI n) = none := fun {qs} h1 h2 => by
      have h3 : ∀ p ∈ qs, p.1 ∈ ns ∧ 1 ≤ p.2 := fun p hp => ⟨(List.mem_cons.1 (h1 p hp).1).resolve_left (h2 p hp), (h1 p hp).2⟩
      exact ⟨h3, not_div hn fun p hp => ⟨hS _ (List.mem_cons_of_mem _ (h3 p hp).1), hs2.1 _ (h3 p hp).1⟩⟩
    have fin : ∀ {qs acc : List (Nat × Nat)}, (∀ p ∈ qs, p.1 ∈ ns ∧ 1 ≤ p.2) → (qs.Pairwise fun p q => p.1 < q.1) → ns.foldl stp (acc, prodL qs) = (acc ++ qs, [1]) := fun h1 h2 =>
      told_back (fun m hm => hS m (List.mem_cons_of_mem _ hm)) hs2.2 h1 h2
    have skip : (∀ p ∈ ps, p.1 ≠ n) → ns.foldl stp (stp (acc, prodL ps) n) = (acc ++ ps, [1]) := fun h2 => by
      obtain ⟨h3, h4⟩ := later h h2
      have e : stp (acc, prodL ps) n = (acc, prodL ps) := by unfold stp; rw [tdF_none h4]; rfl
      rw [e]; exact fin h3 hp
    cases ps with
    | nil => exact skip (by simp)
    | cons p r =>
      obtain ⟨m, e⟩ := p
      have hp2 := List.pairwise_cons.1 hp
      by_cases hm : m = n
      · subst hm
        have he := (h (m, e) List.mem_cons_self).2
        obtain ⟨h3, h4⟩ := later (qs := r) (fun p hp => h p (List.mem_cons_of_mem _ hp)) fun p hpr => by have := hp2.1 p hpr; simp only at this; omega
        obtain ⟨i1, i2, _⟩ := prodL_props (ps := r) fun p hp => hS _ (List.mem_cons_of_mem _ (h3 p hp).1)
        have ht : tdF (prodL ((m, e) :: r)).length (prodL ((m, e) :: r)) (PHI m) = (e, prodL r) := by
          refine tdF_powm hP.ne hP.led i1 i2 h4 ?_
          rw [prodL, len_powm hP.len2 hP.led i1 i2]
          have := hP.len2
          have q : e * 1 ≤ e * ((PHI m).length - 1) := Nat.mul_le_mul_left _ (by omega)
          omega
        have e1 : stp (acc, prodL ((m, e) :: r)) m = (acc ++ [(m, e)], prodL r) := by
          unfold stp; rw [ht]; simp only; rw [if_neg (by simp only at he; omega)]
        rw [e1, fin h3 hp2.2]; simp
      · refine skip fun p hpm => ?_
        rcases List.mem_cons.1 hpm with rfl | hpr
        · exact hm
        · intro z
          have q := hp2.1 p hpr
          have hmn : m ∈ ns := (List.mem_cons.1 (h (m, e) List.mem_cons_self).1).resolve_left hm
          have := hs2.1 m hmn
          simp only at q
          omega
theorem SS_sorted : SS.Pairwise (· < ·) := by unfold SS; exact List.Pairwise.filter _ List.pairwise_lt_range
theorem grd_prod {ps : List (Nat × Nat)} (h : Parts ps) : grd (prodL ps) = (ps, [1]) := told_back (acc := []) (fun _ h => h) SS_sorted h.1 h.2
/-! the product in another order -/
def Same (a b : List Int) : Prop := ∀ i, co a i = co b i
def pw (b : List Int) : Nat → List Int
  | 0 => [1]
  | e + 1 => pmul (pw b e) b
theorem co_pmul_one {a : List Int} {i : Nat} : co (pmul a [1]) i = co a i := by
  rw [co_pmul_comm]
  cases i with
  | zero => rw [co_pmul0]; simp
  | succ i => rw [co_pmulS]; simp [pmul]
theorem powm_same {b : List Int} : ∀ {e : Nat} {f : List Int}, Same (powm e f b) (pmul f (pw b e))
  | 0, f => fun i => co_pmul_one.symm
  | e + 1, f => fun i => by
    rw [powm, lineMul, co_nrm, co_pmul_congr (powm_same (e := e) (f := f)), co_pmul_assoc]; rfl
def mkP (f : List Int) (ps : List (Nat × Nat)) : List Int := ps.foldl (fun f p => powm p.2 f (PHI p.1)) f
theorem mkP_same : ∀ {ps : List (Nat × Nat)} {f : List Int}, Same (mkP f ps) (pmul f (prodL ps))
  | [], f => fun i => co_pmul_one.symm
  | (n, e) :: r, f => fun i => by
    have ih := mkP_same (ps := r) (f := powm e f (PHI n)) i
    have e1 : mkP f ((n, e) :: r) = mkP (powm e f (PHI n)) r := rfl
    rw [e1, ih, co_pmul_congr powm_same, co_pmul_assoc, co_pmul_congr2 (b' := pmul (prodL r) (pw (PHI n) e)) (fun i => co_pmul_comm)]
    exact (co_pmul_congr2 (b := prodL ((n, e) :: r)) powm_same).symm
theorem mkP_props : ∀ {ps : List (Nat × Nat)} {f : List Int}, (∀ p ∈ ps, p.1 ∈ SS) → Can f → led f ≠ 0 → Can (mkP f ps) ∧ led (mkP f ps) ≠ 0
  | [], f, _, h, h1 => ⟨h, h1⟩
  | (n, e) :: r, f, hS, h, h1 => by
    have hp := Phi.of (hS _ List.mem_cons_self)
    obtain ⟨i1, i2⟩ := powm_props hp.ne hp.led (e := e) h h1
    exact mkP_props (ps := r) (fun p hp => hS p (List.mem_cons_of_mem _ hp)) i1 i2
theorem mkP_eq {ps : List (Nat × Nat)} (hS : ∀ p ∈ ps, p.1 ∈ SS) : mkP [1] ps = prodL ps := by
  obtain ⟨i1, _⟩ := mkP_props (f := [1]) hS ⟨by simp, rfl⟩ (by decide)
  obtain ⟨j1, _⟩ := prodL_props hS
  refine i1.ext j1 fun i => ?_
  rw [mkP_same i, co_pmul_comm, co_pmul_one]
/-! ### units, factors, cyclotomic polynomials: the walk -/
theorem range_filter {n : Nat} (p : Nat → Bool) (f : Dat → Option Dat) (hf : ∀ k : Nat, f (.int (k : Int)) = if p k = true then some (.int (k : Int)) else none) : (rangeD 1 ((n : Int) + 1)).filterMap f = ((List.range (n + 1)).filter fun k => decide (1 ≤ k) && p k).map fun k => Dat.int ((k : Nat) : Int) := by
  unfold rangeD
  have e : ((n : Int) + 1 - 1).toNat = n := by omega
  rw [e, List.filterMap_map, List.range_succ_eq_map, List.filter_cons_of_neg (by simp), List.filter_map, List.map_map]
  induction n with
  | zero => rfl
  | succ n ih =>
    rw [List.range_succ, List.filterMap_append, List.filter_append, List.map_append, ih (by omega)]
    congr 1
    have e2 : (1 : Int) + (n : Int) = ((n + 1 : Nat) : Int) := by omega
    have e3 : (f ∘ fun (k : Nat) => Dat.int (1 + (k : Int))) n = if p (n + 1) = true then some (.int ((n + 1 : Nat) : Int)) else none := by
      show f (Dat.int (1 + (n : Int))) = _
      rw [e2, hf]
    by_cases h : p (n + 1) = true
    · rw [if_pos h] at e3
      rw [List.filterMap_cons_some e3]
      simp [h]
    · rw [if_neg h] at e3
      rw [List.filterMap_cons_none e3]
      simp [h]
def gcdD (n : Nat) : Dat → Option Dat
  | .int k => if pyGcd k n = 1 then some (.int k) else none
  | _ => none
theorem units_map {n : Nat} : (rangeD 1 ((n : Int) + 1)).filterMap (gcdD n) = (units n).map fun k => Dat.int ((k : Nat) : Int) := by
  refine range_filter (fun k => Nat.gcd k n == 1) (gcdD n) fun k => ?_
  have e : pyGcd (k : Int) (n : Int) = (Nat.gcd k n : Nat) := by rw [pyGcd_eq]; rfl
  have e2 : ((Nat.gcd k n : Nat) : Int) = 1 ↔ Nat.gcd k n = 1 := by omega
  simp [gcdD, e, e2]
def sp_units_in : DSp := fun ds P _ => ∃ (n : Nat), ds = [.int (n : Int)] ∧ (n ≤ 10000) ∧ P (.lst ((units n).map fun k => Dat.int ((k : Nat) : Int)))
instance : ISp sp_units_in := ⟨fun _ _ _ _ hM ⟨n, e, c, q⟩ => ⟨n, e, c, hM _ q⟩⟩
theorem e_units_in {n : Nat} {P : Dat → Prop} {ex : XP} : sp_units_in [.int (n : Int)] P ex ↔ (n ≤ 10000) ∧ P (.lst ((units n).map fun k => Dat.int ((k : Nat) : Int))) := ⟨fun ⟨_, e, hE⟩ => by (simp [rat_inj, ints_inj, Int.natCast_inj] at e); (obtain rfl := e); exact hE, fun hE => ⟨_, rfl, hE⟩⟩
/-- 0 number 1 unit -/
def w_units_in : WS :=
    (wRet (wE (wComp (iRange2 (oVal (wC (.int 1))) (oVal (wE (wOp2 gAdd (oSlot 0) (oVal (wC (.int 1))))))) (.one 1) [1] (tBlV (wOp2 gEq (oVal (wE (wCB gGcd (aoCons (oSlot 1) (aoCons (oSlot 0) aoNil))))) (oVal (wC (.int 1))))) (wVar 1))))
theorem k_units_in : Keeps 2 1 w_units_in sp_units_in := by
  rintro _ P ex0 ⟨n, rfl, hc, q⟩
  refine ⟨rfl, ?_⟩
  generalize (fun (x : XD) (_ : Dl) => ex0 x) = ex
  simp only [w_units_in]
  simp [↓r_get2, ↓r_get1, ↓r_getE, ↓r_val, ↓r_slot, ↓r_sfz, ↓r_sow, ↓r_all, ↓r_all0, ↓r_all1, ↓r_bl, ↓r_fbl, ↓r_int, ↓r_cons, ↓r_tupE, ↓r_dKE, ↓r_seqL, ↓r_seqT, ↓r_sets0, ↓r_setsF, ↓r_setsO, ↓r_nun, ↓r_nuo, ↓r_add, ↓r_addl, ↓r_addt, ↓r_addb, ↓r_sub, ↓r_subb, ↓r_mul, ↓r_div, ↓r_mod, ↓r_pow, ↓r_cmp, ↓r_i0, ↓r_neg, ↓r_eq, ↓r_ne, ↓r_i1, ↓r_i2, ↓r_max, ↓r_min, ↓r_toI, ↓r_toIb, ↓r_lenL, ↓r_lenT, ↓r_lenS, ↓r_reprI, ↓r_reprB, ↓r_ixT, ↓r_ixL, ↓r_at0, ↓r_at1, ↓r_at2, ↓r_mull, ↓r_mult, ↓r_listL, ↓r_listT, ↓r_tupL, ↓r_tupT, ↓r_dvm, ↓r_slL, ↓r_slT]
  refine ⟨by omega, wCLoop_fm (gcdD n) moT moE _ (by simp [rangeD]; omega) ?_ ?_⟩
  · intro d hd
    simp [rangeD] at hd
    obtain ⟨k, hk, rfl⟩ := hd
    by_cases h : pyGcd (1 + (k : Int)) (n : Int) = 1
    · simp [CT.bind, gcdD, h]
    · simp [CT.bind, gcdD, h]
  · rw [List.nil_append, units_map]
    exact q
theorem tdF_step {k : Nat} {a b q : List Int} (h : divL a b = some q) : tdF (k + 1) a b = ((tdF k q b).1 + 1, (tdF k q b).2) := by rw [tdF, h]
/-- the length of the tuple in a slot -/
def slT (δ : Dl) (i : Nat) : Nat := match δ[i]? with
  | some (DV.fz (Dat.tup l)) => l.length
  | _ => 0
def sp_times_divided : DSp := fun ds P _ => ∃ (a b : List Int), ds = [lD a, lD b] ∧ (Can a ∧ a ≠ [0] ∧ a.length ≤ 1000 ∧ 2 ≤ b.length ∧ b.length ≤ 1000 ∧ LB (2 ^ 64 - 1) b ∧ led b ≠ 0) ∧ P (.tup [.int (tdF a.length a b).1, lD (tdF a.length a b).2])
instance : ISp sp_times_divided := ⟨fun _ _ _ _ hM ⟨a, b, e, c, q⟩ => ⟨a, b, e, c, hM _ q⟩⟩
theorem e_times_divided {a b : List Int} {P : Dat → Prop} {ex : XP} : sp_times_divided [lD a, lD b] P ex ↔ (Can a ∧ a ≠ [0] ∧ a.length ≤ 1000 ∧ 2 ≤ b.length ∧ b.length ≤ 1000 ∧ LB (2 ^ 64 - 1) b ∧ led b ≠ 0) ∧ P (.tup [.int (tdF a.length a b).1, lD (tdF a.length a b).2]) := ⟨fun ⟨_, _, e, hE⟩ => by (simp [rat_inj, ints_inj, Int.natCast_inj] at e); (obtain ⟨rfl, rfl⟩ := e); exact hE, fun hE => ⟨_, _, rfl, hE⟩⟩
/-- 0 line 1 factor 2 many 3 left 4 later -/
def w_times_divided_r2 : WS :=
    (wRet (wTup (aCons (wVar 2) (aCons (wVar 3) aNil))))
def w_times_divided_r1 : WS :=
    wSeq (wWhile (tBlV (wOp2 gNotN (oSlot 4) (oVal (wC .non)))) (wSets [2, 3, 4] (ajCons (wOp2 gAdd (oSlot 2) (oVal (wC (.int 1)))) (ajCons (wJ (wVar 4)) (ajCons (wJ (wCall sp_quotient_of_lines (aCons (wVar 4) (aCons (wVar 1) aNil)))) ajNil))))) w_times_divided_r2
def w_times_divided : WS :=
    wSeq (wSets [2, 3, 4] (ajCons (wJ (wC (.int 0))) (ajCons (wJ (wVar 0)) (ajCons (wJ (wCall sp_quotient_of_lines (aCons (wVar 0) (aCons (wVar 1) aNil)))) ajNil)))) w_times_divided_r1
theorem k_times_divided : Keeps 5 2 w_times_divided sp_times_divided := by
  rintro _ P ex0 ⟨a, b, rfl, hc, q⟩
  refine ⟨rfl, ?_⟩
  generalize (fun (x : XD) (_ : Dl) => ex0 x) = ex
  obtain ⟨ca, a0, la, lb, lb2, sb, hd⟩ := hc
  have hb : b ≠ [] := by rintro rfl; simp at lb
  have e : ∀ {l : List Int} {P : Dat → Prop} {ex : XP}, l ≠ [] → l.length ≤ 1000 → (sp_quotient_of_lines [lD l, lD b] P ex ↔ P (optD (divL l b))) := by
    intro l P ex h1 h2
    rw [e_quotient_of_lines]
    exact ⟨fun x => x.2, fun x => ⟨⟨h1, hb, h2, lb2, sb, hd⟩, x⟩⟩
  simp only [w_times_divided]
  simp [↓r_get2, ↓r_get1, ↓r_getE, ↓r_val, ↓r_slot, ↓r_sfz, ↓r_sow, ↓r_all, ↓r_all0, ↓r_all1, ↓r_bl, ↓r_fbl, ↓r_int, ↓r_cons, ↓r_tupE, ↓r_dKE, ↓r_seqL, ↓r_seqT, ↓r_sets0, ↓r_setsF, ↓r_setsO, ↓r_nun, ↓r_nuo, ↓r_add, ↓r_addl, ↓r_addt, ↓r_addb, ↓r_sub, ↓r_subb, ↓r_mul, ↓r_div, ↓r_mod, ↓r_pow, ↓r_cmp, ↓r_i0, ↓r_neg, ↓r_eq, ↓r_ne, ↓r_i1, ↓r_i2, ↓r_max, ↓r_min, ↓r_toI, ↓r_toIb, ↓r_lenL, ↓r_lenT, ↓r_lenS, ↓r_reprI, ↓r_reprB, ↓r_ixT, ↓r_ixL, ↓r_at0, ↓r_at1, ↓r_at2, ↓r_mull, ↓r_mult, ↓r_listL, ↓r_listT, ↓r_tupL, ↓r_tupT, ↓r_dvm, ↓r_slL, ↓r_slT, ↓e ca.1 la]
  simp only [w_times_divided_r1]
  refine while_inv moT moS (fun δ => ∃ (m : Nat) (l : List Int), δ = [.fz (lD a), .fz (lD b), .fz (.int m), .fz (lD l), .fz (optD (divL l b))] ∧ Can l ∧ l ≠ [0] ∧ l.length ≤ 1000 ∧ tdF a.length a b = (m + (tdF l.length l b).1, (tdF l.length l b).2)) (fun δ => slT δ 3) ?_ ⟨0, a, rfl, ca, a0, la, by simp⟩
  rintro δ ⟨m, l, rfl, cl, l0, ll, ht⟩
  cases h : divL l b with
  | none =>
    rw [tdF_none h] at ht
    simp [↓r_get2, ↓r_get1, ↓r_getE, ↓r_val, ↓r_slot, ↓r_sfz, ↓r_sow, ↓r_all, ↓r_all0, ↓r_all1, ↓r_bl, ↓r_fbl, ↓r_int, ↓r_cons, ↓r_tupE, ↓r_dKE, ↓r_seqL, ↓r_seqT, ↓r_sets0, ↓r_setsF, ↓r_setsO, ↓r_nun, ↓r_nuo, ↓r_add, ↓r_addl, ↓r_addt, ↓r_addb, ↓r_sub, ↓r_subb, ↓r_mul, ↓r_div, ↓r_mod, ↓r_pow, ↓r_cmp, ↓r_i0, ↓r_neg, ↓r_eq, ↓r_ne, ↓r_i1, ↓r_i2, ↓r_max, ↓r_min, ↓r_toI, ↓r_toIb, ↓r_lenL, ↓r_lenT, ↓r_lenS, ↓r_reprI, ↓r_reprB, ↓r_ixT, ↓r_ixL, ↓r_at0, ↓r_at1, ↓r_at2, ↓r_mull, ↓r_mult, ↓r_listL, ↓r_listT, ↓r_tupL, ↓r_tupT, ↓r_dvm, ↓r_slL, ↓r_slT, optD]
    simp only [w_times_divided_r2]
    simp [↓r_get2, ↓r_get1, ↓r_getE, ↓r_val, ↓r_slot, ↓r_sfz, ↓r_sow, ↓r_all, ↓r_all0, ↓r_all1, ↓r_bl, ↓r_fbl, ↓r_int, ↓r_cons, ↓r_tupE, ↓r_dKE, ↓r_seqL, ↓r_seqT, ↓r_sets0, ↓r_setsF, ↓r_setsO, ↓r_nun, ↓r_nuo, ↓r_add, ↓r_addl, ↓r_addt, ↓r_addb, ↓r_sub, ↓r_subb, ↓r_mul, ↓r_div, ↓r_mod, ↓r_pow, ↓r_cmp, ↓r_i0, ↓r_neg, ↓r_eq, ↓r_ne, ↓r_i1, ↓r_i2, ↓r_max, ↓r_min, ↓r_toI, ↓r_toIb, ↓r_lenL, ↓r_lenT, ↓r_lenS, ↓r_reprI, ↓r_reprB, ↓r_ixT, ↓r_ixL, ↓r_at0, ↓r_at1, ↓r_at2, ↓r_mull, ↓r_mult, ↓r_listL, ↓r_listT, ↓r_tupL, ↓r_tupT, ↓r_dvm, ↓r_slL, ↓r_slT]
    rw [ht] at q
    exact q
  | some r =>
    obtain ⟨h1, h2, h3⟩ := divL_lt cl l0 lb hd h
    have hl : r.length ≤ 1000 := by omega
    simp [↓r_get2, ↓r_get1, ↓r_getE, ↓r_val, ↓r_slot, ↓r_sfz, ↓r_sow, ↓r_all, ↓r_all0, ↓r_all1, ↓r_bl, ↓r_fbl, ↓r_int, ↓r_cons, ↓r_tupE, ↓r_dKE, ↓r_seqL, ↓r_seqT, ↓r_sets0, ↓r_setsF, ↓r_setsO, ↓r_nun, ↓r_nuo, ↓r_add, ↓r_addl, ↓r_addt, ↓r_addb, ↓r_sub, ↓r_subb, ↓r_mul, ↓r_div, ↓r_mod, ↓r_pow, ↓r_cmp, ↓r_i0, ↓r_neg, ↓r_eq, ↓r_ne, ↓r_i1, ↓r_i2, ↓r_max, ↓r_min, ↓r_toI, ↓r_toIb, ↓r_lenL, ↓r_lenT, ↓r_lenS, ↓r_reprI, ↓r_reprB, ↓r_ixT, ↓r_ixL, ↓r_at0, ↓r_at1, ↓r_at2, ↓r_mull, ↓r_mult, ↓r_listL, ↓r_listT, ↓r_tupL, ↓r_tupT, ↓r_dvm, ↓r_slL, ↓r_slT, optD, ↓e h1.1 hl]
    refine ⟨⟨m + 1, r, ⟨by omega, rfl, rfl⟩, h1, h2, hl, ?_⟩, by simpa [slT] using h3⟩
    rw [ht]
    have := cl.len
    obtain ⟨k, hk⟩ : ∃ k, l.length = k + 1 := ⟨l.length - 1, by omega⟩
    rw [hk, tdF_step h, tdF_fuel lb hd (k := k) (m := r.length) h1 h2 (by omega) (Nat.le_refl _)]
    simp; omega
theorem len_stretch {l : List Int} {m : Nat} : (stretch l m).length = (l.length - 1) * m + 1 := by simp [stretch]
theorem co_stretch {l : List Int} {m i : Nat} (hi : i < (l.length - 1) * m + 1) : co (stretch l m) i = if i % m = 0 then co l (i / m) else 0 := by
  rw [co_lt (by rw [len_stretch]; exact hi)]; simp [stretch]
def sp_stretched : DSp := fun ds P _ => ∃ (l : List Int) (m : Nat), ds = [lD l, .int (m : Int)] ∧ (l ≠ [] ∧ 1 ≤ m ∧ (l.length - 1) * m ≤ 100000) ∧ P (lD (stretch l m))
instance : ISp sp_stretched := ⟨fun _ _ _ _ hM ⟨l, m, e, c, q⟩ => ⟨l, m, e, c, hM _ q⟩⟩
theorem e_stretched {l : List Int} {m : Nat} {P : Dat → Prop} {ex : XP} : sp_stretched [lD l, .int (m : Int)] P ex ↔ (l ≠ [] ∧ 1 ≤ m ∧ (l.length - 1) * m ≤ 100000) ∧ P (lD (stretch l m)) := ⟨fun ⟨_, _, e, hE⟩ => by (simp [rat_inj, ints_inj, Int.natCast_inj] at e); (obtain ⟨rfl, rfl⟩ := e); exact hE, fun hE => ⟨_, _, rfl, hE⟩⟩
/-- 0 line 1 times 2 found 3 at 4 number -/
def w_stretched_r2 : WS :=
    (wRet (wE (wCB gTuple (aoCons (oSlot 2) aoNil))))
def w_stretched_r1 : WS :=
    wSeq (wFor (iEnumD (wVar 0)) (wgTup 2 (wgCons (wgN 3) (wgCons (wgN 4) wgNil))) (wAsgG (wVar 4) (wgSub 2 (oVal (wE (wOp2 gMul (oSlot 3) (oSlot 1))))))) w_stretched_r2
def w_stretched : WS :=
    wSeq (wAsg 2 (wOp2 gMul (oVal (wE (wLst (aCons (wC (.int 0)) aNil)))) (oVal (wE (wOp2 gAdd (oVal (wE (wOp2 gMul (oVal (wE (wOp2 gSubA (oVal (wE (wCB gLen (aoCons (oSlot 0) aoNil)))) (oVal (wC (.int 1)))))) (oSlot 1)))) (oVal (wC (.int 1)))))))) w_stretched_r1
theorem k_stretched : Keeps 5 2 w_stretched sp_stretched := by
  rintro _ P ex0 ⟨l, m, rfl, hc, q⟩
  refine ⟨rfl, ?_⟩
  generalize (fun (x : XD) (_ : Dl) => ex0 x) = ex
  obtain ⟨hl, hm, hb⟩ := hc
  have pl := List.length_pos_iff.2 hl
  have e1 : (((l.length : Int) - 1) * (m : Int) + 1).toNat = (l.length - 1) * m + 1 := by
    have : ((l.length : Int) - 1) = ((l.length - 1 : Nat) : Int) := by omega
    rw [this, ← Int.natCast_mul]; omega
  have hm2 : m ≤ 100001 ∨ l.length = 1 := by
    by_cases h : l.length = 1
    · exact .inr h
    · left
      have : 1 * m ≤ (l.length - 1) * m := Nat.mul_le_mul_right _ (by omega)
      omega
  have m1 : DL.MulOk ((l.length : Int) - 1) (m : Int) := mulL (by
    have h1 : l.length - 1 ≤ 100000 := Nat.le_trans (Nat.le_mul_of_pos_right _ hm) hb
    omega)
  have m2 : ∀ i : Nat, i < l.length → DL.MulOk (i : Int) (m : Int) := fun i hi => mulL (by
    have h1 : l.length - 1 ≤ 100000 := Nat.le_trans (Nat.le_mul_of_pos_right _ hm) hb
    omega)
  have e0 : (-(2 ^ 63 : Int) ≤ ((l.length : Int) - 1) * (m : Int) + 1) ∧ ((l.length : Int) - 1) * (m : Int) + 1 < 2 ^ 63 := by
    have : ((l.length : Int) - 1) * (m : Int) = (((l.length - 1) * m : Nat) : Int) := by
      rw [Int.natCast_mul]; congr 1; omega
    rw [this]; omega
  simp only [w_stretched]
  simp [↓r_get2, ↓r_get1, ↓r_getE, ↓r_val, ↓r_slot, ↓r_sfz, ↓r_sow, ↓r_all, ↓r_all0, ↓r_all1, ↓r_bl, ↓r_fbl, ↓r_int, ↓r_cons, ↓r_tupE, ↓r_dKE, ↓r_seqL, ↓r_seqT, ↓r_sets0, ↓r_setsF, ↓r_setsO, ↓r_nun, ↓r_nuo, ↓r_add, ↓r_addl, ↓r_addt, ↓r_addb, ↓r_sub, ↓r_subb, ↓r_mul, ↓r_div, ↓r_mod, ↓r_pow, ↓r_cmp, ↓r_i0, ↓r_neg, ↓r_eq, ↓r_ne, ↓r_i1, ↓r_i2, ↓r_max, ↓r_min, ↓r_toI, ↓r_toIb, ↓r_lenL, ↓r_lenT, ↓r_lenS, ↓r_reprI, ↓r_reprB, ↓r_ixT, ↓r_ixL, ↓r_at0, ↓r_at1, ↓r_at2, ↓r_mull, ↓r_mult, ↓r_listL, ↓r_listT, ↓r_tupL, ↓r_tupT, ↓r_dvm, ↓r_slL, ↓r_slT, e1, rep_zero, m1]
  refine ⟨⟨by simpa using e0.1, by simpa using e0.2, by omega⟩, ?_⟩
  rw [show List.replicate ((l.length - 1) * m + 1) (Dat.int 0) = (List.replicate ((l.length - 1) * m + 1) (0 : Int)).map Dat.int by simp]
  simp only [w_stretched_r1]
  simp [↓r_get2, ↓r_get1, ↓r_getE, ↓r_val, ↓r_slot, ↓r_sfz, ↓r_sow, ↓r_all, ↓r_all0, ↓r_all1, ↓r_bl, ↓r_fbl, ↓r_int, ↓r_cons, ↓r_tupE, ↓r_dKE, ↓r_seqL, ↓r_seqT, ↓r_sets0, ↓r_setsF, ↓r_setsO, ↓r_nun, ↓r_nuo, ↓r_add, ↓r_addl, ↓r_addt, ↓r_addb, ↓r_sub, ↓r_subb, ↓r_mul, ↓r_div, ↓r_mod, ↓r_pow, ↓r_cmp, ↓r_i0, ↓r_neg, ↓r_eq, ↓r_ne, ↓r_i1, ↓r_i2, ↓r_max, ↓r_min, ↓r_toI, ↓r_toIb, ↓r_lenL, ↓r_lenT, ↓r_lenS, ↓r_reprI, ↓r_reprB, ↓r_ixT, ↓r_ixL, ↓r_at0, ↓r_at1, ↓r_at2, ↓r_mull, ↓r_mult, ↓r_listL, ↓r_listT, ↓r_tupL, ↓r_tupT, ↓r_dvm, ↓r_slL, ↓r_slT, -List.map_replicate]
  refine for_inv moG moS (fun i δ => ∃ (F : List Int) (u v : DV), δ = [.fz (lD l), .fz (.int m), .ow (.lst (F.map Dat.int)), u, v] ∧ F.length = (l.length - 1) * m + 1 ∧ ∀ k, k < (l.length - 1) * m + 1 → co F k = if k % m = 0 ∧ k / m < i then co l (k / m) else 0) ?_ ?_ ⟨_, _, _, rfl, by simp, fun k _ => by rw [co_rep, if_neg (fun z => Nat.not_lt_zero _ z.2)]⟩
  · rintro i d δ hi ⟨F, u, v, rfl, hF, hk⟩
    obtain ⟨h1, rfl⟩ := enum_at hi
    have him : i * m < (l.length - 1) * m + 1 := by
      have : i * m ≤ (l.length - 1) * m := Nat.mul_le_mul_right _ (by omega)
      omega
    have e2 : ixN F.length ((i : Int) * (m : Int)) = some (i * m) := by
      rw [← Int.natCast_mul]; exact ixN_nat (by omega)
    simp [↓r_get2, ↓r_get1, ↓r_getE, ↓r_val, ↓r_slot, ↓r_sfz, ↓r_sow, ↓r_all, ↓r_all0, ↓r_all1, ↓r_bl, ↓r_fbl, ↓r_int, ↓r_cons, ↓r_tupE, ↓r_dKE, ↓r_seqL, ↓r_seqT, ↓r_sets0, ↓r_setsF, ↓r_setsO, ↓r_nun, ↓r_nuo, ↓r_add, ↓r_addl, ↓r_addt, ↓r_addb, ↓r_sub, ↓r_subb, ↓r_mul, ↓r_div, ↓r_mod, ↓r_pow, ↓r_cmp, ↓r_i0, ↓r_neg, ↓r_eq, ↓r_ne, ↓r_i1, ↓r_i2, ↓r_max, ↓r_min, ↓r_toI, ↓r_toIb, ↓r_lenL, ↓r_lenT, ↓r_lenS, ↓r_reprI, ↓r_reprB, ↓r_ixT, ↓r_ixL, ↓r_at0, ↓r_at1, ↓r_at2, ↓r_mull, ↓r_mult, ↓r_listL, ↓r_listT, ↓r_tupL, ↓r_tupT, ↓r_dvm, ↓r_slL, ↓r_slT, m2 i h1, e2, ← List.map_set]
    refine ⟨_, rfl, by simpa using hF, fun k hk2 => ?_⟩
    rw [co_set (by omega)]
    by_cases hk3 : k = i * m
    · subst hk3
      rw [if_pos rfl, Nat.mul_mod_left, Nat.mul_div_cancel _ (by omega), if_pos ⟨rfl, by omega⟩]
    · rw [if_neg hk3, hk k hk2]
      by_cases h5 : k % m = 0 ∧ k / m < i
      · rw [if_pos h5, if_pos ⟨h5.1, by omega⟩]
      · rw [if_neg h5, if_neg]
        rintro ⟨h6, h7⟩
        apply h5
        refine ⟨h6, ?_⟩
        have h8 := Nat.div_add_mod k m
        have : k / m ≠ i := fun z => hk3 (by rw [← h8, h6, z, Nat.mul_comm]; omega)
        omega
  · rintro δ ⟨F, u, v, rfl, hF, hk⟩
    rw [enumD_len, List.length_map] at hk
    have e : F = stretch l m := by
      refine ext_co (by rw [hF, len_stretch]) fun k => ?_
      by_cases hk2 : k < (l.length - 1) * m + 1
      · rw [hk k hk2, co_stretch hk2]
        have h7 : k / m < l.length := by
          have : k / m ≤ (l.length - 1) * m / m := Nat.div_le_div_right (by omega)
          rw [Nat.mul_div_cancel _ (by omega)] at this
          omega
        by_cases h6 : k % m = 0
        · rw [if_pos h6, if_pos ⟨h6, h7⟩]
        · rw [if_neg h6, if_neg (fun z => h6 z.1)]
      · rw [co_ge (by omega), co_ge (by rw [len_stretch]; omega)]
    subst e
    simp only [w_stretched_r2]
    simp [↓r_get2, ↓r_get1, ↓r_getE, ↓r_val, ↓r_slot, ↓r_sfz, ↓r_sow, ↓r_all, ↓r_all0, ↓r_all1, ↓r_bl, ↓r_fbl, ↓r_int, ↓r_cons, ↓r_tupE, ↓r_dKE, ↓r_seqL, ↓r_seqT, ↓r_sets0, ↓r_setsF, ↓r_setsO, ↓r_nun, ↓r_nuo, ↓r_add, ↓r_addl, ↓r_addt, ↓r_addb, ↓r_sub, ↓r_subb, ↓r_mul, ↓r_div, ↓r_mod, ↓r_pow, ↓r_cmp, ↓r_i0, ↓r_neg, ↓r_eq, ↓r_ne, ↓r_i1, ↓r_i2, ↓r_max, ↓r_min, ↓r_toI, ↓r_toIb, ↓r_lenL, ↓r_lenT, ↓r_lenS, ↓r_reprI, ↓r_reprB, ↓r_ixT, ↓r_ixL, ↓r_at0, ↓r_at1, ↓r_at2, ↓r_mull, ↓r_mult, ↓r_listL, ↓r_listT, ↓r_tupL, ↓r_tupT, ↓r_dvm, ↓r_slL, ↓r_slT]
    exact q
/-! factors -/
def kvD (f : List (Nat × Nat)) : List (Key × Dat) := f.map fun p => (Sum.inl (p.1 : Int), Dat.int p.2)
def addK (f : List (Nat × Nat)) (p : Nat) : List (Nat × Nat) :=
  if f.any (fun q => q.1 == p) then f.map fun q => if q.1 = p then (p, ((f.find? fun q => q.1 == p).map (·.2)).getD 0 + 1) else q else f ++ [(p, 1)]
theorem valD_kvD {f : List (Nat × Nat)} {p : Nat} : valD (kvD f) (Sum.inl (p : Int)) = ((f.find? fun q => q.1 == p).map fun q => Dat.int q.2) := by
  unfold valD kvD
  induction f with
  | nil => rfl
  | cons a f ih =>
    by_cases h : a.1 = p
    · simp [h]
    · have h2 : ¬ ((a.1 : Int) = (p : Int)) := by omega
      simp only [List.map_cons, List.find?_cons]
      have e : decide ((Sum.inl (a.1 : Int) : Key) = Sum.inl (p : Int)) = false := by simp [h2]
      have e2 : (a.1 == p) = false := by simp [h]
      rw [e, e2]; exact ih
theorem getD_kvD {f : List (Nat × Nat)} {p : Nat} : (valD (kvD f) (Sum.inl (p : Int))).getD (Dat.int 0) = Dat.int ((((f.find? fun q => q.1 == p).map (·.2)).getD 0 : Nat) : Int) := by
  rw [valD_kvD]
  cases f.find? fun q => q.1 == p <;> rfl
theorem any_kvD {f : List (Nat × Nat)} {p : Nat} : ((kvD f).any fun kv => decide (kv.1 = (Sum.inl (p : Int) : Key))) = f.any fun q => q.1 == p := by
  unfold kvD
  rw [List.any_map]
  congr 1
  funext q
  simp
  by_cases h : q.1 = p
  · simp [h]
  · have h2 : ¬ ((q.1 : Int) = (p : Int)) := by omega
    simp [h, h2]
theorem putD_kvD {f : List (Nat × Nat)} {p : Nat} : putD (kvD f) (Sum.inl (p : Int)) (Dat.int (((((f.find? fun q => q.1 == p).map (·.2)).getD 0 : Nat) : Int) + 1)) = kvD (addK f p) := by
  unfold putD addK
  rw [any_kvD]
  cases h : f.any fun q => q.1 == p with
  | true =>
    simp only [if_true]
    unfold kvD
    rw [List.map_map, List.map_map]
    apply List.map_congr_left
    intro q hq
    by_cases h1 : q.1 = p
    · simp [h1]
    · have h2 : ¬ ((q.1 : Int) = (p : Int)) := by omega
      simp [h1, h2]
  | false =>
    have h2 : f.find? (fun q => q.1 == p) = none := by
      rw [List.find?_eq_none]
      intro q hq
      have := List.any_eq_false.1 h q hq
      simpa using this
    simp [h2, kvD]
def strip : Nat → List (Nat × Nat) → Nat → Nat → Option (List (Nat × Nat) × Nat)
  | 0, _, _, _ => none
  | k + 1, f, left, p => if left % p = 0 then strip k (addK f p) (left / p) p else some (f, left)
def facF : Nat → List (Nat × Nat) → Nat → Nat → Option (List (Nat × Nat))
  | 0, _, _, _ => none
  | k + 1, f, left, p => if p * p ≤ left then (strip (left + 1) f left p).bind fun r => facF k r.1 r.2 (p + if p = 2 then 1 else 2) else some (if 1 < left then addK f left else f)
def facs (n : Nat) : Option (List (Nat × Nat)) := facF (n + 2) [] n 2
theorem strip_le {p : Nat} : ∀ {k : Nat} {f : List (Nat × Nat)} {left : Nat} {r : List (Nat × Nat) × Nat}, strip k f left p = some r → r.2 ≤ left
  | 0, _, _, _, h => by cases h
  | k + 1, f, left, r, h => by
    rw [strip] at h
    split at h
    · exact Nat.le_trans (strip_le h) (Nat.div_le_self _ _)
    · cases h; exact Nat.le_refl _
theorem len_addK {f : List (Nat × Nat)} {p : Nat} : (addK f p).length ≤ f.length + 1 := by
  unfold addK; split <;> simp
def sp_factors_in : DSp := fun ds P _ => ∃ (n : Nat), ds = [.int (n : Int)] ∧ (1 ≤ n ∧ n ≤ 10 ^ 9 ∧ (facs n).isSome = true) ∧ P (.dK (kvD ((facs n).getD [])))
instance : ISp sp_factors_in := ⟨fun _ _ _ _ hM ⟨n, e, c, q⟩ => ⟨n, e, c, hM _ q⟩⟩
theorem e_factors_in {n : Nat} {P : Dat → Prop} {ex : XP} : sp_factors_in [.int (n : Int)] P ex ↔ (1 ≤ n ∧ n ≤ 10 ^ 9 ∧ (facs n).isSome = true) ∧ P (.dK (kvD ((facs n).getD []))) := ⟨fun ⟨_, e, hE⟩ => by (simp [rat_inj, ints_inj, Int.natCast_inj] at e); (obtain rfl := e); exact hE, fun hE => ⟨_, rfl, hE⟩⟩
/-- 0 number 1 found 2 left 3 prime -/
def w_factors_in_r3 : WS :=
    (wRet (wVar 1))
def w_factors_in_r2 : WS :=
    wSeq (wIf (tBlV (wOp2 gGt (oSlot 2) (oVal (wC (.int 1))))) (wAsgG (wE (wOp2 gAdd (oVal (wGet (oSlot 1) (oSlot 2) (wC (.int 0)))) (oVal (wC (.int 1))))) (wgSub 1 (oSlot 2))) wNext) w_factors_in_r3
def w_factors_in_r1 : WS :=
    wSeq (wWhile (tBlV (wOp2 gLe (oVal (wE (wOp2 gMul (oSlot 3) (oSlot 3)))) (oSlot 2))) (wSeq (wWhile (tBlV (wOp2 gEq (oVal (wE (wOp2 gMod (oSlot 2) (oSlot 3)))) (oVal (wC (.int 0))))) (wSeq (wAsgG (wE (wOp2 gAdd (oVal (wGet (oSlot 1) (oSlot 3) (wC (.int 0)))) (oVal (wC (.int 1))))) (wgSub 1 (oSlot 3)))
    (wAug 2 gIDiv (oSlot 3))))
    (wAug 3 gIAdd (oVal (wIte (tBlV (wOp2 gEq (oSlot 3) (oVal (wC (.int 2))))) (wC (.int 1)) (wC (.int 2))))))) w_factors_in_r2
def w_factors_in : WS :=
    wSeq (wSets [1, 2, 3] (ajCons wDict0 (ajCons (wJ (wVar 0)) (ajCons (wJ (wC (.int 2))) ajNil)))) w_factors_in_r1
theorem k_factors_in : Keeps 4 1 w_factors_in sp_factors_in := by
  rintro _ P ex0 ⟨n, rfl, hc, q⟩
  refine ⟨rfl, ?_⟩
  generalize (fun (x : XD) (_ : Dl) => ex0 x) = ex
  obtain ⟨h1, h9, hs⟩ := hc
  obtain ⟨res, hres⟩ := Option.isSome_iff_exists.1 hs
  rw [hres] at q
  simp only [w_factors_in]
  simp [↓r_get2, ↓r_get1, ↓r_getE, ↓r_val, ↓r_slot, ↓r_sfz, ↓r_sow, ↓r_all, ↓r_all0, ↓r_all1, ↓r_bl, ↓r_fbl, ↓r_int, ↓r_cons, ↓r_tupE, ↓r_dKE, ↓r_seqL, ↓r_seqT, ↓r_sets0, ↓r_setsF, ↓r_setsO, ↓r_nun, ↓r_nuo, ↓r_add, ↓r_addl, ↓r_addt, ↓r_addb, ↓r_sub, ↓r_subb, ↓r_mul, ↓r_div, ↓r_mod, ↓r_pow, ↓r_cmp, ↓r_i0, ↓r_neg, ↓r_eq, ↓r_ne, ↓r_i1, ↓r_i2, ↓r_max, ↓r_min, ↓r_toI, ↓r_toIb, ↓r_lenL, ↓r_lenT, ↓r_lenS, ↓r_reprI, ↓r_reprB, ↓r_ixT, ↓r_ixL, ↓r_at0, ↓r_at1, ↓r_at2, ↓r_mull, ↓r_mult, ↓r_listL, ↓r_listT, ↓r_tupL, ↓r_tupT, ↓r_dvm, ↓r_slL, ↓r_slT]
  simp only [w_factors_in_r1]
  have sm : ∀ p : Nat, p ≤ n + 2 → DL.MulOk (p : Int) (p : Int) := fun p hp => mulL (by omega)
  have dm : ∀ (x : Int) (p : Nat), 2 ≤ p → p ≤ n + 2 → CDivM x (p : Int) := fun x p hp hp2 => div_ok (by omega) (by omega) (by
    have : (p : Int) ≤ 10 ^ 9 + 2 := by omega
    exact Int.lt_of_le_of_lt this (by decide +kernel))
  have few : ∀ {f : List (Nat × Nat)} {left : Nat}, 2 ^ f.length * left ≤ n → 1 ≤ left → f.length < 1000000 := fun {f left} h h2 => by
    have h3 : 2 ^ f.length * 1 ≤ 2 ^ f.length * left := Nat.mul_le_mul_left _ h2
    have h4 : f.length < 2 ^ f.length := Nat.lt_two_pow_self
    by_cases h5 : f.length < 1000000
    · exact h5
    · exfalso
      have h6 : 2 ^ 40 ≤ 2 ^ f.length := Nat.pow_le_pow_right (by decide) (by omega)
      omega
  have less : ∀ {f : List (Nat × Nat)} {left p : Nat}, 2 ^ f.length * left ≤ n → 2 ≤ p → 2 ^ (addK f p).length * (left / p) ≤ n := fun {f left p} h h2 => by
    have h3 : 2 ^ (addK f p).length ≤ 2 ^ (f.length + 1) := Nat.pow_le_pow_right (by decide) len_addK
    have h4 : left / p ≤ left / 2 := Nat.div_le_div_left h2 (by decide)
    refine Nat.le_trans (Nat.mul_le_mul h3 h4) (Nat.le_trans ?_ h)
    rw [Nat.pow_succ, Nat.mul_assoc]
    exact Nat.mul_le_mul_left _ (by omega)
  have modN : ∀ {a p : Nat}, 2 ≤ p → pyMod (a : Int) (p : Int) = ((a % p : Nat) : Int) := fun {a p} h => by rw [pyMod_pos (by omega)]; omega
  have divN : ∀ {a p : Nat}, 2 ≤ p → pyDiv (a : Int) (p : Int) = ((a / p : Nat) : Int) := fun {a p} h => by rw [pyDiv_pos (by omega)]; omega
  refine while_inv moT moS (fun δ => ∃ (k : Nat) (f : List (Nat × Nat)) (left p : Nat), δ = [.fz (.int n), .ow (.dK (kvD f)), .fz (.int left), .fz (.int p)] ∧ 2 ≤ p ∧ p ≤ n + 2 ∧ 1 ≤ left ∧ 2 ^ f.length * left ≤ n ∧ left ≤ n ∧ facF k f left p = some res) (fun δ => (slI δ 2 - slI δ 3 + 1).toNat) ?_ ⟨n + 2, [], n, 2, rfl, by omega, by omega, h1, by simp, by omega, hres⟩
  rintro δ ⟨k, f, left, p, rfl, hp, hp2, hl, hf, hln, hr⟩
  cases k with
  | zero => cases hr
  | succ k =>
  rw [facF] at hr
  have sq : ((p : Int) * (p : Int) ≤ (left : Int)) ↔ p * p ≤ left := by rw [← Int.natCast_mul]; omega
  by_cases hg : p * p ≤ left
  · rw [if_pos hg] at hr
    obtain ⟨⟨f', left'⟩, hs, hr⟩ := Option.bind_eq_some_iff.1 hr
    have hpl : p ≤ left := Nat.le_trans (Nat.le_mul_of_pos_left _ (by omega)) hg
    simp [↓r_get2, ↓r_get1, ↓r_getE, ↓r_val, ↓r_slot, ↓r_sfz, ↓r_sow, ↓r_all, ↓r_all0, ↓r_all1, ↓r_bl, ↓r_fbl, ↓r_int, ↓r_cons, ↓r_tupE, ↓r_dKE, ↓r_seqL, ↓r_seqT, ↓r_sets0, ↓r_setsF, ↓r_setsO, ↓r_nun, ↓r_nuo, ↓r_add, ↓r_addl, ↓r_addt, ↓r_addb, ↓r_sub, ↓r_subb, ↓r_mul, ↓r_div, ↓r_mod, ↓r_pow, ↓r_cmp, ↓r_i0, ↓r_neg, ↓r_eq, ↓r_ne, ↓r_i1, ↓r_i2, ↓r_max, ↓r_min, ↓r_toI, ↓r_toIb, ↓r_lenL, ↓r_lenT, ↓r_lenS, ↓r_reprI, ↓r_reprB, ↓r_ixT, ↓r_ixL, ↓r_at0, ↓r_at1, ↓r_at2, ↓r_mull, ↓r_mult, ↓r_listL, ↓r_listT, ↓r_tupL, ↓r_tupT, ↓r_dvm, ↓r_slL, ↓r_slT, sm p hp2, sq, hg]
    refine while_inv moT moS (fun δ => ∃ (j : Nat) (f1 : List (Nat × Nat)) (l1 : Nat), δ = [.fz (.int n), .ow (.dK (kvD f1)), .fz (.int l1), .fz (.int p)] ∧ 1 ≤ l1 ∧ l1 ≤ left ∧ 2 ^ f1.length * l1 ≤ n ∧ strip j f1 l1 p = some (f', left')) (fun δ => (slI δ 2).toNat) ?_ ⟨_, f, left, rfl, hl, Nat.le_refl _, hf, hs⟩
    rintro δ ⟨j, f1, l1, rfl, h3, h4, h5, h6⟩
    cases j with
    | zero => cases h6
    | succ j =>
    rw [strip] at h6
    by_cases hz : l1 % p = 0
    · rw [if_pos hz] at h6
      have hl1 : p ≤ l1 := Nat.le_of_dvd (by omega) (Nat.dvd_of_mod_eq_zero hz)
      have h7 : 1 ≤ l1 / p := (Nat.one_le_div_iff (by omega)).2 hl1
      have h8 : l1 / p < l1 := Nat.div_lt_self (by omega) (by omega)
      have h9 : (p : Int) ≠ 0 := by omega
      have hpn : p ≠ 0 := by omega
      have h10 : ((kvD f1).length) < 1000000 := by unfold kvD; rw [List.length_map]; exact few h5 h3
      simp [↓r_get2, ↓r_get1, ↓r_getE, ↓r_val, ↓r_slot, ↓r_sfz, ↓r_sow, ↓r_all, ↓r_all0, ↓r_all1, ↓r_bl, ↓r_fbl, ↓r_int, ↓r_cons, ↓r_tupE, ↓r_dKE, ↓r_seqL, ↓r_seqT, ↓r_sets0, ↓r_setsF, ↓r_setsO, ↓r_nun, ↓r_nuo, ↓r_add, ↓r_addl, ↓r_addt, ↓r_addb, ↓r_sub, ↓r_subb, ↓r_mul, ↓r_div, ↓r_mod, ↓r_pow, ↓r_cmp, ↓r_i0, ↓r_neg, ↓r_eq, ↓r_ne, ↓r_i1, ↓r_i2, ↓r_max, ↓r_min, ↓r_toI, ↓r_toIb, ↓r_lenL, ↓r_lenT, ↓r_lenS, ↓r_reprI, ↓r_reprB, ↓r_ixT, ↓r_ixL, ↓r_at0, ↓r_at1, ↓r_at2, ↓r_mull, ↓r_mult, ↓r_listL, ↓r_listT, ↓r_tupL, ↓r_tupT, ↓r_dvm, ↓r_slL, ↓r_slT, modN hp, divN hp, hz, hpn, getD_kvD, putD_kvD, dm _ p hp hp2, h10, keyD]
      refine ⟨⟨j, addK f1 p, l1 / p, ⟨rfl, rfl⟩, h7, by omega, less h5 hp, h6⟩, ?_⟩
      have h11 : ((l1 / p : Nat) : Int) < (l1 : Int) := by omega
      rw [Int.natCast_ediv] at h11
      simp [slI]
      omega
    · rw [if_neg hz] at h6
      cases h6
      have hpn : p ≠ 0 := by omega
      have hp3 : (p : Int) = 2 ↔ p = 2 := by omega
      have fin : ∀ c : Nat, (c = 1 ∨ c = 2) → (c = if p = 2 then 1 else 2) → facF k f' left' (p + c) = some res := by
        intro c hc hc2
        rw [hc2]; exact hr
      have hz2 : ¬ ((left' % p : Nat) : Int) = 0 := by omega
      simp [↓r_get2, ↓r_get1, ↓r_getE, ↓r_val, ↓r_slot, ↓r_sfz, ↓r_sow, ↓r_all, ↓r_all0, ↓r_all1, ↓r_bl, ↓r_fbl, ↓r_int, ↓r_cons, ↓r_tupE, ↓r_dKE, ↓r_seqL, ↓r_seqT, ↓r_sets0, ↓r_setsF, ↓r_setsO, ↓r_nun, ↓r_nuo, ↓r_add, ↓r_addl, ↓r_addt, ↓r_addb, ↓r_sub, ↓r_subb, ↓r_mul, ↓r_div, ↓r_mod, ↓r_pow, ↓r_cmp, ↓r_i0, ↓r_neg, ↓r_eq, ↓r_ne, ↓r_i1, ↓r_i2, ↓r_max, ↓r_min, ↓r_toI, ↓r_toIb, ↓r_lenL, ↓r_lenT, ↓r_lenS, ↓r_reprI, ↓r_reprB, ↓r_ixT, ↓r_ixL, ↓r_at0, ↓r_at1, ↓r_at2, ↓r_mull, ↓r_mult, ↓r_listL, ↓r_listT, ↓r_tupL, ↓r_tupT, ↓r_dvm, ↓r_slL, ↓r_slT, modN hp, hpn, hz2, -Int.natCast_emod, -Int.natCast_eq_zero]
      refine ⟨by omega, ?_⟩
      by_cases h2 : p = 2
      · rw [if_pos (by omega)]
        exact ⟨⟨k, f', left', p + 1, ⟨rfl, rfl, by omega⟩, by omega, by omega, h3, h5, by omega, fin 1 (.inl rfl) (by simp [h2])⟩, by simp [slI]; omega⟩
      · rw [if_neg (by omega)]
        exact ⟨⟨k, f', left', p + 2, ⟨rfl, rfl, by omega⟩, by omega, by omega, h3, h5, by omega, fin 2 (.inr rfl) (by simp [h2])⟩, by simp [slI]; omega⟩
  · rw [if_neg hg] at hr
    cases hr
    simp [↓r_get2, ↓r_get1, ↓r_getE, ↓r_val, ↓r_slot, ↓r_sfz, ↓r_sow, ↓r_all, ↓r_all0, ↓r_all1, ↓r_bl, ↓r_fbl, ↓r_int, ↓r_cons, ↓r_tupE, ↓r_dKE, ↓r_seqL, ↓r_seqT, ↓r_sets0, ↓r_setsF, ↓r_setsO, ↓r_nun, ↓r_nuo, ↓r_add, ↓r_addl, ↓r_addt, ↓r_addb, ↓r_sub, ↓r_subb, ↓r_mul, ↓r_div, ↓r_mod, ↓r_pow, ↓r_cmp, ↓r_i0, ↓r_neg, ↓r_eq, ↓r_ne, ↓r_i1, ↓r_i2, ↓r_max, ↓r_min, ↓r_toI, ↓r_toIb, ↓r_lenL, ↓r_lenT, ↓r_lenS, ↓r_reprI, ↓r_reprB, ↓r_ixT, ↓r_ixL, ↓r_at0, ↓r_at1, ↓r_at2, ↓r_mull, ↓r_mult, ↓r_listL, ↓r_listT, ↓r_tupL, ↓r_tupT, ↓r_dvm, ↓r_slL, ↓r_slT, sm p hp2, sq, hg]
    simp only [w_factors_in_r2]
    by_cases hl1 : 1 < left
    · have hl2 : (1 : Int) < (left : Int) := by omega
      have h10 : ((kvD f).length) < 1000000 := by unfold kvD; rw [List.length_map]; exact few hf hl
      simp [↓r_get2, ↓r_get1, ↓r_getE, ↓r_val, ↓r_slot, ↓r_sfz, ↓r_sow, ↓r_all, ↓r_all0, ↓r_all1, ↓r_bl, ↓r_fbl, ↓r_int, ↓r_cons, ↓r_tupE, ↓r_dKE, ↓r_seqL, ↓r_seqT, ↓r_sets0, ↓r_setsF, ↓r_setsO, ↓r_nun, ↓r_nuo, ↓r_add, ↓r_addl, ↓r_addt, ↓r_addb, ↓r_sub, ↓r_subb, ↓r_mul, ↓r_div, ↓r_mod, ↓r_pow, ↓r_cmp, ↓r_i0, ↓r_neg, ↓r_eq, ↓r_ne, ↓r_i1, ↓r_i2, ↓r_max, ↓r_min, ↓r_toI, ↓r_toIb, ↓r_lenL, ↓r_lenT, ↓r_lenS, ↓r_reprI, ↓r_reprB, ↓r_ixT, ↓r_ixL, ↓r_at0, ↓r_at1, ↓r_at2, ↓r_mull, ↓r_mult, ↓r_listL, ↓r_listT, ↓r_tupL, ↓r_tupT, ↓r_dvm, ↓r_slL, ↓r_slT, hl1, getD_kvD, putD_kvD, h10, keyD]
      simp only [w_factors_in_r3]
      simp [↓r_get2, ↓r_get1, ↓r_getE, ↓r_val, ↓r_slot, ↓r_sfz, ↓r_sow, ↓r_all, ↓r_all0, ↓r_all1, ↓r_bl, ↓r_fbl, ↓r_int, ↓r_cons, ↓r_tupE, ↓r_dKE, ↓r_seqL, ↓r_seqT, ↓r_sets0, ↓r_setsF, ↓r_setsO, ↓r_nun, ↓r_nuo, ↓r_add, ↓r_addl, ↓r_addt, ↓r_addb, ↓r_sub, ↓r_subb, ↓r_mul, ↓r_div, ↓r_mod, ↓r_pow, ↓r_cmp, ↓r_i0, ↓r_neg, ↓r_eq, ↓r_ne, ↓r_i1, ↓r_i2, ↓r_max, ↓r_min, ↓r_toI, ↓r_toIb, ↓r_lenL, ↓r_lenT, ↓r_lenS, ↓r_reprI, ↓r_reprB, ↓r_ixT, ↓r_ixL, ↓r_at0, ↓r_at1, ↓r_at2, ↓r_mull, ↓r_mult, ↓r_listL, ↓r_listT, ↓r_tupL, ↓r_tupT, ↓r_dvm, ↓r_slL, ↓r_slT, hl1] at q ⊢
      exact .inr ⟨hl2, q⟩
    · simp [↓r_get2, ↓r_get1, ↓r_getE, ↓r_val, ↓r_slot, ↓r_sfz, ↓r_sow, ↓r_all, ↓r_all0, ↓r_all1, ↓r_bl, ↓r_fbl, ↓r_int, ↓r_cons, ↓r_tupE, ↓r_dKE, ↓r_seqL, ↓r_seqT, ↓r_sets0, ↓r_setsF, ↓r_setsO, ↓r_nun, ↓r_nuo, ↓r_add, ↓r_addl, ↓r_addt, ↓r_addb, ↓r_sub, ↓r_subb, ↓r_mul, ↓r_div, ↓r_mod, ↓r_pow, ↓r_cmp, ↓r_i0, ↓r_neg, ↓r_eq, ↓r_ne, ↓r_i1, ↓r_i2, ↓r_max, ↓r_min, ↓r_toI, ↓r_toIb, ↓r_lenL, ↓r_lenT, ↓r_lenS, ↓r_reprI, ↓r_reprB, ↓r_ixT, ↓r_ixL, ↓r_at0, ↓r_at1, ↓r_at2, ↓r_mull, ↓r_mult, ↓r_listL, ↓r_listT, ↓r_tupL, ↓r_tupT, ↓r_dvm, ↓r_slL, ↓r_slT, hl1]
      simp only [w_factors_in_r3]
      simp [↓r_get2, ↓r_get1, ↓r_getE, ↓r_val, ↓r_slot, ↓r_sfz, ↓r_sow, ↓r_all, ↓r_all0, ↓r_all1, ↓r_bl, ↓r_fbl, ↓r_int, ↓r_cons, ↓r_tupE, ↓r_dKE, ↓r_seqL, ↓r_seqT, ↓r_sets0, ↓r_setsF, ↓r_setsO, ↓r_nun, ↓r_nuo, ↓r_add, ↓r_addl, ↓r_addt, ↓r_addb, ↓r_sub, ↓r_subb, ↓r_mul, ↓r_div, ↓r_mod, ↓r_pow, ↓r_cmp, ↓r_i0, ↓r_neg, ↓r_eq, ↓r_ne, ↓r_i1, ↓r_i2, ↓r_max, ↓r_min, ↓r_toI, ↓r_toIb, ↓r_lenL, ↓r_lenT, ↓r_lenS, ↓r_reprI, ↓r_reprB, ↓r_ixT, ↓r_ixL, ↓r_at0, ↓r_at1, ↓r_at2, ↓r_mull, ↓r_mult, ↓r_listL, ↓r_listT, ↓r_tupL, ↓r_tupT, ↓r_dvm, ↓r_slL, ↓r_slT, hl1] at q ⊢
      exact .inl ⟨by omega, q⟩
/-! ### cyclotomic polynomials by both roads -/
def fit (l : List Int) : Bool := canB l && decide (l1 l ≤ 2 ^ 50) && decide (l.length ≤ 300)
def cchk (n : Nat) : List Nat → Nat → Nat → Bool
  | [], m, left => if 1 < n then fit (PHI m) && (stretch (PHI m) left == PHI n) && decide (1 ≤ left) && decide (left ≤ 200) else m == n
  | p :: ps, m, left => fit (PHI m) && fit (PHI (m * p)) && decide (2 ≤ p) && decide (p ≤ 200) && (pmul (PHI (m * p)) (PHI m) == stretch (PHI m) p) && cchk n ps (m * p) (left / p)
def cOK (n : Nat) : Bool := (facs n).isSome && cchk n (((facs n).getD []).map (·.1)) 1 n
theorem cOK_S : (SS.all cOK) = true := by decide +kernel
theorem fit_ok {l : List Int} (h : fit l = true) : l ≠ [] ∧ 2 ≤ l.length ∧ led l ≠ 0 ∧ l.length ≤ 300 ∧ LB (2 ^ 64 - 1) l ∧ Can l := by
  simp only [fit, canB, Bool.and_eq_true, decide_eq_true_eq, beq_iff_eq] at h
  obtain ⟨⟨⟨⟨h1, h2⟩, h3⟩, h4⟩, h5⟩ := h
  have h6 : l ≠ [] := by intro z; rw [z] at h1; simp at h1
  have h7 : led l ≠ 0 := by rw [h2]; decide
  exact ⟨h6, h1, h7, h5, LB.l1 (Nat.le_trans h4 (by decide)), Can.of h6 (.inr h7)⟩
theorem over_step {a b : List Int} (ha : Can a) (h1 : led a ≠ 0) (hb : b ≠ []) (h2 : led b ≠ 0) : divL (pmul a b) b = some a := by
  rw [← (lineMul_eq ha.1 hb h1 h2).1]; exact divL_mul ha hb h1 h2
def sp_cyclotomic_of : DSp := fun ds P _ => ∃ (n : Nat), ds = [.int (n : Int)] ∧ (1 ≤ n ∧ n ≤ 10 ^ 6 ∧ cOK n = true) ∧ P (lD (PHI n))
instance : ISp sp_cyclotomic_of := ⟨fun _ _ _ _ hM ⟨n, e, c, q⟩ => ⟨n, e, c, hM _ q⟩⟩
theorem e_cyclotomic_of {n : Nat} {P : Dat → Prop} {ex : XP} : sp_cyclotomic_of [.int (n : Int)] P ex ↔ (1 ≤ n ∧ n ≤ 10 ^ 6 ∧ cOK n = true) ∧ P (lD (PHI n)) := ⟨fun ⟨_, e, hE⟩ => by (simp [rat_inj, ints_inj, Int.natCast_inj] at e); (obtain rfl := e); exact hE, fun hE => ⟨_, rfl, hE⟩⟩
/-- 0 number 1 found 2 left 3 prime -/
def w_cyclotomic_of_r2 : WS :=
    (wRet (wIte (tBlV (wOp2 gGt (oSlot 0) (oVal (wC (.int 1))))) (wCall sp_stretched (aCons (wVar 1) (aCons (wVar 2) aNil))) (wVar 1)))
def w_cyclotomic_of_r1 : WS :=
    wSeq (wFor (iKeysD (wCall sp_factors_in (aCons (wVar 0) aNil))) (wgN 3) (wSeq (wAsg 1 (wJ (wCall sp_quotient_of_lines (aCons (wCall sp_stretched (aCons (wVar 1) (aCons (wVar 3) aNil))) (aCons (wVar 1) aNil)))))
    (wAug 2 gIDiv (oSlot 3)))) w_cyclotomic_of_r2
def w_cyclotomic_of : WS :=
    wSeq (wSets [1, 2] (ajCons (wJ (wTup (aCons (wE (wOp1 gNeg (oVal (wC (.int 1))))) (aCons (wC (.int 1)) aNil)))) (ajCons (wJ (wVar 0)) ajNil))) w_cyclotomic_of_r1
theorem k_cyclotomic_of : Keeps 4 1 w_cyclotomic_of sp_cyclotomic_of := by
  rintro _ P ex0 ⟨n, rfl, hc, q⟩
  refine ⟨rfl, ?_⟩
  generalize (fun (x : XD) (_ : Dl) => ex0 x) = ex
  obtain ⟨h1, h6, hk⟩ := hc
  have h9 : n ≤ 10 ^ 9 := by omega
  unfold cOK at hk
  rw [Bool.and_eq_true] at hk
  obtain ⟨hs, hk⟩ := hk
  generalize hf : (facs n).getD [] = f at hk
  simp only [w_cyclotomic_of]
  simp [↓r_get2, ↓r_get1, ↓r_getE, ↓r_val, ↓r_slot, ↓r_sfz, ↓r_sow, ↓r_all, ↓r_all0, ↓r_all1, ↓r_bl, ↓r_fbl, ↓r_int, ↓r_cons, ↓r_tupE, ↓r_dKE, ↓r_seqL, ↓r_seqT, ↓r_sets0, ↓r_setsF, ↓r_setsO, ↓r_nun, ↓r_nuo, ↓r_add, ↓r_addl, ↓r_addt, ↓r_addb, ↓r_sub, ↓r_subb, ↓r_mul, ↓r_div, ↓r_mod, ↓r_pow, ↓r_cmp, ↓r_i0, ↓r_neg, ↓r_eq, ↓r_ne, ↓r_i1, ↓r_i2, ↓r_max, ↓r_min, ↓r_toI, ↓r_toIb, ↓r_lenL, ↓r_lenT, ↓r_lenS, ↓r_reprI, ↓r_reprB, ↓r_ixT, ↓r_ixL, ↓r_at0, ↓r_at1, ↓r_at2, ↓r_mull, ↓r_mult, ↓r_listL, ↓r_listT, ↓r_tupL, ↓r_tupT, ↓r_dvm, ↓r_slL, ↓r_slT]
  simp only [w_cyclotomic_of_r1]
  simp [↓r_get2, ↓r_get1, ↓r_getE, ↓r_val, ↓r_slot, ↓r_sfz, ↓r_sow, ↓r_all, ↓r_all0, ↓r_all1, ↓r_bl, ↓r_fbl, ↓r_int, ↓r_cons, ↓r_tupE, ↓r_dKE, ↓r_seqL, ↓r_seqT, ↓r_sets0, ↓r_setsF, ↓r_setsO, ↓r_nun, ↓r_nuo, ↓r_add, ↓r_addl, ↓r_addt, ↓r_addb, ↓r_sub, ↓r_subb, ↓r_mul, ↓r_div, ↓r_mod, ↓r_pow, ↓r_cmp, ↓r_i0, ↓r_neg, ↓r_eq, ↓r_ne, ↓r_i1, ↓r_i2, ↓r_max, ↓r_min, ↓r_toI, ↓r_toIb, ↓r_lenL, ↓r_lenT, ↓r_lenS, ↓r_reprI, ↓r_reprB, ↓r_ixT, ↓r_ixL, ↓r_at0, ↓r_at1, ↓r_at2, ↓r_mull, ↓r_mult, ↓r_listL, ↓r_listT, ↓r_tupL, ↓r_tupT, ↓r_dvm, ↓r_slL, ↓r_slT, ↓e_factors_in, h1, h9, hs, hf]
  have hm : (kvD f).map (fun p => keyDat p.1) = (f.map (·.1)).map fun k => Dat.int ((k : Nat) : Int) := by unfold kvD; simp
  rw [hm]
  generalize hks : f.map (·.1) = ks at hk
  have p1 : PHI 1 = [-1, 1] := by decide +kernel
  refine for_inv moG moS (fun i δ => ∃ (m left : Nat) (u : DV), δ = [.fz (.int n), .fz (lD (PHI m)), .fz (.int left), u] ∧ left ≤ n ∧ cchk n (ks.drop i) m left = true) ?_ ?_ ⟨1, n, _, by rw [p1]; rfl, Nat.le_refl _, by simpa using hk⟩
  · rintro i d δ hi ⟨m, left, u, rfl, hl, hk⟩
    rw [List.getElem?_map] at hi
    obtain ⟨p, hp, rfl⟩ := Option.map_eq_some_iff.1 hi
    obtain ⟨hlt, hpe⟩ := List.getElem?_eq_some_iff.1 hp
    rw [List.drop_eq_getElem_cons hlt, hpe, cchk] at hk
    simp only [Bool.and_eq_true, decide_eq_true_eq, beq_iff_eq] at hk
    obtain ⟨⟨⟨⟨⟨f1, f2⟩, p2⟩, p3⟩, he⟩, hk⟩ := hk
    obtain ⟨a1, a2, a3, a4, a5, a6⟩ := fit_ok f1
    obtain ⟨b1, b2, b3, b4, b5, b6⟩ := fit_ok f2
    have c1 : 1 ≤ p := by omega
    have c2 : ((PHI m).length - 1) * p ≤ 100000 := by
      have : ((PHI m).length - 1) * p ≤ 300 * 200 := Nat.mul_le_mul (by omega) p3
      omega
    have e1 : ∀ {P ex}, sp_quotient_of_lines [lD (stretch (PHI m) p), lD (PHI m)] P ex ↔ P (lD (PHI (m * p))) := by
      intro P ex
      rw [e_quotient_of_lines, ← he, over_step b6 b3 a1 a3]
      refine ⟨fun x => x.2, fun x => ⟨⟨pmul_ne b1 a1, a1, ?_, by omega, a5, a3⟩, x⟩⟩
      rw [len_pmul b1 a1]; omega
    have d1 : CDivM (left : Int) (p : Int) := div_ok (by omega) (by omega) (by
      have : (p : Int) ≤ 200 := by omega
      exact Int.lt_of_le_of_lt this (by decide +kernel))
    have d2 : pyDiv (left : Int) (p : Int) = ((left / p : Nat) : Int) := by rw [pyDiv_pos (by omega)]; omega
    simp [↓r_get2, ↓r_get1, ↓r_getE, ↓r_val, ↓r_slot, ↓r_sfz, ↓r_sow, ↓r_all, ↓r_all0, ↓r_all1, ↓r_bl, ↓r_fbl, ↓r_int, ↓r_cons, ↓r_tupE, ↓r_dKE, ↓r_seqL, ↓r_seqT, ↓r_sets0, ↓r_setsF, ↓r_setsO, ↓r_nun, ↓r_nuo, ↓r_add, ↓r_addl, ↓r_addt, ↓r_addb, ↓r_sub, ↓r_subb, ↓r_mul, ↓r_div, ↓r_mod, ↓r_pow, ↓r_cmp, ↓r_i0, ↓r_neg, ↓r_eq, ↓r_ne, ↓r_i1, ↓r_i2, ↓r_max, ↓r_min, ↓r_toI, ↓r_toIb, ↓r_lenL, ↓r_lenT, ↓r_lenS, ↓r_reprI, ↓r_reprB, ↓r_ixT, ↓r_ixL, ↓r_at0, ↓r_at1, ↓r_at2, ↓r_mull, ↓r_mult, ↓r_listL, ↓r_listT, ↓r_tupL, ↓r_tupT, ↓r_dvm, ↓r_slL, ↓r_slT, ↓e_stretched, ↓e1, a1, c1, c2, d1, d2, -Int.natCast_ediv]
    exact ⟨m * p, left / p, ⟨rfl, rfl⟩, Nat.le_trans (Nat.div_le_self _ _) hl, hk⟩
  · rintro δ ⟨m, left, u, rfl, hl, hk⟩
    rw [List.length_map, List.drop_length, cchk] at hk
    simp only [w_cyclotomic_of_r2]
    by_cases hn : 1 < n
    · rw [if_pos hn] at hk
      simp only [Bool.and_eq_true, decide_eq_true_eq, beq_iff_eq] at hk
      obtain ⟨⟨⟨f1, he⟩, l1⟩, l2⟩ := hk
      obtain ⟨a1, a2, a3, a4, a5, a6⟩ := fit_ok f1
      have c2 : ((PHI m).length - 1) * left ≤ 100000 := by
        have : ((PHI m).length - 1) * left ≤ 300 * 200 := Nat.mul_le_mul (by omega) l2
        omega
      have hn2 : (1 : Int) < (n : Int) := by omega
      simp [↓r_get2, ↓r_get1, ↓r_getE, ↓r_val, ↓r_slot, ↓r_sfz, ↓r_sow, ↓r_all, ↓r_all0, ↓r_all1, ↓r_bl, ↓r_fbl, ↓r_int, ↓r_cons, ↓r_tupE, ↓r_dKE, ↓r_seqL, ↓r_seqT, ↓r_sets0, ↓r_setsF, ↓r_setsO, ↓r_nun, ↓r_nuo, ↓r_add, ↓r_addl, ↓r_addt, ↓r_addb, ↓r_sub, ↓r_subb, ↓r_mul, ↓r_div, ↓r_mod, ↓r_pow, ↓r_cmp, ↓r_i0, ↓r_neg, ↓r_eq, ↓r_ne, ↓r_i1, ↓r_i2, ↓r_max, ↓r_min, ↓r_toI, ↓r_toIb, ↓r_lenL, ↓r_lenT, ↓r_lenS, ↓r_reprI, ↓r_reprB, ↓r_ixT, ↓r_ixL, ↓r_at0, ↓r_at1, ↓r_at2, ↓r_mull, ↓r_mult, ↓r_listL, ↓r_listT, ↓r_tupL, ↓r_tupT, ↓r_dvm, ↓r_slL, ↓r_slT, ↓e_stretched, a1, c2, l1, he, hn]
      exact .inr ⟨hn2, q⟩
    · rw [if_neg hn, beq_iff_eq] at hk
      subst hk
      simp [↓r_get2, ↓r_get1, ↓r_getE, ↓r_val, ↓r_slot, ↓r_sfz, ↓r_sow, ↓r_all, ↓r_all0, ↓r_all1, ↓r_bl, ↓r_fbl, ↓r_int, ↓r_cons, ↓r_tupE, ↓r_dKE, ↓r_seqL, ↓r_seqT, ↓r_sets0, ↓r_setsF, ↓r_setsO, ↓r_nun, ↓r_nuo, ↓r_add, ↓r_addl, ↓r_addt, ↓r_addb, ↓r_sub, ↓r_subb, ↓r_mul, ↓r_div, ↓r_mod, ↓r_pow, ↓r_cmp, ↓r_i0, ↓r_neg, ↓r_eq, ↓r_ne, ↓r_i1, ↓r_i2, ↓r_max, ↓r_min, ↓r_toI, ↓r_toIb, ↓r_lenL, ↓r_lenT, ↓r_lenS, ↓r_reprI, ↓r_reprB, ↓r_ixT, ↓r_ixL, ↓r_at0, ↓r_at1, ↓r_at2, ↓r_mull, ↓r_mult, ↓r_listL, ↓r_listT, ↓r_tupL, ↓r_tupT, ↓r_dvm, ↓r_slL, ↓r_slT, hn]
      exact .inl ⟨by omega, q⟩
theorem comm_units {k n : Nat} : [(k : Int), (n : Int)].foldl pyGcd 0 = ((Nat.gcd k n : Nat) : Int) := by
  show pyGcd (pyGcd 0 (k : Int)) (n : Int) = _
  unfold pyGcd; simp
def sp__law_units : DSp := fun ds P _ => ∃ (n : Nat), ds = [.int (n : Int)] ∧ (n ≤ 10000) ∧ P (.lst ((units n).map fun k => Dat.int ((k : Nat) : Int)))
instance : ISp sp__law_units := ⟨fun _ _ _ _ hM ⟨n, e, c, q⟩ => ⟨n, e, c, hM _ q⟩⟩
theorem e__law_units {n : Nat} {P : Dat → Prop} {ex : XP} : sp__law_units [.int (n : Int)] P ex ↔ (n ≤ 10000) ∧ P (.lst ((units n).map fun k => Dat.int ((k : Nat) : Int))) := ⟨fun ⟨_, e, hE⟩ => by (simp [rat_inj, ints_inj, Int.natCast_inj] at e); (obtain rfl := e); exact hE, fun hE => ⟨_, rfl, hE⟩⟩
/-- 0 _law_number 1 _law_unit -/
def w__law_units : WS :=
    (wRet (wE (wComp (iRange2 (oVal (wC (.int 1))) (oVal (wE (wOp2 gAdd (oSlot 0) (oVal (wC (.int 1))))))) (.one 1) [1] (tBlV (wOp2 gEq (oVal (wCall sp__law_common (aCons (wE (wLst (aCons (wVar 1) (aCons (wVar 0) aNil)))) aNil))) (oVal (wC (.int 1))))) (wVar 1))))
theorem k__law_units : Keeps 2 1 w__law_units sp__law_units := by
  rintro _ P ex0 ⟨n, rfl, hc, q⟩
  refine ⟨rfl, ?_⟩
  generalize (fun (x : XD) (_ : Dl) => ex0 x) = ex
  have e1 : ∀ {k : Nat} {P ex}, sp__law_common [.lst [.int (1 + (k : Int)), .int (n : Int)]] P ex ↔ P (.int ((Nat.gcd (k + 1) n : Nat) : Int)) := by
    intro k P ex
    have h := e__law_common (ns := [((k + 1 : Nat) : Int), (n : Int)]) (P := P) (ex := ex)
    rw [comm_units] at h
    have e : (1 + (k : Int)) = ((k + 1 : Nat) : Int) := by omega
    rw [e]; exact h
  simp only [w__law_units]
  simp [↓r_get2, ↓r_get1, ↓r_getE, ↓r_val, ↓r_slot, ↓r_sfz, ↓r_sow, ↓r_all, ↓r_all0, ↓r_all1, ↓r_bl, ↓r_fbl, ↓r_int, ↓r_cons, ↓r_tupE, ↓r_dKE, ↓r_seqL, ↓r_seqT, ↓r_sets0, ↓r_setsF, ↓r_setsO, ↓r_nun, ↓r_nuo, ↓r_add, ↓r_addl, ↓r_addt, ↓r_addb, ↓r_sub, ↓r_subb, ↓r_mul, ↓r_div, ↓r_mod, ↓r_pow, ↓r_cmp, ↓r_i0, ↓r_neg, ↓r_eq, ↓r_ne, ↓r_i1, ↓r_i2, ↓r_max, ↓r_min, ↓r_toI, ↓r_toIb, ↓r_lenL, ↓r_lenT, ↓r_lenS, ↓r_reprI, ↓r_reprB, ↓r_ixT, ↓r_ixL, ↓r_at0, ↓r_at1, ↓r_at2, ↓r_mull, ↓r_mult, ↓r_listL, ↓r_listT, ↓r_tupL, ↓r_tupT, ↓r_dvm, ↓r_slL, ↓r_slT]
  refine ⟨by omega, wCLoop_fm (gcdD n) moT moE _ (by simp [rangeD]; omega) ?_ ?_⟩
  · intro d hd
    simp [rangeD] at hd
    obtain ⟨k, hk, rfl⟩ := hd
    have e2 : pyGcd (1 + (k : Int)) (n : Int) = ((Nat.gcd (k + 1) n : Nat) : Int) := by
      have e : (1 + (k : Int)) = ((k + 1 : Nat) : Int) := by omega
      rw [e, pyGcd_eq]; rfl
    by_cases h : ((Nat.gcd (k + 1) n : Nat) : Int) = 1
    · simp [CT.bind, gcdD, e2, ↓e1, h, ↓r_get2, ↓r_get1, ↓r_getE, ↓r_val, ↓r_slot, ↓r_sfz, ↓r_sow, ↓r_all, ↓r_all0, ↓r_all1, ↓r_bl, ↓r_fbl, ↓r_int, ↓r_cons, ↓r_tupE, ↓r_dKE, ↓r_seqL, ↓r_seqT, ↓r_sets0, ↓r_setsF, ↓r_setsO, ↓r_nun, ↓r_nuo, ↓r_add, ↓r_addl, ↓r_addt, ↓r_addb, ↓r_sub, ↓r_subb, ↓r_mul, ↓r_div, ↓r_mod, ↓r_pow, ↓r_cmp, ↓r_i0, ↓r_neg, ↓r_eq, ↓r_ne, ↓r_i1, ↓r_i2, ↓r_max, ↓r_min, ↓r_toI, ↓r_toIb, ↓r_lenL, ↓r_lenT, ↓r_lenS, ↓r_reprI, ↓r_reprB, ↓r_ixT, ↓r_ixL, ↓r_at0, ↓r_at1, ↓r_at2, ↓r_mull, ↓r_mult, ↓r_listL, ↓r_listT, ↓r_tupL, ↓r_tupT, ↓r_dvm, ↓r_slL, ↓r_slT]
    · simp [CT.bind, gcdD, e2, ↓e1, h, ↓r_get2, ↓r_get1, ↓r_getE, ↓r_val, ↓r_slot, ↓r_sfz, ↓r_sow, ↓r_all, ↓r_all0, ↓r_all1, ↓r_bl, ↓r_fbl, ↓r_int, ↓r_cons, ↓r_tupE, ↓r_dKE, ↓r_seqL, ↓r_seqT, ↓r_sets0, ↓r_setsF, ↓r_setsO, ↓r_nun, ↓r_nuo, ↓r_add, ↓r_addl, ↓r_addt, ↓r_addb, ↓r_sub, ↓r_subb, ↓r_mul, ↓r_div, ↓r_mod, ↓r_pow, ↓r_cmp, ↓r_i0, ↓r_neg, ↓r_eq, ↓r_ne, ↓r_i1, ↓r_i2, ↓r_max, ↓r_min, ↓r_toI, ↓r_toIb, ↓r_lenL, ↓r_lenT, ↓r_lenS, ↓r_reprI, ↓r_reprB, ↓r_ixT, ↓r_ixL, ↓r_at0, ↓r_at1, ↓r_at2, ↓r_mull, ↓r_mult, ↓r_listL, ↓r_listT, ↓r_tupL, ↓r_tupT, ↓r_dvm, ↓r_slL, ↓r_slT]
  · rw [List.nil_append, units_map]
    exact q
/-! ### the law's own cyclotomic polynomials -/
def dvs (n : Nat) : List Nat := (List.range (n + 1)).filter fun k => decide (1 ≤ k) && n % k == 0
def dvD (n : Nat) : Dat → Option Dat
  | .int k => if pyMod (n : Int) k = 0 then some (.int k) else none
  | _ => none
theorem dvs_map {n : Nat} : (rangeD 1 ((n : Int) + 1)).filterMap (dvD n) = (dvs n).map fun k => Dat.int ((k : Nat) : Int) := by
  refine range_filter (fun k => n % k == 0) (dvD n) fun k => ?_
  by_cases hk : k = 0
  · subst hk
    by_cases h : n = 0 <;> simp [dvD, pyMod, h]
  · have e : pyMod (n : Int) (k : Int) = ((n % k : Nat) : Int) := by rw [pyMod_pos (by omega)]; omega
    have e2 : ((n % k : Nat) : Int) = 0 ↔ n % k = 0 := by omega
    simp [dvD, e, e2, -Int.natCast_emod]
def toldD (ds : List Nat) : List (Key × Dat) := ds.map fun (d : Nat) => ((Sum.inl ((d : Nat) : Int) : Key), lD (PHI d))
theorem toldD_val {ds : List Nat} {d : Nat} (h : d ∈ ds) : valD (toldD ds) (Sum.inl (d : Int)) = some (lD (PHI d)) := by
  unfold valD toldD
  induction ds with
  | nil => cases h
  | cons a ds ih =>
    by_cases e : a = d
    · simp [e]
    · have e2 : decide ((Sum.inl (a : Int) : Key) = Sum.inl (d : Int)) = false := by simp; omega
      simp only [List.map_cons, List.find?_cons, e2]
      exact ih ((List.mem_cons.1 h).resolve_left (fun z => e z.symm))
theorem toldD_put {ds : List Nat} {d : Nat} (h : d ∉ ds) : putD (toldD ds) (Sum.inl (d : Int)) (lD (PHI d)) = toldD (ds ++ [d]) := by
  unfold putD
  have : ((toldD ds).any fun kv => decide (kv.1 = (Sum.inl (d : Int) : Key))) = false := by
    rw [List.any_eq_false]
    intro p hp
    unfold toldD at hp
    obtain ⟨a, ha, rfl⟩ := List.mem_map.1 hp
    simp
    rintro z
    have : a = d := by omega
    exact h (this ▸ ha)
  rw [this]
  simp [toldD]
theorem toldD_keys {ds : List Nat} : (toldD ds).map (·.1) = (ds.map fun d => ((d : Nat) : Int)).map Sum.inl := by unfold toldD; simp
theorem perm_sorted : ∀ {a b : List Int}, a.Perm b → a.Pairwise (· ≤ ·) → b.Pairwise (· ≤ ·) → a = b
  | [], b, h, _, _ => by rw [h.symm.eq_nil]
  | x :: a, [], h, _, _ => by have := h.eq_nil; cases this
  | x :: a, y :: b, h, h1, h2 => by
    have p1 := List.pairwise_cons.1 h1
    have p2 := List.pairwise_cons.1 h2
    have e : x = y := by
      have a1 : x ∈ y :: b := h.subset List.mem_cons_self
      have a2 : y ∈ x :: a := h.symm.subset List.mem_cons_self
      rcases List.mem_cons.1 a1 with z | z
      · exact z
      · rcases List.mem_cons.1 a2 with w | w
        · exact w.symm
        · exact Int.le_antisymm (p1.1 _ w) (p2.1 _ z)
    subst e
    rw [perm_sorted ((List.perm_cons x).1 h) p1.2 p2.2]
theorem sorted_nat {ds : List Nat} (h : ds.Pairwise (· < ·)) : (ds.map fun d => ((d : Nat) : Int)).Pairwise (· ≤ ·) := by
  rw [List.pairwise_map]
  exact h.imp fun h => by omega
theorem dvs_sorted {n : Nat} : (dvs n).Pairwise (· < ·) := List.Pairwise.filter _ List.pairwise_lt_range
theorem dvs_chk : (SS.all fun n => (List.range (dvs n).length).all fun i => (((dvs n).take i).filter (fun d => ((dvs n).getD i 0) % d == 0) == propDivs ((dvs n).getD i 0)) && SS.contains ((dvs n).getD i 0)) = true := by decide +kernel
theorem dvs_few : (SS.all fun n => decide ((dvs n).length ≤ 20)) = true := by decide +kernel
theorem dvs_self : (SS.all fun n => (dvs n).contains n) = true := by decide +kernel
theorem dvs_at {n i : Nat} (hn : n ∈ SS) (hi : i < (dvs n).length) : ((dvs n).take i).filter (fun d => (dvs n)[i] % d == 0) = propDivs (dvs n)[i] ∧ (dvs n)[i] ∈ SS := by
  have h := List.all_eq_true.1 (List.all_eq_true.1 dvs_chk n hn) i (List.mem_range.2 hi)
  rw [Bool.and_eq_true, beq_iff_eq, List.contains_iff_mem, List.getD_eq_getElem?_getD, List.getElem?_eq_getElem hi] at h
  exact h
theorem rprod_props {f : List Int} (hf : Can f) (h1 : led f ≠ 0) : ∀ {ds : List Nat}, (∀ d ∈ ds, d ∈ SS) → Can (rprod f ds) ∧ led (rprod f ds) ≠ 0 ∧ (rprod f ds).length ≤ f.length + 20 * ds.length
  | [], _ => ⟨hf, h1, by simp [rprod]⟩
  | d :: ds, h => by
    obtain ⟨i1, i2, i3⟩ := rprod_props hf h1 (ds := ds) fun x hx => h x (List.mem_cons_of_mem _ hx)
    have hp := Phi.of (h d List.mem_cons_self)
    have := lineMul_eq i1.1 hp.ne i2 hp.led
    refine ⟨this.2.1, this.2.2, ?_⟩
    show (pmul (rprod f ds) (PHI d)).length ≤ _
    rw [len_pmul i1.1 hp.ne, hp.len]
    have := hp.deg
    simp; omega
theorem S_le {n : Nat} (h : n ∈ SS) : 1 ≤ n ∧ n ≤ 60 := by
  have h2 := (S_iff.1 h).2
  simp only [inS, Bool.and_eq_true, decide_eq_true_eq] at h2
  exact h2.1
theorem dvs_len {n : Nat} (h : n ≤ 60) : (dvs n).length ≤ 61 := by
  have := List.length_filter_le (fun k => decide (1 ≤ k) && n % k == 0) (List.range (n + 1))
  rw [List.length_range] at this
  unfold dvs; omega
theorem xn1_eq {n : Nat} (h : 1 ≤ n) : lD (xn1 n) = .tup (Dat.int (-1) :: (List.replicate (n - 1) (Dat.int 0) ++ [Dat.int 1])) := by simp [xn1]
def sp__law_cyclotomic : DSp := fun ds P _ => ∃ (n : Nat), ds = [.int (n : Int)] ∧ (n ∈ SS) ∧ P (lD (PHI n))
instance : ISp sp__law_cyclotomic := ⟨fun _ _ _ _ hM ⟨n, e, c, q⟩ => ⟨n, e, c, hM _ q⟩⟩
theorem e__law_cyclotomic {n : Nat} {P : Dat → Prop} {ex : XP} : sp__law_cyclotomic [.int (n : Int)] P ex ↔ (n ∈ SS) ∧ P (lD (PHI n)) := ⟨fun ⟨_, e, hE⟩ => by (simp [rat_inj, ints_inj, Int.natCast_inj] at e); (obtain rfl := e); exact hE, fun hE => ⟨_, rfl, hE⟩⟩
/-- 0 _law_number 1 _law_told 2 _law_size 3 _law_found 4 _law_one -/
def w__law_cyclotomic_r2 : WS :=
    (wRet (wE (wOp2 gIx (oSlot 1) (oSlot 0))))
def w__law_cyclotomic_r1 : WS :=
    wSeq (wFor (iSeq (wE (wComp (iRange2 (oVal (wC (.int 1))) (oVal (wE (wOp2 gAdd (oSlot 0) (oVal (wC (.int 1))))))) (.one 4) [4] (tBlV (wOp2 gEq (oVal (wE (wOp2 gMod (oVal (wE (wCB gInt (aoCons (oSlot 0) aoNil)))) (oSlot 4)))) (oVal (wC (.int 0))))) (wVar 4)))) (wgN 2) (wSeq (wAsg 3 (wOp2 gAdd (oVal (wE (wOp2 gAdd (oVal (wTup (aCons (wE (wOp1 gNeg (oVal (wC (.int 1))))) aNil))) (oVal (wE (wOp2 gMul (oVal (wTup (aCons (wC (.int 0)) aNil))) (oVal (wE (wOp2 gSubA (oSlot 2) (oVal (wC (.int 1)))))))))))) (oVal (wTup (aCons (wC (.int 1)) aNil)))))
    (wSeq (wFor (iSeq (wE (wCB gSorted (aoCons (oSlot 1) aoNil)))) (wgN 4) (wIf (tBlV (wOp2 gEq (oVal (wE (wOp2 gMod (oVal (wE (wCB gInt (aoCons (oSlot 2) aoNil)))) (oSlot 4)))) (oVal (wC (.int 0))))) (wAsg 3 (wJ (wCall sp__law_line_over (aCons (wVar 3) (aCons (wE (wOp2 gIx (oSlot 1) (oSlot 4))) aNil))))) wNext))
    (wAsgG (wVar 3) (wgSub 1 (oSlot 2)))))) w__law_cyclotomic_r2
def w__law_cyclotomic : WS :=
    wSeq (wAsg 1 wDict0) w__law_cyclotomic_r1
theorem k__law_cyclotomic : Keeps 5 1 w__law_cyclotomic sp__law_cyclotomic := by
  rintro _ P ex0 ⟨n, rfl, hc, q⟩
  refine ⟨rfl, ?_⟩
  generalize (fun (x : XD) (_ : Dl) => ex0 x) = ex
  obtain ⟨n1, n60⟩ := S_le hc
  have dl : (dvs n).length ≤ 20 := of_decide_eq_true (List.all_eq_true.1 dvs_few n hc)
  simp only [w__law_cyclotomic]
  simp [↓r_get2, ↓r_get1, ↓r_getE, ↓r_val, ↓r_slot, ↓r_sfz, ↓r_sow, ↓r_all, ↓r_all0, ↓r_all1, ↓r_bl, ↓r_fbl, ↓r_int, ↓r_cons, ↓r_tupE, ↓r_dKE, ↓r_seqL, ↓r_seqT, ↓r_sets0, ↓r_setsF, ↓r_setsO, ↓r_nun, ↓r_nuo, ↓r_add, ↓r_addl, ↓r_addt, ↓r_addb, ↓r_sub, ↓r_subb, ↓r_mul, ↓r_div, ↓r_mod, ↓r_pow, ↓r_cmp, ↓r_i0, ↓r_neg, ↓r_eq, ↓r_ne, ↓r_i1, ↓r_i2, ↓r_max, ↓r_min, ↓r_toI, ↓r_toIb, ↓r_lenL, ↓r_lenT, ↓r_lenS, ↓r_reprI, ↓r_reprB, ↓r_ixT, ↓r_ixL, ↓r_at0, ↓r_at1, ↓r_at2, ↓r_mull, ↓r_mult, ↓r_listL, ↓r_listT, ↓r_tupL, ↓r_tupT, ↓r_dvm, ↓r_slL, ↓r_slT]
  simp only [w__law_cyclotomic_r1]
  simp [↓r_get2, ↓r_get1, ↓r_getE, ↓r_val, ↓r_slot, ↓r_sfz, ↓r_sow, ↓r_all, ↓r_all0, ↓r_all1, ↓r_bl, ↓r_fbl, ↓r_int, ↓r_cons, ↓r_tupE, ↓r_dKE, ↓r_seqL, ↓r_seqT, ↓r_sets0, ↓r_setsF, ↓r_setsO, ↓r_nun, ↓r_nuo, ↓r_add, ↓r_addl, ↓r_addt, ↓r_addb, ↓r_sub, ↓r_subb, ↓r_mul, ↓r_div, ↓r_mod, ↓r_pow, ↓r_cmp, ↓r_i0, ↓r_neg, ↓r_eq, ↓r_ne, ↓r_i1, ↓r_i2, ↓r_max, ↓r_min, ↓r_toI, ↓r_toIb, ↓r_lenL, ↓r_lenT, ↓r_lenS, ↓r_reprI, ↓r_reprB, ↓r_ixT, ↓r_ixL, ↓r_at0, ↓r_at1, ↓r_at2, ↓r_mull, ↓r_mult, ↓r_listL, ↓r_listT, ↓r_tupL, ↓r_tupT, ↓r_dvm, ↓r_slL, ↓r_slT]
  refine ⟨by omega, wCLoop_fm (dvD n) moT moE _ (by simp [rangeD]; omega) ?_ ?_⟩
  · intro d hd
    simp [rangeD] at hd
    obtain ⟨k, hk, rfl⟩ := hd
    have h0 : (1 + (k : Int)) ≠ 0 := by omega
    by_cases h : pyMod (n : Int) (1 + (k : Int)) = 0
    · simp [CT.bind, dvD, h, h0]
    · simp [CT.bind, dvD, h, h0]
  · rw [List.nil_append, dvs_map]
    simp [↓r_get2, ↓r_get1, ↓r_getE, ↓r_val, ↓r_slot, ↓r_sfz, ↓r_sow, ↓r_all, ↓r_all0, ↓r_all1, ↓r_bl, ↓r_fbl, ↓r_int, ↓r_cons, ↓r_tupE, ↓r_dKE, ↓r_seqL, ↓r_seqT, ↓r_sets0, ↓r_setsF, ↓r_setsO, ↓r_nun, ↓r_nuo, ↓r_add, ↓r_addl, ↓r_addt, ↓r_addb, ↓r_sub, ↓r_subb, ↓r_mul, ↓r_div, ↓r_mod, ↓r_pow, ↓r_cmp, ↓r_i0, ↓r_neg, ↓r_eq, ↓r_ne, ↓r_i1, ↓r_i2, ↓r_max, ↓r_min, ↓r_toI, ↓r_toIb, ↓r_lenL, ↓r_lenT, ↓r_lenS, ↓r_reprI, ↓r_reprB, ↓r_ixT, ↓r_ixL, ↓r_at0, ↓r_at1, ↓r_at2, ↓r_mull, ↓r_mult, ↓r_listL, ↓r_listT, ↓r_tupL, ↓r_tupT, ↓r_dvm, ↓r_slL, ↓r_slT]
    refine for_inv moG moS (fun i δ => ∃ (u v w : DV), δ = [.fz (.int n), .ow (.dK (toldD ((dvs n).take i))), u, v, w]) ?_ ?_ ⟨_, _, _, rfl⟩
    · rintro i d δ hi ⟨u, v, w, rfl⟩
      rw [List.getElem?_map] at hi
      obtain ⟨s, hs, rfl⟩ := Option.map_eq_some_iff.1 hi
      obtain ⟨hlt, hse⟩ := List.getElem?_eq_some_iff.1 hs
      have hat := dvs_at hc hlt
      rw [hse] at hat
      obtain ⟨hfil, hsS⟩ := hat
      obtain ⟨s1, s60⟩ := S_le hsS
      have hP := Phi.of hsS
      have e1 : ((s : Int) - 1).toNat = s - 1 := by omega
      simp [↓r_get2, ↓r_get1, ↓r_getE, ↓r_val, ↓r_slot, ↓r_sfz, ↓r_sow, ↓r_all, ↓r_all0, ↓r_all1, ↓r_bl, ↓r_fbl, ↓r_int, ↓r_cons, ↓r_tupE, ↓r_dKE, ↓r_seqL, ↓r_seqT, ↓r_sets0, ↓r_setsF, ↓r_setsO, ↓r_nun, ↓r_nuo, ↓r_add, ↓r_addl, ↓r_addt, ↓r_addb, ↓r_sub, ↓r_subb, ↓r_mul, ↓r_div, ↓r_mod, ↓r_pow, ↓r_cmp, ↓r_i0, ↓r_neg, ↓r_eq, ↓r_ne, ↓r_i1, ↓r_i2, ↓r_max, ↓r_min, ↓r_toI, ↓r_toIb, ↓r_lenL, ↓r_lenT, ↓r_lenS, ↓r_reprI, ↓r_reprB, ↓r_ixT, ↓r_ixL, ↓r_at0, ↓r_at1, ↓r_at2, ↓r_mull, ↓r_mult, ↓r_listL, ↓r_listT, ↓r_tupL, ↓r_tupT, ↓r_dvm, ↓r_slL, ↓r_slT, e1, rep_zero]
      refine ⟨by omega, by omega, by omega, ((dvs n).take i).map (fun d => ((d : Nat) : Int)), toldD_keys, by rw [List.length_map, List.length_take]; omega, ?_⟩
      intro ms hp hso
      have hsub : ∀ d ∈ (dvs n).take i, d ∈ SS := fun d hd => by
        obtain ⟨j, hj, rfl⟩ := List.getElem_of_mem hd
        rw [List.getElem_take]
        exact (dvs_at hc _).2
      have ems := perm_sorted hp hso (sorted_nat (dvs_sorted.sublist (List.take_sublist i (dvs n))))
      subst ems
      generalize hL : (dvs n).take i = L at *
      have hLl : L.length ≤ 20 := by rw [← hL, List.length_take]; omega
      have hx := List.all_eq_true.1 phi_prod s hsS
      rw [beq_iff_eq, ← hfil] at hx
      refine for_inv moG moS (fun j δ => ∃ (w : DV), δ = [.fz (.int n), .ow (.dK (toldD L)), .fz (.int s), .fz (lD (rprod (PHI s) ((L.drop j).filter fun d => s % d == 0))), w]) ?_ ?_ ⟨w, ?_⟩
      · rintro j d δ hj ⟨w, rfl⟩
        rw [List.map_map, List.getElem?_map] at hj
        obtain ⟨p, hp, rfl⟩ := Option.map_eq_some_iff.1 hj
        obtain ⟨hlt, hpe⟩ := List.getElem?_eq_some_iff.1 hp
        have hpL : p ∈ L := hpe ▸ List.getElem_mem hlt
        have hpS := hsub p hpL
        have hpP := Phi.of hpS
        obtain ⟨p1, _⟩ := S_le hpS
        have em : pyMod (s : Int) (p : Int) = ((s % p : Nat) : Int) := by rw [pyMod_pos (by omega)]; omega
        have hp0 : (p : Int) ≠ 0 := by omega
        have hpn : p ≠ 0 := by omega
        have hv := toldD_val hpL
        rw [List.drop_eq_getElem_cons hlt, hpe]
        by_cases hz : s % p = 0
        · rw [List.filter_cons_of_pos (by simp [hz])]
          have hR : ∀ d ∈ (L.drop (j + 1)).filter (fun d => s % d == 0), d ∈ SS := fun d hd => hsub d (List.mem_of_mem_drop (List.mem_filter.1 hd).1)
          obtain ⟨i1, i2, i3⟩ := rprod_props hP.can hP.led hR
          have e4 : rprod (PHI s) (p :: (L.drop (j + 1)).filter fun d => s % d == 0) = pmul (rprod (PHI s) ((L.drop (j + 1)).filter fun d => s % d == 0)) (PHI p) := rfl
          have hlen : ((L.drop (j + 1)).filter fun d => s % d == 0).length ≤ 20 := by
            have := List.length_filter_le (fun d => s % d == 0) (L.drop (j + 1))
            rw [List.length_drop] at this; omega
          have e5 : ∀ {P ex}, sp__law_line_over [lD (pmul (rprod (PHI s) ((L.drop (j + 1)).filter fun d => s % d == 0)) (PHI p)), lD (PHI p)] P ex ↔ P (lD (rprod (PHI s) ((L.drop (j + 1)).filter fun d => s % d == 0))) := by
            intro P ex
            rw [e__law_line_over, over_step i1 i2 hpP.ne hpP.led]
            refine ⟨fun x => x.2, fun x => ⟨⟨pmul_ne i1.1 hpP.ne, hpP.ne, ?_, ?_, hpP.lb, hpP.led⟩, x⟩⟩
            · rw [len_pmul i1.1 hpP.ne, hpP.len]
              have a1 := hP.len
              have a2 := hP.deg
              have a3 := hpP.deg
              omega
            · have a1 := hpP.len
              have a3 := hpP.deg
              omega
          rw [e4]
          simp [↓r_get2, ↓r_get1, ↓r_getE, ↓r_val, ↓r_slot, ↓r_sfz, ↓r_sow, ↓r_all, ↓r_all0, ↓r_all1, ↓r_bl, ↓r_fbl, ↓r_int, ↓r_cons, ↓r_tupE, ↓r_dKE, ↓r_seqL, ↓r_seqT, ↓r_sets0, ↓r_setsF, ↓r_setsO, ↓r_nun, ↓r_nuo, ↓r_add, ↓r_addl, ↓r_addt, ↓r_addb, ↓r_sub, ↓r_subb, ↓r_mul, ↓r_div, ↓r_mod, ↓r_pow, ↓r_cmp, ↓r_i0, ↓r_neg, ↓r_eq, ↓r_ne, ↓r_i1, ↓r_i2, ↓r_max, ↓r_min, ↓r_toI, ↓r_toIb, ↓r_lenL, ↓r_lenT, ↓r_lenS, ↓r_reprI, ↓r_reprB, ↓r_ixT, ↓r_ixL, ↓r_at0, ↓r_at1, ↓r_at2, ↓r_mull, ↓r_mult, ↓r_listL, ↓r_listT, ↓r_tupL, ↓r_tupT, ↓r_dvm, ↓r_slL, ↓r_slT, em, hz, hpn, hv, ↓e5]
        · rw [List.filter_cons_of_neg (by simp [hz])]
          have hz2 : ¬ ((s % p : Nat) : Int) = 0 := by omega
          simp [↓r_get2, ↓r_get1, ↓r_getE, ↓r_val, ↓r_slot, ↓r_sfz, ↓r_sow, ↓r_all, ↓r_all0, ↓r_all1, ↓r_bl, ↓r_fbl, ↓r_int, ↓r_cons, ↓r_tupE, ↓r_dKE, ↓r_seqL, ↓r_seqT, ↓r_sets0, ↓r_setsF, ↓r_setsO, ↓r_nun, ↓r_nuo, ↓r_add, ↓r_addl, ↓r_addt, ↓r_addb, ↓r_sub, ↓r_subb, ↓r_mul, ↓r_div, ↓r_mod, ↓r_pow, ↓r_cmp, ↓r_i0, ↓r_neg, ↓r_eq, ↓r_ne, ↓r_i1, ↓r_i2, ↓r_max, ↓r_min, ↓r_toI, ↓r_toIb, ↓r_lenL, ↓r_lenT, ↓r_lenS, ↓r_reprI, ↓r_reprB, ↓r_ixT, ↓r_ixL, ↓r_at0, ↓r_at1, ↓r_at2, ↓r_mull, ↓r_mult, ↓r_listL, ↓r_listT, ↓r_tupL, ↓r_tupT, ↓r_dvm, ↓r_slL, ↓r_slT, em, hpn, hz2, -Int.natCast_emod]
          exact fun h => absurd h hz
      · rintro δ ⟨w, rfl⟩
        rw [List.length_map, List.length_map, List.drop_length]
        have hnot : s ∉ L := by
          intro hsL
          rw [← hL] at hsL
          obtain ⟨j, hj, he⟩ := List.getElem_of_mem hsL
          rw [List.getElem_take, ← hse] at he
          rw [List.length_take] at hj
          have := (List.pairwise_iff_getElem.1 (dvs_sorted (n := n))) j i (by omega) hlt (by omega)
          omega
        have hput := toldD_put hnot
        have hlen : (toldD L).length < 1000000 := by unfold toldD; rw [List.length_map]; omega
        have hta : (dvs n).take (i + 1) = L ++ [s] := by rw [← List.take_append_getElem hlt, hse, hL]
        simp [↓r_get2, ↓r_get1, ↓r_getE, ↓r_val, ↓r_slot, ↓r_sfz, ↓r_sow, ↓r_all, ↓r_all0, ↓r_all1, ↓r_bl, ↓r_fbl, ↓r_int, ↓r_cons, ↓r_tupE, ↓r_dKE, ↓r_seqL, ↓r_seqT, ↓r_sets0, ↓r_setsF, ↓r_setsO, ↓r_nun, ↓r_nuo, ↓r_add, ↓r_addl, ↓r_addt, ↓r_addb, ↓r_sub, ↓r_subb, ↓r_mul, ↓r_div, ↓r_mod, ↓r_pow, ↓r_cmp, ↓r_i0, ↓r_neg, ↓r_eq, ↓r_ne, ↓r_i1, ↓r_i2, ↓r_max, ↓r_min, ↓r_toI, ↓r_toIb, ↓r_lenL, ↓r_lenT, ↓r_lenS, ↓r_reprI, ↓r_reprB, ↓r_ixT, ↓r_ixL, ↓r_at0, ↓r_at1, ↓r_at2, ↓r_mull, ↓r_mult, ↓r_listL, ↓r_listT, ↓r_tupL, ↓r_tupT, ↓r_dvm, ↓r_slL, ↓r_slT, hlen, hta, rprod, hput]
      · rw [List.drop_zero, hx, xn1_eq s1]
    · rintro δ ⟨u, v, w, rfl⟩
      rw [List.length_map, List.take_length]
      simp only [w__law_cyclotomic_r2]
      have hv := toldD_val (ds := dvs n) (d := n) (List.contains_iff_mem.1 (List.all_eq_true.1 dvs_self n hc))
      simp [↓r_get2, ↓r_get1, ↓r_getE, ↓r_val, ↓r_slot, ↓r_sfz, ↓r_sow, ↓r_all, ↓r_all0, ↓r_all1, ↓r_bl, ↓r_fbl, ↓r_int, ↓r_cons, ↓r_tupE, ↓r_dKE, ↓r_seqL, ↓r_seqT, ↓r_sets0, ↓r_setsF, ↓r_setsO, ↓r_nun, ↓r_nuo, ↓r_add, ↓r_addl, ↓r_addt, ↓r_addb, ↓r_sub, ↓r_subb, ↓r_mul, ↓r_div, ↓r_mod, ↓r_pow, ↓r_cmp, ↓r_i0, ↓r_neg, ↓r_eq, ↓r_ne, ↓r_i1, ↓r_i2, ↓r_max, ↓r_min, ↓r_toI, ↓r_toIb, ↓r_lenL, ↓r_lenT, ↓r_lenS, ↓r_reprI, ↓r_reprB, ↓r_ixT, ↓r_ixL, ↓r_at0, ↓r_at1, ↓r_at2, ↓r_mull, ↓r_mult, ↓r_listL, ↓r_listT, ↓r_tupL, ↓r_tupT, ↓r_dvm, ↓r_slL, ↓r_slT, hv]
      exact q
/-! ### the law's table, its products; parts of a line -/
theorem small_chk : ((List.range 61).filter fun k => decide (1 ≤ k) && decide (phiN k ≤ 18)) = SS := by decide +kernel
theorem small_in : ((List.range 61).all fun k => decide (k = 0) || (decide (phiN k ≤ 18) == inS k)) = true := by decide +kernel
def smallL (i : Nat) : List Nat := (List.range (i + 1)).filter fun k => decide (1 ≤ k) && decide (phiN k ≤ 18)
def sp__law_small_ones : DSp := fun ds P _ => ds = [.int 18] ∧ P (.dK (toldD SS))
instance : ISp sp__law_small_ones := ⟨fun _ _ _ _ hM ⟨e, q⟩ => ⟨e, hM _ q⟩⟩
theorem e__law_small_ones  {P : Dat → Prop} {ex : XP} : sp__law_small_ones [.int 18] P ex ↔ P (.dK (toldD SS)) := by simp [sp__law_small_ones]
/-- 0 _law_most 1 _law_found 2 _law_number -/
def w__law_small_ones_r2 : WS :=
    (wRet (wVar 1))
def w__law_small_ones_r1 : WS :=
    wSeq (wFor (iRange2 (oVal (wC (.int 1))) (oVal (wC (.int 61)))) (wgN 2) (wIf (tBlV (wOp2 gLe (oVal (wE (wCB gLen (aoCons (oVal (wCall sp__law_units (aCons (wVar 2) aNil))) aoNil)))) (oSlot 0))) (wAsgG (wCall sp__law_cyclotomic (aCons (wVar 2) aNil)) (wgSub 1 (oSlot 2))) wNext)) w__law_small_ones_r2
def w__law_small_ones : WS :=
    wSeq (wAsg 1 wDict0) w__law_small_ones_r1
theorem k__law_small_ones : Keeps 3 1 w__law_small_ones sp__law_small_ones := by
  rintro _ P ex0 ⟨rfl, q⟩
  refine ⟨rfl, ?_⟩
  generalize (fun (x : XD) (_ : Dl) => ex0 x) = ex
  simp only [w__law_small_ones]
  simp [↓r_get2, ↓r_get1, ↓r_getE, ↓r_val, ↓r_slot, ↓r_sfz, ↓r_sow, ↓r_all, ↓r_all0, ↓r_all1, ↓r_bl, ↓r_fbl, ↓r_int, ↓r_cons, ↓r_tupE, ↓r_dKE, ↓r_seqL, ↓r_seqT, ↓r_sets0, ↓r_setsF, ↓r_setsO, ↓r_nun, ↓r_nuo, ↓r_add, ↓r_addl, ↓r_addt, ↓r_addb, ↓r_sub, ↓r_subb, ↓r_mul, ↓r_div, ↓r_mod, ↓r_pow, ↓r_cmp, ↓r_i0, ↓r_neg, ↓r_eq, ↓r_ne, ↓r_i1, ↓r_i2, ↓r_max, ↓r_min, ↓r_toI, ↓r_toIb, ↓r_lenL, ↓r_lenT, ↓r_lenS, ↓r_reprI, ↓r_reprB, ↓r_ixT, ↓r_ixL, ↓r_at0, ↓r_at1, ↓r_at2, ↓r_mull, ↓r_mult, ↓r_listL, ↓r_listT, ↓r_tupL, ↓r_tupT, ↓r_dvm, ↓r_slL, ↓r_slT]
  simp only [w__law_small_ones_r1]
  simp [↓r_get2, ↓r_get1, ↓r_getE, ↓r_val, ↓r_slot, ↓r_sfz, ↓r_sow, ↓r_all, ↓r_all0, ↓r_all1, ↓r_bl, ↓r_fbl, ↓r_int, ↓r_cons, ↓r_tupE, ↓r_dKE, ↓r_seqL, ↓r_seqT, ↓r_sets0, ↓r_setsF, ↓r_setsO, ↓r_nun, ↓r_nuo, ↓r_add, ↓r_addl, ↓r_addt, ↓r_addb, ↓r_sub, ↓r_subb, ↓r_mul, ↓r_div, ↓r_mod, ↓r_pow, ↓r_cmp, ↓r_i0, ↓r_neg, ↓r_eq, ↓r_ne, ↓r_i1, ↓r_i2, ↓r_max, ↓r_min, ↓r_toI, ↓r_toIb, ↓r_lenL, ↓r_lenT, ↓r_lenS, ↓r_reprI, ↓r_reprB, ↓r_ixT, ↓r_ixL, ↓r_at0, ↓r_at1, ↓r_at2, ↓r_mull, ↓r_mult, ↓r_listL, ↓r_listT, ↓r_tupL, ↓r_tupT, ↓r_dvm, ↓r_slL, ↓r_slT]
  refine for_inv moG moS (fun i δ => ∃ (u : DV), δ = [.fz (.int 18), .ow (.dK (toldD (smallL i))), u]) ?_ ?_ ⟨_, rfl⟩
  · rintro i d δ hi ⟨u, rfl⟩
    have h1 := (List.getElem?_eq_some_iff.1 hi).1
    simp [rangeD] at h1
    have hd : d = .int ((i + 1 : Nat) : Int) := by
      simp [rangeD, h1] at hi
      rw [← hi]; simp; omega
    subst hd
    have c1 : i + 1 ≤ 10000 := by omega
    have hs := List.all_eq_true.1 small_in (i + 1) (by simp; omega)
    simp only [Bool.or_eq_true, decide_eq_true_eq, beq_iff_eq] at hs
    have hs := hs.resolve_left (by omega)
    have hnext : smallL (i + 1) = smallL i ++ (if phiN (i + 1) ≤ 18 then [i + 1] else []) := by
      unfold smallL
      rw [List.range_succ, List.filter_append]
      congr 1
      by_cases h : phiN (i + 1) ≤ 18 <;> simp [h]
    have hul : ((units (i + 1)).length : Int) ≤ 18 ↔ phiN (i + 1) ≤ 18 := by unfold phiN; omega
    simp [↓r_get2, ↓r_get1, ↓r_getE, ↓r_val, ↓r_slot, ↓r_sfz, ↓r_sow, ↓r_all, ↓r_all0, ↓r_all1, ↓r_bl, ↓r_fbl, ↓r_int, ↓r_cons, ↓r_tupE, ↓r_dKE, ↓r_seqL, ↓r_seqT, ↓r_sets0, ↓r_setsF, ↓r_setsO, ↓r_nun, ↓r_nuo, ↓r_add, ↓r_addl, ↓r_addt, ↓r_addb, ↓r_sub, ↓r_subb, ↓r_mul, ↓r_div, ↓r_mod, ↓r_pow, ↓r_cmp, ↓r_i0, ↓r_neg, ↓r_eq, ↓r_ne, ↓r_i1, ↓r_i2, ↓r_max, ↓r_min, ↓r_toI, ↓r_toIb, ↓r_lenL, ↓r_lenT, ↓r_lenS, ↓r_reprI, ↓r_reprB, ↓r_ixT, ↓r_ixL, ↓r_at0, ↓r_at1, ↓r_at2, ↓r_mull, ↓r_mult, ↓r_listL, ↓r_listT, ↓r_tupL, ↓r_tupT, ↓r_dvm, ↓r_slL, ↓r_slT, ↓e__law_units, c1, -Int.natCast_add, hul]
    by_cases h : phiN (i + 1) ≤ 18
    · have hS : i + 1 ∈ SS := S_iff.2 ⟨by omega, by rw [← hs]; simpa using h⟩
      have hnot : i + 1 ∉ smallL i := by unfold smallL; simp
      have hlen : (toldD (smallL i)).length < 1000000 := by
        unfold toldD smallL
        rw [List.length_map]
        have := List.length_filter_le (fun k => decide (1 ≤ k) && decide (phiN k ≤ 18)) (List.range (i + 1))
        rw [List.length_range] at this; omega
      simp [↓r_get2, ↓r_get1, ↓r_getE, ↓r_val, ↓r_slot, ↓r_sfz, ↓r_sow, ↓r_all, ↓r_all0, ↓r_all1, ↓r_bl, ↓r_fbl, ↓r_int, ↓r_cons, ↓r_tupE, ↓r_dKE, ↓r_seqL, ↓r_seqT, ↓r_sets0, ↓r_setsF, ↓r_setsO, ↓r_nun, ↓r_nuo, ↓r_add, ↓r_addl, ↓r_addt, ↓r_addb, ↓r_sub, ↓r_subb, ↓r_mul, ↓r_div, ↓r_mod, ↓r_pow, ↓r_cmp, ↓r_i0, ↓r_neg, ↓r_eq, ↓r_ne, ↓r_i1, ↓r_i2, ↓r_max, ↓r_min, ↓r_toI, ↓r_toIb, ↓r_lenL, ↓r_lenT, ↓r_lenS, ↓r_reprI, ↓r_reprB, ↓r_ixT, ↓r_ixL, ↓r_at0, ↓r_at1, ↓r_at2, ↓r_mull, ↓r_mult, ↓r_listL, ↓r_listT, ↓r_tupL, ↓r_tupT, ↓r_dvm, ↓r_slL, ↓r_slT, h, ↓e__law_cyclotomic, hS, hlen, toldD_put hnot, hnext, -Int.natCast_add]
    · simp [↓r_get2, ↓r_get1, ↓r_getE, ↓r_val, ↓r_slot, ↓r_sfz, ↓r_sow, ↓r_all, ↓r_all0, ↓r_all1, ↓r_bl, ↓r_fbl, ↓r_int, ↓r_cons, ↓r_tupE, ↓r_dKE, ↓r_seqL, ↓r_seqT, ↓r_sets0, ↓r_setsF, ↓r_setsO, ↓r_nun, ↓r_nuo, ↓r_add, ↓r_addl, ↓r_addt, ↓r_addb, ↓r_sub, ↓r_subb, ↓r_mul, ↓r_div, ↓r_mod, ↓r_pow, ↓r_cmp, ↓r_i0, ↓r_neg, ↓r_eq, ↓r_ne, ↓r_i1, ↓r_i2, ↓r_max, ↓r_min, ↓r_toI, ↓r_toIb, ↓r_lenL, ↓r_lenT, ↓r_lenS, ↓r_reprI, ↓r_reprB, ↓r_ixT, ↓r_ixL, ↓r_at0, ↓r_at1, ↓r_at2, ↓r_mull, ↓r_mult, ↓r_listL, ↓r_listT, ↓r_tupL, ↓r_tupT, ↓r_dvm, ↓r_slL, ↓r_slT, h, hnext]
      omega
  · rintro δ ⟨u, rfl⟩
    simp only [w__law_small_ones_r2]
    have e : smallL (rangeD 1 61).length = SS := by
      have : (rangeD 1 61).length = 60 := by decide
      rw [this]; exact small_chk
    simp [↓r_get2, ↓r_get1, ↓r_getE, ↓r_val, ↓r_slot, ↓r_sfz, ↓r_sow, ↓r_all, ↓r_all0, ↓r_all1, ↓r_bl, ↓r_fbl, ↓r_int, ↓r_cons, ↓r_tupE, ↓r_dKE, ↓r_seqL, ↓r_seqT, ↓r_sets0, ↓r_setsF, ↓r_setsO, ↓r_nun, ↓r_nuo, ↓r_add, ↓r_addl, ↓r_addt, ↓r_addb, ↓r_sub, ↓r_subb, ↓r_mul, ↓r_div, ↓r_mod, ↓r_pow, ↓r_cmp, ↓r_i0, ↓r_neg, ↓r_eq, ↓r_ne, ↓r_i1, ↓r_i2, ↓r_max, ↓r_min, ↓r_toI, ↓r_toIb, ↓r_lenL, ↓r_lenT, ↓r_lenS, ↓r_reprI, ↓r_reprB, ↓r_ixT, ↓r_ixL, ↓r_at0, ↓r_at1, ↓r_at2, ↓r_mull, ↓r_mult, ↓r_listL, ↓r_listT, ↓r_tupL, ↓r_tupT, ↓r_dvm, ↓r_slL, ↓r_slT, e]
    exact q
theorem kvD_inj : ∀ {a b : List (Nat × Nat)}, kvD a = kvD b ↔ a = b
  | [], [] => by simp [kvD]
  | [], _ :: _ => by simp [kvD]
  | _ :: _, [] => by simp [kvD]
  | (n, e) :: a, (m, f) :: b => by
    have ih := kvD_inj (a := a) (b := b)
    simp only [kvD, List.map_cons, List.cons.injEq, Prod.mk.injEq, Sum.inl.injEq, Dat.int.injEq] at ih ⊢
    constructor
    · rintro ⟨⟨h1, h2⟩, h3⟩
      exact ⟨⟨by omega, by omega⟩, ih.1 h3⟩
    · rintro ⟨⟨rfl, rfl⟩, rfl⟩
      exact ⟨⟨rfl, rfl⟩, rfl⟩
theorem kvD_val {ps : List (Nat × Nat)} {n e : Nat} (h : (n, e) ∈ ps) (hp : ps.Pairwise fun p q => p.1 < q.1) : valD (kvD ps) (Sum.inl (n : Int)) = some (.int e) := by
  rw [valD_kvD]
  induction ps with
  | nil => cases h
  | cons a ps ih =>
    have hp2 := List.pairwise_cons.1 hp
    rcases List.mem_cons.1 h with rfl | h
    · simp
    · have : a.1 ≠ n := fun z => by have := hp2.1 _ h; simp only at this; omega
      have e2 : (a.1 == n) = false := by simp [this]
      rw [List.find?_cons, e2]; exact ih h hp2.2
def sp__law_made : DSp := fun ds P _ => ∃ (ps : List (Nat × Nat)), ds = [.dK (kvD ps), .dK (toldD SS)] ∧ (Parts ps ∧ degP ps ≤ 16) ∧ P (lD (prodL ps))
instance : ISp sp__law_made := ⟨fun _ _ _ _ hM ⟨ps, e, c, q⟩ => ⟨ps, e, c, hM _ q⟩⟩
theorem e__law_made  {P : Dat → Prop} {ex : XP} : sp__law_made [.dK (kvD ps), .dK (toldD SS)] P ex ↔ (Parts ps ∧ degP ps ≤ 16) ∧ P (lD (prodL ps)) := ⟨fun ⟨_, e, hE⟩ => by (simp [rat_inj, ints_inj, Int.natCast_inj, kvD_inj] at e); (obtain rfl := e); exact hE, fun hE => ⟨_, rfl, hE⟩⟩
/-- 0 _law_parts 1 _law_told 2 _law_found 3 _law_number 4 _law_turn -/
def w__law_made_r2 : WS :=
    (wRet (wVar 2))
def w__law_made_r1 : WS :=
    wSeq (wFor (iKeysD (wVar 0)) (wgN 3) (wFor (iRange1 (oVal (wE (wOp2 gIx (oSlot 0) (oSlot 3))))) (wgN 4) (wAsg 2 (wJ (wCall sp__law_line_times (aCons (wVar 2) (aCons (wE (wOp2 gIx (oSlot 1) (oSlot 3))) aNil))))))) w__law_made_r2
def w__law_made : WS :=
    wSeq (wAsg 2 (wJ (wTup (aCons (wC (.int 1)) aNil)))) w__law_made_r1
theorem k__law_made : Keeps 5 2 w__law_made sp__law_made := by
  rintro _ P ex0 ⟨ps, rfl, hc, q⟩
  refine ⟨rfl, ?_⟩
  generalize (fun (x : XD) (_ : Dl) => ex0 x) = ex
  obtain ⟨hP, hd⟩ := hc
  have hS : ∀ p ∈ ps, p.1 ∈ SS := fun p hp => (hP.1 p hp).1
  simp only [w__law_made]
  simp [↓r_get2, ↓r_get1, ↓r_getE, ↓r_val, ↓r_slot, ↓r_sfz, ↓r_sow, ↓r_all, ↓r_all0, ↓r_all1, ↓r_bl, ↓r_fbl, ↓r_int, ↓r_cons, ↓r_tupE, ↓r_dKE, ↓r_seqL, ↓r_seqT, ↓r_sets0, ↓r_setsF, ↓r_setsO, ↓r_nun, ↓r_nuo, ↓r_add, ↓r_addl, ↓r_addt, ↓r_addb, ↓r_sub, ↓r_subb, ↓r_mul, ↓r_div, ↓r_mod, ↓r_pow, ↓r_cmp, ↓r_i0, ↓r_neg, ↓r_eq, ↓r_ne, ↓r_i1, ↓r_i2, ↓r_max, ↓r_min, ↓r_toI, ↓r_toIb, ↓r_lenL, ↓r_lenT, ↓r_lenS, ↓r_reprI, ↓r_reprB, ↓r_ixT, ↓r_ixL, ↓r_at0, ↓r_at1, ↓r_at2, ↓r_mull, ↓r_mult, ↓r_listL, ↓r_listT, ↓r_tupL, ↓r_tupT, ↓r_dvm, ↓r_slL, ↓r_slT]
  simp only [w__law_made_r1]
  simp [↓r_get2, ↓r_get1, ↓r_getE, ↓r_val, ↓r_slot, ↓r_sfz, ↓r_sow, ↓r_all, ↓r_all0, ↓r_all1, ↓r_bl, ↓r_fbl, ↓r_int, ↓r_cons, ↓r_tupE, ↓r_dKE, ↓r_seqL, ↓r_seqT, ↓r_sets0, ↓r_setsF, ↓r_setsO, ↓r_nun, ↓r_nuo, ↓r_add, ↓r_addl, ↓r_addt, ↓r_addb, ↓r_sub, ↓r_subb, ↓r_mul, ↓r_div, ↓r_mod, ↓r_pow, ↓r_cmp, ↓r_i0, ↓r_neg, ↓r_eq, ↓r_ne, ↓r_i1, ↓r_i2, ↓r_max, ↓r_min, ↓r_toI, ↓r_toIb, ↓r_lenL, ↓r_lenT, ↓r_lenS, ↓r_reprI, ↓r_reprB, ↓r_ixT, ↓r_ixL, ↓r_at0, ↓r_at1, ↓r_at2, ↓r_mull, ↓r_mult, ↓r_listL, ↓r_listT, ↓r_tupL, ↓r_tupT, ↓r_dvm, ↓r_slL, ↓r_slT]
  have hm : (kvD ps).map (fun p => keyDat p.1) = ps.map fun p => Dat.int ((p.1 : Nat) : Int) := by unfold kvD; simp
  rw [hm]
  have deg : ∀ (i : Nat), degP (ps.take i) ≤ degP ps := by
    have key : ∀ (qs : List (Nat × Nat)) (i : Nat), degP (qs.take i) ≤ degP qs := by
      intro qs
      induction qs with
      | nil => intro i; simp [degP]
      | cons a qs ih =>
        intro i
        cases i with
        | zero => simp [degP]
        | succ i => have := ih i; simp [degP, List.take_succ_cons]; omega
    exact key ps
  refine for_inv moG moS (fun i δ => ∃ (u v : DV), δ = [.fz (.dK (kvD ps)), .fz (.dK (toldD SS)), .fz (lD (mkP [1] (ps.take i))), u, v]) ?_ ?_ ⟨_, _, rfl⟩
  · rintro i d δ hi ⟨u, v, rfl⟩
    rw [List.getElem?_map] at hi
    obtain ⟨⟨n, e⟩, hp, rfl⟩ := Option.map_eq_some_iff.1 hi
    obtain ⟨hlt, hpe⟩ := List.getElem?_eq_some_iff.1 hp
    have hmem : (n, e) ∈ ps := hpe ▸ List.getElem_mem hlt
    have hnS : n ∈ SS := hS _ hmem
    have hN := Phi.of hnS
    have hv := kvD_val hmem hP.2
    have hv2 := toldD_val hnS
    have hsub : ∀ p ∈ ps.take i, p.1 ∈ SS := fun p hp => hS p (List.mem_of_mem_take hp)
    have hdeg : degP (ps.take i ++ [(n, e)]) ≤ 16 := by
      rw [← hpe, List.take_append_getElem hlt]; exact Nat.le_trans (deg (i + 1)) hd
    have happ : ∀ (qs : List (Nat × Nat)) (p : Nat × Nat), degP (qs ++ [p]) = degP qs + p.2 * phiN p.1 := by
      intro qs p
      induction qs with
      | nil => simp [degP]
      | cons a qs ih => simp [degP, ih]; omega
    rw [happ] at hdeg
    simp only at hdeg
    have he : e ≤ 16 := by
      have h1 := hN.len2
      have h2 := hN.len
      have : e * 1 ≤ e * phiN n := Nat.mul_le_mul (Nat.le_refl e) (show 1 ≤ phiN n by omega)
      omega
    obtain ⟨c1, c2⟩ := mkP_props (f := [1]) (ps := ps.take i) hsub ⟨by simp, rfl⟩ (by decide)
    have hpr := mkP_eq hsub
    obtain ⟨_, _, c3, c4⟩ := prodL_props hsub
    rw [← hpr] at c3 c4
    simp [↓r_get2, ↓r_get1, ↓r_getE, ↓r_val, ↓r_slot, ↓r_sfz, ↓r_sow, ↓r_all, ↓r_all0, ↓r_all1, ↓r_bl, ↓r_fbl, ↓r_int, ↓r_cons, ↓r_tupE, ↓r_dKE, ↓r_seqL, ↓r_seqT, ↓r_sets0, ↓r_setsF, ↓r_setsO, ↓r_nun, ↓r_nuo, ↓r_add, ↓r_addl, ↓r_addt, ↓r_addb, ↓r_sub, ↓r_subb, ↓r_mul, ↓r_div, ↓r_mod, ↓r_pow, ↓r_cmp, ↓r_i0, ↓r_neg, ↓r_eq, ↓r_ne, ↓r_i1, ↓r_i2, ↓r_max, ↓r_min, ↓r_toI, ↓r_toIb, ↓r_lenL, ↓r_lenT, ↓r_lenS, ↓r_reprI, ↓r_reprB, ↓r_ixT, ↓r_ixL, ↓r_at0, ↓r_at1, ↓r_at2, ↓r_mull, ↓r_mult, ↓r_listL, ↓r_listT, ↓r_tupL, ↓r_tupT, ↓r_dvm, ↓r_slL, ↓r_slT, hv]
    refine ⟨by omega, for_inv moG moS (fun j δ => ∃ (v : DV), δ = [.fz (.dK (kvD ps)), .fz (.dK (toldD SS)), .fz (lD (powm j (mkP [1] (ps.take i)) (PHI n))), .fz (.int (n : Int)), v]) ?_ ?_ ⟨v, rfl⟩⟩
    · rintro j d δ hj ⟨v, rfl⟩
      have hje : j < e := by
        have := (List.getElem?_eq_some_iff.1 hj).1
        simpa [rangeD] using this
      obtain ⟨d1, d2⟩ := powm_props hN.ne hN.led (e := j) c1 c2
      have d3 := len_powm hN.len2 hN.led (e := j) c1 c2
      have d4 := l1_powm hN.l1 (e := j) c4
      have q1 : j * phiN n ≤ e * phiN n := Nat.mul_le_mul (show j ≤ e by omega) (Nat.le_refl _)
      have q2 : (PHI n).length - 1 = phiN n := by have := hN.len; omega
      rw [q2] at d3
      have e1 : ∀ {P ex}, sp__law_line_times [lD (powm j (mkP [1] (ps.take i)) (PHI n)), lD (PHI n)] P ex ↔ P (lD (powm (j + 1) (mkP [1] (ps.take i)) (PHI n))) := by
        intro P ex
        rw [e__law_line_times]
        refine ⟨fun x => x.2, fun x => ⟨⟨d1.1, hN.ne, by omega, by have := hN.len; have := hN.deg; omega, LB.l1 (Nat.le_trans d4 (Nat.le_trans (Nat.pow_le_pow_right (by decide) (show _ ≤ 40 by omega)) (by decide)))⟩, x⟩⟩
      simp [↓r_get2, ↓r_get1, ↓r_getE, ↓r_val, ↓r_slot, ↓r_sfz, ↓r_sow, ↓r_all, ↓r_all0, ↓r_all1, ↓r_bl, ↓r_fbl, ↓r_int, ↓r_cons, ↓r_tupE, ↓r_dKE, ↓r_seqL, ↓r_seqT, ↓r_sets0, ↓r_setsF, ↓r_setsO, ↓r_nun, ↓r_nuo, ↓r_add, ↓r_addl, ↓r_addt, ↓r_addb, ↓r_sub, ↓r_subb, ↓r_mul, ↓r_div, ↓r_mod, ↓r_pow, ↓r_cmp, ↓r_i0, ↓r_neg, ↓r_eq, ↓r_ne, ↓r_i1, ↓r_i2, ↓r_max, ↓r_min, ↓r_toI, ↓r_toIb, ↓r_lenL, ↓r_lenT, ↓r_lenS, ↓r_reprI, ↓r_reprB, ↓r_ixT, ↓r_ixL, ↓r_at0, ↓r_at1, ↓r_at2, ↓r_mull, ↓r_mult, ↓r_listL, ↓r_listT, ↓r_tupL, ↓r_tupT, ↓r_dvm, ↓r_slL, ↓r_slT, hv2, ↓e1]
    · rintro δ ⟨v, rfl⟩
      have hr : (rangeD 0 (e : Int)).length = e := by simp [rangeD]
      rw [hr]
      have ht : ps.take (i + 1) = ps.take i ++ [(n, e)] := by rw [← List.take_append_getElem hlt, hpe]
      have ht2 : mkP [1] (ps.take (i + 1)) = powm e (mkP [1] (ps.take i)) (PHI n) := by rw [ht]; unfold mkP; rw [List.foldl_append]; rfl
      simp [ht2]
  · rintro δ ⟨u, v, rfl⟩
    rw [List.length_map, List.take_length, mkP_eq hS]
    simp only [w__law_made_r2]
    simp [↓r_get2, ↓r_get1, ↓r_getE, ↓r_val, ↓r_slot, ↓r_sfz, ↓r_sow, ↓r_all, ↓r_all0, ↓r_all1, ↓r_bl, ↓r_fbl, ↓r_int, ↓r_cons, ↓r_tupE, ↓r_dKE, ↓r_seqL, ↓r_seqT, ↓r_sets0, ↓r_setsF, ↓r_setsO, ↓r_nun, ↓r_nuo, ↓r_add, ↓r_addl, ↓r_addt, ↓r_addb, ↓r_sub, ↓r_subb, ↓r_mul, ↓r_div, ↓r_mod, ↓r_pow, ↓r_cmp, ↓r_i0, ↓r_neg, ↓r_eq, ↓r_ne, ↓r_i1, ↓r_i2, ↓r_max, ↓r_min, ↓r_toI, ↓r_toIb, ↓r_lenL, ↓r_lenT, ↓r_lenS, ↓r_reprI, ↓r_reprB, ↓r_ixT, ↓r_ixL, ↓r_at0, ↓r_at1, ↓r_at2, ↓r_mull, ↓r_mult, ↓r_listL, ↓r_listT, ↓r_tupL, ↓r_tupT, ↓r_dvm, ↓r_slL, ↓r_slT]
    exact q
/-! ### parts of a line, twice -/
def partsD (l : List Int) : Dat := match partsOf l with
  | none => .non
  | some ps => .dK (kvD ps)
def Asc (ps : List (Nat × Nat)) : Prop := ps.Pairwise fun p q => p.1 < q.1
theorem stp_fst {s : List (Nat × Nat) × List Int} {n : Nat} : (stp s n).1 = s.1 ∨ ∃ m, (stp s n).1 = s.1 ++ [(n, m)] := by
  unfold stp; simp only; split
  · exact .inl rfl
  · exact .inr ⟨_, rfl⟩
theorem stpG_fst {s : List (Nat × Nat) × List Int} {n : Nat} : (stpG s n).1 = s.1 ∨ ∃ m, (stpG s n).1 = s.1 ++ [(n, m)] := by
  unfold stpG; split
  · exact stp_fst
  · exact .inl rfl
theorem asc_snoc {ps : List (Nat × Nat)} {n m : Nat} (h : Asc ps) (h2 : ∀ p ∈ ps, p.1 < n) : Asc (ps ++ [(n, m)]) := by
  unfold Asc at *
  rw [List.pairwise_append]
  refine ⟨h, by simp, fun a ha b hb => ?_⟩
  simp at hb; subst hb; exact h2 a ha
/-- the program's fold over 1 .. i -/
def gst (l : List Int) (i : Nat) : List (Nat × Nat) × List Int := ((List.range i).map (· + 1)).foldl stpG ([], l)
theorem gst_succ {l : List Int} {i : Nat} : gst l (i + 1) = stpG (gst l i) (i + 1) := by
  unfold gst; rw [List.range_succ, List.map_append, List.foldl_append]; rfl
theorem gst_props {l : List Int} (h1 : Can l) (h0 : l ≠ [0]) (h2 : l.length ≤ 20) : ∀ i, i ≤ 150 → Can (gst l i).2 ∧ (gst l i).2 ≠ [0] ∧ (gst l i).2.length ≤ 20 ∧ Asc (gst l i).1 ∧ (∀ p ∈ (gst l i).1, p.1 ≤ i) ∧ (gst l i).1.length ≤ i
  | 0, _ => ⟨h1, h0, h2, List.Pairwise.nil, by simp [gst], by simp [gst]⟩
  | i + 1, hi => by
    obtain ⟨a, b, c, d, e, f⟩ := gst_props h1 h0 h2 i (by omega)
    rw [gst_succ]
    have k : Asc (stpG (gst l i) (i + 1)).1 ∧ (∀ p ∈ (stpG (gst l i) (i + 1)).1, p.1 ≤ i + 1) ∧ (stpG (gst l i) (i + 1)).1.length ≤ i + 1 := by
      rcases stpG_fst (s := gst l i) (n := i + 1) with z | ⟨m, z⟩
      · rw [z]; exact ⟨d, fun p hp => Nat.le_succ_of_le (e p hp), by omega⟩
      · rw [z]
        refine ⟨asc_snoc d fun p hp => Nat.lt_succ_of_le (e p hp), fun p hp => ?_, by simp; omega⟩
        rcases List.mem_append.1 hp with hp | hp
        · exact Nat.le_succ_of_le (e p hp)
        · simp at hp; subst hp; exact Nat.le_refl _
    by_cases hg : phiN (i + 1) < (gst l i).2.length
    · have far := List.all_eq_true.1 phi_far (i + 1) (by simp; omega)
      simp only [Bool.or_eq_true, decide_eq_true_eq] at far
      have hS : i + 1 ∈ SS := S_iff.2 ⟨by omega, by rcases far with (f | f) | f; omega; exact f; omega⟩
      obtain ⟨a1, a2, a3, _⟩ := stp_props (Phi.of hS) a b
      have e1 : stpG (gst l i) (i + 1) = stp (gst l i) (i + 1) := if_pos hg
      rw [e1] at k ⊢
      exact ⟨a1, a2, by omega, k⟩
    · have e1 : stpG (gst l i) (i + 1) = gst l i := if_neg hg
      rw [e1] at k ⊢
      exact ⟨a, b, c, k⟩
theorem gst_last {l : List Int} (h1 : Can l) (h0 : l ≠ [0]) (h2 : l.length ≤ 20) : gst l 150 = grd l := grd_same h1 h0 h2
theorem kvD_put {ps : List (Nat × Nat)} {n m : Nat} (h : ∀ p ∈ ps, p.1 ≠ n) : putD (kvD ps) (Sum.inl (n : Int)) (.int m) = kvD (ps ++ [(n, m)]) := by
  unfold putD
  have : ((kvD ps).any fun kv => decide (kv.1 = (Sum.inl (n : Int) : Key))) = false := by
    rw [any_kvD, List.any_eq_false]
    intro p hp
    simpa using h p hp
  rw [this]
  simp [kvD]
theorem eqvDs_z {a : List Int} : eqvDs (a.map Dat.int) [.int 0] = decide (a = [0]) := eqvDs_ints (b := [0])
theorem eqvDs_o {a : List Int} : eqvDs (a.map Dat.int) [.int 1] = decide (a = [1]) := eqvDs_ints (b := [1])
theorem eqvD_z {a : List Int} : eqvD (lD a) (.tup (List.map Dat.int [0])) = decide (a = [0]) := eqvD_lD
theorem eqvD_o {a : List Int} : eqvD (lD a) (.tup (List.map Dat.int [1])) = decide (a = [1]) := eqvD_lD
def sp_parts_of_line : DSp := fun ds P _ => ∃ (l : List Int), ds = [lD l] ∧ (Can l ∧ l.length ≤ 20) ∧ P (partsD l)
instance : ISp sp_parts_of_line := ⟨fun _ _ _ _ hM ⟨l, e, c, q⟩ => ⟨l, e, c, hM _ q⟩⟩
theorem e_parts_of_line {l : List Int} {P : Dat → Prop} {ex : XP} : sp_parts_of_line [lD l] P ex ↔ (Can l ∧ l.length ≤ 20) ∧ P (partsD l) := ⟨fun ⟨_, e, hE⟩ => by (simp [rat_inj, ints_inj, Int.natCast_inj, kvD_inj] at e); (obtain rfl := e); exact hE, fun hE => ⟨_, rfl, hE⟩⟩
/-- 0 polynomial 1 found 2 left 3 number 4 many -/
def w_parts_of_line_r3 : WS :=
    (wRet (wIte (tBlV (wOp2 gEq (oSlot 2) (oVal (wC (.tup (List.map Dat.int [1])))))) (wVar 1) (wC .non)))
def w_parts_of_line_r2 : WS :=
    wSeq (wFor (iRange2 (oVal (wC (.int 1))) (oVal (wE (wOp2 gAdd (oVal (wC (.int 150))) (oVal (wC (.int 1))))))) (wgN 3) (wIf (tBlV (wOp2 gLt (oVal (wE (wCB gLen (aoCons (oVal (wCall sp_units_in (aCons (wVar 3) aNil))) aoNil)))) (oVal (wE (wCB gLen (aoCons (oSlot 2) aoNil)))))) (wSeq (wAsgG (wCall sp_times_divided (aCons (wVar 2) (aCons (wCall sp_cyclotomic_of (aCons (wVar 3) aNil)) aNil))) (wgTup 2 (wgCons (wgN 4) (wgCons (wgN 2) wgNil))))
    (wIf (tBlV (wOp2 gGt (oSlot 4) (oVal (wC (.int 0))))) (wAsgG (wVar 4) (wgSub 1 (oSlot 3))) wNext)) wNext)) w_parts_of_line_r3
def w_parts_of_line_r1 : WS :=
    wSeq (wSets [1, 2] (ajCons wDict0 (ajCons (wJ (wVar 0)) ajNil))) w_parts_of_line_r2
def w_parts_of_line : WS :=
    wSeq (wIf (tOr (tBlV (wOp2 gEq (oSlot 0) (oVal (wC (.tup (List.map Dat.int [0])))))) (tBlV (wOp2 gNe (oVal (wE (wCB gAbs (aoCons (oVal (wE (wOp2 gIx (oSlot 0) (oVal (wC (.int 0)))))) aoNil)))) (oVal (wC (.int 1)))))) (wRet (wC .non)) wNext) w_parts_of_line_r1
set_option maxHeartbeats 1000000 in
theorem k_parts_of_line : Keeps 5 1 w_parts_of_line sp_parts_of_line := by
  rintro _ P ex0 ⟨l, rfl, hc, q⟩
  refine ⟨rfl, ?_⟩
  generalize (fun (x : XD) (_ : Dl) => ex0 x) = ex
  obtain ⟨cl, ll⟩ := hc
  have pl := cl.len
  have h0 := at_co (l := l) (k := 0) (by omega)
  have h0 : atI (l.map Dat.int) 0 = some (.int (co l 0)) := h0
  unfold partsD partsOf at q
  simp only [w_parts_of_line]
  by_cases hz : l = [0]
  · subst hz
    simp at q
    simp [↓r_get2, ↓r_get1, ↓r_getE, ↓r_val, ↓r_slot, ↓r_sfz, ↓r_sow, ↓r_all, ↓r_all0, ↓r_all1, ↓r_bl, ↓r_fbl, ↓r_int, ↓r_cons, ↓r_tupE, ↓r_dKE, ↓r_seqL, ↓r_seqT, ↓r_sets0, ↓r_setsF, ↓r_setsO, ↓r_nun, ↓r_nuo, ↓r_add, ↓r_addl, ↓r_addt, ↓r_addb, ↓r_sub, ↓r_subb, ↓r_mul, ↓r_div, ↓r_mod, ↓r_pow, ↓r_cmp, ↓r_i0, ↓r_neg, ↓r_eq, ↓r_ne, ↓r_i1, ↓r_i2, ↓r_max, ↓r_min, ↓r_toI, ↓r_toIb, ↓r_lenL, ↓r_lenT, ↓r_lenS, ↓r_reprI, ↓r_reprB, ↓r_ixT, ↓r_ixL, ↓r_at0, ↓r_at1, ↓r_at2, ↓r_mull, ↓r_mult, ↓r_listL, ↓r_listT, ↓r_tupL, ↓r_tupT, ↓r_dvm, ↓r_slL, ↓r_slT]; exact q
  · by_cases hc0 : (co l 0).natAbs = 1
    · have hc1 : ((co l 0).natAbs : Int) = 1 := by omega
      simp [↓r_get2, ↓r_get1, ↓r_getE, ↓r_val, ↓r_slot, ↓r_sfz, ↓r_sow, ↓r_all, ↓r_all0, ↓r_all1, ↓r_bl, ↓r_fbl, ↓r_int, ↓r_cons, ↓r_tupE, ↓r_dKE, ↓r_seqL, ↓r_seqT, ↓r_sets0, ↓r_setsF, ↓r_setsO, ↓r_nun, ↓r_nuo, ↓r_add, ↓r_addl, ↓r_addt, ↓r_addb, ↓r_sub, ↓r_subb, ↓r_mul, ↓r_div, ↓r_mod, ↓r_pow, ↓r_cmp, ↓r_i0, ↓r_neg, ↓r_eq, ↓r_ne, ↓r_i1, ↓r_i2, ↓r_max, ↓r_min, ↓r_toI, ↓r_toIb, ↓r_lenL, ↓r_lenT, ↓r_lenS, ↓r_reprI, ↓r_reprB, ↓r_ixT, ↓r_ixL, ↓r_at0, ↓r_at1, ↓r_at2, ↓r_mull, ↓r_mult, ↓r_listL, ↓r_listT, ↓r_tupL, ↓r_tupT, ↓r_dvm, ↓r_slL, ↓r_slT, eqvDs_z, hz, h0, pyAbs_eq, hc1]
      simp only [w_parts_of_line_r1]
      simp [↓r_get2, ↓r_get1, ↓r_getE, ↓r_val, ↓r_slot, ↓r_sfz, ↓r_sow, ↓r_all, ↓r_all0, ↓r_all1, ↓r_bl, ↓r_fbl, ↓r_int, ↓r_cons, ↓r_tupE, ↓r_dKE, ↓r_seqL, ↓r_seqT, ↓r_sets0, ↓r_setsF, ↓r_setsO, ↓r_nun, ↓r_nuo, ↓r_add, ↓r_addl, ↓r_addt, ↓r_addb, ↓r_sub, ↓r_subb, ↓r_mul, ↓r_div, ↓r_mod, ↓r_pow, ↓r_cmp, ↓r_i0, ↓r_neg, ↓r_eq, ↓r_ne, ↓r_i1, ↓r_i2, ↓r_max, ↓r_min, ↓r_toI, ↓r_toIb, ↓r_lenL, ↓r_lenT, ↓r_lenS, ↓r_reprI, ↓r_reprB, ↓r_ixT, ↓r_ixL, ↓r_at0, ↓r_at1, ↓r_at2, ↓r_mull, ↓r_mult, ↓r_listL, ↓r_listT, ↓r_tupL, ↓r_tupT, ↓r_dvm, ↓r_slL, ↓r_slT]
      simp only [w_parts_of_line_r2]
      simp [↓r_get2, ↓r_get1, ↓r_getE, ↓r_val, ↓r_slot, ↓r_sfz, ↓r_sow, ↓r_all, ↓r_all0, ↓r_all1, ↓r_bl, ↓r_fbl, ↓r_int, ↓r_cons, ↓r_tupE, ↓r_dKE, ↓r_seqL, ↓r_seqT, ↓r_sets0, ↓r_setsF, ↓r_setsO, ↓r_nun, ↓r_nuo, ↓r_add, ↓r_addl, ↓r_addt, ↓r_addb, ↓r_sub, ↓r_subb, ↓r_mul, ↓r_div, ↓r_mod, ↓r_pow, ↓r_cmp, ↓r_i0, ↓r_neg, ↓r_eq, ↓r_ne, ↓r_i1, ↓r_i2, ↓r_max, ↓r_min, ↓r_toI, ↓r_toIb, ↓r_lenL, ↓r_lenT, ↓r_lenS, ↓r_reprI, ↓r_reprB, ↓r_ixT, ↓r_ixL, ↓r_at0, ↓r_at1, ↓r_at2, ↓r_mull, ↓r_mult, ↓r_listL, ↓r_listT, ↓r_tupL, ↓r_tupT, ↓r_dvm, ↓r_slL, ↓r_slT]
      refine for_inv moG moS (fun i δ => ∃ (u v : DV), δ = [.fz (lD l), .ow (.dK (kvD (gst l i).1)), .fz (lD (gst l i).2), u, v]) ?_ ?_ ⟨_, _, rfl⟩
      · rintro i d δ hi ⟨u, v, rfl⟩
        have h1 := (List.getElem?_eq_some_iff.1 hi).1
        simp [rangeD] at h1
        have hd : d = .int ((i + 1 : Nat) : Int) := by
          simp [rangeD, h1] at hi
          rw [← hi]; simp; omega
        subst hd
        obtain ⟨a, b, c, d, e, f⟩ := gst_props cl hz ll i (by omega)
        have c1 : i + 1 ≤ 10000 := by omega
        rw [gst_succ]
        have hul : ((units (i + 1)).length : Int) < ((gst l i).2.length : Int) ↔ phiN (i + 1) < (gst l i).2.length := by unfold phiN; omega
        simp [↓r_get2, ↓r_get1, ↓r_getE, ↓r_val, ↓r_slot, ↓r_sfz, ↓r_sow, ↓r_all, ↓r_all0, ↓r_all1, ↓r_bl, ↓r_fbl, ↓r_int, ↓r_cons, ↓r_tupE, ↓r_dKE, ↓r_seqL, ↓r_seqT, ↓r_sets0, ↓r_setsF, ↓r_setsO, ↓r_nun, ↓r_nuo, ↓r_add, ↓r_addl, ↓r_addt, ↓r_addb, ↓r_sub, ↓r_subb, ↓r_mul, ↓r_div, ↓r_mod, ↓r_pow, ↓r_cmp, ↓r_i0, ↓r_neg, ↓r_eq, ↓r_ne, ↓r_i1, ↓r_i2, ↓r_max, ↓r_min, ↓r_toI, ↓r_toIb, ↓r_lenL, ↓r_lenT, ↓r_lenS, ↓r_reprI, ↓r_reprB, ↓r_ixT, ↓r_ixL, ↓r_at0, ↓r_at1, ↓r_at2, ↓r_mull, ↓r_mult, ↓r_listL, ↓r_listT, ↓r_tupL, ↓r_tupT, ↓r_dvm, ↓r_slL, ↓r_slT, ↓e_units_in, c1, hul, -Int.natCast_add]
        by_cases hg : phiN (i + 1) < (gst l i).2.length
        · have far := List.all_eq_true.1 phi_far (i + 1) (by simp; omega)
          simp only [Bool.or_eq_true, decide_eq_true_eq] at far
          have hS : i + 1 ∈ SS := S_iff.2 ⟨by omega, by rcases far with (f | f) | f; omega; exact f; omega⟩
          have hP := Phi.of hS
          have hk := List.all_eq_true.1 cOK_S _ hS
          have c2 : i + 1 ≤ 10 ^ 6 := by omega
          have c3 : 1 ≤ i + 1 := by omega
          have e1 : stpG (gst l i) (i + 1) = stp (gst l i) (i + 1) := if_pos hg
          rw [e1]
          have e2 : ∀ {P ex}, sp_times_divided [lD (gst l i).2, lD (PHI (i + 1))] P ex ↔ P (.tup [.int (tdF (gst l i).2.length (gst l i).2 (PHI (i + 1))).1, lD (tdF (gst l i).2.length (gst l i).2 (PHI (i + 1))).2]) := by
            intro P ex
            rw [e_times_divided]
            exact ⟨fun x => x.2, fun x => ⟨⟨a, b, by omega, hP.len2, by have := hP.len; have := hP.deg; omega, hP.lb, hP.led⟩, x⟩⟩
          have hlen : (kvD (gst l i).1).length < 1000000 := by unfold kvD; rw [List.length_map]; omega
          unfold stp
          simp [↓r_get2, ↓r_get1, ↓r_getE, ↓r_val, ↓r_slot, ↓r_sfz, ↓r_sow, ↓r_all, ↓r_all0, ↓r_all1, ↓r_bl, ↓r_fbl, ↓r_int, ↓r_cons, ↓r_tupE, ↓r_dKE, ↓r_seqL, ↓r_seqT, ↓r_sets0, ↓r_setsF, ↓r_setsO, ↓r_nun, ↓r_nuo, ↓r_add, ↓r_addl, ↓r_addt, ↓r_addb, ↓r_sub, ↓r_subb, ↓r_mul, ↓r_div, ↓r_mod, ↓r_pow, ↓r_cmp, ↓r_i0, ↓r_neg, ↓r_eq, ↓r_ne, ↓r_i1, ↓r_i2, ↓r_max, ↓r_min, ↓r_toI, ↓r_toIb, ↓r_lenL, ↓r_lenT, ↓r_lenS, ↓r_reprI, ↓r_reprB, ↓r_ixT, ↓r_ixL, ↓r_at0, ↓r_at1, ↓r_at2, ↓r_mull, ↓r_mult, ↓r_listL, ↓r_listT, ↓r_tupL, ↓r_tupT, ↓r_dvm, ↓r_slL, ↓r_slT, hg, ↓e_cyclotomic_of, ↓e2, hk, c2, c3, -Int.natCast_add]
          by_cases hm : (tdF (gst l i).2.length (gst l i).2 (PHI (i + 1))).1 = 0
          · simp [hm]
          · have hm2 : (0 : Int) < ((tdF (gst l i).2.length (gst l i).2 (PHI (i + 1))).1 : Int) := by omega
            have hput := kvD_put (ps := (gst l i).1) (n := i + 1) (m := (tdF (gst l i).2.length (gst l i).2 (PHI (i + 1))).1) (fun p hp => by have := e p hp; omega)
            simp [hm, hlen, hput, -Int.natCast_add]
            exact .inr (by omega)
        · have e1 : stpG (gst l i) (i + 1) = gst l i := if_neg hg
          rw [e1]
          simp [↓r_get2, ↓r_get1, ↓r_getE, ↓r_val, ↓r_slot, ↓r_sfz, ↓r_sow, ↓r_all, ↓r_all0, ↓r_all1, ↓r_bl, ↓r_fbl, ↓r_int, ↓r_cons, ↓r_tupE, ↓r_dKE, ↓r_seqL, ↓r_seqT, ↓r_sets0, ↓r_setsF, ↓r_setsO, ↓r_nun, ↓r_nuo, ↓r_add, ↓r_addl, ↓r_addt, ↓r_addb, ↓r_sub, ↓r_subb, ↓r_mul, ↓r_div, ↓r_mod, ↓r_pow, ↓r_cmp, ↓r_i0, ↓r_neg, ↓r_eq, ↓r_ne, ↓r_i1, ↓r_i2, ↓r_max, ↓r_min, ↓r_toI, ↓r_toIb, ↓r_lenL, ↓r_lenT, ↓r_lenS, ↓r_reprI, ↓r_reprB, ↓r_ixT, ↓r_ixL, ↓r_at0, ↓r_at1, ↓r_at2, ↓r_mull, ↓r_mult, ↓r_listL, ↓r_listT, ↓r_tupL, ↓r_tupT, ↓r_dvm, ↓r_slL, ↓r_slT, hg]
          omega
      · rintro δ ⟨u, v, rfl⟩
        have hr : (rangeD 1 151).length = 150 := by decide
        rw [hr, gst_last cl hz ll]
        generalize grd l = G at q ⊢
        simp only [w_parts_of_line_r3]
        simp [↓r_get2, ↓r_get1, ↓r_getE, ↓r_val, ↓r_slot, ↓r_sfz, ↓r_sow, ↓r_all, ↓r_all0, ↓r_all1, ↓r_bl, ↓r_fbl, ↓r_int, ↓r_cons, ↓r_tupE, ↓r_dKE, ↓r_seqL, ↓r_seqT, ↓r_sets0, ↓r_setsF, ↓r_setsO, ↓r_nun, ↓r_nuo, ↓r_add, ↓r_addl, ↓r_addt, ↓r_addb, ↓r_sub, ↓r_subb, ↓r_mul, ↓r_div, ↓r_mod, ↓r_pow, ↓r_cmp, ↓r_i0, ↓r_neg, ↓r_eq, ↓r_ne, ↓r_i1, ↓r_i2, ↓r_max, ↓r_min, ↓r_toI, ↓r_toIb, ↓r_lenL, ↓r_lenT, ↓r_lenS, ↓r_reprI, ↓r_reprB, ↓r_ixT, ↓r_ixL, ↓r_at0, ↓r_at1, ↓r_at2, ↓r_mull, ↓r_mult, ↓r_listL, ↓r_listT, ↓r_tupL, ↓r_tupT, ↓r_dvm, ↓r_slL, ↓r_slT, eqvDs_o]
        by_cases h : G.2 = [1]
        · simp [hc0, h] at q
          simp [h]; exact q
        · simp [hc0, h] at q
          simp [h]; exact q
    · have hc1 : ¬ ((co l 0).natAbs : Int) = 1 := by omega
      simp [hc0] at q
      simp [↓r_get2, ↓r_get1, ↓r_getE, ↓r_val, ↓r_slot, ↓r_sfz, ↓r_sow, ↓r_all, ↓r_all0, ↓r_all1, ↓r_bl, ↓r_fbl, ↓r_int, ↓r_cons, ↓r_tupE, ↓r_dKE, ↓r_seqL, ↓r_seqT, ↓r_sets0, ↓r_setsF, ↓r_setsO, ↓r_nun, ↓r_nuo, ↓r_add, ↓r_addl, ↓r_addt, ↓r_addb, ↓r_sub, ↓r_subb, ↓r_mul, ↓r_div, ↓r_mod, ↓r_pow, ↓r_cmp, ↓r_i0, ↓r_neg, ↓r_eq, ↓r_ne, ↓r_i1, ↓r_i2, ↓r_max, ↓r_min, ↓r_toI, ↓r_toIb, ↓r_lenL, ↓r_lenT, ↓r_lenS, ↓r_reprI, ↓r_reprB, ↓r_ixT, ↓r_ixL, ↓r_at0, ↓r_at1, ↓r_at2, ↓r_mull, ↓r_mult, ↓r_listL, ↓r_listT, ↓r_tupL, ↓r_tupT, ↓r_dvm, ↓r_slL, ↓r_slT, eqvDs_z, hz, h0, pyAbs_eq, hc1]
      exact q
/-! ### what a polynomial is -/
def lastNZ (ds : List Dat) : Bool := match atI ds (-1) with
  | some (.int i) => i != 0
  | _ => false
def isLineD : Dat → Bool
  | .tup ds => (decide (1 ≤ ds.length) && decide (ds.length ≤ 41)) && (ds.all isShortD && (decide (ds.length = 1) || lastNZ ds))
  | _ => false
theorem all_short : ∀ {ds : List Dat}, ds.all isShortD = true → ∃ l : List Int, ds = l.map Dat.int ∧ ∀ c ∈ l, -FARn < c ∧ c < FARn
  | [], _ => ⟨[], rfl, by simp⟩
  | d :: ds, h => by
    simp only [List.all_cons, Bool.and_eq_true] at h
    obtain ⟨i, rfl, hi⟩ := isShortD_of h.1
    obtain ⟨l, rfl, hl⟩ := all_short (ds := ds) h.2
    refine ⟨i :: l, rfl, ?_⟩
    intro c hc
    rcases List.mem_cons.1 hc with rfl | hc
    · exact hi
    · exact hl c hc
structure Poly (l : List Int) : Prop where
  can : Can l
  len : l.length ≤ 41
  lb : LB (10 ^ 60 - 1) l
theorem FARn_nat : FARn = ((10 ^ 60 : Nat) : Int) := by decide +kernel
theorem lastNZ_ints {l : List Int} (h : l ≠ []) : lastNZ (l.map Dat.int) = (led l != 0) := by
  unfold lastNZ; rw [at_last h]
theorem Poly.is {l : List Int} (h : Poly l) : isLineD (lD l) = true := by
  have h1 := h.can.len
  have h2 : (l.map Dat.int).all isShortD = true := by
    rw [List.all_eq_true]
    intro d hd
    obtain ⟨c, hc, rfl⟩ := List.mem_map.1 hd
    have h3 := h.lb.mem hc
    have h4 := FARn_nat
    have h5 : (0 : Nat) < 10 ^ 60 := by decide +kernel
    simp [isShortD]
    generalize (10 : Nat) ^ 60 = T at *
    omega
  have h3 : (decide (l.length = 1) || lastNZ (l.map Dat.int)) = true := by
    rw [lastNZ_ints h.can.1]
    by_cases h4 : l.length = 1
    · simp [h4]
    · simpa [h4] using h.can.last (by omega)
  have h4 := h.len
  simp only [isLineD, List.length_map, h2, h3, h1, h4]
  rfl
def sp_is_polynomial : DSp := fun ds P _ => ∃ (d : Dat), ds = [d] ∧ (anyD d) ∧ P (.bl (isLineD d))
instance : ISp sp_is_polynomial := ⟨fun _ _ _ _ hM ⟨d, e, c, q⟩ => ⟨d, e, c, hM _ q⟩⟩
theorem e_is_polynomial {d : Dat} {P : Dat → Prop} {ex : XP} : sp_is_polynomial [d] P ex ↔ (anyD d) ∧ P (.bl (isLineD d)) := ⟨fun ⟨_, e, hE⟩ => by (simp [rat_inj, ints_inj, Int.natCast_inj, kvD_inj] at e); (obtain rfl := e); exact hE, fun hE => ⟨_, rfl, hE⟩⟩
/-- 0 value 1 number -/
def w_is_polynomial_r1 : WS :=
    (wRet (wAnd (wE (wCB gAll (aoCons (oVal (wE (wComp (iSeq (wVar 0)) (.one 1) [1] tYesD (wCall sp_is_integer (aCons (wVar 1) aNil))))) aoNil))) (wOr (wE (wOp2 gNe (oVal (wE (wOp2 gIx (oSlot 0) (oVal (wE (wOp1 gNeg (oVal (wC (.int 1))))))))) (oVal (wC (.int 0))))) (wE (wOp2 gEq (oVal (wE (wCB gLen (aoCons (oSlot 0) aoNil)))) (oVal (wC (.int 1))))))))
def w_is_polynomial : WS :=
    wSeq (wIf (tOr (tNot (tBl (wE (wCB gIsi (aoCons (oSlot 0) (aoCons (oVal (wC (.ty "tuple"))) aoNil)))))) (tNot (tBl (wChain gLe gLe (oVal (wC (.int 1))) (oVal (wE (wCB gLen (aoCons (oSlot 0) aoNil)))) (oVal (wE (wOp2 gAdd (oVal (wC (.int 40))) (oVal (wC (.int 1)))))))))) (wRet (wC (.bl false))) wNext) w_is_polynomial_r1
theorem k_is_polynomial : Keeps 2 1 w_is_polynomial sp_is_polynomial := by
  rintro _ P ex0 ⟨d, rfl, hc, q⟩
  refine ⟨rfl, ?_⟩
  generalize (fun (x : XD) (_ : Dl) => ex0 x) = ex
  rcases hc with hc | rfl
  · cases d with
    | tup ds =>
      simp only [w_is_polynomial]
      by_cases h : 1 ≤ ds.length ∧ ds.length ≤ 41
      · have h1 : (1 : Int) ≤ (ds.length : Int) := by omega
        have h2 : (ds.length : Int) ≤ 41 := by omega
        simp [↓r_get2, ↓r_get1, ↓r_getE, ↓r_val, ↓r_slot, ↓r_sfz, ↓r_sow, ↓r_all, ↓r_all0, ↓r_all1, ↓r_bl, ↓r_fbl, ↓r_int, ↓r_cons, ↓r_tupE, ↓r_dKE, ↓r_seqL, ↓r_seqT, ↓r_sets0, ↓r_setsF, ↓r_setsO, ↓r_nun, ↓r_nuo, ↓r_add, ↓r_addl, ↓r_addt, ↓r_addb, ↓r_sub, ↓r_subb, ↓r_mul, ↓r_div, ↓r_mod, ↓r_pow, ↓r_cmp, ↓r_i0, ↓r_neg, ↓r_eq, ↓r_ne, ↓r_i1, ↓r_i2, ↓r_max, ↓r_min, ↓r_toI, ↓r_toIb, ↓r_lenL, ↓r_lenT, ↓r_lenS, ↓r_reprI, ↓r_reprB, ↓r_ixT, ↓r_ixL, ↓r_at0, ↓r_at1, ↓r_at2, ↓r_mull, ↓r_mult, ↓r_listL, ↓r_listT, ↓r_tupL, ↓r_tupT, ↓r_dvm, ↓r_slL, ↓r_slT, h1, h2]
        simp only [w_is_polynomial_r1]
        simp [↓r_get2, ↓r_get1, ↓r_getE, ↓r_val, ↓r_slot, ↓r_sfz, ↓r_sow, ↓r_all, ↓r_all0, ↓r_all1, ↓r_bl, ↓r_fbl, ↓r_int, ↓r_cons, ↓r_tupE, ↓r_dKE, ↓r_seqL, ↓r_seqT, ↓r_sets0, ↓r_setsF, ↓r_setsO, ↓r_nun, ↓r_nuo, ↓r_add, ↓r_addl, ↓r_addt, ↓r_addb, ↓r_sub, ↓r_subb, ↓r_mul, ↓r_div, ↓r_mod, ↓r_pow, ↓r_cmp, ↓r_i0, ↓r_neg, ↓r_eq, ↓r_ne, ↓r_i1, ↓r_i2, ↓r_max, ↓r_min, ↓r_toI, ↓r_toIb, ↓r_lenL, ↓r_lenT, ↓r_lenS, ↓r_reprI, ↓r_reprB, ↓r_ixT, ↓r_ixL, ↓r_at0, ↓r_at1, ↓r_at2, ↓r_mull, ↓r_mult, ↓r_listL, ↓r_listT, ↓r_tupL, ↓r_tupT, ↓r_dvm, ↓r_slL, ↓r_slT]
        have e : isLineD (.tup ds) = (ds.all isShortD && (decide (ds.length = 1) || lastNZ ds)) := by simp [isLineD, h]
        rw [e] at q
        refine wCLoop_map (fun d => .bl (isShortD d)) moT moE _ (by simp; omega) ?_ ?_
        · intro x hx
          have hx2 : (tyNm x).isSome = true := by
            rw [okD_tup, List.all_eq_true] at hc
            exact okD_ty (hc x hx)
          simp [CT.bind, ↓e_is_integer, hx2, -tyNm]
        · have mf : false ∈ ds.map isShortD ↔ ¬ ds.all isShortD = true := by
            rw [List.all_eq_true, List.mem_map]
            constructor
            · rintro ⟨x, hx, h⟩ h2
              rw [h2 x hx] at h; cases h
            · intro h
              rw [Classical.not_forall] at h
              obtain ⟨x, h⟩ := h
              rw [Classical.not_imp] at h
              exact ⟨x, h.1, by simpa using h.2⟩
          by_cases ha : ds.all isShortD = true
          · have mf : ¬ false ∈ ds.map isShortD := by rw [mf, ha]; simp
            obtain ⟨l, rfl, hl⟩ := all_short ha
            have hn : l ≠ [] := by rintro rfl; simp at h
            rw [ha, lastNZ_ints hn] at q
            simp
            refine ⟨(l.map Dat.int).map isShortD, by simp, ?_⟩
            rw [if_neg mf]
            simp [↓r_get2, ↓r_get1, ↓r_getE, ↓r_val, ↓r_slot, ↓r_sfz, ↓r_sow, ↓r_all, ↓r_all0, ↓r_all1, ↓r_bl, ↓r_fbl, ↓r_int, ↓r_cons, ↓r_tupE, ↓r_dKE, ↓r_seqL, ↓r_seqT, ↓r_sets0, ↓r_setsF, ↓r_setsO, ↓r_nun, ↓r_nuo, ↓r_add, ↓r_addl, ↓r_addt, ↓r_addb, ↓r_sub, ↓r_subb, ↓r_mul, ↓r_div, ↓r_mod, ↓r_pow, ↓r_cmp, ↓r_i0, ↓r_neg, ↓r_eq, ↓r_ne, ↓r_i1, ↓r_i2, ↓r_max, ↓r_min, ↓r_toI, ↓r_toIb, ↓r_lenL, ↓r_lenT, ↓r_lenS, ↓r_reprI, ↓r_reprB, ↓r_ixT, ↓r_ixL, ↓r_at0, ↓r_at1, ↓r_at2, ↓r_mull, ↓r_mult, ↓r_listL, ↓r_listT, ↓r_tupL, ↓r_tupT, ↓r_dvm, ↓r_slL, ↓r_slT, at_last hn]
            have e5 : (decide ((l.length : Int) = 1)) = decide (l.length = 1) := by rw [decide_eq_decide]; omega
            by_cases hz : led l = 0
            · rw [hz] at q; simp [hz, e5]; simpa using q
            · have e6 : (decide (l.length = 1) || led l != 0) = true := by simp [hz]
              rw [Bool.true_and, List.length_map, e6] at q
              simpa [hz] using q
          · have mf : false ∈ ds.map isShortD := by rw [mf]; exact ha
            rw [Bool.not_eq_true] at ha
            rw [ha] at q
            simp
            refine ⟨ds.map isShortD, by simp, ?_⟩
            rw [if_pos mf]; exact q
      · have e : isLineD (.tup ds) = false := by
          simp [isLineD]; intro a b; omega
        rw [e] at q
        by_cases h1 : 1 ≤ ds.length
        · have h1 : (1 : Int) ≤ (ds.length : Int) := by omega
          have h2 : ¬ (ds.length : Int) ≤ 41 := by omega
          simp [↓r_get2, ↓r_get1, ↓r_getE, ↓r_val, ↓r_slot, ↓r_sfz, ↓r_sow, ↓r_all, ↓r_all0, ↓r_all1, ↓r_bl, ↓r_fbl, ↓r_int, ↓r_cons, ↓r_tupE, ↓r_dKE, ↓r_seqL, ↓r_seqT, ↓r_sets0, ↓r_setsF, ↓r_setsO, ↓r_nun, ↓r_nuo, ↓r_add, ↓r_addl, ↓r_addt, ↓r_addb, ↓r_sub, ↓r_subb, ↓r_mul, ↓r_div, ↓r_mod, ↓r_pow, ↓r_cmp, ↓r_i0, ↓r_neg, ↓r_eq, ↓r_ne, ↓r_i1, ↓r_i2, ↓r_max, ↓r_min, ↓r_toI, ↓r_toIb, ↓r_lenL, ↓r_lenT, ↓r_lenS, ↓r_reprI, ↓r_reprB, ↓r_ixT, ↓r_ixL, ↓r_at0, ↓r_at1, ↓r_at2, ↓r_mull, ↓r_mult, ↓r_listL, ↓r_listT, ↓r_tupL, ↓r_tupT, ↓r_dvm, ↓r_slL, ↓r_slT, h1, h2]; exact q
        · have h1 : ¬ (1 : Int) ≤ (ds.length : Int) := by omega
          simp [↓r_get2, ↓r_get1, ↓r_getE, ↓r_val, ↓r_slot, ↓r_sfz, ↓r_sow, ↓r_all, ↓r_all0, ↓r_all1, ↓r_bl, ↓r_fbl, ↓r_int, ↓r_cons, ↓r_tupE, ↓r_dKE, ↓r_seqL, ↓r_seqT, ↓r_sets0, ↓r_setsF, ↓r_setsO, ↓r_nun, ↓r_nuo, ↓r_add, ↓r_addl, ↓r_addt, ↓r_addb, ↓r_sub, ↓r_subb, ↓r_mul, ↓r_div, ↓r_mod, ↓r_pow, ↓r_cmp, ↓r_i0, ↓r_neg, ↓r_eq, ↓r_ne, ↓r_i1, ↓r_i2, ↓r_max, ↓r_min, ↓r_toI, ↓r_toIb, ↓r_lenL, ↓r_lenT, ↓r_lenS, ↓r_reprI, ↓r_reprB, ↓r_ixT, ↓r_ixL, ↓r_at0, ↓r_at1, ↓r_at2, ↓r_mull, ↓r_mult, ↓r_listL, ↓r_listT, ↓r_tupL, ↓r_tupT, ↓r_dvm, ↓r_slL, ↓r_slT, h1]; exact q
    | _ => first | (simp [okD] at hc; done) | (simp [w_is_polynomial]; exact q)
  · simp [w_is_polynomial]; exact q
def sp_require_polynomial : DSp := fun ds P _ => ∃ (l : List Int), ds = [lD l] ∧ (Poly l) ∧ P (.non)
instance : ISp sp_require_polynomial := ⟨fun _ _ _ _ hM ⟨l, e, c, q⟩ => ⟨l, e, c, hM _ q⟩⟩
theorem e_require_polynomial {l : List Int} {P : Dat → Prop} {ex : XP} : sp_require_polynomial [lD l] P ex ↔ (Poly l) ∧ P (.non) := ⟨fun ⟨_, e, hE⟩ => by (simp [rat_inj, ints_inj, Int.natCast_inj, kvD_inj] at e); (obtain rfl := e); exact hE, fun hE => ⟨_, rfl, hE⟩⟩
/-- 0 value -/
def w_require_polynomial : WS :=
    (wIf (tNot (tBl (wCall sp_is_polynomial (aCons (wVar 0) aNil)))) wNever wNext)
theorem k_require_polynomial : Keeps 1 1 w_require_polynomial sp_require_polynomial := by
  rintro _ P ex0 ⟨l, rfl, hc, q⟩
  refine ⟨rfl, ?_⟩
  generalize (fun (x : XD) (_ : Dl) => ex0 x) = ex
  have h := hc.is
  have h2 : anyD (lD l) := .inl okD_lD
  simp [w_require_polynomial, ↓e_is_polynomial, h, h2, q]
/-! ### cyclotomic_parts, what the law expects -/
def sp_cyclotomic_parts : DSp := fun ds P _ => ∃ (l : List Int), ds = [lD l] ∧ (Poly l ∧ l.length ≤ 20) ∧ P (partsD l)
instance : ISp sp_cyclotomic_parts := ⟨fun _ _ _ _ hM ⟨l, e, c, q⟩ => ⟨l, e, c, hM _ q⟩⟩
theorem e_cyclotomic_parts {l : List Int} {P : Dat → Prop} {ex : XP} : sp_cyclotomic_parts [lD l] P ex ↔ (Poly l ∧ l.length ≤ 20) ∧ P (partsD l) := ⟨fun ⟨_, e, hE⟩ => by (simp [rat_inj, ints_inj, Int.natCast_inj, kvD_inj] at e); (obtain rfl := e); exact hE, fun hE => ⟨_, rfl, hE⟩⟩
/-- 0 polynomial -/
def w_cyclotomic_parts : WS :=
    (wSeq (wExpr (wCall sp_require_polynomial (aCons (wVar 0) aNil)))
    (wRet (wCall sp_parts_of_line (aCons (wVar 0) aNil))))
theorem k_cyclotomic_parts : Keeps 1 1 w_cyclotomic_parts sp_cyclotomic_parts := by
  rintro _ P ex0 ⟨l, rfl, hc, q⟩
  refine ⟨rfl, ?_⟩
  generalize (fun (x : XD) (_ : Dl) => ex0 x) = ex
  have h1 := hc.1.can
  simp [w_cyclotomic_parts, ↓e_require_polynomial, ↓e_parts_of_line, hc, h1]
  exact q
def kvA (f : List (Nat × Nat)) (n j : Nat) : List (Nat × Nat) := if j = 0 then f else f ++ [(n, j)]
theorem addK_A {f : List (Nat × Nat)} {n j : Nat} (h : ∀ p ∈ f, p.1 ≠ n) : addK (kvA f n j) n = kvA f n (j + 1) := by
  have hf : f.find? (fun q => q.1 == n) = none := by
    rw [List.find?_eq_none]; intro p hp; simpa using h p hp
  have ha : f.any (fun q => q.1 == n) = false := by
    rw [List.any_eq_false]; intro p hp; simpa using h p hp
  unfold kvA addK
  by_cases hj : j = 0
  · subst hj; simp [ha]
  · have hm : f.map (fun q => if q.1 = n then (n, ((f ++ [(n, j)]).find? (fun q => q.1 == n)).map (·.2) |>.getD 0 |> (· + 1)) else q) = f := by
      conv => rhs; rw [← List.map_id f]
      refine List.map_congr_left fun p hp => ?_
      rw [if_neg (h p hp)]; rfl
    simp [hj, hf] at hm ⊢
    exact hm
def dst (l : List Int) (i : Nat) : List (Nat × Nat) × List Int := (SS.take i).foldl stp ([], l)
theorem dst_succ {l : List Int} {i : Nat} (h : i < SS.length) : dst l (i + 1) = stp (dst l i) SS[i] := by
  unfold dst; rw [← List.take_append_getElem h, List.foldl_append]; rfl
theorem dst_all {l : List Int} : dst l SS.length = grd l := by unfold dst grd; rw [List.take_length]
theorem dst_props {l : List Int} (h1 : Can l) (h0 : l ≠ [0]) : ∀ i, i ≤ SS.length → Can (dst l i).2 ∧ (dst l i).2 ≠ [0] ∧ (dst l i).2.length ≤ l.length ∧ (∀ p ∈ (dst l i).1, p.1 ∈ SS.take i) ∧ (dst l i).1.length ≤ i
  | 0, _ => ⟨h1, h0, Nat.le_refl _, by simp [dst], by simp [dst]⟩
  | i + 1, hi => by
    obtain ⟨a, b, c, d, e⟩ := dst_props h1 h0 i (by omega)
    have hlt : i < SS.length := by omega
    rw [dst_succ hlt]
    obtain ⟨a1, a2, a3, _⟩ := stp_props (Phi.of (List.getElem_mem hlt)) a b
    have ht : SS.take (i + 1) = SS.take i ++ [SS[i]] := (List.take_append_getElem hlt).symm
    refine ⟨a1, a2, by omega, ?_, ?_⟩
    · rcases stp_fst (s := dst l i) (n := SS[i]) with z | ⟨m, z⟩
      · rw [z, ht]; exact fun p hp => List.mem_append_left _ (d p hp)
      · rw [z, ht]
        intro p hp
        rcases List.mem_append.1 hp with hp | hp
        · exact List.mem_append_left _ (d p hp)
        · simp at hp; subst hp; exact List.mem_append_right _ (List.mem_singleton.2 rfl)
    · rcases stp_fst (s := dst l i) (n := SS[i]) with z | ⟨m, z⟩
      · rw [z]; omega
      · rw [z]; simp; omega
theorem SS_few : SS.length ≤ 60 := by decide +kernel
def sp__law_due : DSp := fun ds P _ => ∃ (l : List Int), ds = [lD l, .dK (toldD SS)] ∧ (Can l ∧ l.length ≤ 1000) ∧ P (partsD l)
instance : ISp sp__law_due := ⟨fun _ _ _ _ hM ⟨l, e, c, q⟩ => ⟨l, e, c, hM _ q⟩⟩
theorem e__law_due {l : List Int} {P : Dat → Prop} {ex : XP} : sp__law_due [lD l, .dK (toldD SS)] P ex ↔ (Can l ∧ l.length ≤ 1000) ∧ P (partsD l) := ⟨fun ⟨_, e, hE⟩ => by (simp [rat_inj, ints_inj, Int.natCast_inj, kvD_inj] at e); (obtain rfl := e); exact hE, fun hE => ⟨_, rfl, hE⟩⟩
/-- 0 _law_line 1 _law_told 2 _law_found 3 _law_left 4 _law_number 5 _law_later -/
def w__law_due_r3 : WS :=
    (wRet (wIte (tBlV (wOp2 gEq (oSlot 3) (oVal (wTup (aCons (wC (.int 1)) aNil))))) (wVar 2) (wC .non)))
def w__law_due_r2 : WS :=
    wSeq (wFor (iSeq (wE (wCB gSorted (aoCons (oSlot 1) aoNil)))) (wgN 4) (wSeq (wAsg 5 (wJ (wCall sp__law_line_over (aCons (wVar 3) (aCons (wE (wOp2 gIx (oSlot 1) (oSlot 4))) aNil)))))
    (wWhile (tBlV (wOp2 gNotN (oSlot 5) (oVal (wC .non)))) (wSeq (wAsgG (wTup (aCons (wE (wOp2 gAdd (oVal (wGet (oSlot 2) (oSlot 4) (wC (.int 0)))) (oVal (wC (.int 1))))) (aCons (wVar 5) aNil))) (wgTup 2 (wgCons (wgSub 2 (oSlot 4)) (wgCons (wgN 3) wgNil))))
    (wAsg 5 (wJ (wCall sp__law_line_over (aCons (wVar 3) (aCons (wE (wOp2 gIx (oSlot 1) (oSlot 4))) aNil))))))))) w__law_due_r3
def w__law_due_r1 : WS :=
    wSeq (wIf (tBlV (wOp2 gEq (oSlot 3) (oVal (wTup (aCons (wC (.int 0)) aNil))))) (wRet (wC .non)) wNext) w__law_due_r2
def w__law_due : WS :=
    wSeq (wSets [2, 3] (ajCons wDict0 (ajCons (wJ (wVar 0)) ajNil))) w__law_due_r1
set_option maxHeartbeats 1000000 in
theorem k__law_due : Keeps 6 2 w__law_due sp__law_due := by
  rintro _ P ex0 ⟨l, rfl, hc, q⟩
  refine ⟨rfl, ?_⟩
  generalize (fun (x : XD) (_ : Dl) => ex0 x) = ex
  obtain ⟨cl, ll⟩ := hc
  have S60 := SS_few
  simp only [w__law_due]
  simp [↓r_get2, ↓r_get1, ↓r_getE, ↓r_val, ↓r_slot, ↓r_sfz, ↓r_sow, ↓r_all, ↓r_all0, ↓r_all1, ↓r_bl, ↓r_fbl, ↓r_int, ↓r_cons, ↓r_tupE, ↓r_dKE, ↓r_seqL, ↓r_seqT, ↓r_sets0, ↓r_setsF, ↓r_setsO, ↓r_nun, ↓r_nuo, ↓r_add, ↓r_addl, ↓r_addt, ↓r_addb, ↓r_sub, ↓r_subb, ↓r_mul, ↓r_div, ↓r_mod, ↓r_pow, ↓r_cmp, ↓r_i0, ↓r_neg, ↓r_eq, ↓r_ne, ↓r_i1, ↓r_i2, ↓r_max, ↓r_min, ↓r_toI, ↓r_toIb, ↓r_lenL, ↓r_lenT, ↓r_lenS, ↓r_reprI, ↓r_reprB, ↓r_ixT, ↓r_ixL, ↓r_at0, ↓r_at1, ↓r_at2, ↓r_mull, ↓r_mult, ↓r_listL, ↓r_listT, ↓r_tupL, ↓r_tupT, ↓r_dvm, ↓r_slL, ↓r_slT]
  simp only [w__law_due_r1]
  by_cases hz : l = [0]
  · subst hz
    have : partsD [0] = .non := rfl
    rw [this] at q
    simp [↓r_get2, ↓r_get1, ↓r_getE, ↓r_val, ↓r_slot, ↓r_sfz, ↓r_sow, ↓r_all, ↓r_all0, ↓r_all1, ↓r_bl, ↓r_fbl, ↓r_int, ↓r_cons, ↓r_tupE, ↓r_dKE, ↓r_seqL, ↓r_seqT, ↓r_sets0, ↓r_setsF, ↓r_setsO, ↓r_nun, ↓r_nuo, ↓r_add, ↓r_addl, ↓r_addt, ↓r_addb, ↓r_sub, ↓r_subb, ↓r_mul, ↓r_div, ↓r_mod, ↓r_pow, ↓r_cmp, ↓r_i0, ↓r_neg, ↓r_eq, ↓r_ne, ↓r_i1, ↓r_i2, ↓r_max, ↓r_min, ↓r_toI, ↓r_toIb, ↓r_lenL, ↓r_lenT, ↓r_lenS, ↓r_reprI, ↓r_reprB, ↓r_ixT, ↓r_ixL, ↓r_at0, ↓r_at1, ↓r_at2, ↓r_mull, ↓r_mult, ↓r_listL, ↓r_listT, ↓r_tupL, ↓r_tupT, ↓r_dvm, ↓r_slL, ↓r_slT]; exact q
  · simp [↓r_get2, ↓r_get1, ↓r_getE, ↓r_val, ↓r_slot, ↓r_sfz, ↓r_sow, ↓r_all, ↓r_all0, ↓r_all1, ↓r_bl, ↓r_fbl, ↓r_int, ↓r_cons, ↓r_tupE, ↓r_dKE, ↓r_seqL, ↓r_seqT, ↓r_sets0, ↓r_setsF, ↓r_setsO, ↓r_nun, ↓r_nuo, ↓r_add, ↓r_addl, ↓r_addt, ↓r_addb, ↓r_sub, ↓r_subb, ↓r_mul, ↓r_div, ↓r_mod, ↓r_pow, ↓r_cmp, ↓r_i0, ↓r_neg, ↓r_eq, ↓r_ne, ↓r_i1, ↓r_i2, ↓r_max, ↓r_min, ↓r_toI, ↓r_toIb, ↓r_lenL, ↓r_lenT, ↓r_lenS, ↓r_reprI, ↓r_reprB, ↓r_ixT, ↓r_ixL, ↓r_at0, ↓r_at1, ↓r_at2, ↓r_mull, ↓r_mult, ↓r_listL, ↓r_listT, ↓r_tupL, ↓r_tupT, ↓r_dvm, ↓r_slL, ↓r_slT, eqvDs_z, hz]
    simp only [w__law_due_r2]
    simp [↓r_get2, ↓r_get1, ↓r_getE, ↓r_val, ↓r_slot, ↓r_sfz, ↓r_sow, ↓r_all, ↓r_all0, ↓r_all1, ↓r_bl, ↓r_fbl, ↓r_int, ↓r_cons, ↓r_tupE, ↓r_dKE, ↓r_seqL, ↓r_seqT, ↓r_sets0, ↓r_setsF, ↓r_setsO, ↓r_nun, ↓r_nuo, ↓r_add, ↓r_addl, ↓r_addt, ↓r_addb, ↓r_sub, ↓r_subb, ↓r_mul, ↓r_div, ↓r_mod, ↓r_pow, ↓r_cmp, ↓r_i0, ↓r_neg, ↓r_eq, ↓r_ne, ↓r_i1, ↓r_i2, ↓r_max, ↓r_min, ↓r_toI, ↓r_toIb, ↓r_lenL, ↓r_lenT, ↓r_lenS, ↓r_reprI, ↓r_reprB, ↓r_ixT, ↓r_ixL, ↓r_at0, ↓r_at1, ↓r_at2, ↓r_mull, ↓r_mult, ↓r_listL, ↓r_listT, ↓r_tupL, ↓r_tupT, ↓r_dvm, ↓r_slL, ↓r_slT]
    refine ⟨SS.map (fun d => ((d : Nat) : Int)), toldD_keys, by rw [List.length_map]; omega, ?_⟩
    intro ms hp hso
    have ems := perm_sorted hp hso (sorted_nat SS_sorted)
    subst ems
    refine for_inv moG moS (fun i δ => ∃ (u v : DV), δ = [.fz (lD l), .fz (.dK (toldD SS)), .ow (.dK (kvD (dst l i).1)), .fz (lD (dst l i).2), u, v]) ?_ ?_ ⟨_, _, rfl⟩
    · rintro i d δ hi ⟨u, v, rfl⟩
      rw [List.map_map, List.getElem?_map] at hi
      obtain ⟨n, hn, rfl⟩ := Option.map_eq_some_iff.1 hi
      obtain ⟨hlt, hne⟩ := List.getElem?_eq_some_iff.1 hn
      obtain ⟨a, b, c, d, e⟩ := dst_props cl hz i (by omega)
      rw [dst_succ hlt, hne]
      have hnS : n ∈ SS := hne ▸ List.getElem_mem hlt
      have hP := Phi.of hnS
      have hv := toldD_val hnS
      have hnew : ∀ p ∈ (dst l i).1, p.1 ≠ n := by
        intro p hp z
        have hp := d p hp
        rw [z] at hp
        obtain ⟨j, hj, he⟩ := List.getElem_of_mem hp
        rw [List.length_take] at hj
        rw [List.getElem_take, ← hne] at he
        have := (List.pairwise_iff_getElem.1 SS_sorted) j i (by omega) hlt (by omega)
        omega
      generalize dst l i = s at *
      have e1 : ∀ {r : List Int} {P ex}, r ≠ [] → r.length ≤ 1000 → (sp__law_line_over [lD r, lD (PHI n)] P ex ↔ P (optD (divL r (PHI n)))) := by
        intro r P ex h1 h2
        rw [e__law_line_over]
        exact ⟨fun x => x.2, fun x => ⟨⟨h1, hP.ne, h2, by have := hP.len; have := hP.deg; omega, hP.lb, hP.led⟩, x⟩⟩
      have ls : s.2.length ≤ 1000 := by omega
      simp [↓r_get2, ↓r_get1, ↓r_getE, ↓r_val, ↓r_slot, ↓r_sfz, ↓r_sow, ↓r_all, ↓r_all0, ↓r_all1, ↓r_bl, ↓r_fbl, ↓r_int, ↓r_cons, ↓r_tupE, ↓r_dKE, ↓r_seqL, ↓r_seqT, ↓r_sets0, ↓r_setsF, ↓r_setsO, ↓r_nun, ↓r_nuo, ↓r_add, ↓r_addl, ↓r_addt, ↓r_addb, ↓r_sub, ↓r_subb, ↓r_mul, ↓r_div, ↓r_mod, ↓r_pow, ↓r_cmp, ↓r_i0, ↓r_neg, ↓r_eq, ↓r_ne, ↓r_i1, ↓r_i2, ↓r_max, ↓r_min, ↓r_toI, ↓r_toIb, ↓r_lenL, ↓r_lenT, ↓r_lenS, ↓r_reprI, ↓r_reprB, ↓r_ixT, ↓r_ixL, ↓r_at0, ↓r_at1, ↓r_at2, ↓r_mull, ↓r_mult, ↓r_listL, ↓r_listT, ↓r_tupL, ↓r_tupT, ↓r_dvm, ↓r_slL, ↓r_slT, hv, ↓e1 a.1 ls]
      refine while_inv moT moS (fun δ => ∃ (m : Nat) (r : List Int), δ = [.fz (lD l), .fz (.dK (toldD SS)), .ow (.dK (kvD (kvA s.1 n m))), .fz (lD r), .fz (.int n), .fz (optD (divL r (PHI n)))] ∧ Can r ∧ r ≠ [0] ∧ r.length ≤ 1000 ∧ tdF s.2.length s.2 (PHI n) = (m + (tdF r.length r (PHI n)).1, (tdF r.length r (PHI n)).2)) (fun δ => slT δ 3) ?_ ⟨0, s.2, rfl, a, b, ls, by simp⟩
      rintro δ ⟨m, r, rfl, cr, r0, lr, ht⟩
      cases h : divL r (PHI n) with
      | none =>
        rw [tdF_none h] at ht
        simp [↓r_get2, ↓r_get1, ↓r_getE, ↓r_val, ↓r_slot, ↓r_sfz, ↓r_sow, ↓r_all, ↓r_all0, ↓r_all1, ↓r_bl, ↓r_fbl, ↓r_int, ↓r_cons, ↓r_tupE, ↓r_dKE, ↓r_seqL, ↓r_seqT, ↓r_sets0, ↓r_setsF, ↓r_setsO, ↓r_nun, ↓r_nuo, ↓r_add, ↓r_addl, ↓r_addt, ↓r_addb, ↓r_sub, ↓r_subb, ↓r_mul, ↓r_div, ↓r_mod, ↓r_pow, ↓r_cmp, ↓r_i0, ↓r_neg, ↓r_eq, ↓r_ne, ↓r_i1, ↓r_i2, ↓r_max, ↓r_min, ↓r_toI, ↓r_toIb, ↓r_lenL, ↓r_lenT, ↓r_lenS, ↓r_reprI, ↓r_reprB, ↓r_ixT, ↓r_ixL, ↓r_at0, ↓r_at1, ↓r_at2, ↓r_mull, ↓r_mult, ↓r_listL, ↓r_listT, ↓r_tupL, ↓r_tupT, ↓r_dvm, ↓r_slL, ↓r_slT, optD]
        unfold stp
        rw [ht]
        exact ⟨rfl, rfl⟩
      | some r' =>
        obtain ⟨h1, h2, h3⟩ := divL_lt cr r0 hP.len2 hP.led h
        have hl : r'.length ≤ 1000 := by omega
        have hlen : (kvD (kvA s.1 n m)).length < 1000000 := by unfold kvD kvA; rw [List.length_map]; split <;> (try rw [List.length_append, List.length_singleton]) <;> omega
        simp [↓r_get2, ↓r_get1, ↓r_getE, ↓r_val, ↓r_slot, ↓r_sfz, ↓r_sow, ↓r_all, ↓r_all0, ↓r_all1, ↓r_bl, ↓r_fbl, ↓r_int, ↓r_cons, ↓r_tupE, ↓r_dKE, ↓r_seqL, ↓r_seqT, ↓r_sets0, ↓r_setsF, ↓r_setsO, ↓r_nun, ↓r_nuo, ↓r_add, ↓r_addl, ↓r_addt, ↓r_addb, ↓r_sub, ↓r_subb, ↓r_mul, ↓r_div, ↓r_mod, ↓r_pow, ↓r_cmp, ↓r_i0, ↓r_neg, ↓r_eq, ↓r_ne, ↓r_i1, ↓r_i2, ↓r_max, ↓r_min, ↓r_toI, ↓r_toIb, ↓r_lenL, ↓r_lenT, ↓r_lenS, ↓r_reprI, ↓r_reprB, ↓r_ixT, ↓r_ixL, ↓r_at0, ↓r_at1, ↓r_at2, ↓r_mull, ↓r_mult, ↓r_listL, ↓r_listT, ↓r_tupL, ↓r_tupT, ↓r_dvm, ↓r_slL, ↓r_slT, optD, hv, hlen, getD_kvD, putD_kvD, addK_A hnew, ↓e1 h1.1 hl, keyD]
        refine ⟨⟨m + 1, r', ⟨rfl, rfl, rfl⟩, h1, h2, hl, ?_⟩, by simpa [slT] using h3⟩
        rw [ht]
        have := cr.len
        obtain ⟨k, hk⟩ : ∃ k, r.length = k + 1 := ⟨r.length - 1, by omega⟩
        rw [hk, tdF_step h, tdF_fuel hP.len2 hP.led (k := k) (m := r'.length) h1 h2 (by omega) (Nat.le_refl _)]
        simp; omega
    · rintro δ ⟨u, v, rfl⟩
      rw [List.length_map, List.length_map, dst_all]
      have hco := (fold_stp_props (ns := SS) (s := ([], l)) (fun _ h => h) cl hz).2.2
      have hgd : SS.foldl stp ([], l) = grd l := rfl
      rw [hgd] at hco
      unfold partsD partsOf at q
      generalize grd l = G at *
      simp only [w__law_due_r3]
      simp [↓r_get2, ↓r_get1, ↓r_getE, ↓r_val, ↓r_slot, ↓r_sfz, ↓r_sow, ↓r_all, ↓r_all0, ↓r_all1, ↓r_bl, ↓r_fbl, ↓r_int, ↓r_cons, ↓r_tupE, ↓r_dKE, ↓r_seqL, ↓r_seqT, ↓r_sets0, ↓r_setsF, ↓r_setsO, ↓r_nun, ↓r_nuo, ↓r_add, ↓r_addl, ↓r_addt, ↓r_addb, ↓r_sub, ↓r_subb, ↓r_mul, ↓r_div, ↓r_mod, ↓r_pow, ↓r_cmp, ↓r_i0, ↓r_neg, ↓r_eq, ↓r_ne, ↓r_i1, ↓r_i2, ↓r_max, ↓r_min, ↓r_toI, ↓r_toIb, ↓r_lenL, ↓r_lenT, ↓r_lenS, ↓r_reprI, ↓r_reprB, ↓r_ixT, ↓r_ixL, ↓r_at0, ↓r_at1, ↓r_at2, ↓r_mull, ↓r_mult, ↓r_listL, ↓r_listT, ↓r_tupL, ↓r_tupT, ↓r_dvm, ↓r_slL, ↓r_slT, eqvDs_o]
      by_cases h : G.2 = [1]
      · have h1 : (co l 0).natAbs = 1 := by
          rw [h] at hco; exact hco.symm
        simp [h, h1] at q
        simp [h]; exact q
      · simp [h] at q
        simp [h]; exact q
/-! ### parts that are drawn -/
def Pre (f : List (Nat × Nat)) : Prop := (∀ p ∈ f, p.1 ∈ SS ∧ 1 ≤ p.2) ∧ (f.map (·.1)).Nodup
theorem degP_app {a b : List (Nat × Nat)} : degP (a ++ b) = degP a + degP b := by
  induction a with
  | nil => simp [degP]
  | cons x a ih => simp [degP, ih]; omega
theorem addK_keys {f : List (Nat × Nat)} {n : Nat} (h : ∃ p ∈ f, p.1 = n) : (addK f n).map (·.1) = f.map (·.1) := by
  have ha : f.any (fun q => q.1 == n) = true := by
    rw [List.any_eq_true]; obtain ⟨p, hp, rfl⟩ := h; exact ⟨p, hp, by simp⟩
  unfold addK
  rw [if_pos ha, List.map_map]
  refine List.map_congr_left fun p _ => ?_
  simp only [Function.comp]
  split
  · rename_i z; exact z.symm
  · rfl
theorem addK_split {n e : Nat} : ∀ {a b : List (Nat × Nat)}, (∀ p ∈ a, p.1 ≠ n) → (∀ p ∈ b, p.1 ≠ n) → addK (a ++ (n, e) :: b) n = a ++ (n, e + 1) :: b := by
  intro a b ha hb
  have hany : (a ++ (n, e) :: b).any (fun q => q.1 == n) = true := by simp
  have hfa : a.find? (fun q => q.1 == n) = none := by
    rw [List.find?_eq_none]; intro p hp; simpa using ha p hp
  have hfind : (a ++ (n, e) :: b).find? (fun q => q.1 == n) = some (n, e) := by
    rw [List.find?_append, hfa]; simp
  have hid : ∀ {l : List (Nat × Nat)}, (∀ p ∈ l, p.1 ≠ n) → l.map (fun q => if q.1 = n then (n, e + 1) else q) = l := by
    intro l hl
    conv => rhs; rw [← List.map_id l]
    refine List.map_congr_left fun p hp => ?_
    rw [if_neg (hl p hp)]; rfl
  unfold addK
  rw [if_pos hany, hfind]
  show (a ++ (n, e) :: b).map (fun q => if q.1 = n then (n, e + 1) else q) = _
  rw [List.map_append, List.map_cons, hid ha, hid hb, if_pos rfl]
theorem Pre.add {f : List (Nat × Nat)} {n : Nat} (h : Pre f) (hn : n ∈ SS) : Pre (addK f n) ∧ degP (addK f n) = degP f + phiN n := by
  by_cases hm : ∃ p ∈ f, p.1 = n
  · obtain ⟨⟨m, e⟩, hp, he⟩ := hm
    simp only at he
    subst he
    obtain ⟨a, b, rfl⟩ := List.append_of_mem hp
    have hnd := h.2
    rw [List.map_append, List.map_cons, List.nodup_append] at hnd
    obtain ⟨n1, n2, n3⟩ := hnd
    rw [List.nodup_cons] at n2
    have ha : ∀ p ∈ a, p.1 ≠ m := fun p hp z => n3 p.1 (List.mem_map_of_mem hp) m List.mem_cons_self z
    have hb : ∀ p ∈ b, p.1 ≠ m := fun p hp z => n2.1 (List.mem_map.2 ⟨p, hp, z⟩)
    rw [addK_split ha hb]
    refine ⟨⟨?_, ?_⟩, ?_⟩
    · intro p hp
      rcases List.mem_append.1 hp with hp | hp
      · exact h.1 p (List.mem_append_left _ hp)
      · rcases List.mem_cons.1 hp with rfl | hp
        · exact ⟨hn, by simp⟩
        · exact h.1 p (List.mem_append_right _ (List.mem_cons_of_mem _ hp))
    · have := h.2; rw [List.map_append, List.map_cons] at this ⊢; exact this
    · rw [degP_app, degP_app]; simp [degP, Nat.add_mul]; omega
  · have hne : ∀ p ∈ f, p.1 ≠ n := fun p hp z => hm ⟨p, hp, z⟩
    have ha : ¬ f.any (fun q => q.1 == n) = true := by
      rw [List.any_eq_true]; rintro ⟨p, hp, z⟩; exact hne p hp (by simpa using z)
    unfold addK
    rw [if_neg ha]
    refine ⟨⟨?_, ?_⟩, ?_⟩
    · intro p hp
      rcases List.mem_append.1 hp with hp | hp
      · exact h.1 p hp
      · simp at hp; subst hp; exact ⟨hn, Nat.le_refl _⟩
    · rw [List.map_append, List.nodup_append]
      refine ⟨h.2, by simp, ?_⟩
      intro x hx y hy z
      simp at hy
      subst hy
      obtain ⟨p, hp, rfl⟩ := List.mem_map.1 hx
      exact hne p hp z
    · rw [degP_app]; simp [degP]
theorem Pre.len {f : List (Nat × Nat)} (h : ∀ p ∈ f, p.1 ∈ SS ∧ 1 ≤ p.2) : f.length ≤ degP f := by
  induction f with
  | nil => simp
  | cons p f ih =>
    obtain ⟨n, e⟩ := p
    have i1 := ih fun p hp => h p (List.mem_cons_of_mem _ hp)
    obtain ⟨h1, h2⟩ := h (n, e) List.mem_cons_self
    have hp : Phi n := Phi.of h1
    have h3 := hp.len2
    have h4 := hp.len
    have h1 : 1 ≤ e := h2
    have h5 : 1 * 1 ≤ e * phiN n := Nat.mul_le_mul h1 (by omega)
    simp only [degP, List.length_cons]; omega
theorem degP_perm {a b : List (Nat × Nat)} (h : a.Perm b) : degP a = degP b := by
  induction h with
  | nil => rfl
  | cons x _ ih => simp [degP, ih]
  | swap x y l => simp [degP]; omega
  | trans _ _ i1 i2 => exact i1.trans i2
def lkp (f : List (Nat × Nat)) (n : Nat) : Nat := ((f.find? fun q => q.1 == n).map (·.2)).getD 0
theorem lkp_mem {f : List (Nat × Nat)} (hd : (f.map (·.1)).Nodup) {p : Nat × Nat} (hp : p ∈ f) : f.find? (fun q => q.1 == p.1) = some p := by
  induction f with
  | nil => cases hp
  | cons a f ih =>
    rw [List.map_cons, List.nodup_cons] at hd
    rcases List.mem_cons.1 hp with rfl | hp
    · simp
    · have : a.1 ≠ p.1 := fun z => hd.1 (z ▸ List.mem_map_of_mem hp)
      rw [List.find?_cons, show (a.1 == p.1) = false by simp [this]]
      exact ih hd.2 hp
theorem sorted_parts {f : List (Nat × Nat)} (hd : (f.map (·.1)).Nodup) {ms : List Int} (hp : ms.Perm (f.map fun p => ((p.1 : Nat) : Int))) (hs : ms.Pairwise (· ≤ ·)) : ∃ ps : List (Nat × Nat), ps.Perm f ∧ Asc ps ∧ ms = ps.map fun p => ((p.1 : Nat) : Int) := by
  refine ⟨ms.map fun m => (m.toNat, lkp f m.toNat), ?_, ?_, ?_⟩
  · refine (hp.map _).trans ?_
    rw [List.map_map]
    have : f.map ((fun m : Int => (m.toNat, lkp f m.toNat)) ∘ fun p => ((p.1 : Nat) : Int)) = f := by
      conv => rhs; rw [← List.map_id f]
      refine List.map_congr_left fun p h => ?_
      simp [lkp, lkp_mem hd h]
    rw [this]
  · have hnn : ∀ m ∈ ms, 0 ≤ m := fun m hm => by
      obtain ⟨p, _, rfl⟩ := List.mem_map.1 (hp.subset hm); omega
    have hnd : ms.Nodup := by
      refine hp.symm.nodup ?_
      have := hd
      rw [show (f.map fun p => ((p.1 : Nat) : Int)) = (f.map (·.1)).map (fun n : Nat => (n : Int)) by rw [List.map_map]; rfl]
      exact List.Pairwise.map _ (fun a b h z => h (by omega)) hd
    unfold Asc
    rw [List.pairwise_map]
    have hb := List.Pairwise.and hs hnd
    refine List.Pairwise.imp_of_mem ?_ hb
    intro a b ha hb' ⟨h1, h2⟩
    have := hnn a ha
    have := hnn b hb'
    have h2 : a ≠ b := h2
    simp only
    omega
  · rw [List.map_map]
    conv => lhs; rw [← List.map_id ms]
    refine List.map_congr_left fun m hm => ?_
    obtain ⟨p, _, rfl⟩ := List.mem_map.1 (hp.subset hm)
    simp
theorem merge_kvD : ∀ {b a : List (Nat × Nat)}, ((a ++ b).map (·.1)).Nodup → mergeD (kvD a) (kvD b) = kvD (a ++ b)
  | [], a, _ => by simp [mergeD, kvD]
  | (n, e) :: b, a, h => by
    have hn : ∀ p ∈ a, p.1 ≠ n := fun p hp z => by
      rw [List.map_append, List.nodup_append] at h
      exact h.2.2 p.1 (List.mem_map_of_mem hp) n (by simp) z
    show mergeD (putD (kvD a) (Sum.inl (n : Int)) (.int e)) (kvD b) = _
    rw [kvD_put hn, merge_kvD (by simpa using h)]
    simp
theorem Asc.nodup {ps : List (Nat × Nat)} (h : Asc ps) : (ps.map (·.1)).Nodup := by
  unfold List.Nodup
  rw [List.pairwise_map]
  exact List.Pairwise.imp (fun h => Nat.ne_of_lt h) h
theorem kvD_keys {f : List (Nat × Nat)} : (kvD f).map (·.1) = (f.map fun p => ((p.1 : Nat) : Int)).map Sum.inl := by unfold kvD; simp
theorem twelve_chk : ((List.range 12).all fun k => SS.contains (k + 1)) = true := by decide +kernel
theorem twelve {k : Nat} (h : k < 12) : k + 1 ∈ SS := List.contains_iff_mem.1 (List.all_eq_true.1 twelve_chk k (List.mem_range.2 h))
def sp__law_some_parts : DSp := fun ds P _ => ds = [.bag, .dK (toldD SS)] ∧ ∀ (ps : List (Nat × Nat)), Parts ps ∧ degP ps ≤ 16 → P (.dK (kvD ps))
instance : ISp sp__law_some_parts := ⟨fun _ _ _ _ hM ⟨e, q⟩ => ⟨e, fun ps hk => hM _ (q ps hk)⟩⟩
theorem e__law_some_parts  {P : Dat → Prop} {ex : XP} : sp__law_some_parts [.bag, .dK (toldD SS)] P ex ↔ ∀ (ps : List (Nat × Nat)), Parts ps ∧ degP ps ≤ 16 → P (.dK (kvD ps)) := by simp [sp__law_some_parts]
/-- 0 _law_bag_here 1 _law_told 2 _law_found 3 _law_left 4 _law_turn 5 _law_number -/
def w__law_some_parts_r2 : WS :=
    (wRet (wE (wCB gDict (aoCons (oVal (wE (wComp (iSeq (wE (wCB gSorted (aoCons (oSlot 2) aoNil)))) (.one 5) [5] tYesD (wTup (aCons (wVar 5) (aCons (wE (wOp2 gIx (oSlot 2) (oSlot 5))) aNil)))))) aoNil))))
def w__law_some_parts_r1 : WS :=
    wSeq (wFor (iRange1 (oVal (wE (wOp2 gAdd (oVal (wC (.int 1))) (oVal (wCall sp__law_grab (aCons (wVar 0) (aCons (wC (.int 6)) aNil)))))))) (wgN 4) (wSeq (wAsg 5 (wJ (wIte (tBlV (wOp2 gEq (oVal (wCall sp__law_grab (aCons (wVar 0) (aCons (wC (.int 2)) aNil)))) (oVal (wC (.int 0))))) (wCall sp__law_one_of (aCons (wVar 0) (aCons (wE (wCB gSorted (aoCons (oSlot 1) aoNil))) aNil))) (wE (wOp2 gAdd (oVal (wC (.int 1))) (oVal (wCall sp__law_grab (aCons (wVar 0) (aCons (wC (.int 12)) aNil)))))))))
    (wIf (tBlV (wOp2 gLe (oVal (wE (wOp2 gSubA (oVal (wE (wCB gLen (aoCons (oVal (wE (wOp2 gIx (oSlot 1) (oSlot 5)))) aoNil)))) (oVal (wC (.int 1)))))) (oSlot 3))) (wSeq (wAsgG (wE (wOp2 gAdd (oVal (wGet (oSlot 2) (oSlot 5) (wC (.int 0)))) (oVal (wC (.int 1))))) (wgSub 2 (oSlot 5)))
    (wAsg 3 (wOp2 gAdd (oVal (wE (wOp2 gSubA (oSlot 3) (oVal (wE (wCB gLen (aoCons (oVal (wE (wOp2 gIx (oSlot 1) (oSlot 5)))) aoNil))))))) (oVal (wC (.int 1)))))) wNext))) w__law_some_parts_r2
def w__law_some_parts : WS :=
    wSeq (wSets [2, 3] (ajCons wDict0 (ajCons (wJ (wC (.int 16))) ajNil))) w__law_some_parts_r1
set_option maxHeartbeats 1000000 in
theorem k__law_some_parts : Keeps 6 2 w__law_some_parts sp__law_some_parts := by
  rintro _ P ex0 ⟨rfl, q⟩
  refine ⟨rfl, ?_⟩
  generalize (fun (x : XD) (_ : Dl) => ex0 x) = ex
  have S60 := SS_few
  have hL := LIM_ge
  have l6 : (0 : Int) < 6 ∧ (6 : Int) < LIM := by omega
  have l2 : (0 : Int) < 2 ∧ (2 : Int) < LIM := by omega
  have l12 : (0 : Int) < 12 ∧ (12 : Int) < LIM := by omega
  simp only [w__law_some_parts]
  simp [↓r_get2, ↓r_get1, ↓r_getE, ↓r_val, ↓r_slot, ↓r_sfz, ↓r_sow, ↓r_all, ↓r_all0, ↓r_all1, ↓r_bl, ↓r_fbl, ↓r_int, ↓r_cons, ↓r_tupE, ↓r_dKE, ↓r_seqL, ↓r_seqT, ↓r_sets0, ↓r_setsF, ↓r_setsO, ↓r_nun, ↓r_nuo, ↓r_add, ↓r_addl, ↓r_addt, ↓r_addb, ↓r_sub, ↓r_subb, ↓r_mul, ↓r_div, ↓r_mod, ↓r_pow, ↓r_cmp, ↓r_i0, ↓r_neg, ↓r_eq, ↓r_ne, ↓r_i1, ↓r_i2, ↓r_max, ↓r_min, ↓r_toI, ↓r_toIb, ↓r_lenL, ↓r_lenT, ↓r_lenS, ↓r_reprI, ↓r_reprB, ↓r_ixT, ↓r_ixL, ↓r_at0, ↓r_at1, ↓r_at2, ↓r_mull, ↓r_mult, ↓r_listL, ↓r_listT, ↓r_tupL, ↓r_tupT, ↓r_dvm, ↓r_slL, ↓r_slT]
  simp only [w__law_some_parts_r1]
  simp [↓r_get2, ↓r_get1, ↓r_getE, ↓r_val, ↓r_slot, ↓r_sfz, ↓r_sow, ↓r_all, ↓r_all0, ↓r_all1, ↓r_bl, ↓r_fbl, ↓r_int, ↓r_cons, ↓r_tupE, ↓r_dKE, ↓r_seqL, ↓r_seqT, ↓r_sets0, ↓r_setsF, ↓r_setsO, ↓r_nun, ↓r_nuo, ↓r_add, ↓r_addl, ↓r_addt, ↓r_addb, ↓r_sub, ↓r_subb, ↓r_mul, ↓r_div, ↓r_mod, ↓r_pow, ↓r_cmp, ↓r_i0, ↓r_neg, ↓r_eq, ↓r_ne, ↓r_i1, ↓r_i2, ↓r_max, ↓r_min, ↓r_toI, ↓r_toIb, ↓r_lenL, ↓r_lenT, ↓r_lenS, ↓r_reprI, ↓r_reprB, ↓r_ixT, ↓r_ixL, ↓r_at0, ↓r_at1, ↓r_at2, ↓r_mull, ↓r_mult, ↓r_listL, ↓r_listT, ↓r_tupL, ↓r_tupT, ↓r_dvm, ↓r_slL, ↓r_slT, ↓e__law_grab, l6]
  intro c c0 c6
  refine ⟨by omega, for_inv moG moS (fun i δ => ∃ (f : List (Nat × Nat)) (left : Nat) (u v : DV), δ = [.fz .bag, .fz (.dK (toldD SS)), .ow (.dK (kvD f)), .fz (.int left), u, v] ∧ Pre f ∧ degP f + left = 16) ?_ ?_ ⟨[], 16, _, _, rfl, ⟨by simp, by simp⟩, rfl⟩⟩
  · rintro i d δ hi ⟨f, left, u, v, rfl, hf, hd⟩
    have hlf := Pre.len hf.1
    have hlen : (kvD f).length < 1000000 := by unfold kvD; rw [List.length_map]; omega
    simp only [wSeq, wAsg, wJ, wIte, tBlV]
    simp [↓r_get2, ↓r_get1, ↓r_getE, ↓r_val, ↓r_slot, ↓r_sfz, ↓r_sow, ↓r_all, ↓r_all0, ↓r_all1, ↓r_bl, ↓r_fbl, ↓r_int, ↓r_cons, ↓r_tupE, ↓r_dKE, ↓r_seqL, ↓r_seqT, ↓r_sets0, ↓r_setsF, ↓r_setsO, ↓r_nun, ↓r_nuo, ↓r_add, ↓r_addl, ↓r_addt, ↓r_addb, ↓r_sub, ↓r_subb, ↓r_mul, ↓r_div, ↓r_mod, ↓r_pow, ↓r_cmp, ↓r_i0, ↓r_neg, ↓r_eq, ↓r_ne, ↓r_i1, ↓r_i2, ↓r_max, ↓r_min, ↓r_toI, ↓r_toIb, ↓r_lenL, ↓r_lenT, ↓r_lenS, ↓r_reprI, ↓r_reprB, ↓r_ixT, ↓r_ixL, ↓r_at0, ↓r_at1, ↓r_at2, ↓r_mull, ↓r_mult, ↓r_listL, ↓r_listT, ↓r_tupL, ↓r_tupT, ↓r_dvm, ↓r_slL, ↓r_slT, ↓e__law_grab, l2]
    intro k k0 k2
    by_cases hk : k = 0
    · simp [hk]
      refine ⟨SS.map (fun d => ((d : Nat) : Int)), toldD_keys, by rw [List.length_map]; omega, ?_⟩
      intro ms hp hso
      have ems := perm_sorted hp hso (sorted_nat SS_sorted)
      subst ems
      rw [e__law_one_of]
      refine ⟨by rw [List.length_map, List.length_map]; exact ⟨by decide +kernel, by omega⟩, ?_⟩
      intro x hx
      rw [List.map_map] at hx
      obtain ⟨n, hn, rfl⟩ := List.mem_map.1 hx
      have hv := toldD_val hn
      simp [↓r_get2, ↓r_get1, ↓r_getE, ↓r_val, ↓r_slot, ↓r_sfz, ↓r_sow, ↓r_all, ↓r_all0, ↓r_all1, ↓r_bl, ↓r_fbl, ↓r_int, ↓r_cons, ↓r_tupE, ↓r_dKE, ↓r_seqL, ↓r_seqT, ↓r_sets0, ↓r_setsF, ↓r_setsO, ↓r_nun, ↓r_nuo, ↓r_add, ↓r_addl, ↓r_addt, ↓r_addb, ↓r_sub, ↓r_subb, ↓r_mul, ↓r_div, ↓r_mod, ↓r_pow, ↓r_cmp, ↓r_i0, ↓r_neg, ↓r_eq, ↓r_ne, ↓r_i1, ↓r_i2, ↓r_max, ↓r_min, ↓r_toI, ↓r_toIb, ↓r_lenL, ↓r_lenT, ↓r_lenS, ↓r_reprI, ↓r_reprB, ↓r_ixT, ↓r_ixL, ↓r_at0, ↓r_at1, ↓r_at2, ↓r_mull, ↓r_mult, ↓r_listL, ↓r_listT, ↓r_tupL, ↓r_tupT, ↓r_dvm, ↓r_slL, ↓r_slT, hv, hlen, getD_kvD, putD_kvD, keyD]
      obtain ⟨ha, hd2⟩ := hf.add hn
      have hP := Phi.of hn
      have q1 := hP.len
      have q2 := hP.len2
      by_cases hg : phiN n ≤ left
      · exact .inr ⟨by omega, addK f n, left - phiN n, ⟨rfl, by omega⟩, ha, by omega⟩
      · exact .inl ⟨by omega, f, left, ⟨rfl, rfl⟩, hf, hd⟩
    · simp [hk, ↓e__law_grab, l12]
      intro k' k0 k2
      obtain ⟨n', rfl⟩ := Int.eq_ofNat_of_zero_le k0
      have hn := twelve (k := n') (by omega)
      have hv := toldD_val hn
      have en : 1 + (n' : Int) = ((n' + 1 : Nat) : Int) := by omega
      rw [en]
      generalize n' + 1 = n at *
      simp [↓r_get2, ↓r_get1, ↓r_getE, ↓r_val, ↓r_slot, ↓r_sfz, ↓r_sow, ↓r_all, ↓r_all0, ↓r_all1, ↓r_bl, ↓r_fbl, ↓r_int, ↓r_cons, ↓r_tupE, ↓r_dKE, ↓r_seqL, ↓r_seqT, ↓r_sets0, ↓r_setsF, ↓r_setsO, ↓r_nun, ↓r_nuo, ↓r_add, ↓r_addl, ↓r_addt, ↓r_addb, ↓r_sub, ↓r_subb, ↓r_mul, ↓r_div, ↓r_mod, ↓r_pow, ↓r_cmp, ↓r_i0, ↓r_neg, ↓r_eq, ↓r_ne, ↓r_i1, ↓r_i2, ↓r_max, ↓r_min, ↓r_toI, ↓r_toIb, ↓r_lenL, ↓r_lenT, ↓r_lenS, ↓r_reprI, ↓r_reprB, ↓r_ixT, ↓r_ixL, ↓r_at0, ↓r_at1, ↓r_at2, ↓r_mull, ↓r_mult, ↓r_listL, ↓r_listT, ↓r_tupL, ↓r_tupT, ↓r_dvm, ↓r_slL, ↓r_slT, hv, hlen, getD_kvD, putD_kvD, keyD]
      obtain ⟨ha, hd2⟩ := hf.add hn
      have hP := Phi.of hn
      have q1 := hP.len
      have q2 := hP.len2
      by_cases hg : phiN n ≤ left
      · exact .inr ⟨by omega, addK f n, left - phiN n, ⟨rfl, by omega⟩, ha, by omega⟩
      · exact .inl ⟨by omega, f, left, ⟨rfl, rfl⟩, hf, hd⟩
  · rintro δ ⟨f, left, u, v, rfl, hf, hd⟩
    have hlf := Pre.len hf.1
    simp only [w__law_some_parts_r2]
    simp [↓r_get2, ↓r_get1, ↓r_getE, ↓r_val, ↓r_slot, ↓r_sfz, ↓r_sow, ↓r_all, ↓r_all0, ↓r_all1, ↓r_bl, ↓r_fbl, ↓r_int, ↓r_cons, ↓r_tupE, ↓r_dKE, ↓r_seqL, ↓r_seqT, ↓r_sets0, ↓r_setsF, ↓r_setsO, ↓r_nun, ↓r_nuo, ↓r_add, ↓r_addl, ↓r_addt, ↓r_addb, ↓r_sub, ↓r_subb, ↓r_mul, ↓r_div, ↓r_mod, ↓r_pow, ↓r_cmp, ↓r_i0, ↓r_neg, ↓r_eq, ↓r_ne, ↓r_i1, ↓r_i2, ↓r_max, ↓r_min, ↓r_toI, ↓r_toIb, ↓r_lenL, ↓r_lenT, ↓r_lenS, ↓r_reprI, ↓r_reprB, ↓r_ixT, ↓r_ixL, ↓r_at0, ↓r_at1, ↓r_at2, ↓r_mull, ↓r_mult, ↓r_listL, ↓r_listT, ↓r_tupL, ↓r_tupT, ↓r_dvm, ↓r_slL, ↓r_slT]
    refine ⟨f.map fun p => ((p.1 : Nat) : Int), kvD_keys, by rw [List.length_map]; omega, ?_⟩
    intro ms hp hso
    obtain ⟨ps, p1, p2, rfl⟩ := sorted_parts hf.2 hp hso
    have hP : Parts ps := ⟨fun p hp => hf.1 p (p1.subset hp), p2⟩
    have hdp := degP_perm p1
    have hll := p1.length_eq
    rw [List.map_map]
    have hm : ps.map (Dat.int ∘ fun p => ((p.1 : Nat) : Int)) = ps.map fun p => Dat.int ((p.1 : Nat) : Int) := rfl
    refine wCLoop_map (fun d => match d with
      | .int m => .tup [.int m, .int (lkp f m.toNat)]
      | _ => .non) moT moE _ (by simp; omega) ?_ ?_
    · intro d hd
      obtain ⟨p, hp, rfl⟩ := List.mem_map.1 hd
      have hpf := p1.subset hp
      have hv : valD (kvD f) (Sum.inl (p.1 : Int)) = some (.int p.2) := by rw [valD_kvD, lkp_mem hf.2 hpf]; rfl
      simp [CT.bind, ↓r_get2, ↓r_get1, ↓r_getE, ↓r_val, ↓r_slot, ↓r_sfz, ↓r_sow, ↓r_all, ↓r_all0, ↓r_all1, ↓r_bl, ↓r_fbl, ↓r_int, ↓r_cons, ↓r_tupE, ↓r_dKE, ↓r_seqL, ↓r_seqT, ↓r_sets0, ↓r_setsF, ↓r_setsO, ↓r_nun, ↓r_nuo, ↓r_add, ↓r_addl, ↓r_addt, ↓r_addb, ↓r_sub, ↓r_subb, ↓r_mul, ↓r_div, ↓r_mod, ↓r_pow, ↓r_cmp, ↓r_i0, ↓r_neg, ↓r_eq, ↓r_ne, ↓r_i1, ↓r_i2, ↓r_max, ↓r_min, ↓r_toI, ↓r_toIb, ↓r_lenL, ↓r_lenT, ↓r_lenS, ↓r_reprI, ↓r_reprB, ↓r_ixT, ↓r_ixL, ↓r_at0, ↓r_at1, ↓r_at2, ↓r_mull, ↓r_mult, ↓r_listL, ↓r_listT, ↓r_tupL, ↓r_tupT, ↓r_dvm, ↓r_slL, ↓r_slT, hv, lkp, lkp_mem hf.2 hpf]
    · refine ⟨kvD ps, ?_, ?_⟩
      · rw [List.nil_append, List.map_map]
        unfold kvD
        rw [List.map_map]
        refine List.map_congr_left fun p hp => ?_
        simp [itemDat, lkp, lkp_mem hf.2 (p1.subset hp)]
      · have := merge_kvD (a := []) (b := ps) (by simpa using p2.nodup)
        rw [show mergeD [] (kvD ps) = kvD ps from this]
        exact q ps ⟨hP, by omega⟩
theorem l1_append {a b : List Int} : l1 (a ++ b) = l1 a + l1 b := by
  induction a with
  | nil => simp [l1]
  | cons x a ih => simp [l1] at ih ⊢; omega
theorem l1_set {l : List Int} : ∀ {k : Nat} {x : Int}, k < l.length → l1 (l.set k (co l k + x)) ≤ l1 l + x.natAbs := by
  induction l with
  | nil => intro k x h; simp at h
  | cons y l ih =>
    intro k x h
    cases k with
    | zero => simp [l1, co]; omega
    | succ k => have := ih (k := k) (x := x) (by simpa using h); simp [l1, co] at this ⊢; omega
def sp__law_spoilt : DSp := fun ds P _ => ∃ (l : List Int), ds = [.bag, lD l] ∧ (l ≠ [] ∧ l.length ≤ 1000) ∧ ∀ (r : List Int), Can r ∧ r.length ≤ l.length ∧ l1 r ≤ l1 l + 2 → P (lD r)
instance : ISp sp__law_spoilt := ⟨fun _ _ _ _ hM ⟨l, e, c, q⟩ => ⟨l, e, c, fun r hk => hM _ (q r hk)⟩⟩
theorem e__law_spoilt {l : List Int} {P : Dat → Prop} {ex : XP} : sp__law_spoilt [.bag, lD l] P ex ↔ (l ≠ [] ∧ l.length ≤ 1000) ∧ ∀ (r : List Int), Can r ∧ r.length ≤ l.length ∧ l1 r ≤ l1 l + 2 → P (lD r) := ⟨fun ⟨_, e, hE⟩ => by (simp [rat_inj, ints_inj, Int.natCast_inj, kvD_inj] at e); (obtain rfl := e); exact hE, fun hE => ⟨_, rfl, hE⟩⟩
/-- 0 _law_bag_here 1 _law_line 2 _law_found 3 _law_at -/
def w__law_spoilt_r3 : WS :=
    (wRet (wE (wCB gTuple (aoCons (oSlot 2) aoNil))))
def w__law_spoilt_r2 : WS :=
    wSeq (wWhile (tAnd (tBlV (wOp2 gGt (oVal (wE (wCB gLen (aoCons (oSlot 2) aoNil)))) (oVal (wC (.int 1))))) (tBlV (wOp2 gEq (oVal (wE (wOp2 gIx (oSlot 2) (oVal (wE (wOp1 gNeg (oVal (wC (.int 1))))))))) (oVal (wC (.int 0)))))) (wExpr (wPop 2))) w__law_spoilt_r3
def w__law_spoilt_r1 : WS :=
    wSeq (wAsgG (wE (wOp2 gAdd (oVal (wE (wOp2 gIx (oSlot 2) (oSlot 3)))) (oVal (wCall sp__law_one_of (aCons (wVar 0) (aCons (wE (wLst (aCons (wC (.int 1)) (aCons (wE (wOp1 gNeg (oVal (wC (.int 1))))) (aCons (wC (.int 2)) aNil))))) aNil)))))) (wgSub 2 (oSlot 3))) w__law_spoilt_r2
def w__law_spoilt : WS :=
    wSeq (wSets [2, 3] (ajCons (wCB gList (aoCons (oSlot 1) aoNil)) (ajCons (wJ (wCall sp__law_grab (aCons (wVar 0) (aCons (wE (wCB gLen (aoCons (oSlot 1) aoNil))) aNil)))) ajNil))) w__law_spoilt_r1
theorem k__law_spoilt : Keeps 4 2 w__law_spoilt sp__law_spoilt := by
  rintro _ P ex0 ⟨l, rfl, hc, q⟩
  refine ⟨rfl, ?_⟩
  generalize (fun (x : XD) (_ : Dl) => ex0 x) = ex
  obtain ⟨l0, ll⟩ := hc
  have hp := List.length_pos_iff.2 l0
  have hL := LIM_ge
  have g1 : (0 : Int) < (l.length : Int) ∧ (l.length : Int) < LIM := by omega
  have rest : ∀ (r : List Int) (u : DV), r ≠ [] → r.length ≤ l.length → l1 r ≤ l1 l + 2 → w__law_spoilt_r2 ex { nx := fun x => P Dat.non, rt := P } [.fz .bag, .fz (lD l), .ow (.lst (r.map Dat.int)), u] := by
    intro r u h1 h2 h3
    simp only [w__law_spoilt_r2]
    refine while_inv moT moS (fun δ => ∃ r : List Int, δ = [.fz .bag, .fz (lD l), .ow (.lst (r.map Dat.int)), u] ∧ r ≠ [] ∧ r.length ≤ l.length ∧ l1 r ≤ l1 l + 2) (fun δ => slL δ 2) ?_ ⟨r, rfl, h1, h2, h3⟩
    rintro δ ⟨r, rfl, h1, h2, h3⟩
    have fin : Can r → w__law_spoilt_r3 ex { nx := fun x => P Dat.non, rt := P } [.fz .bag, .fz (lD l), .ow (.lst (r.map Dat.int)), u] := by
      intro hc
      simp only [w__law_spoilt_r3]
      simp [↓r_get2, ↓r_get1, ↓r_getE, ↓r_val, ↓r_slot, ↓r_sfz, ↓r_sow, ↓r_all, ↓r_all0, ↓r_all1, ↓r_bl, ↓r_fbl, ↓r_int, ↓r_cons, ↓r_tupE, ↓r_dKE, ↓r_seqL, ↓r_seqT, ↓r_sets0, ↓r_setsF, ↓r_setsO, ↓r_nun, ↓r_nuo, ↓r_add, ↓r_addl, ↓r_addt, ↓r_addb, ↓r_sub, ↓r_subb, ↓r_mul, ↓r_div, ↓r_mod, ↓r_pow, ↓r_cmp, ↓r_i0, ↓r_neg, ↓r_eq, ↓r_ne, ↓r_i1, ↓r_i2, ↓r_max, ↓r_min, ↓r_toI, ↓r_toIb, ↓r_lenL, ↓r_lenT, ↓r_lenS, ↓r_reprI, ↓r_reprB, ↓r_ixT, ↓r_ixL, ↓r_at0, ↓r_at1, ↓r_at2, ↓r_mull, ↓r_mult, ↓r_listL, ↓r_listT, ↓r_tupL, ↓r_tupT, ↓r_dvm, ↓r_slL, ↓r_slT]
      exact q r ⟨hc, h2, h3⟩
    have hrp := List.length_pos_iff.2 h1
    by_cases h4 : 1 < r.length
    · have h5 : (1 : Int) < (r.length : Int) := by omega
      simp [↓r_get2, ↓r_get1, ↓r_getE, ↓r_val, ↓r_slot, ↓r_sfz, ↓r_sow, ↓r_all, ↓r_all0, ↓r_all1, ↓r_bl, ↓r_fbl, ↓r_int, ↓r_cons, ↓r_tupE, ↓r_dKE, ↓r_seqL, ↓r_seqT, ↓r_sets0, ↓r_setsF, ↓r_setsO, ↓r_nun, ↓r_nuo, ↓r_add, ↓r_addl, ↓r_addt, ↓r_addb, ↓r_sub, ↓r_subb, ↓r_mul, ↓r_div, ↓r_mod, ↓r_pow, ↓r_cmp, ↓r_i0, ↓r_neg, ↓r_eq, ↓r_ne, ↓r_i1, ↓r_i2, ↓r_max, ↓r_min, ↓r_toI, ↓r_toIb, ↓r_lenL, ↓r_lenT, ↓r_lenS, ↓r_reprI, ↓r_reprB, ↓r_ixT, ↓r_ixL, ↓r_at0, ↓r_at1, ↓r_at2, ↓r_mull, ↓r_mult, ↓r_listL, ↓r_listT, ↓r_tupL, ↓r_tupT, ↓r_dvm, ↓r_slL, ↓r_slT, h5, at_last h1, h4]
      by_cases h6 : led r = 0
      · obtain ⟨r', x, rfl⟩ : ∃ r' x, r = r' ++ [x] := by
          rcases snoc_cases r with rfl | z
          · exact absurd rfl h1
          · exact z
        have h7 : r' ≠ [] := by rintro rfl; simp at h4
        rw [l1_append] at h3
        rw [List.length_append] at h2
        simp [h6]
        exact ⟨⟨r', rfl, h7, by omega, by omega⟩, by simp [slL]⟩
      · simp [h6]
        exact fin (Can.of h1 (.inr h6))
    · have h5 : ¬ (1 : Int) < (r.length : Int) := by omega
      simp [↓r_get2, ↓r_get1, ↓r_getE, ↓r_val, ↓r_slot, ↓r_sfz, ↓r_sow, ↓r_all, ↓r_all0, ↓r_all1, ↓r_bl, ↓r_fbl, ↓r_int, ↓r_cons, ↓r_tupE, ↓r_dKE, ↓r_seqL, ↓r_seqT, ↓r_sets0, ↓r_setsF, ↓r_setsO, ↓r_nun, ↓r_nuo, ↓r_add, ↓r_addl, ↓r_addt, ↓r_addb, ↓r_sub, ↓r_subb, ↓r_mul, ↓r_div, ↓r_mod, ↓r_pow, ↓r_cmp, ↓r_i0, ↓r_neg, ↓r_eq, ↓r_ne, ↓r_i1, ↓r_i2, ↓r_max, ↓r_min, ↓r_toI, ↓r_toIb, ↓r_lenL, ↓r_lenT, ↓r_lenS, ↓r_reprI, ↓r_reprB, ↓r_ixT, ↓r_ixL, ↓r_at0, ↓r_at1, ↓r_at2, ↓r_mull, ↓r_mult, ↓r_listL, ↓r_listT, ↓r_tupL, ↓r_tupT, ↓r_dvm, ↓r_slL, ↓r_slT]
      exact .inl ⟨by omega, fin (Can.of h1 (.inl (by omega)))⟩
  have go : ∀ (n : Nat) (x : Int), n < l.length → x.natAbs ≤ 2 → ∃ j, ixN l.length (n : Int) = some j ∧ w__law_spoilt_r2 ex { nx := fun x => P Dat.non, rt := P } [.fz .bag, .fz (lD l), .ow (.lst ((l.map Dat.int).set j (.int (co l n + x)))), .fz (.int (n : Int))] := by
    intro n x hn hx
    refine ⟨n, ixN_nat hn, ?_⟩
    rw [← List.map_set]
    have := l1_set (l := l) (k := n) (x := x) hn
    refine rest _ _ (by rw [← List.length_pos_iff, List.length_set]; exact hp) (by rw [List.length_set]; exact Nat.le_refl _) (by omega)
  simp only [w__law_spoilt]
  simp [↓r_get2, ↓r_get1, ↓r_getE, ↓r_val, ↓r_slot, ↓r_sfz, ↓r_sow, ↓r_all, ↓r_all0, ↓r_all1, ↓r_bl, ↓r_fbl, ↓r_int, ↓r_cons, ↓r_tupE, ↓r_dKE, ↓r_seqL, ↓r_seqT, ↓r_sets0, ↓r_setsF, ↓r_setsO, ↓r_nun, ↓r_nuo, ↓r_add, ↓r_addl, ↓r_addt, ↓r_addb, ↓r_sub, ↓r_subb, ↓r_mul, ↓r_div, ↓r_mod, ↓r_pow, ↓r_cmp, ↓r_i0, ↓r_neg, ↓r_eq, ↓r_ne, ↓r_i1, ↓r_i2, ↓r_max, ↓r_min, ↓r_toI, ↓r_toIb, ↓r_lenL, ↓r_lenT, ↓r_lenS, ↓r_reprI, ↓r_reprB, ↓r_ixT, ↓r_ixL, ↓r_at0, ↓r_at1, ↓r_at2, ↓r_mull, ↓r_mult, ↓r_listL, ↓r_listT, ↓r_tupL, ↓r_tupT, ↓r_dvm, ↓r_slL, ↓r_slT, ↓e__law_grab, g1]
  refine ⟨hp, fun k k0 kl => ?_⟩
  obtain ⟨n, rfl⟩ := Int.eq_ofNat_of_zero_le k0
  have hn : n < l.length := by omega
  simp only [w__law_spoilt_r1]
  simp [↓r_get2, ↓r_get1, ↓r_getE, ↓r_val, ↓r_slot, ↓r_sfz, ↓r_sow, ↓r_all, ↓r_all0, ↓r_all1, ↓r_bl, ↓r_fbl, ↓r_int, ↓r_cons, ↓r_tupE, ↓r_dKE, ↓r_seqL, ↓r_seqT, ↓r_sets0, ↓r_setsF, ↓r_setsO, ↓r_nun, ↓r_nuo, ↓r_add, ↓r_addl, ↓r_addt, ↓r_addb, ↓r_sub, ↓r_subb, ↓r_mul, ↓r_div, ↓r_mod, ↓r_pow, ↓r_cmp, ↓r_i0, ↓r_neg, ↓r_eq, ↓r_ne, ↓r_i1, ↓r_i2, ↓r_max, ↓r_min, ↓r_toI, ↓r_toIb, ↓r_lenL, ↓r_lenT, ↓r_lenS, ↓r_reprI, ↓r_reprB, ↓r_ixT, ↓r_ixL, ↓r_at0, ↓r_at1, ↓r_at2, ↓r_mull, ↓r_mult, ↓r_listL, ↓r_listT, ↓r_tupL, ↓r_tupT, ↓r_dvm, ↓r_slL, ↓r_slT, ↓e__law_one_of, at_co hn]
  exact ⟨go n 1 hn (by decide), go n (-1) hn (by decide), go n 2 hn (by decide)⟩
/-! ### the law -/
theorem parts_prod {ps : List (Nat × Nat)} (h : Parts ps) : partsOf (prodL ps) = some ps := by
  have hS : ∀ p ∈ ps, p.1 ∈ SS := fun p hp => (h.1 p hp).1
  obtain ⟨i1, i2, i3, i4⟩ := prodL_props hS
  have h0 : prodL ps ≠ [0] := by intro z; rw [z] at i2; exact i2 rfl
  have hco := (fold_stp_props (ns := SS) (s := ([], prodL ps)) (fun _ h => h) i1 h0).2.2
  have hg := grd_prod h
  have hgd : SS.foldl stp ([], prodL ps) = grd (prodL ps) := rfl
  rw [hgd, hg] at hco
  unfold partsOf
  rw [hg, if_pos ⟨hco.symm, rfl⟩]
theorem ne_kvD {ps : List (Nat × Nat)} (h : Asc ps) : DNe (.dK (kvD ps)) (.dK (kvD ps)) := by
  refine .dK (fun k => (valD (kvD ps) k).getD .non) rfl fun j k v hj => ?_
  unfold kvD at hj
  rw [List.getElem?_map] at hj
  obtain ⟨p, hp, e⟩ := Option.map_eq_some_iff.1 hj
  obtain ⟨rfl, rfl⟩ := Prod.mk.inj e
  have hv := kvD_val (n := p.1) (e := p.2) (List.mem_of_getElem? hp) h
  rw [hv]
  simp
theorem ne_partsD {l : List Int} (h1 : Can l) (h2 : l.length ≤ 20) : DNe (partsD l) (partsD l) := by
  by_cases h0 : l = [0]
  · subst h0; exact .leaf (by decide) (by decide) (by decide)
  · unfold partsD partsOf
    have hA := (gst_props h1 h0 h2 150 (Nat.le_refl _)).2.2.2.1
    rw [gst_last h1 h0 h2] at hA
    generalize grd l = G at hA ⊢
    by_cases h : (co l 0).natAbs = 1 ∧ G.2 = [1]
    · rw [if_pos h]; exact ne_kvD hA
    · rw [if_neg h]; exact .leaf (by decide) (by decide) (by decide)
theorem l1_neg {l : List Int} : l1 (l.map fun c => 0 - c) = l1 l := by
  induction l with
  | nil => rfl
  | cons x l ih => simp [l1] at ih ⊢; omega
theorem l1_reverse {l : List Int} : l1 l.reverse = l1 l := by
  induction l with
  | nil => rfl
  | cons x l ih => rw [List.reverse_cons, l1_append, ih]; simp [l1]; omega
theorem lineMul_ne {a b : List Int} (h : a ≠ []) (h2 : b ≠ []) (h3 : led a ≠ 0) (h4 : led b ≠ 0) : lineMul a b ≠ [] := by
  rw [(lineMul_eq h h2 h3 h4).1]; exact pmul_ne h h2
def mores : List (List Int) := [[1, 1, 0, 1], [2], [1, 3], [-1], [1, -1], [2, 0, 1], [0, 1], [1, 2, 1]]
theorem mores_chk : (mores.all fun b => decide (b ≠ []) && decide (b.length ≤ 4) && decide (l1 b ≤ 4) && decide (led b ≠ 0)) = true := by decide
theorem poly_near {l : List Int} (h : Can l) (h2 : l.length ≤ 20) (h3 : l1 l ≤ 10 ^ 10) : Poly l := ⟨h, by omega, LB.l1 (Nat.le_trans h3 (by decide +kernel))⟩
def sp__law_right : DSp := fun ds P _ => ds = [.bag, .dK (toldD SS)] ∧ P (.bl true)
instance : ISp sp__law_right := ⟨fun _ _ _ _ hM ⟨e, q⟩ => ⟨e, hM _ q⟩⟩
theorem e__law_right  {P : Dat → Prop} {ex : XP} : sp__law_right [.bag, .dK (toldD SS)] P ex ↔ P (.bl true) := by simp [sp__law_right]
/-- 0 _law_bag_here 1 _law_told 2 _law_parts 3 _law_line 4 _law_here 5 _law_more 6 _law_some 7 _law_near 8 _law_number -/
def w__law_right_r7 : WS :=
    (wRet (wE (wOp2 gIsN (oVal (wCall sp_cyclotomic_parts (aCons (wTup (aCons (wC (.int 0)) aNil)) aNil))) (oVal (wC .non)))))
def w__law_right_r6 : WS :=
    wSeq (wFor (iSeq (wVar 6)) (wgN 7) (wIf (tAnd (tBlV (wOp2 gLe (oVal (wE (wCB gLen (aoCons (oSlot 7) aoNil)))) (oVal (wC (.int 20))))) (tAnd (tBlV (wOp2 gNe (oVal (wE (wOp2 gIx (oSlot 7) (oVal (wE (wOp1 gNeg (oVal (wC (.int 1))))))))) (oVal (wC (.int 0))))) (tBlV (wOp2 gNeK (oVal (wCall sp_cyclotomic_parts (aCons (wVar 7) aNil))) (oVal (wCall sp__law_due (aCons (wVar 7) (aCons (wVar 1) aNil)))))))) (wRet (wC (.bl false))) wNext)) w__law_right_r7
def w__law_right_r5 : WS :=
    wSeq (wAsg 6 (wLst (aCons (wCall sp__law_spoilt (aCons (wVar 0) (aCons (wVar 3) aNil))) (aCons (wCall sp__law_line_times (aCons (wVar 3) (aCons (wVar 5) aNil))) (aCons (wE (wCB gTuple (aoCons (oVal (wE (wComp (iSeq (wVar 3)) (.one 8) [8] tYesD (wE (wOp2 gSubA (oVal (wC (.int 0))) (oSlot 8)))))) aoNil))) (aCons (wTup (aCons (wC (.int 0)) aNil)) (aCons (wE (wRevS (oSlot 3))) aNil))))))) w__law_right_r6
def w__law_right_r4 : WS :=
    wSeq (wAsg 5 (wJ (wCall sp__law_one_of (aCons (wVar 0) (aCons (wE (wLst (aCons (wTup (aCons (wC (.int 1)) (aCons (wC (.int 1)) (aCons (wC (.int 0)) (aCons (wC (.int 1)) aNil))))) (aCons (wTup (aCons (wC (.int 2)) aNil)) (aCons (wTup (aCons (wC (.int 1)) (aCons (wC (.int 3)) aNil))) (aCons (wTup (aCons (wE (wOp1 gNeg (oVal (wC (.int 1))))) aNil)) (aCons (wTup (aCons (wC (.int 1)) (aCons (wE (wOp1 gNeg (oVal (wC (.int 1))))) aNil))) (aCons (wTup (aCons (wC (.int 2)) (aCons (wC (.int 0)) (aCons (wC (.int 1)) aNil)))) (aCons (wTup (aCons (wC (.int 0)) (aCons (wC (.int 1)) aNil))) (aCons (wTup (aCons (wC (.int 1)) (aCons (wC (.int 2)) (aCons (wC (.int 1)) aNil)))) aNil)))))))))) aNil))))) w__law_right_r5
def w__law_right_r3 : WS :=
    wSeq (wIf (tOr (tBlV (wOp2 gNeK (oSlot 4) (oSlot 2))) (tBlV (wOp2 gNe (oVal (wE (wCB gList (aoCons (oSlot 4) aoNil)))) (oVal (wE (wCB gList (aoCons (oSlot 2) aoNil))))))) (wRet (wC (.bl false))) wNext) w__law_right_r4
def w__law_right_r2 : WS :=
    wSeq (wAsg 4 (wJ (wCall sp_cyclotomic_parts (aCons (wVar 3) aNil)))) w__law_right_r3
def w__law_right_r1 : WS :=
    wSeq (wAsg 3 (wJ (wCall sp__law_made (aCons (wVar 2) (aCons (wVar 1) aNil))))) w__law_right_r2
def w__law_right : WS :=
    wSeq (wAsg 2 (wJ (wCall sp__law_some_parts (aCons (wVar 0) (aCons (wVar 1) aNil))))) w__law_right_r1
/-! the drawn one -/
def cI : Int → WE
  | .ofNat n => wC (.int (n : Int))
  | .negSucc n => wE (wOp1 gNeg (oVal (wC (.int ((n + 1 : Nat) : Int)))))
def cIs : List Int → WA
  | [] => aNil
  | i :: l => aCons (cI i) (cIs l)
def cTs : List (List Int) → WA
  | [] => aNil
  | b :: l => aCons (wTup (cIs b)) (cTs l)
theorem cI_iff {i : Int} {ex : XW} {δ : Dl} {Q : Dat → Dl → Prop} (q : Q (.int i) δ) : cI i ex δ Q := by
  cases i with
  | ofNat n => exact q
  | negSucc n =>
    unfold cI
    simp
    exact q
theorem cIs_iff : ∀ {l : List Int} {ex : XW} {δ : Dl} {Q : List Dat → Dl → Prop}, Q (l.map Dat.int) δ → cIs l ex δ Q
  | [], _, _, _, q => q
  | i :: l, ex, δ, Q, q => by
    unfold cIs
    exact cI_iff (cIs_iff q)
theorem cTs_iff : ∀ {l : List (List Int)} {ex : XW} {δ : Dl} {Q : List Dat → Dl → Prop}, (∀ b ∈ l, b.length ≤ 1000000) → Q (l.map lD) δ → cTs l ex δ Q
  | [], _, _, _, _, q => q
  | b :: l, ex, δ, Q, h, q => by
    unfold cTs
    refine cIs_iff ⟨?_, cTs_iff (fun x hx => h x (List.mem_cons_of_mem _ hx)) q⟩
    rw [List.length_map]; exact h b (List.mem_cons_self ..)
theorem right_r4_eq : w__law_right_r4 = wSeq (wAsg 5 (wJ (wCall sp__law_one_of (aCons (wVar 0) (aCons (wE (wLst (cTs mores))) aNil))))) w__law_right_r5 := rfl
theorem one_of_gen {w : WA} {L : List Dat} {r : WS} {ex : XW} {k} {a1 a2 a3 a4 : DV} (hw : ∀ {ex δ} {Q : List Dat → Dl → Prop}, Q L δ → w ex δ Q) (hl : L.length ≤ 1000000) (h0 : 0 < L.length ∧ L.length < 1000000)
    (h : ∀ b ∈ L, r ex k [.fz .bag, a1, a2, a3, a4, .fz b, .un, .un, .un]) : wSeq (wAsg 5 (wJ (wCall sp__law_one_of (aCons (wVar 0) (aCons (wE (wLst w)) aNil))))) r ex k [.fz .bag, a1, a2, a3, a4, .un, .un, .un, .un] := by
  simp only [wSeq, wAsg, wJ, wCall, aCons, wVar, wE, wLst, aNil, List.getElem?_cons_zero]
  refine hw ⟨hl, (e__law_one_of (xs := L)).2 ⟨h0, fun y hy => ?_⟩⟩
  exact ⟨by simp, h y hy⟩
theorem right_r4 {ex : XW} {k} {a1 a2 a3 a4 : DV} (h : ∀ b ∈ mores, w__law_right_r5 ex k [.fz .bag, a1, a2, a3, a4, .fz (lD b), .un, .un, .un]) : w__law_right_r4 ex k [.fz .bag, a1, a2, a3, a4, .un, .un, .un, .un] := by
  rw [right_r4_eq]
  refine one_of_gen (L := mores.map lD) (cTs_iff (by decide)) (by rw [List.length_map]; decide) (by rw [List.length_map]; decide) fun y hy => ?_
  obtain ⟨b, hb, rfl⟩ := List.mem_map.1 hy
  exact h b hb
set_option maxHeartbeats 1000000 in
theorem k__law_right : Keeps 9 2 w__law_right sp__law_right := by
  rintro _ P ex0 ⟨rfl, q⟩
  refine ⟨rfl, ?_⟩
  generalize (fun (x : XD) (_ : Dl) => ex0 x) = ex
  simp only [w__law_right]
  simp [↓r_get2, ↓r_get1, ↓r_getE, ↓r_val, ↓r_slot, ↓r_sfz, ↓r_sow, ↓r_all, ↓r_all0, ↓r_all1, ↓r_bl, ↓r_fbl, ↓r_int, ↓r_cons, ↓r_tupE, ↓r_dKE, ↓r_seqL, ↓r_seqT, ↓r_sets0, ↓r_setsF, ↓r_setsO, ↓r_nun, ↓r_nuo, ↓r_add, ↓r_addl, ↓r_addt, ↓r_addb, ↓r_sub, ↓r_subb, ↓r_mul, ↓r_div, ↓r_mod, ↓r_pow, ↓r_cmp, ↓r_i0, ↓r_neg, ↓r_eq, ↓r_ne, ↓r_i1, ↓r_i2, ↓r_max, ↓r_min, ↓r_toI, ↓r_toIb, ↓r_lenL, ↓r_lenT, ↓r_lenS, ↓r_reprI, ↓r_reprB, ↓r_ixT, ↓r_ixL, ↓r_at0, ↓r_at1, ↓r_at2, ↓r_mull, ↓r_mult, ↓r_listL, ↓r_listT, ↓r_tupL, ↓r_tupT, ↓r_dvm, ↓r_slL, ↓r_slT, ↓e__law_some_parts]
  intro ps hP hd
  have hS : ∀ p ∈ ps, p.1 ∈ SS := fun p hp => (hP.1 p hp).1
  obtain ⟨i1, i2, i3, i4⟩ := prodL_props hS
  simp only [w__law_right_r1]
  simp [↓r_get2, ↓r_get1, ↓r_getE, ↓r_val, ↓r_slot, ↓r_sfz, ↓r_sow, ↓r_all, ↓r_all0, ↓r_all1, ↓r_bl, ↓r_fbl, ↓r_int, ↓r_cons, ↓r_tupE, ↓r_dKE, ↓r_seqL, ↓r_seqT, ↓r_sets0, ↓r_setsF, ↓r_setsO, ↓r_nun, ↓r_nuo, ↓r_add, ↓r_addl, ↓r_addt, ↓r_addb, ↓r_sub, ↓r_subb, ↓r_mul, ↓r_div, ↓r_mod, ↓r_pow, ↓r_cmp, ↓r_i0, ↓r_neg, ↓r_eq, ↓r_ne, ↓r_i1, ↓r_i2, ↓r_max, ↓r_min, ↓r_toI, ↓r_toIb, ↓r_lenL, ↓r_lenT, ↓r_lenS, ↓r_reprI, ↓r_reprB, ↓r_ixT, ↓r_ixL, ↓r_at0, ↓r_at1, ↓r_at2, ↓r_mull, ↓r_mult, ↓r_listL, ↓r_listT, ↓r_tupL, ↓r_tupT, ↓r_dvm, ↓r_slL, ↓r_slT, ↓e__law_made, hP, hd]
  simp only [w__law_right_r2]
  have hlen : (prodL ps).length ≤ 20 := by omega
  have hl1 : l1 (prodL ps) ≤ 2 ^ 16 := Nat.le_trans i4 (Nat.pow_le_pow_right (by decide) hd)
  have hpol : Poly (prodL ps) := poly_near i1 hlen (by omega)
  have hpd : partsD (prodL ps) = .dK (kvD ps) := by unfold partsD; rw [parts_prod hP]
  simp [↓r_get2, ↓r_get1, ↓r_getE, ↓r_val, ↓r_slot, ↓r_sfz, ↓r_sow, ↓r_all, ↓r_all0, ↓r_all1, ↓r_bl, ↓r_fbl, ↓r_int, ↓r_cons, ↓r_tupE, ↓r_dKE, ↓r_seqL, ↓r_seqT, ↓r_sets0, ↓r_setsF, ↓r_setsO, ↓r_nun, ↓r_nuo, ↓r_add, ↓r_addl, ↓r_addt, ↓r_addb, ↓r_sub, ↓r_subb, ↓r_mul, ↓r_div, ↓r_mod, ↓r_pow, ↓r_cmp, ↓r_i0, ↓r_neg, ↓r_eq, ↓r_ne, ↓r_i1, ↓r_i2, ↓r_max, ↓r_min, ↓r_toI, ↓r_toIb, ↓r_lenL, ↓r_lenT, ↓r_lenS, ↓r_reprI, ↓r_reprB, ↓r_ixT, ↓r_ixL, ↓r_at0, ↓r_at1, ↓r_at2, ↓r_mull, ↓r_mult, ↓r_listL, ↓r_listT, ↓r_tupL, ↓r_tupT, ↓r_dvm, ↓r_slL, ↓r_slT, ↓e_cyclotomic_parts, hpol, hlen, hpd]
  simp only [w__law_right_r3]
  simp [↓r_get2, ↓r_get1, ↓r_getE, ↓r_val, ↓r_slot, ↓r_sfz, ↓r_sow, ↓r_all, ↓r_all0, ↓r_all1, ↓r_bl, ↓r_fbl, ↓r_int, ↓r_cons, ↓r_tupE, ↓r_dKE, ↓r_seqL, ↓r_seqT, ↓r_sets0, ↓r_setsF, ↓r_setsO, ↓r_nun, ↓r_nuo, ↓r_add, ↓r_addl, ↓r_addt, ↓r_addb, ↓r_sub, ↓r_subb, ↓r_mul, ↓r_div, ↓r_mod, ↓r_pow, ↓r_cmp, ↓r_i0, ↓r_neg, ↓r_eq, ↓r_ne, ↓r_i1, ↓r_i2, ↓r_max, ↓r_min, ↓r_toI, ↓r_toIb, ↓r_lenL, ↓r_lenT, ↓r_lenS, ↓r_reprI, ↓r_reprB, ↓r_ixT, ↓r_ixL, ↓r_at0, ↓r_at1, ↓r_at2, ↓r_mull, ↓r_mult, ↓r_listL, ↓r_listT, ↓r_tupL, ↓r_tupT, ↓r_dvm, ↓r_slL, ↓r_slT, ne_kvD hP.2]
  refine ⟨fun a b _ => by cases a <;> simp, ?_⟩
  have hk : (kvD ps).map (fun p => keyDat p.1) = (ps.map fun p => ((p.1 : Nat) : Int)).map Dat.int := by unfold kvD; simp
  rw [hk, eqvDs_ints, decide_eq_true rfl, if_pos rfl]
  refine right_r4 fun b hb => ?_
  have hbc := List.all_eq_true.1 mores_chk b hb
  simp only [Bool.and_eq_true, decide_eq_true_eq] at hbc
  obtain ⟨⟨⟨b0, bl⟩, b1⟩, bd⟩ := hbc
  have l0 := i1.1
  have ll : (prodL ps).length ≤ 1000 := by omega
  have e2 : ∀ {P ex}, sp__law_line_times [lD (prodL ps), lD b] P ex ↔ P (lD (lineMul (prodL ps) b)) := by
    intro P ex
    rw [e__law_line_times]
    exact ⟨fun x => x.2, fun x => ⟨⟨l0, b0, ll, by omega, LB.l1 (Nat.le_trans hl1 (by decide))⟩, x⟩⟩
  have hmul : l1 (lineMul (prodL ps) b) ≤ 2 ^ 16 * 4 := Nat.le_trans l1_mul (Nat.mul_le_mul hl1 b1)
  have hmul0 : lineMul (prodL ps) b ≠ [] := lineMul_ne l0 b0 i2 bd
  generalize lineMul (prodL ps) b = M at *
  generalize prodL ps = l at *
  simp only [w__law_right_r5]
  simp [↓r_get2, ↓r_get1, ↓r_getE, ↓r_val, ↓r_slot, ↓r_sfz, ↓r_sow, ↓r_all, ↓r_all0, ↓r_all1, ↓r_bl, ↓r_fbl, ↓r_int, ↓r_cons, ↓r_tupE, ↓r_dKE, ↓r_seqL, ↓r_seqT, ↓r_sets0, ↓r_setsF, ↓r_setsO, ↓r_nun, ↓r_nuo, ↓r_add, ↓r_addl, ↓r_addt, ↓r_addb, ↓r_sub, ↓r_subb, ↓r_mul, ↓r_div, ↓r_mod, ↓r_pow, ↓r_cmp, ↓r_i0, ↓r_neg, ↓r_eq, ↓r_ne, ↓r_i1, ↓r_i2, ↓r_max, ↓r_min, ↓r_toI, ↓r_toIb, ↓r_lenL, ↓r_lenT, ↓r_lenS, ↓r_reprI, ↓r_reprB, ↓r_ixT, ↓r_ixL, ↓r_at0, ↓r_at1, ↓r_at2, ↓r_mull, ↓r_mult, ↓r_listL, ↓r_listT, ↓r_tupL, ↓r_tupT, ↓r_dvm, ↓r_slL, ↓r_slT, ↓e__law_spoilt, l0, ll, ↓e2]
  intro r hr hrl hrn
  refine wCLoop_map (fun d => match d with | .int c => .int (0 - c) | d => d) moT moE _ (by simp; omega) ?_ ?_
  · intro d hd
    obtain ⟨c, hc, rfl⟩ := List.mem_map.1 hd
    simp [CT.bind]
  have en : (([] : List Dat) ++ (l.map Dat.int).map fun d => match d with | .int c => .int (0 - c) | d => d) = (l.map fun c => 0 - c).map Dat.int := by simp
  rw [en]
  have hne : (l.map fun c => 0 - c) ≠ [] := by simpa using l0
  have hre : l.reverse ≠ [] := by simpa using l0
  have hn1 : l1 (l.map fun c => 0 - c) ≤ 10 ^ 10 := by rw [l1_neg]; omega
  have hr1 : l1 l.reverse ≤ 10 ^ 10 := by rw [l1_reverse]; omega
  have some_ok : ∀ s ∈ [r, M, l.map fun c => 0 - c, [0], l.reverse], s ≠ [] ∧ l1 s ≤ 10 ^ 10 := by
    intro s hs
    simp only [List.mem_cons, List.not_mem_nil, or_false] at hs
    rcases hs with rfl | rfl | rfl | rfl | rfl
    · exact ⟨hr.1, by omega⟩
    · exact ⟨hmul0, by omega⟩
    · exact ⟨hne, hn1⟩
    · exact ⟨by simp, by decide⟩
    · exact ⟨hre, hr1⟩
  have es : ([lD r, lD M, .tup (List.map (Dat.int ∘ fun c => -c) l), .tup [.int 0], .tup (l.map Dat.int).reverse] : List Dat) = [r, M, l.map fun c => 0 - c, [0], l.reverse].map lD := by simp
  simp [↓r_get2, ↓r_get1, ↓r_getE, ↓r_val, ↓r_slot, ↓r_sfz, ↓r_sow, ↓r_all, ↓r_all0, ↓r_all1, ↓r_bl, ↓r_fbl, ↓r_int, ↓r_cons, ↓r_tupE, ↓r_dKE, ↓r_seqL, ↓r_seqT, ↓r_sets0, ↓r_setsF, ↓r_setsO, ↓r_nun, ↓r_nuo, ↓r_add, ↓r_addl, ↓r_addt, ↓r_addb, ↓r_sub, ↓r_subb, ↓r_mul, ↓r_div, ↓r_mod, ↓r_pow, ↓r_cmp, ↓r_i0, ↓r_neg, ↓r_eq, ↓r_ne, ↓r_i1, ↓r_i2, ↓r_max, ↓r_min, ↓r_toI, ↓r_toIb, ↓r_lenL, ↓r_lenT, ↓r_lenS, ↓r_reprI, ↓r_reprB, ↓r_ixT, ↓r_ixL, ↓r_at0, ↓r_at1, ↓r_at2, ↓r_mull, ↓r_mult, ↓r_listL, ↓r_listT, ↓r_tupL, ↓r_tupT, ↓r_dvm, ↓r_slL, ↓r_slT]
  rw [es]
  generalize [r, M, l.map fun c => 0 - c, [0], l.reverse] = L at some_ok es
  clear es en
  simp only [w__law_right_r6]
  simp [↓r_get2, ↓r_get1, ↓r_getE, ↓r_val, ↓r_slot, ↓r_sfz, ↓r_sow, ↓r_all, ↓r_all0, ↓r_all1, ↓r_bl, ↓r_fbl, ↓r_int, ↓r_cons, ↓r_tupE, ↓r_dKE, ↓r_seqL, ↓r_seqT, ↓r_sets0, ↓r_setsF, ↓r_setsO, ↓r_nun, ↓r_nuo, ↓r_add, ↓r_addl, ↓r_addt, ↓r_addb, ↓r_sub, ↓r_subb, ↓r_mul, ↓r_div, ↓r_mod, ↓r_pow, ↓r_cmp, ↓r_i0, ↓r_neg, ↓r_eq, ↓r_ne, ↓r_i1, ↓r_i2, ↓r_max, ↓r_min, ↓r_toI, ↓r_toIb, ↓r_lenL, ↓r_lenT, ↓r_lenS, ↓r_reprI, ↓r_reprB, ↓r_ixT, ↓r_ixL, ↓r_at0, ↓r_at1, ↓r_at2, ↓r_mull, ↓r_mult, ↓r_listL, ↓r_listT, ↓r_tupL, ↓r_tupT, ↓r_dvm, ↓r_slL, ↓r_slT]
  refine for_inv moG moS (fun i δ => ∃ u v, δ = [DV.fz Dat.bag, DV.fz (Dat.dK (toldD SS)), DV.fz (Dat.dK (kvD ps)), DV.fz (lD l), DV.fz (Dat.dK (kvD ps)), DV.fz (lD b), DV.fz (.lst (L.map lD)), u, v]) ?_ ?_ ⟨_, _, rfl⟩
  · rintro i d δ hi ⟨u, v, rfl⟩
    obtain ⟨s, hs, rfl⟩ := List.mem_map.1 (List.mem_of_getElem? hi)
    obtain ⟨s0, s1⟩ := some_ok s hs
    have sa := at_last s0
    by_cases k1 : s.length ≤ 20
    · have kz : (s.length : Int) ≤ 20 := by omega
      by_cases k2 : led s = 0
      · simp [↓r_get2, ↓r_get1, ↓r_getE, ↓r_val, ↓r_slot, ↓r_sfz, ↓r_sow, ↓r_all, ↓r_all0, ↓r_all1, ↓r_bl, ↓r_fbl, ↓r_int, ↓r_cons, ↓r_tupE, ↓r_dKE, ↓r_seqL, ↓r_seqT, ↓r_sets0, ↓r_setsF, ↓r_setsO, ↓r_nun, ↓r_nuo, ↓r_add, ↓r_addl, ↓r_addt, ↓r_addb, ↓r_sub, ↓r_subb, ↓r_mul, ↓r_div, ↓r_mod, ↓r_pow, ↓r_cmp, ↓r_i0, ↓r_neg, ↓r_eq, ↓r_ne, ↓r_i1, ↓r_i2, ↓r_max, ↓r_min, ↓r_toI, ↓r_toIb, ↓r_lenL, ↓r_lenT, ↓r_lenS, ↓r_reprI, ↓r_reprB, ↓r_ixT, ↓r_ixL, ↓r_at0, ↓r_at1, ↓r_at2, ↓r_mull, ↓r_mult, ↓r_listL, ↓r_listT, ↓r_tupL, ↓r_tupT, ↓r_dvm, ↓r_slL, ↓r_slT, kz, sa, k2]
      · have sc : Can s := Can.of s0 (.inr k2)
        have sp := poly_near sc k1 s1
        have sk : s.length ≤ 1000 := by omega
        have sn := ne_partsD sc k1
        simp [↓r_get2, ↓r_get1, ↓r_getE, ↓r_val, ↓r_slot, ↓r_sfz, ↓r_sow, ↓r_all, ↓r_all0, ↓r_all1, ↓r_bl, ↓r_fbl, ↓r_int, ↓r_cons, ↓r_tupE, ↓r_dKE, ↓r_seqL, ↓r_seqT, ↓r_sets0, ↓r_setsF, ↓r_setsO, ↓r_nun, ↓r_nuo, ↓r_add, ↓r_addl, ↓r_addt, ↓r_addb, ↓r_sub, ↓r_subb, ↓r_mul, ↓r_div, ↓r_mod, ↓r_pow, ↓r_cmp, ↓r_i0, ↓r_neg, ↓r_eq, ↓r_ne, ↓r_i1, ↓r_i2, ↓r_max, ↓r_min, ↓r_toI, ↓r_toIb, ↓r_lenL, ↓r_lenT, ↓r_lenS, ↓r_reprI, ↓r_reprB, ↓r_ixT, ↓r_ixL, ↓r_at0, ↓r_at1, ↓r_at2, ↓r_mull, ↓r_mult, ↓r_listL, ↓r_listT, ↓r_tupL, ↓r_tupT, ↓r_dvm, ↓r_slL, ↓r_slT, kz, k1, sa, k2, ↓e_cyclotomic_parts, ↓e__law_due, sc, sp, sk, sn]
    · have kz : ¬ (s.length : Int) ≤ 20 := by omega
      simp [↓r_get2, ↓r_get1, ↓r_getE, ↓r_val, ↓r_slot, ↓r_sfz, ↓r_sow, ↓r_all, ↓r_all0, ↓r_all1, ↓r_bl, ↓r_fbl, ↓r_int, ↓r_cons, ↓r_tupE, ↓r_dKE, ↓r_seqL, ↓r_seqT, ↓r_sets0, ↓r_setsF, ↓r_setsO, ↓r_nun, ↓r_nuo, ↓r_add, ↓r_addl, ↓r_addt, ↓r_addb, ↓r_sub, ↓r_subb, ↓r_mul, ↓r_div, ↓r_mod, ↓r_pow, ↓r_cmp, ↓r_i0, ↓r_neg, ↓r_eq, ↓r_ne, ↓r_i1, ↓r_i2, ↓r_max, ↓r_min, ↓r_toI, ↓r_toIb, ↓r_lenL, ↓r_lenT, ↓r_lenS, ↓r_reprI, ↓r_reprB, ↓r_ixT, ↓r_ixL, ↓r_at0, ↓r_at1, ↓r_at2, ↓r_mull, ↓r_mult, ↓r_listL, ↓r_listT, ↓r_tupL, ↓r_tupT, ↓r_dvm, ↓r_slL, ↓r_slT, kz]
  · rintro δ ⟨u, v, rfl⟩
    simp only [w__law_right_r7]
    have z1 : partsOf [0] = none := by unfold partsOf; exact if_neg fun h => absurd h.1 (by decide)
    have z0 : partsD [0] = .non := by unfold partsD; rw [z1]
    have e3 : ∀ {P ex}, sp_cyclotomic_parts [.tup [.int 0]] P ex ↔ P .non := by
      intro P ex
      have := e_cyclotomic_parts (l := [0]) (P := P) (ex := ex)
      rw [z0] at this
      exact this.trans ⟨fun x => x.2, fun x => ⟨⟨poly_near ⟨by simp, rfl⟩ (by decide) (by decide), by decide⟩, x⟩⟩
    simp [↓r_get2, ↓r_get1, ↓r_getE, ↓r_val, ↓r_slot, ↓r_sfz, ↓r_sow, ↓r_all, ↓r_all0, ↓r_all1, ↓r_bl, ↓r_fbl, ↓r_int, ↓r_cons, ↓r_tupE, ↓r_dKE, ↓r_seqL, ↓r_seqT, ↓r_sets0, ↓r_setsF, ↓r_setsO, ↓r_nun, ↓r_nuo, ↓r_add, ↓r_addl, ↓r_addt, ↓r_addb, ↓r_sub, ↓r_subb, ↓r_mul, ↓r_div, ↓r_mod, ↓r_pow, ↓r_cmp, ↓r_i0, ↓r_neg, ↓r_eq, ↓r_ne, ↓r_i1, ↓r_i2, ↓r_max, ↓r_min, ↓r_toI, ↓r_toIb, ↓r_lenL, ↓r_lenT, ↓r_lenS, ↓r_reprI, ↓r_reprB, ↓r_ixT, ↓r_ixL, ↓r_at0, ↓r_at1, ↓r_at2, ↓r_mull, ↓r_mult, ↓r_listL, ↓r_listT, ↓r_tupL, ↓r_tupT, ↓r_dvm, ↓r_slL, ↓r_slT, ↓e3]
    exact q
/-! ### the closed checks; the law -/
def optK : Option (List (Nat × Nat)) → Dat
  | none => .non
  | some ps => .dK (kvD ps)
theorem partsD_opt {l : List Int} : partsD l = optK (partsOf l) := by unfold partsD optK; rfl
theorem dk_self {n : Nat} {ks : List (Key × Dat)} (h : ∀ p ∈ ks, valD ks p.1 = some p.2 ∧ okD 16 p.2 = true ∧ eqvD p.2 p.2 = true) : DEq (n + 1) (.dK ks) (.dK ks) := by
  refine .dK (fun k => (valD ks k).getD .non) rfl (fun j k v hj => ?_) fun j k v hj => ?_
  · have := (h _ (List.mem_of_getElem? hj)).1
    simp only at this
    rw [this]; rfl
  · obtain ⟨h1, h2, h3⟩ := h _ (List.mem_of_getElem? hj)
    simp only at h1 h2 h3
    rw [h1]
    exact .leaf h2 h2 h3
theorem dk_0 {n : Nat} : DEq (n + 1) (.dK []) (.dK []) := dk_self fun p hp => by simp at hp
theorem dk_2 {n : Nat} : DEq (n + 1) (.dK [(Sum.inl 2, Dat.int 2)]) (.dK [(Sum.inl 2, Dat.int 2)]) := dk_self fun p hp => by
  have := List.mem_singleton.1 hp
  subst this
  exact ⟨rfl, by decide, by decide⟩
theorem dk_124 {n : Nat} : DEq (n + 1) (.dK [(Sum.inl 1, Dat.int 1), (Sum.inl 2, Dat.int 1), (Sum.inl 4, Dat.int 1)]) (.dK [(Sum.inl 1, Dat.int 1), (Sum.inl 2, Dat.int 1), (Sum.inl 4, Dat.int 1)]) := dk_self fun p hp => by
  simp only [List.mem_cons, List.not_mem_nil, or_false] at hp
  rcases hp with rfl | rfl | rfl <;> exact ⟨rfl, by decide, by decide⟩
theorem one_parts {l : List Int} {r : Option (List (Nat × Nat))} {P : Dat → Prop} {ex : XP} (hr : partsOf l = r) (hp : Poly l ∧ l.length ≤ 20) : sp_cyclotomic_parts [lD l] P ex ↔ P (optK r) := by
  subst hr
  rw [← partsD_opt]
  exact e_cyclotomic_parts.trans ⟨fun x => x.2, fun x => ⟨hp, x⟩⟩
theorem pO {l : List Int} (h : nrm l = l ∧ l ≠ [] ∧ l.length ≤ 20 ∧ ∀ c ∈ l, c.natAbs ≤ 10) : Poly l ∧ l.length ≤ 20 := ⟨⟨⟨h.2.1, h.1⟩, by omega, (LB.of h.2.2.2).mono (by decide +kernel)⟩, h.2.2.1⟩
theorem q1 : partsOf [-1, 0, 0, 0, 1] = some [(1, 1), (2, 1), (4, 1)] := by decide +kernel
theorem q2 : partsOf [1, -1] = none := by decide +kernel
theorem q3 : partsOf [1] = some [] := by decide +kernel
theorem q4 : partsOf [-1] = none := by decide +kernel
theorem q5 : partsOf [1, 2, 1] = some [(2, 2)] := by decide +kernel
theorem t_1 {P : Dat → Prop} {ex : XP} : sp_cyclotomic_parts [.tup [.int (-1), .int 0, .int 0, .int 0, .int 1]] P ex ↔ P (.dK [(.inl 1, .int 1), (.inl 2, .int 1), (.inl 4, .int 1)]) := one_parts q1 (pO (by decide))
theorem t_2 {P : Dat → Prop} {ex : XP} : sp_cyclotomic_parts [.tup [.int 1, .int (-1)]] P ex ↔ P .non := one_parts q2 (pO (by decide))
theorem t_3 {P : Dat → Prop} {ex : XP} : sp_cyclotomic_parts [.tup [.int 1]] P ex ↔ P (.dK []) := one_parts q3 (pO (by decide))
theorem t_4 {P : Dat → Prop} {ex : XP} : sp_cyclotomic_parts [.tup [.int (-1)]] P ex ↔ P .non := one_parts q4 (pO (by decide))
theorem t_5 {P : Dat → Prop} {ex : XP} : sp_cyclotomic_parts [.tup [.int 1, .int 2, .int 1]] P ex ↔ P (.dK [(.inl 2, .int 2)]) := one_parts q5 (pO (by decide))
abbrev sp_law := spLaw
instance : ISp spLaw := ⟨m_spLaw⟩
/-- 0 _law_script 1 _law_told 2 _law_spot 3 _law_bag_here 4 _law_some -/
def w_law_r3 : WS :=
    (wRet (wAnd (wE (wOp2 gEqK (oSlot 4) (oVal (wE (wLst (aCons (wE (wDisp [((wC (.int 1)), (wC (.int 1))), ((wC (.int 2)), (wC (.int 1))), ((wC (.int 4)), (wC (.int 1)))])) (aCons (wC .non) (aCons (wE wDict0) (aCons (wC .non) aNil))))))))) (wE (wOp2 gEqK (oVal (wCall sp_cyclotomic_parts (aCons (wTup (aCons (wC (.int 1)) (aCons (wC (.int 2)) (aCons (wC (.int 1)) aNil)))) aNil))) (oVal (wE (wDisp [((wC (.int 2)), (wC (.int 2)))])))))))
def w_law_r2 : WS :=
    wSeq (wAsg 4 (wLst (aCons (wCall sp_cyclotomic_parts (aCons (wTup (aCons (wE (wOp1 gNeg (oVal (wC (.int 1))))) (aCons (wC (.int 0)) (aCons (wC (.int 0)) (aCons (wC (.int 0)) (aCons (wC (.int 1)) aNil)))))) aNil)) (aCons (wCall sp_cyclotomic_parts (aCons (wTup (aCons (wC (.int 1)) (aCons (wE (wOp1 gNeg (oVal (wC (.int 1))))) aNil))) aNil)) (aCons (wCall sp_cyclotomic_parts (aCons (wTup (aCons (wC (.int 1)) aNil)) aNil)) (aCons (wCall sp_cyclotomic_parts (aCons (wTup (aCons (wE (wOp1 gNeg (oVal (wC (.int 1))))) aNil)) aNil)) aNil)))))) w_law_r3
def w_law_r1 : WS :=
    wSeq (wFor (iRange1 (oVal (wE (wCB gMax (aoCons (oVal (wC (.int 1))) (aoCons (oVal (wE (wCB gMin (aoCons (oVal (wC (.int 3))) (aoCons (oVal (wE (wCB gLen (aoCons (oSlot 0) aoNil)))) aoNil))))) aoNil)))))) (wgN 2) (wSeq (wAsg 3 (wJ (wCall sp__law_bag (aCons (wVar 0) (aCons (wVar 2) aNil)))))
    (wIf (tOr (tNot (tBl (wCall sp__law_right (aCons (wVar 3) (aCons (wVar 1) aNil))))) (tNot (tBl (wCall sp__law_right (aCons (wVar 3) (aCons (wVar 1) aNil)))))) (wRet (wC (.bl false))) wNext))) w_law_r2
def w_law : WS :=
    wSeq (wAsg 1 (wJ (wCall sp__law_small_ones (aCons (wC (.int 18)) aNil)))) w_law_r1
theorem k_law : Keeps 5 1 w_law sp_law := by
  rintro _ P ex0 ⟨ns, rfl, hl, q⟩
  refine ⟨rfl, ?_⟩
  generalize (fun (x : XD) (_ : Dl) => ex0 x) = ex
  have fin : ∀ a b : DV, w_law_r2 ex { nx := fun x => P Dat.non, rt := P } [DV.fz (.scr ns), .fz (.dK (toldD SS)), a, b, DV.un] := by
    intro a b
    simp only [w_law_r2]
    generalize toldD SS = T
    simp [↓r_get2, ↓r_get1, ↓r_getE, ↓r_val, ↓r_slot, ↓r_sfz, ↓r_sow, ↓r_all, ↓r_all0, ↓r_all1, ↓r_bl, ↓r_fbl, ↓r_int, ↓r_cons, ↓r_tupE, ↓r_dKE, ↓r_seqL, ↓r_seqT, ↓r_sets0, ↓r_setsF, ↓r_setsO, ↓r_nun, ↓r_nuo, ↓r_add, ↓r_addl, ↓r_addt, ↓r_addb, ↓r_sub, ↓r_subb, ↓r_mul, ↓r_div, ↓r_mod, ↓r_pow, ↓r_cmp, ↓r_i0, ↓r_neg, ↓r_eq, ↓r_ne, ↓r_i1, ↓r_i2, ↓r_max, ↓r_min, ↓r_toI, ↓r_toIb, ↓r_lenL, ↓r_lenT, ↓r_lenS, ↓r_reprI, ↓r_reprB, ↓r_ixT, ↓r_ixL, ↓r_at0, ↓r_at1, ↓r_at2, ↓r_mull, ↓r_mult, ↓r_listL, ↓r_listT, ↓r_tupL, ↓r_tupT, ↓r_dvm, ↓r_slL, ↓r_slT, ↓t_1, ↓t_2, ↓t_3, ↓t_4]
    simp only [w_law_r3]
    simp [↓r_get2, ↓r_get1, ↓r_getE, ↓r_val, ↓r_slot, ↓r_sfz, ↓r_sow, ↓r_all, ↓r_all0, ↓r_all1, ↓r_bl, ↓r_fbl, ↓r_int, ↓r_cons, ↓r_tupE, ↓r_dKE, ↓r_seqL, ↓r_seqT, ↓r_sets0, ↓r_setsF, ↓r_setsO, ↓r_nun, ↓r_nuo, ↓r_add, ↓r_addl, ↓r_addt, ↓r_addb, ↓r_sub, ↓r_subb, ↓r_mul, ↓r_div, ↓r_mod, ↓r_pow, ↓r_cmp, ↓r_i0, ↓r_neg, ↓r_eq, ↓r_ne, ↓r_i1, ↓r_i2, ↓r_max, ↓r_min, ↓r_toI, ↓r_toIb, ↓r_lenL, ↓r_lenT, ↓r_lenS, ↓r_reprI, ↓r_reprB, ↓r_ixT, ↓r_ixL, ↓r_at0, ↓r_at1, ↓r_at2, ↓r_mull, ↓r_mult, ↓r_listL, ↓r_listT, ↓r_tupL, ↓r_tupT, ↓r_dvm, ↓r_slL, ↓r_slT, ↓t_5]
    refine ⟨[(.inl 1, .int 1), (.inl 2, .int 1), (.inl 4, .int 1)], rfl, by decide, ⟨3, by decide, ?_⟩, [(.inl 2, .int 2)], rfl, by decide, ⟨3, by decide, ?_⟩, q⟩
    · refine .lst rfl fun j d e h1 h2 => ?_
      have h2' : [Dat.dK [(Sum.inl 1, Dat.int 1), (Sum.inl 2, Dat.int 1), (Sum.inl 4, Dat.int 1)], Dat.non, Dat.dK [], Dat.non][j]? = some e := h2
      rw [h1] at h2'
      cases h2'
      match j, h1 with
      | 0, h1 => cases h1; exact dk_124
      | 1, h1 => cases h1; exact .leaf (by decide) (by decide) (by decide)
      | 2, h1 => cases h1; exact dk_0
      | 3, h1 => cases h1; exact .leaf (by decide) (by decide) (by decide)
      | k + 4, h1 => cases h1
    · exact dk_2
  have hm : pyMax 1 (pyMin 3 ns.length) ≤ 3 ∧ 1 ≤ pyMax 1 (pyMin 3 ns.length) := by unfold pyMax pyMin; split <;> split <;> omega
  have bagI : ∀ s : Int, 0 ≤ s → s < 3 → ∀ {P : Dat → Prop} {ex : XP}, sp__law_bag [.scr ns, .int s] P ex ↔ P .bag := fun s h0 h3 P ex =>
    ⟨fun ⟨_, _, _, _, _, x⟩ => x, fun x => ⟨ns, s, rfl, h0, h3, x⟩⟩
  simp only [w_law]
  simp [↓r_get2, ↓r_get1, ↓r_getE, ↓r_val, ↓r_slot, ↓r_sfz, ↓r_sow, ↓r_all, ↓r_all0, ↓r_all1, ↓r_bl, ↓r_fbl, ↓r_int, ↓r_cons, ↓r_tupE, ↓r_dKE, ↓r_seqL, ↓r_seqT, ↓r_sets0, ↓r_setsF, ↓r_setsO, ↓r_nun, ↓r_nuo, ↓r_add, ↓r_addl, ↓r_addt, ↓r_addb, ↓r_sub, ↓r_subb, ↓r_mul, ↓r_div, ↓r_mod, ↓r_pow, ↓r_cmp, ↓r_i0, ↓r_neg, ↓r_eq, ↓r_ne, ↓r_i1, ↓r_i2, ↓r_max, ↓r_min, ↓r_toI, ↓r_toIb, ↓r_lenL, ↓r_lenT, ↓r_lenS, ↓r_reprI, ↓r_reprB, ↓r_ixT, ↓r_ixL, ↓r_at0, ↓r_at1, ↓r_at2, ↓r_mull, ↓r_mult, ↓r_listL, ↓r_listT, ↓r_tupL, ↓r_tupT, ↓r_dvm, ↓r_slL, ↓r_slT, ↓e__law_small_ones]
  simp only [w_law_r1]
  simp [↓r_get2, ↓r_get1, ↓r_getE, ↓r_val, ↓r_slot, ↓r_sfz, ↓r_sow, ↓r_all, ↓r_all0, ↓r_all1, ↓r_bl, ↓r_fbl, ↓r_int, ↓r_cons, ↓r_tupE, ↓r_dKE, ↓r_seqL, ↓r_seqT, ↓r_sets0, ↓r_setsF, ↓r_setsO, ↓r_nun, ↓r_nuo, ↓r_add, ↓r_addl, ↓r_addt, ↓r_addb, ↓r_sub, ↓r_subb, ↓r_mul, ↓r_div, ↓r_mod, ↓r_pow, ↓r_cmp, ↓r_i0, ↓r_neg, ↓r_eq, ↓r_ne, ↓r_i1, ↓r_i2, ↓r_max, ↓r_min, ↓r_toI, ↓r_toIb, ↓r_lenL, ↓r_lenT, ↓r_lenS, ↓r_reprI, ↓r_reprB, ↓r_ixT, ↓r_ixL, ↓r_at0, ↓r_at1, ↓r_at2, ↓r_mull, ↓r_mult, ↓r_listL, ↓r_listT, ↓r_tupL, ↓r_tupT, ↓r_dvm, ↓r_slL, ↓r_slT]
  generalize pyMax 1 (pyMin 3 ns.length) = m at hm ⊢
  refine ⟨by omega, for_inv moG moS (fun _ δ => ∃ a b : DV, δ = [DV.fz (.scr ns), .fz (.dK (toldD SS)), a, b, DV.un]) ?_ ?_ ⟨_, _, rfl⟩⟩
  · rintro i d δ hi ⟨a, b, rfl⟩
    obtain ⟨h1, h2⟩ := List.getElem?_eq_some_iff.1 hi
    simp [rangeD] at h1 h2
    subst h2
    simp [↓r_get2, ↓r_get1, ↓r_getE, ↓r_val, ↓r_slot, ↓r_sfz, ↓r_sow, ↓r_all, ↓r_all0, ↓r_all1, ↓r_bl, ↓r_fbl, ↓r_int, ↓r_cons, ↓r_tupE, ↓r_dKE, ↓r_seqL, ↓r_seqT, ↓r_sets0, ↓r_setsF, ↓r_setsO, ↓r_nun, ↓r_nuo, ↓r_add, ↓r_addl, ↓r_addt, ↓r_addb, ↓r_sub, ↓r_subb, ↓r_mul, ↓r_div, ↓r_mod, ↓r_pow, ↓r_cmp, ↓r_i0, ↓r_neg, ↓r_eq, ↓r_ne, ↓r_i1, ↓r_i2, ↓r_max, ↓r_min, ↓r_toI, ↓r_toIb, ↓r_lenL, ↓r_lenT, ↓r_lenS, ↓r_reprI, ↓r_reprB, ↓r_ixT, ↓r_ixL, ↓r_at0, ↓r_at1, ↓r_at2, ↓r_mull, ↓r_mult, ↓r_listL, ↓r_listT, ↓r_tupL, ↓r_tupT, ↓r_dvm, ↓r_slL, ↓r_slT, ↓bagI i (by omega) (by omega), ↓e__law_right]
  · rintro δ ⟨a, b, rfl⟩
    exact fin a b
end LW
namespace LW
open PySem PySem.Spec PyProof.Rows L2 DL
set_option linter.all false
set_option maxRecDepth 100000
def top (i : Nat) : Stmt := PySem.Challenge.pw_wholerises_k06_whole_products_of_cycloto.main.body.getD i (.Pass ⟨0, 0, 0, 0⟩)
structure Txt (K : PySem.W.Frag) (mg : Str → Option Value) : Prop where
  z_abs : mg "abs" = none
  z_all : mg "all" = none
  z_any : mg "any" = none
  z_bool : mg "bool" = none
  z_dict : mg "dict" = none
  z_divmod : mg "divmod" = none
  z_enumerate : mg "enumerate" = none
  z_int : mg "int" = none
  z_isinstance : mg "isinstance" = none
  z_len : mg "len" = none
  z_list : mg "list" = none
  z_max : mg "max" = none
  z_min : mg "min" = none
  z_range : mg "range" = none
  z_sorted : mg "sorted" = none
  z_sum : mg "sum" = none
  z_tuple : mg "tuple" = none
  g_FAR : IntAt mg "FAR" 1000000000000000000000000000000000000000000000000000000000000
  g_LAST_PART : IntAt mg "LAST_PART" 150
  g_MAX_DEGREE : IntAt mg "MAX_DEGREE" 40
  m_gcd : mg "gcd" = some (.builtin "math.gcd")
  t_ONE : TupAt K mg "ONE" [1]
  t_ZERO : TupAt K mg "ZERO" [0]
abbrev s__law_common : Stmt := top 28
theorem sc__law_common : FnScope ["_law_numbers", "_law_found", "_law_number", "_law_one", "_law_other"] ["_law_numbers"] (defScope s__law_common) := ⟨rfl, rfl, rfl, by decide +kernel, rfl, by decide +kernel, by decide +kernel⟩
set_option maxHeartbeats 4000000 in
theorem ok__law_common {Pg : Program} {w : World} {K : PySem.W.Frag} {mg : Str → Option Value} {base : Heap} {cn : Str → Value} {fa : Addr} {fd : FuncData} (T : Txt K mg)  (D : DefAt K mg "_law_common" s__law_common ["_law_numbers"] fa fd) : Callee Pg w K mg base cn 1 "_law_common" ["_law_numbers"] sp__law_common :=
  ⟨fa, fd, fn_ok (k := 0) D.fn sc__law_common k__law_common (fun cdv A outer s H E hr =>
    (dss_cons (ds_asg (i := 1) (dj_e de_int) sc__law_common.nd rfl (by first | exact Or.inl rfl | exact Or.inr rfl))
    (dss_cons (ds_for (passes_of rfl) rfl (di_seq (de_var 0)) (dg_name (i := 2) sc__law_common.nd rfl (by first | exact Or.inl rfl | exact Or.inr rfl)) (dss_cons (ds_par2 (i := 3) (j := 4) rfl sc__law_common.nd rfl rfl (by decide) rfl rfl (daj_cons (dj_e (de_var 1)) (daj_cons (dj_callB call_abs does_abs gI1_mono (by rfl) T.z_abs (by decide +kernel) (dao_cons (do_slot 2) dao_nil)) daj_nil)) (by rfl))
    (dss_cons (ds_while (passes_of rfl) (dt_cmp2 (op_neP hr.units) does_ne gNe_mono (do_slot 4) (do_val de_int) (nomark _)) (dss_one (ds_par2 (i := 3) (j := 4) rfl sc__law_common.nd rfl rfl (by decide) rfl rfl (daj_cons (dj_e (de_var 4)) (daj_cons (dj_op2 op_modM does_II gII_mono (do_val (de_j (dj_callTy call_int1 does_int gInt_mono (by rfl) T.z_int (by decide +kernel) (dao_cons (do_slot 3) dao_nil)))) (do_slot 4)) daj_nil)) (by rfl))))
    (dss_one (ds_asg (i := 1) (dj_e (de_var 3)) sc__law_common.nd rfl (by first | exact Or.inl rfl | exact Or.inr rfl))))))
    (dss_one (ds_ret (de_var 1)))))), D.mg, D.fn.kp, D.binds⟩
abbrev s__law_units : Stmt := top 29
theorem sc__law_units : FnScope ["_law_number", "_law_unit"] ["_law_number"] (defScope s__law_units) := ⟨rfl, rfl, rfl, by decide +kernel, rfl, by decide +kernel, by decide +kernel⟩
set_option maxHeartbeats 4000000 in
theorem ok__law_units {Pg : Program} {w : World} {K : PySem.W.Frag} {mg : Str → Option Value} {base : Heap} {cn : Str → Value} {fa : Addr} {fd : FuncData} (T : Txt K mg) (c__law_common : Callee Pg w K mg base cn 1 "_law_common" ["_law_numbers"] sp__law_common) (D : DefAt K mg "_law_units" s__law_units ["_law_number"] fa fd) : Callee Pg w K mg base cn 2 "_law_units" ["_law_number"] sp__law_units :=
  ⟨fa, fd, fn_ok (k := 1) D.fn sc__law_units k__law_units (fun cdv A outer s H E hr =>
    (dss_one (ds_ret (de_j (dj_comp (own := [("_law_unit", 1)]) (by decide) rfl sc__law_units.nd (di_range2 (by rfl) T.z_range (do_val de_int) (do_val (de_j (dj_op2 op_addA does_add gAdd_mono (do_slot 0) (do_val de_int))))) (blkOk_by (own := [("_law_unit", 1)]) (N := ["_law_number", "_law_unit"]) (sc := defScope s__law_units) (by decide +kernel)) (fun _ _ _ _ _ => (dc_one (i := 1) sc__law_units.nd rfl (by first | exact Or.inl rfl | exact Or.inr rfl))) (fun _ _ _ _ _ => (dts_one (dt_cmp2 (op_eqP hr.units) does_eq gEq_mono (do_val (de_fn c__law_common moSp hr (by decide) (by rfl) (da_cons (de_j (dj_lst (da_cons (de_var 1) (da_cons (de_var 0) da_nil)))) da_nil))) (do_val de_int) (nomark _)))) (fun _ _ _ _ _ => (de_var 1)) moT moE))))), D.mg, D.fn.kp, D.binds⟩
abbrev s__law_line_over : Stmt := top 31
theorem sc__law_line_over : FnScope ["_law_one", "_law_other", "_law_left", "_law_found", "_law_many", "_law_at", "_law_place", "_law_number"] ["_law_one", "_law_other"] (defScope s__law_line_over) := ⟨rfl, rfl, rfl, by decide +kernel, rfl, by decide +kernel, by decide +kernel⟩
set_option maxHeartbeats 4000000 in
theorem ok__law_line_over {Pg : Program} {w : World} {K : PySem.W.Frag} {mg : Str → Option Value} {base : Heap} {cn : Str → Value} {fa : Addr} {fd : FuncData} (T : Txt K mg)  (D : DefAt K mg "_law_line_over" s__law_line_over ["_law_one", "_law_other"] fa fd) : Callee Pg w K mg base cn 1 "_law_line_over" ["_law_one", "_law_other"] sp__law_line_over :=
  ⟨fa, fd, fn_ok (k := 0) D.fn sc__law_line_over k__law_line_over (fun cdv A outer s H E hr =>
    (dss_cons (ds_par2 (i := 2) (j := 3) rfl sc__law_line_over.nd rfl rfl (by decide) rfl rfl (daj_cons (dj_callTy (cr_list rfl) does_list gList_mono (by rfl) T.z_list (by decide +kernel) (dao_cons (do_slot 0) dao_nil)) (daj_cons (dj_lst da_nil) daj_nil)) (by rfl))
    (dss_cons (ds_while (passes_of rfl) (dt_cmp2 op_ge does_cmp gCmp_mono (do_val (de_j (dj_callB cr_lenA does_len gLen_mono (by rfl) T.z_len (by decide +kernel) (dao_cons (do_slot 2) dao_nil)))) (do_val (de_j (dj_callB cr_lenA does_len gLen_mono (by rfl) T.z_len (by decide +kernel) (dao_cons (do_slot 1) dao_nil)))) (nomark _)) (dss_cons (ds_asg (i := 4) (dj_op2 op_divM does_II gII_mono (do_val (de_j (dj_ix2 (ix_all (hu_of hr)) does_ix gIx_mono (do_slot 2) (do_val (de_j (dj_un1 un_neg does_neg gNeg_mono (do_val de_int)))) (fun _ _ => rfl)))) (do_val (de_j (dj_ix2 (ix_all (hu_of hr)) does_ix gIx_mono (do_slot 1) (do_val (de_j (dj_un1 un_neg does_neg gNeg_mono (do_val de_int)))) (fun _ _ => rfl))))) sc__law_line_over.nd rfl (by first | exact Or.inl rfl | exact Or.inr rfl))
    (dss_cons (ds_if (dt_cmp2 (op_neP hr.units) does_ne gNe_mono (do_val (de_j (dj_op2 op_mulA does_mul gMul_mono (do_slot 4) (do_val (de_j (dj_ix2 (ix_all (hu_of hr)) does_ix gIx_mono (do_slot 1) (do_val (de_j (dj_un1 un_neg does_neg gNeg_mono (do_val de_int)))) (fun _ _ => rfl))))))) (do_val (de_j (dj_ix2 (ix_all (hu_of hr)) does_ix gIx_mono (do_slot 2) (do_val (de_j (dj_un1 un_neg does_neg gNeg_mono (do_val de_int)))) (fun _ _ => rfl)))) (nomark _)) (dss_one (ds_ret de_non)) dss_nil)
    (dss_cons (ds_asg (i := 5) (dj_op2 op_subB does_sub gSubA_mono (do_val (de_j (dj_callB cr_lenA does_len gLen_mono (by rfl) T.z_len (by decide +kernel) (dao_cons (do_slot 2) dao_nil)))) (do_val (de_j (dj_callB cr_lenA does_len gLen_mono (by rfl) T.z_len (by decide +kernel) (dao_cons (do_slot 1) dao_nil))))) sc__law_line_over.nd rfl (by first | exact Or.inl rfl | exact Or.inr rfl))
    (dss_cons (ds_for (passes_of rfl) rfl (di_enum (by rfl) T.z_enumerate (de_var 1)) (dg_tup rfl (dgs_cons (dg_name (i := 6) sc__law_line_over.nd rfl (by first | exact Or.inl rfl | exact Or.inr rfl)) (dgs_cons (dg_name (i := 7) sc__law_line_over.nd rfl (by first | exact Or.inl rfl | exact Or.inr rfl)) dgs_nil))) (dss_one (ds_asgG (de_j (dj_op2 op_subB does_sub gSubA_mono (do_val (de_j (dj_ix2 (ix_all (hu_of hr)) does_ix gIx_mono (do_slot 2) (do_val (de_j (dj_op2 op_addA does_add gAdd_mono (do_slot 5) (do_slot 6)))) (fun _ _ => rfl)))) (do_val (de_j (dj_op2 op_mulA does_mul gMul_mono (do_slot 4) (do_slot 7)))))) (dg_sub (i := 2) (hu_of hr) (do_val (de_j (dj_op2 op_addA does_add gAdd_mono (do_slot 5) (do_slot 6))))))))
    (dss_cons (ds_expr (de_pop (i := 2) (by rfl) (by first | exact Or.inl rfl | exact Or.inr (Or.inl rfl) | exact Or.inr (Or.inr rfl))))
    (dss_one (ds_expr (de_append (i := 3) (by rfl) (by first | exact Or.inl rfl | exact Or.inr (Or.inl rfl) | exact Or.inr (Or.inr rfl)) (de_var 4))))))))))
    (dss_cons (ds_if (dt_cmp2 (op_neP hr.units) does_ne gNe_mono (do_val (de_j (dj_comp (own := [("_law_number", 7)]) (by decide) rfl sc__law_line_over.nd (di_seq (de_var 2)) (blkOk_by (own := [("_law_number", 7)]) (N := ["_law_one", "_law_other", "_law_left", "_law_found", "_law_many", "_law_at", "_law_place", "_law_number"]) (sc := defScope s__law_line_over) (by decide +kernel)) (fun _ _ _ _ _ => (dc_one (i := 7) sc__law_line_over.nd rfl (by first | exact Or.inl rfl | exact Or.inr rfl))) (fun _ _ _ _ _ => (dts_one (dt_cmp2 (op_neP hr.units) does_ne gNe_mono (do_slot 7) (do_val de_int) (nomark _)))) (fun _ _ _ _ _ => (de_var 7)) moT moE))) (do_val (de_j (dj_lst da_nil))) (nomark _)) (dss_one (ds_ret de_non)) dss_nil)
    (dss_cons (ds_asg (i := 3) (dj_ite (dt_cmp2 (op_neP hr.units) does_ne gNe_mono (do_slot 3) (do_val (de_j (dj_lst da_nil))) (nomark _)) (dj_revS (do_slot 3) pe_m1) (dj_lst (da_cons de_int da_nil))) sc__law_line_over.nd rfl (by first | exact Or.inl rfl | exact Or.inr rfl))
    (dss_cons (ds_while (passes_of rfl) (dt_w (dw_and (dt_cmp2 op_gt does_cmp gCmp_mono (do_val (de_j (dj_callB cr_lenA does_len gLen_mono (by rfl) T.z_len (by decide +kernel) (dao_cons (do_slot 3) dao_nil)))) (do_val de_int) (nomark _)) (dw_and1 (dt_cmp2 (op_eqP hr.units) does_eq gEq_mono (do_val (de_j (dj_ix2 (ix_all (hu_of hr)) does_ix gIx_mono (do_slot 3) (do_val (de_j (dj_un1 un_neg does_neg gNeg_mono (do_val de_int)))) (fun _ _ => rfl)))) (do_val de_int) (nomark _))))) (dss_one (ds_expr (de_pop (i := 3) (by rfl) (by first | exact Or.inl rfl | exact Or.inr (Or.inl rfl) | exact Or.inr (Or.inr rfl))))))
    (dss_one (ds_ret (de_j (dj_callTy cr_tuple does_tuple gTuple_mono (by rfl) T.z_tuple (by decide +kernel) (dao_cons (do_slot 3) dao_nil))))))))))), D.mg, D.fn.kp, D.binds⟩
abbrev s__law_cyclotomic : Stmt := top 32
theorem sc__law_cyclotomic : FnScope ["_law_number", "_law_told", "_law_size", "_law_found", "_law_one"] ["_law_number"] (defScope s__law_cyclotomic) := ⟨rfl, rfl, rfl, by decide +kernel, rfl, by decide +kernel, by decide +kernel⟩
set_option maxHeartbeats 4000000 in
theorem ok__law_cyclotomic {Pg : Program} {w : World} {K : PySem.W.Frag} {mg : Str → Option Value} {base : Heap} {cn : Str → Value} {fa : Addr} {fd : FuncData} (T : Txt K mg) (c__law_line_over : Callee Pg w K mg base cn 1 "_law_line_over" ["_law_one", "_law_other"] sp__law_line_over) (D : DefAt K mg "_law_cyclotomic" s__law_cyclotomic ["_law_number"] fa fd) : Callee Pg w K mg base cn 2 "_law_cyclotomic" ["_law_number"] sp__law_cyclotomic :=
  ⟨fa, fd, fn_ok (k := 1) D.fn sc__law_cyclotomic k__law_cyclotomic (fun cdv A outer s H E hr =>
    (dss_cons (ds_asg (i := 1) dj_dict0 sc__law_cyclotomic.nd rfl (by first | exact Or.inl rfl | exact Or.inr rfl))
    (dss_cons (ds_for (passes_of rfl) rfl (di_seq (de_j (dj_comp (own := [("_law_one", 4)]) (by decide) rfl sc__law_cyclotomic.nd (di_range2 (by rfl) T.z_range (do_val de_int) (do_val (de_j (dj_op2 op_addA does_add gAdd_mono (do_slot 0) (do_val de_int))))) (blkOk_by (own := [("_law_one", 4)]) (N := ["_law_number", "_law_told", "_law_size", "_law_found", "_law_one"]) (sc := defScope s__law_cyclotomic) (by decide +kernel)) (fun _ _ _ _ _ => (dc_one (i := 4) sc__law_cyclotomic.nd rfl (by first | exact Or.inl rfl | exact Or.inr rfl))) (fun _ _ _ _ _ => (dts_one (dt_cmp2 (op_eqP hr.units) does_eq gEq_mono (do_val (de_j (dj_op2 op_modM does_II gII_mono (do_val (de_j (dj_callTy call_int1 does_int gInt_mono (by rfl) T.z_int (by decide +kernel) (dao_cons (do_slot 0) dao_nil)))) (do_slot 4)))) (do_val de_int) (nomark _)))) (fun _ _ _ _ _ => (de_var 4)) moT moE))) (dg_name (i := 2) sc__law_cyclotomic.nd rfl (by first | exact Or.inl rfl | exact Or.inr rfl)) (dss_cons (ds_asg (i := 3) (dj_op2 op_addA does_add gAdd_mono (do_val (de_j (dj_op2 op_addA does_add gAdd_mono (do_val (de_tup (da_cons (de_j (dj_un1 un_neg does_neg gNeg_mono (do_val de_int))) da_nil))) (do_val (de_j (dj_op2 op_mulA does_mul gMul_mono (do_val (de_tup (da_cons de_int da_nil))) (do_val (de_j (dj_op2 op_subB does_sub gSubA_mono (do_slot 2) (do_val de_int)))))))))) (do_val (de_tup (da_cons de_int da_nil)))) sc__law_cyclotomic.nd rfl (by first | exact Or.inl rfl | exact Or.inr rfl))
    (dss_cons (ds_for (passes_of rfl) rfl (di_seq (de_j (dj_callB (cr_sortedX rfl) does_sorted gSorted_mono (by rfl) T.z_sorted (by decide +kernel) (dao_cons (do_slot 1) dao_nil)))) (dg_name (i := 4) sc__law_cyclotomic.nd rfl (by first | exact Or.inl rfl | exact Or.inr rfl)) (dss_one (ds_if (dt_cmp2 (op_eqP hr.units) does_eq gEq_mono (do_val (de_j (dj_op2 op_modM does_II gII_mono (do_val (de_j (dj_callTy call_int1 does_int gInt_mono (by rfl) T.z_int (by decide +kernel) (dao_cons (do_slot 2) dao_nil)))) (do_slot 4)))) (do_val de_int) (nomark _)) (dss_one (ds_asg (i := 3) (dj_e (de_fn c__law_line_over moSp hr (by decide) (by rfl) (da_cons (de_var 3) (da_cons (de_j (dj_ix2 (ix_all (hu_of hr)) does_ix gIx_mono (do_slot 1) (do_slot 4) (fun _ _ => rfl))) da_nil)))) sc__law_cyclotomic.nd rfl (by first | exact Or.inl rfl | exact Or.inr rfl))) dss_nil)))
    (dss_one (ds_asgG (de_var 3) (dg_sub (i := 1) (hu_of hr) (do_slot 2)))))))
    (dss_one (ds_ret (de_j (dj_ix2 (ix_all (hu_of hr)) does_ix gIx_mono (do_slot 1) (do_slot 0) (fun _ _ => rfl)))))))), D.mg, D.fn.kp, D.binds⟩
abbrev s__law_small_ones : Stmt := top 33
theorem sc__law_small_ones : FnScope ["_law_most", "_law_found", "_law_number"] ["_law_most"] (defScope s__law_small_ones) := ⟨rfl, rfl, rfl, by decide +kernel, rfl, by decide +kernel, by decide +kernel⟩
set_option maxHeartbeats 4000000 in
theorem ok__law_small_ones {Pg : Program} {w : World} {K : PySem.W.Frag} {mg : Str → Option Value} {base : Heap} {cn : Str → Value} {fa : Addr} {fd : FuncData} (T : Txt K mg) (c__law_units : Callee Pg w K mg base cn 2 "_law_units" ["_law_number"] sp__law_units) (c__law_cyclotomic : Callee Pg w K mg base cn 2 "_law_cyclotomic" ["_law_number"] sp__law_cyclotomic) (D : DefAt K mg "_law_small_ones" s__law_small_ones ["_law_most"] fa fd) : Callee Pg w K mg base cn 3 "_law_small_ones" ["_law_most"] sp__law_small_ones :=
  ⟨fa, fd, fn_ok (k := 2) D.fn sc__law_small_ones k__law_small_ones (fun cdv A outer s H E hr =>
    (dss_cons (ds_asg (i := 1) dj_dict0 sc__law_small_ones.nd rfl (by first | exact Or.inl rfl | exact Or.inr rfl))
    (dss_cons (ds_for (passes_of rfl) rfl (di_range2 (by rfl) T.z_range (do_val de_int) (do_val de_int)) (dg_name (i := 2) sc__law_small_ones.nd rfl (by first | exact Or.inl rfl | exact Or.inr rfl)) (dss_one (ds_if (dt_cmp2 op_le does_cmp gCmp_mono (do_val (de_j (dj_callB cr_lenA does_len gLen_mono (by rfl) T.z_len (by decide +kernel) (dao_cons (do_val (de_fn c__law_units moSp hr (by decide) (by rfl) (da_cons (de_var 2) da_nil))) dao_nil)))) (do_slot 0) (nomark _)) (dss_one (ds_asgG (de_fn c__law_cyclotomic moSp hr (by decide) (by rfl) (da_cons (de_var 2) da_nil)) (dg_sub (i := 1) (hu_of hr) (do_slot 2)))) dss_nil)))
    (dss_one (ds_ret (de_var 1)))))), D.mg, D.fn.kp, D.binds⟩
abbrev s__law_bag : Stmt := top 25
theorem sc__law_bag : FnScope ["_law_script", "_law_spot", "_law_cell", "_law_great", "_law_mixed"] ["_law_script", "_law_spot"] (defScope s__law_bag) := ⟨rfl, rfl, rfl, by decide +kernel, rfl, by decide +kernel, by decide +kernel⟩
set_option maxHeartbeats 4000000 in
theorem ok__law_bag {Pg : Program} {w : World} {K : PySem.W.Frag} {mg : Str → Option Value} {base : Heap} {cn : Str → Value} {fa : Addr} {fd : FuncData} (T : Txt K mg)  (D : DefAt K mg "_law_bag" s__law_bag ["_law_script", "_law_spot"] fa fd) : Callee Pg w K mg base cn 1 "_law_bag" ["_law_script", "_law_spot"] sp__law_bag :=
  ⟨fa, fd, fn_ok (k := 0) D.fn sc__law_bag k__law_bag (fun cdv A outer s H E hr =>
    (dss_cons (ds_asg (i := 2) (dj_e (de_ite (dt_cmp2 op_lt does_cmp gCmp_mono (do_slot 1) (do_val (de_j (dj_callB cr_lenA does_len gLen_mono (by rfl) T.z_len (by decide +kernel) (dao_cons (do_slot 0) dao_nil)))) (nomark _)) (de_j (dj_ix2 (ix_all (hu_of hr)) does_ix gIx_mono (do_slot 0) (do_slot 1) (fun _ _ => rfl))) (de_j (dj_op2 op_addA does_add gAdd_mono (do_val (de_j (dj_op2 op_addA does_add gAdd_mono (do_val (de_j (dj_callB (cr_sum rfl) does_sum gSum_mono (by rfl) T.z_sum (by decide +kernel) (dao_cons (do_val (de_j (dj_slice (do_slot 0) dpt_none (dpt_some de_int)))) dao_nil)))) (do_val (de_j (dj_op2 op_mulA does_mul gMul_mono (do_val de_int) (do_slot 1))))))) (do_val de_int))))) sc__law_bag.nd rfl (by first | exact Or.inl rfl | exact Or.inr rfl))
    (dss_cons (ds_asg (i := 3) (dj_op2 op_modM does_II gII_mono (do_val (de_j (dj_callTy call_int1 does_int gInt_mono (by rfl) T.z_int (by decide +kernel) (dao_cons (do_val (de_j (dj_callB call_abs does_abs gI1_mono (by rfl) T.z_abs (by decide +kernel) (dao_cons (do_slot 2) dao_nil)))) dao_nil)))) (do_val (de_j (dj_op2 op_powM does_II gII_mono (do_val (de_j (dj_op2 op_powM does_II gII_mono (do_val de_int) (do_val de_int)))) (do_val de_int))))) sc__law_bag.nd rfl (by first | exact Or.inl rfl | exact Or.inr rfl))
    (dss_cons (ds_asg (i := 4) (dj_op2 op_addA does_add gAdd_mono (do_val (de_j (dj_op2 op_addA does_add gAdd_mono (do_val (de_j (dj_op2 op_addA does_add gAdd_mono (do_val (de_j (dj_op2 op_mulA does_mul gMul_mono (do_val (de_j (dj_op2 op_modM does_II gII_mono (do_val (de_j (dj_callTy call_int1 does_int gInt_mono (by rfl) T.z_int (by decide +kernel) (dao_cons (do_slot 3) dao_nil)))) (do_val de_int)))) (do_val de_int)))) (do_val (de_j (dj_op2 op_mulA does_mul gMul_mono (do_val de_int) (do_slot 1))))))) (do_val (de_j (dj_op2 op_mulA does_mul gMul_mono (do_val de_int) (do_val (de_j (dj_callTy call_int1 does_int gInt_mono (by rfl) T.z_int (by decide +kernel) (dao_cons (do_val (de_j (dj_cmp2 op_lt does_cmp gCmp_mono (do_slot 2) (do_val de_int) (nomark _)))) dao_nil)))))))))) (do_val de_int)) sc__law_bag.nd rfl (by first | exact Or.inl rfl | exact Or.inr rfl))
    (dss_one (ds_ret (de_bag (da_cons (de_j (dj_callB (cr_maxA rfl) does_max gMax_mono (by rfl) T.z_max (by decide +kernel) (dao_cons (do_val de_int) (dao_cons (do_val (de_j (dj_op2 op_subB does_sub gSubA_mono (do_slot 3) (do_val (de_j (dj_op2 op_powM does_II gII_mono (do_val de_int) (do_val de_int))))))) dao_nil)))) (da_cons (de_j (dj_op2 op_modM does_II gII_mono (do_val (de_j (dj_callTy call_int1 does_int gInt_mono (by rfl) T.z_int (by decide +kernel) (dao_cons (do_slot 4) dao_nil)))) (do_val de_int))) (da_cons de_int da_nil)))))))))), D.mg, D.fn.kp, D.binds⟩
abbrev s__law_grab : Stmt := top 26
theorem sc__law_grab : FnScope ["_law_bag_here", "_law_total", "_law_found", "_law_one", "_law_two"] ["_law_bag_here", "_law_total"] (defScope s__law_grab) := ⟨rfl, rfl, rfl, by decide +kernel, rfl, by decide +kernel, by decide +kernel⟩
set_option maxHeartbeats 4000000 in
theorem ok__law_grab {Pg : Program} {w : World} {K : PySem.W.Frag} {mg : Str → Option Value} {base : Heap} {cn : Str → Value} {fa : Addr} {fd : FuncData} (T : Txt K mg)  (D : DefAt K mg "_law_grab" s__law_grab ["_law_bag_here", "_law_total"] fa fd) : Callee Pg w K mg base cn 1 "_law_grab" ["_law_bag_here", "_law_total"] sp__law_grab :=
  ⟨fa, fd, fn_ok (k := 0) D.fn sc__law_grab k__law_grab (fun cdv A outer s H E hr =>
    (dss_cons (ds_if (dt_cmp2 op_gt does_cmp gCmp_mono (do_val (de_j (dj_ix2 (ix_all (hu_of hr)) does_ix gIx_mono (do_slot 0) (do_val de_int) (fun _ _ => rfl)))) (do_val de_int) (nomark _)) (dss_cons (ds_asg (i := 2) (dj_op2 op_modM does_II gII_mono (do_val (de_j (dj_callTy call_int1 does_int gInt_mono (by rfl) T.z_int (by decide +kernel) (dao_cons (do_val (de_j (dj_ix2 (ix_all (hu_of hr)) does_ix gIx_mono (do_slot 0) (do_val de_int) (fun _ _ => rfl)))) dao_nil)))) (do_slot 1)) sc__law_grab.nd rfl (by first | exact Or.inl rfl | exact Or.inr rfl))
    (dss_cons (ds_asgG (de_j (dj_op2 op_divM does_II gII_mono (do_val (de_j (dj_ix2 (ix_all (hu_of hr)) does_ix gIx_mono (do_slot 0) (do_val de_int) (fun _ _ => rfl)))) (do_slot 1))) (dg_sub (i := 0) (hu_of hr) (do_val de_int)))
    (dss_one (ds_ret (de_var 2))))) dss_nil)
    (dss_cons (ds_asgG (de_j (dj_op2 op_addA does_add gAdd_mono (do_val (de_j (dj_ix2 (ix_all (hu_of hr)) does_ix gIx_mono (do_slot 0) (do_val de_int) (fun _ _ => rfl)))) (do_val de_int))) (dg_sub (i := 0) (hu_of hr) (do_val de_int)))
    (dss_cons (ds_asg (i := 3) (dj_op2 op_modM does_II gII_mono (do_val (de_j (dj_callTy call_int1 does_int gInt_mono (by rfl) T.z_int (by decide +kernel) (dao_cons (do_val (de_j (dj_op2 op_addA does_add gAdd_mono (do_val (de_j (dj_ix2 (ix_all (hu_of hr)) does_ix gIx_mono (do_slot 0) (do_val de_int) (fun _ _ => rfl)))) (do_val (de_j (dj_op2 op_mulA does_mul gMul_mono (do_val de_int) (do_val (de_j (dj_ix2 (ix_all (hu_of hr)) does_ix gIx_mono (do_slot 0) (do_val de_int) (fun _ _ => rfl)))))))))) dao_nil)))) (do_val de_int)) sc__law_grab.nd rfl (by first | exact Or.inl rfl | exact Or.inr rfl))
    (dss_cons (ds_asg (i := 4) (dj_op2 op_addA does_add gAdd_mono (do_val (de_j (dj_op2 op_mulA does_mul gMul_mono (do_val (de_j (dj_op2 op_modM does_II gII_mono (do_val (de_j (dj_callTy call_int1 does_int gInt_mono (by rfl) T.z_int (by decide +kernel) (dao_cons (do_val (de_j (dj_op2 op_mulA does_mul gMul_mono (do_slot 3) (do_slot 3)))) dao_nil)))) (do_val de_int)))) (do_slot 3)))) (do_val (de_j (dj_op2 op_mulA does_mul gMul_mono (do_val de_int) (do_val (de_j (dj_ix2 (ix_all (hu_of hr)) does_ix gIx_mono (do_slot 0) (do_val de_int) (fun _ _ => rfl)))))))) sc__law_grab.nd rfl (by first | exact Or.inl rfl | exact Or.inr rfl))
    (dss_one (ds_ret (de_j (dj_op2 op_modM does_II gII_mono (do_val (de_j (dj_callTy call_int1 does_int gInt_mono (by rfl) T.z_int (by decide +kernel) (dao_cons (do_val (de_j (dj_op2 op_divM does_II gII_mono (do_val (de_j (dj_op2 op_modM does_II gII_mono (do_val (de_j (dj_callTy call_int1 does_int gInt_mono (by rfl) T.z_int (by decide +kernel) (dao_cons (do_slot 4) dao_nil)))) (do_val de_int)))) (do_val de_int)))) dao_nil)))) (do_slot 1)))))))))), D.mg, D.fn.kp, D.binds⟩
abbrev s__law_one_of : Stmt := top 27
theorem sc__law_one_of : FnScope ["_law_bag_here", "_law_items"] ["_law_bag_here", "_law_items"] (defScope s__law_one_of) := ⟨rfl, rfl, rfl, by decide +kernel, rfl, by decide +kernel, by decide +kernel⟩
set_option maxHeartbeats 4000000 in
theorem ok__law_one_of {Pg : Program} {w : World} {K : PySem.W.Frag} {mg : Str → Option Value} {base : Heap} {cn : Str → Value} {fa : Addr} {fd : FuncData} (T : Txt K mg) (c__law_grab : Callee Pg w K mg base cn 1 "_law_grab" ["_law_bag_here", "_law_total"] sp__law_grab) (D : DefAt K mg "_law_one_of" s__law_one_of ["_law_bag_here", "_law_items"] fa fd) : Callee Pg w K mg base cn 2 "_law_one_of" ["_law_bag_here", "_law_items"] sp__law_one_of :=
  ⟨fa, fd, fn_ok (k := 1) D.fn sc__law_one_of k__law_one_of (fun cdv A outer s H E hr =>
    (dss_one (ds_ret (de_j (dj_ix2 (ix_all (hu_of hr)) does_ix gIx_mono (do_slot 1) (do_val (de_fn c__law_grab moSp hr (by decide) (by rfl) (da_cons (de_var 0) (da_cons (de_j (dj_callB cr_lenA does_len gLen_mono (by rfl) T.z_len (by decide +kernel) (dao_cons (do_slot 1) dao_nil))) da_nil)))) (fun _ _ => rfl)))))), D.mg, D.fn.kp, D.binds⟩
abbrev s__law_some_parts : Stmt := top 34
theorem sc__law_some_parts : FnScope ["_law_bag_here", "_law_told", "_law_found", "_law_left", "_law_turn", "_law_number"] ["_law_bag_here", "_law_told"] (defScope s__law_some_parts) := ⟨rfl, rfl, rfl, by decide +kernel, rfl, by decide +kernel, by decide +kernel⟩
set_option maxHeartbeats 4000000 in
theorem ok__law_some_parts {Pg : Program} {w : World} {K : PySem.W.Frag} {mg : Str → Option Value} {base : Heap} {cn : Str → Value} {fa : Addr} {fd : FuncData} (T : Txt K mg) (c__law_grab : Callee Pg w K mg base cn 1 "_law_grab" ["_law_bag_here", "_law_total"] sp__law_grab) (c__law_one_of : Callee Pg w K mg base cn 2 "_law_one_of" ["_law_bag_here", "_law_items"] sp__law_one_of) (D : DefAt K mg "_law_some_parts" s__law_some_parts ["_law_bag_here", "_law_told"] fa fd) : Callee Pg w K mg base cn 3 "_law_some_parts" ["_law_bag_here", "_law_told"] sp__law_some_parts :=
  ⟨fa, fd, fn_ok (k := 2) D.fn sc__law_some_parts k__law_some_parts (fun cdv A outer s H E hr =>
    (dss_cons (ds_parN rfl (pns_cons (i := 2) sc__law_some_parts.nd rfl (by first | exact Or.inl rfl | exact Or.inr rfl) (pns_cons (i := 3) sc__law_some_parts.nd rfl (by first | exact Or.inl rfl | exact Or.inr rfl) pns_nil)) (daj_cons dj_dict0 (daj_cons (dj_e de_int) daj_nil)))
    (dss_cons (ds_for (passes_of rfl) rfl (di_range1 (by rfl) T.z_range (do_val (de_j (dj_op2 op_addA does_add gAdd_mono (do_val de_int) (do_val (de_fn c__law_grab moSp hr (by decide) (by rfl) (da_cons (de_var 0) (da_cons de_int da_nil)))))))) (dg_name (i := 4) sc__law_some_parts.nd rfl (by first | exact Or.inl rfl | exact Or.inr rfl)) (dss_cons (ds_asg (i := 5) (dj_e (de_ite (dt_cmp2 (op_eqP hr.units) does_eq gEq_mono (do_val (de_fn c__law_grab moSp hr (by decide) (by rfl) (da_cons (de_var 0) (da_cons de_int da_nil)))) (do_val de_int) (nomark _)) (de_fn c__law_one_of moSp hr (by decide) (by rfl) (da_cons (de_var 0) (da_cons (de_j (dj_callB (cr_sortedX rfl) does_sorted gSorted_mono (by rfl) T.z_sorted (by decide +kernel) (dao_cons (do_slot 1) dao_nil))) da_nil))) (de_j (dj_op2 op_addA does_add gAdd_mono (do_val de_int) (do_val (de_fn c__law_grab moSp hr (by decide) (by rfl) (da_cons (de_var 0) (da_cons de_int da_nil)))))))) sc__law_some_parts.nd rfl (by first | exact Or.inl rfl | exact Or.inr rfl))
    (dss_one (ds_if (dt_cmp2 op_le does_cmp gCmp_mono (do_val (de_j (dj_op2 op_subB does_sub gSubA_mono (do_val (de_j (dj_callB cr_lenA does_len gLen_mono (by rfl) T.z_len (by decide +kernel) (dao_cons (do_val (de_j (dj_ix2 (ix_all (hu_of hr)) does_ix gIx_mono (do_slot 1) (do_slot 5) (fun _ _ => rfl)))) dao_nil)))) (do_val de_int)))) (do_slot 3) (nomark _)) (dss_cons (ds_asgG (de_j (dj_op2 op_addA does_add gAdd_mono (do_val (de_get (hu_of hr) (do_slot 2) (do_slot 5) de_int ⟨rfl, rfl, rfl, rfl⟩)) (do_val de_int))) (dg_sub (i := 2) (hu_of hr) (do_slot 5)))
    (dss_one (ds_asg (i := 3) (dj_op2 op_addA does_add gAdd_mono (do_val (de_j (dj_op2 op_subB does_sub gSubA_mono (do_slot 3) (do_val (de_j (dj_callB cr_lenA does_len gLen_mono (by rfl) T.z_len (by decide +kernel) (dao_cons (do_val (de_j (dj_ix2 (ix_all (hu_of hr)) does_ix gIx_mono (do_slot 1) (do_slot 5) (fun _ _ => rfl)))) dao_nil))))))) (do_val de_int)) sc__law_some_parts.nd rfl (by first | exact Or.inl rfl | exact Or.inr rfl)))) dss_nil))))
    (dss_one (ds_ret (de_j (dj_callTy (cr_dictX rfl) does_dict gDict_mono (by rfl) T.z_dict (by decide +kernel) (dao_cons (do_val (de_j (dj_comp (own := [("_law_number", 5)]) (by decide) rfl sc__law_some_parts.nd (di_seq (de_j (dj_callB (cr_sortedX rfl) does_sorted gSorted_mono (by rfl) T.z_sorted (by decide +kernel) (dao_cons (do_slot 2) dao_nil)))) (blkOk_by (own := [("_law_number", 5)]) (N := ["_law_bag_here", "_law_told", "_law_found", "_law_left", "_law_turn", "_law_number"]) (sc := defScope s__law_some_parts) (by decide +kernel)) (fun _ _ _ _ _ => (dc_one (i := 5) sc__law_some_parts.nd rfl (by first | exact Or.inl rfl | exact Or.inr rfl))) (fun _ _ _ _ _ => dts_nil) (fun _ _ _ _ _ => (de_tup (da_cons (de_var 5) (da_cons (de_j (dj_ix2 (ix_all (hu_of hr)) does_ix gIx_mono (do_slot 2) (do_slot 5) (fun _ _ => rfl))) da_nil)))) moT moE))) dao_nil)))))))), D.mg, D.fn.kp, D.binds⟩
abbrev s__law_line_times : Stmt := top 30
theorem sc__law_line_times : FnScope ["_law_one", "_law_other", "_law_found", "_law_at", "_law_here", "_law_place", "_law_there"] ["_law_one", "_law_other"] (defScope s__law_line_times) := ⟨rfl, rfl, rfl, by decide +kernel, rfl, by decide +kernel, by decide +kernel⟩
set_option maxHeartbeats 4000000 in
theorem ok__law_line_times {Pg : Program} {w : World} {K : PySem.W.Frag} {mg : Str → Option Value} {base : Heap} {cn : Str → Value} {fa : Addr} {fd : FuncData} (T : Txt K mg)  (D : DefAt K mg "_law_line_times" s__law_line_times ["_law_one", "_law_other"] fa fd) : Callee Pg w K mg base cn 1 "_law_line_times" ["_law_one", "_law_other"] sp__law_line_times :=
  ⟨fa, fd, fn_ok (k := 0) D.fn sc__law_line_times k__law_line_times (fun cdv A outer s H E hr =>
    (dss_cons (ds_asg (i := 2) (dj_op2 op_mulA does_mul gMul_mono (do_val (de_j (dj_lst (da_cons de_int da_nil)))) (do_val (de_j (dj_op2 op_subB does_sub gSubA_mono (do_val (de_j (dj_op2 op_addA does_add gAdd_mono (do_val (de_j (dj_callB cr_lenA does_len gLen_mono (by rfl) T.z_len (by decide +kernel) (dao_cons (do_slot 0) dao_nil)))) (do_val (de_j (dj_callB cr_lenA does_len gLen_mono (by rfl) T.z_len (by decide +kernel) (dao_cons (do_slot 1) dao_nil))))))) (do_val de_int))))) sc__law_line_times.nd rfl (by first | exact Or.inl rfl | exact Or.inr rfl))
    (dss_cons (ds_for (passes_of rfl) rfl (di_enum (by rfl) T.z_enumerate (de_var 0)) (dg_tup rfl (dgs_cons (dg_name (i := 3) sc__law_line_times.nd rfl (by first | exact Or.inl rfl | exact Or.inr rfl)) (dgs_cons (dg_name (i := 4) sc__law_line_times.nd rfl (by first | exact Or.inl rfl | exact Or.inr rfl)) dgs_nil))) (dss_one (ds_for (passes_of rfl) rfl (di_enum (by rfl) T.z_enumerate (de_var 1)) (dg_tup rfl (dgs_cons (dg_name (i := 5) sc__law_line_times.nd rfl (by first | exact Or.inl rfl | exact Or.inr rfl)) (dgs_cons (dg_name (i := 6) sc__law_line_times.nd rfl (by first | exact Or.inl rfl | exact Or.inr rfl)) dgs_nil))) (dss_one (ds_asgG (de_j (dj_op2 op_addA does_add gAdd_mono (do_val (de_j (dj_ix2 (ix_all (hu_of hr)) does_ix gIx_mono (do_slot 2) (do_val (de_j (dj_op2 op_addA does_add gAdd_mono (do_slot 3) (do_slot 5)))) (fun _ _ => rfl)))) (do_val (de_j (dj_op2 op_mulA does_mul gMul_mono (do_slot 4) (do_slot 6)))))) (dg_sub (i := 2) (hu_of hr) (do_val (de_j (dj_op2 op_addA does_add gAdd_mono (do_slot 3) (do_slot 5))))))))))
    (dss_cons (ds_while (passes_of rfl) (dt_w (dw_and (dt_cmp2 op_gt does_cmp gCmp_mono (do_val (de_j (dj_callB cr_lenA does_len gLen_mono (by rfl) T.z_len (by decide +kernel) (dao_cons (do_slot 2) dao_nil)))) (do_val de_int) (nomark _)) (dw_and1 (dt_cmp2 (op_eqP hr.units) does_eq gEq_mono (do_val (de_j (dj_ix2 (ix_all (hu_of hr)) does_ix gIx_mono (do_slot 2) (do_val (de_j (dj_un1 un_neg does_neg gNeg_mono (do_val de_int)))) (fun _ _ => rfl)))) (do_val de_int) (nomark _))))) (dss_one (ds_expr (de_pop (i := 2) (by rfl) (by first | exact Or.inl rfl | exact Or.inr (Or.inl rfl) | exact Or.inr (Or.inr rfl))))))
    (dss_one (ds_ret (de_j (dj_callTy cr_tuple does_tuple gTuple_mono (by rfl) T.z_tuple (by decide +kernel) (dao_cons (do_slot 2) dao_nil))))))))), D.mg, D.fn.kp, D.binds⟩
abbrev s__law_made : Stmt := top 35
theorem sc__law_made : FnScope ["_law_parts", "_law_told", "_law_found", "_law_number", "_law_turn"] ["_law_parts", "_law_told"] (defScope s__law_made) := ⟨rfl, rfl, rfl, by decide +kernel, rfl, by decide +kernel, by decide +kernel⟩
set_option maxHeartbeats 4000000 in
theorem ok__law_made {Pg : Program} {w : World} {K : PySem.W.Frag} {mg : Str → Option Value} {base : Heap} {cn : Str → Value} {fa : Addr} {fd : FuncData} (T : Txt K mg) (c__law_line_times : Callee Pg w K mg base cn 1 "_law_line_times" ["_law_one", "_law_other"] sp__law_line_times) (D : DefAt K mg "_law_made" s__law_made ["_law_parts", "_law_told"] fa fd) : Callee Pg w K mg base cn 2 "_law_made" ["_law_parts", "_law_told"] sp__law_made :=
  ⟨fa, fd, fn_ok (k := 1) D.fn sc__law_made k__law_made (fun cdv A outer s H E hr =>
    (dss_cons (ds_asg (i := 2) (dj_e (de_tup (da_cons de_int da_nil))) sc__law_made.nd rfl (by first | exact Or.inl rfl | exact Or.inr rfl))
    (dss_cons (ds_for (passes_of rfl) rfl (di_keys (de_var 0)) (dg_name (i := 3) sc__law_made.nd rfl (by first | exact Or.inl rfl | exact Or.inr rfl)) (dss_one (ds_for (passes_of rfl) rfl (di_range1 (by rfl) T.z_range (do_val (de_j (dj_ix2 (ix_all (hu_of hr)) does_ix gIx_mono (do_slot 0) (do_slot 3) (fun _ _ => rfl))))) (dg_name (i := 4) sc__law_made.nd rfl (by first | exact Or.inl rfl | exact Or.inr rfl)) (dss_one (ds_asg (i := 2) (dj_e (de_fn c__law_line_times moSp hr (by decide) (by rfl) (da_cons (de_var 2) (da_cons (de_j (dj_ix2 (ix_all (hu_of hr)) does_ix gIx_mono (do_slot 1) (do_slot 3) (fun _ _ => rfl))) da_nil)))) sc__law_made.nd rfl (by first | exact Or.inl rfl | exact Or.inr rfl))))))
    (dss_one (ds_ret (de_var 2)))))), D.mg, D.fn.kp, D.binds⟩
abbrev s_is_plain : Stmt := top 6
theorem sc_is_plain : FnScope ["value"] ["value"] (defScope s_is_plain) := ⟨rfl, rfl, rfl, by decide +kernel, rfl, by decide +kernel, by decide +kernel⟩
set_option maxHeartbeats 4000000 in
theorem ok_is_plain {Pg : Program} {w : World} {K : PySem.W.Frag} {mg : Str → Option Value} {base : Heap} {cn : Str → Value} {fa : Addr} {fd : FuncData} (T : Txt K mg)  (D : DefAt K mg "is_plain" s_is_plain ["value"] fa fd) : Callee Pg w K mg base cn 1 "is_plain" ["value"] sp_is_plain :=
  ⟨fa, fd, fn_ok (k := 0) D.fn sc_is_plain k_is_plain (fun cdv A outer s H E hr =>
    (dss_one (ds_ret (de_and (de_j (dj_callB call_isi does_isi gIsi_mono (by rfl) T.z_isinstance (by decide +kernel) (dao_cons (do_slot 0) (dao_cons (do_val (de_ty (by rfl) T.z_int (by decide +kernel))) dao_nil)))) (de_one (de_not (de_j (dj_callB call_isi does_isi gIsi_mono (by rfl) T.z_isinstance (by decide +kernel) (dao_cons (do_slot 0) (dao_cons (do_val (de_ty (by rfl) T.z_bool (by decide +kernel))) dao_nil)))))))))), D.mg, D.fn.kp, D.binds⟩
abbrev s_is_integer : Stmt := top 7
theorem sc_is_integer : FnScope ["value"] ["value"] (defScope s_is_integer) := ⟨rfl, rfl, rfl, by decide +kernel, rfl, by decide +kernel, by decide +kernel⟩
set_option maxHeartbeats 4000000 in
theorem ok_is_integer {Pg : Program} {w : World} {K : PySem.W.Frag} {mg : Str → Option Value} {base : Heap} {cn : Str → Value} {fa : Addr} {fd : FuncData} (T : Txt K mg) (c_is_plain : Callee Pg w K mg base cn 1 "is_plain" ["value"] sp_is_plain) (D : DefAt K mg "is_integer" s_is_integer ["value"] fa fd) : Callee Pg w K mg base cn 2 "is_integer" ["value"] sp_is_integer :=
  ⟨fa, fd, fn_ok (k := 1) D.fn sc_is_integer k_is_integer (fun cdv A outer s H E hr =>
    (dss_one (ds_ret (de_and (de_fn c_is_plain moSp hr (by decide) (by rfl) (da_cons (de_var 0) da_nil)) (de_one (de_chain op_lt op_lt does_cmp does_cmp gCmp_mono gCmp_mono (do_val (de_j (dj_un1 un_neg does_neg gNeg_mono (do_val (de_gint T.g_FAR (by rfl)))))) (do_slot 0) (do_val (de_gint T.g_FAR (by rfl))))))))), D.mg, D.fn.kp, D.binds⟩
abbrev s_is_polynomial : Stmt := top 21
theorem sc_is_polynomial : FnScope ["value", "number"] ["value"] (defScope s_is_polynomial) := ⟨rfl, rfl, rfl, by decide +kernel, rfl, by decide +kernel, by decide +kernel⟩
set_option maxHeartbeats 4000000 in
theorem ok_is_polynomial {Pg : Program} {w : World} {K : PySem.W.Frag} {mg : Str → Option Value} {base : Heap} {cn : Str → Value} {fa : Addr} {fd : FuncData} (T : Txt K mg) (c_is_integer : Callee Pg w K mg base cn 2 "is_integer" ["value"] sp_is_integer) (D : DefAt K mg "is_polynomial" s_is_polynomial ["value"] fa fd) : Callee Pg w K mg base cn 3 "is_polynomial" ["value"] sp_is_polynomial :=
  ⟨fa, fd, fn_ok (k := 2) D.fn sc_is_polynomial k_is_polynomial (fun cdv A outer s H E hr =>
    (dss_cons (ds_if (dt_w (dw_or (dt_not (dt_val (de_j (dj_callB call_isi does_isi gIsi_mono (by rfl) T.z_isinstance (by decide +kernel) (dao_cons (do_slot 0) (dao_cons (do_val (de_ty (by rfl) T.z_tuple (by decide +kernel))) dao_nil)))))) (dw_or1 (dt_not (dt_chain op_le op_le does_cmp does_cmp gCmp_mono gCmp_mono (do_val de_int) (do_val (de_j (dj_callB cr_lenA does_len gLen_mono (by rfl) T.z_len (by decide +kernel) (dao_cons (do_slot 0) dao_nil)))) (do_val (de_j (dj_op2 op_addA does_add gAdd_mono (do_val (de_gint T.g_MAX_DEGREE (by rfl))) (do_val de_int))))))))) (dss_one (ds_ret de_bl)) dss_nil)
    (dss_one (ds_ret (de_and (de_j (dj_callB (cr_all rfl) does_all gAll_mono (by rfl) T.z_all (by decide +kernel) (dao_cons (do_val (de_j (dj_comp (own := [("number", 1)]) (by decide) rfl sc_is_polynomial.nd (di_seq (de_var 0)) (blkOk_by (own := [("number", 1)]) (N := ["value", "number"]) (sc := defScope s_is_polynomial) (by decide +kernel)) (fun _ _ _ _ _ => (dc_one (i := 1) sc_is_polynomial.nd rfl (by first | exact Or.inl rfl | exact Or.inr rfl))) (fun _ _ _ _ _ => dts_nil) (fun _ _ _ _ _ => (de_fn c_is_integer moSp hr (by decide) (by rfl) (da_cons (de_var 1) da_nil))) moT moE))) dao_nil))) (de_one (de_or (de_j (dj_cmp2 (op_neP hr.units) does_ne gNe_mono (do_val (de_j (dj_ix2 (ix_all (hu_of hr)) does_ix gIx_mono (do_slot 0) (do_val (de_j (dj_un1 un_neg does_neg gNeg_mono (do_val de_int)))) (fun _ _ => rfl)))) (do_val de_int) (nomark _))) (de_one (de_j (dj_cmp2 (op_eqP hr.units) does_eq gEq_mono (do_val (de_j (dj_callB cr_lenA does_len gLen_mono (by rfl) T.z_len (by decide +kernel) (dao_cons (do_slot 0) dao_nil)))) (do_val de_int) (nomark _))))))))))), D.mg, D.fn.kp, D.binds⟩
abbrev s_require_polynomial : Stmt := top 22
theorem sc_require_polynomial : FnScope ["value"] ["value"] (defScope s_require_polynomial) := ⟨rfl, rfl, rfl, by decide +kernel, rfl, by decide +kernel, by decide +kernel⟩
set_option maxHeartbeats 4000000 in
theorem ok_require_polynomial {Pg : Program} {w : World} {K : PySem.W.Frag} {mg : Str → Option Value} {base : Heap} {cn : Str → Value} {fa : Addr} {fd : FuncData} (T : Txt K mg) (c_is_polynomial : Callee Pg w K mg base cn 3 "is_polynomial" ["value"] sp_is_polynomial) (D : DefAt K mg "require_polynomial" s_require_polynomial ["value"] fa fd) : Callee Pg w K mg base cn 4 "require_polynomial" ["value"] sp_require_polynomial :=
  ⟨fa, fd, fn_ok (k := 3) D.fn sc_require_polynomial k_require_polynomial (fun cdv A outer s H E hr =>
    (dss_one (ds_if (dt_not (dt_val (de_fn c_is_polynomial moSp hr (by decide) (by rfl) (da_cons (de_var 0) da_nil)))) (dss_one ds_never) dss_nil))), D.mg, D.fn.kp, D.binds⟩
abbrev s_units_in : Stmt := top 9
theorem sc_units_in : FnScope ["number", "unit"] ["number"] (defScope s_units_in) := ⟨rfl, rfl, rfl, by decide +kernel, rfl, by decide +kernel, by decide +kernel⟩
set_option maxHeartbeats 4000000 in
theorem ok_units_in {Pg : Program} {w : World} {K : PySem.W.Frag} {mg : Str → Option Value} {base : Heap} {cn : Str → Value} {fa : Addr} {fd : FuncData} (T : Txt K mg)  (D : DefAt K mg "units_in" s_units_in ["number"] fa fd) : Callee Pg w K mg base cn 1 "units_in" ["number"] sp_units_in :=
  ⟨fa, fd, fn_ok (k := 0) D.fn sc_units_in k_units_in (fun cdv A outer s H E hr =>
    (dss_one (ds_ret (de_j (dj_comp (own := [("unit", 1)]) (by decide) rfl sc_units_in.nd (di_range2 (by rfl) T.z_range (do_val de_int) (do_val (de_j (dj_op2 op_addA does_add gAdd_mono (do_slot 0) (do_val de_int))))) (blkOk_by (own := [("unit", 1)]) (N := ["number", "unit"]) (sc := defScope s_units_in) (by decide +kernel)) (fun _ _ _ _ _ => (dc_one (i := 1) sc_units_in.nd rfl (by first | exact Or.inl rfl | exact Or.inr rfl))) (fun _ _ _ _ _ => (dts_one (dt_cmp2 (op_eqP hr.units) does_eq gEq_mono (do_val (de_j (dj_callBfun cr_gcd does_gcd gI2_mono (by rfl) T.m_gcd (dao_cons (do_slot 1) (dao_cons (do_slot 0) dao_nil))))) (do_val de_int) (nomark _)))) (fun _ _ _ _ _ => (de_var 1)) moT moE))))), D.mg, D.fn.kp, D.binds⟩
abbrev s_without_end : Stmt := top 15
theorem sc_without_end : FnScope ["line", "size"] ["line"] (defScope s_without_end) := ⟨rfl, rfl, rfl, by decide +kernel, rfl, by decide +kernel, by decide +kernel⟩
set_option maxHeartbeats 4000000 in
theorem ok_without_end {Pg : Program} {w : World} {K : PySem.W.Frag} {mg : Str → Option Value} {base : Heap} {cn : Str → Value} {fa : Addr} {fd : FuncData} (T : Txt K mg)  (D : DefAt K mg "without_end" s_without_end ["line"] fa fd) : Callee Pg w K mg base cn 1 "without_end" ["line"] sp_without_end :=
  ⟨fa, fd, fn_ok (k := 0) D.fn sc_without_end k_without_end (fun cdv A outer s H E hr =>
    (dss_cons (ds_asg (i := 1) (dj_callB cr_lenA does_len gLen_mono (by rfl) T.z_len (by decide +kernel) (dao_cons (do_slot 0) dao_nil)) sc_without_end.nd rfl (by first | exact Or.inl rfl | exact Or.inr rfl))
    (dss_cons (ds_while (passes_of rfl) (dt_w (dw_and (dt_cmp2 op_gt does_cmp gCmp_mono (do_slot 1) (do_val de_int) (nomark _)) (dw_and1 (dt_cmp2 (op_eqP hr.units) does_eq gEq_mono (do_val (de_j (dj_ix2 (ix_all (hu_of hr)) does_ix gIx_mono (do_slot 0) (do_val (de_j (dj_op2 op_subB does_sub gSubA_mono (do_slot 1) (do_val de_int)))) (fun _ _ => rfl)))) (do_val de_int) (nomark _))))) (dss_one (ds_aug (i := 1) iop_sub does_I0 gI0_mono sc_without_end.nd rfl (by first | exact Or.inl rfl | exact Or.inr rfl) (do_val de_int))))
    (dss_one (ds_ret (de_j (dj_callTy cr_tuple does_tuple gTuple_mono (by rfl) T.z_tuple (by decide +kernel) (dao_cons (do_val (de_j (dj_slice (do_slot 0) dpt_none (dpt_some (de_var 1))))) dao_nil)))))))), D.mg, D.fn.kp, D.binds⟩
abbrev s_quotient_of_lines : Stmt := top 16
theorem sc_quotient_of_lines : FnScope ["one", "other", "left", "size", "found", "at", "top", "rest", "place", "number"] ["one", "other"] (defScope s_quotient_of_lines) := ⟨rfl, rfl, rfl, by decide +kernel, rfl, by decide +kernel, by decide +kernel⟩
set_option maxHeartbeats 4000000 in
theorem ok_quotient_of_lines {Pg : Program} {w : World} {K : PySem.W.Frag} {mg : Str → Option Value} {base : Heap} {cn : Str → Value} {fa : Addr} {fd : FuncData} (T : Txt K mg) (c_without_end : Callee Pg w K mg base cn 1 "without_end" ["line"] sp_without_end) (D : DefAt K mg "quotient_of_lines" s_quotient_of_lines ["one", "other"] fa fd) : Callee Pg w K mg base cn 2 "quotient_of_lines" ["one", "other"] sp_quotient_of_lines :=
  ⟨fa, fd, fn_ok (k := 1) D.fn sc_quotient_of_lines k_quotient_of_lines (fun cdv A outer s H E hr =>
    (dss_cons (ds_par2 (i := 2) (j := 3) rfl sc_quotient_of_lines.nd rfl rfl (by decide) rfl rfl (daj_cons (dj_callTy (cr_list rfl) does_list gList_mono (by rfl) T.z_list (by decide +kernel) (dao_cons (do_slot 0) dao_nil)) (daj_cons (dj_callB cr_lenA does_len gLen_mono (by rfl) T.z_len (by decide +kernel) (dao_cons (do_slot 1) dao_nil)) daj_nil)) (by rfl))
    (dss_cons (ds_asg (i := 4) (dj_op2 op_mulA does_mul gMul_mono (do_val (de_j (dj_lst (da_cons de_int da_nil)))) (do_val (de_j (dj_callB (cr_maxA rfl) does_max gMax_mono (by rfl) T.z_max (by decide +kernel) (dao_cons (do_val de_int) (dao_cons (do_val (de_j (dj_op2 op_addA does_add gAdd_mono (do_val (de_j (dj_op2 op_subB does_sub gSubA_mono (do_val (de_j (dj_callB cr_lenA does_len gLen_mono (by rfl) T.z_len (by decide +kernel) (dao_cons (do_slot 0) dao_nil)))) (do_slot 3)))) (do_val de_int)))) dao_nil)))))) sc_quotient_of_lines.nd rfl (by first | exact Or.inl rfl | exact Or.inr rfl))
    (dss_cons (ds_for (passes_of rfl) rfl (di_range3 (by rfl) T.z_range (do_val (de_j (dj_op2 op_subB does_sub gSubA_mono (do_val (de_j (dj_callB cr_lenA does_len gLen_mono (by rfl) T.z_len (by decide +kernel) (dao_cons (do_slot 0) dao_nil)))) (do_slot 3)))) (do_val (de_j (dj_un1 un_neg does_neg gNeg_mono (do_val de_int)))) (do_val (de_j (dj_un1 un_neg does_neg gNeg_mono (do_val de_int))))) (dg_name (i := 5) sc_quotient_of_lines.nd rfl (by first | exact Or.inl rfl | exact Or.inr rfl)) (dss_cons (ds_asgG (de_j (dj_callB cr_divmodM does_divmod gDivmod_mono (by rfl) T.z_divmod (by decide +kernel) (dao_cons (do_val (de_j (dj_ix2 (ix_all (hu_of hr)) does_ix gIx_mono (do_slot 2) (do_val (de_j (dj_op2 op_subB does_sub gSubA_mono (do_val (de_j (dj_op2 op_addA does_add gAdd_mono (do_slot 5) (do_slot 3)))) (do_val de_int)))) (fun _ _ => rfl)))) (dao_cons (do_val (de_j (dj_ix2 (ix_all (hu_of hr)) does_ix gIx_mono (do_slot 1) (do_val (de_j (dj_un1 un_neg does_neg gNeg_mono (do_val de_int)))) (fun _ _ => rfl)))) dao_nil)))) (dg_tup rfl (dgs_cons (dg_name (i := 6) sc_quotient_of_lines.nd rfl (by first | exact Or.inl rfl | exact Or.inr rfl)) (dgs_cons (dg_name (i := 7) sc_quotient_of_lines.nd rfl (by first | exact Or.inl rfl | exact Or.inr rfl)) dgs_nil))))
    (dss_cons (ds_if (dt_cmp2 (op_neP hr.units) does_ne gNe_mono (do_slot 7) (do_val de_int) (nomark _)) (dss_one (ds_ret de_non)) dss_nil)
    (dss_cons (ds_asgG (de_var 6) (dg_sub (i := 4) (hu_of hr) (do_slot 5)))
    (dss_one (ds_for (passes_of rfl) rfl (di_enum (by rfl) T.z_enumerate (de_var 1)) (dg_tup rfl (dgs_cons (dg_name (i := 8) sc_quotient_of_lines.nd rfl (by first | exact Or.inl rfl | exact Or.inr rfl)) (dgs_cons (dg_name (i := 9) sc_quotient_of_lines.nd rfl (by first | exact Or.inl rfl | exact Or.inr rfl)) dgs_nil))) (dss_one (ds_augS (i := 2) iop_sub does_I0 gI0_mono (do_val (de_j (dj_op2 op_addA does_add gAdd_mono (do_slot 5) (do_slot 8)))) (do_val (de_j (dj_op2 op_mulA does_mul gMul_mono (do_slot 6) (do_slot 9))))))))))))
    (dss_one (ds_ret (de_ite (dt_val (de_j (dj_callB (cr_anyBI rfl) does_any gAny_mono (by rfl) T.z_any (by decide +kernel) (dao_cons (do_slot 2) dao_nil)))) de_non (de_fn c_without_end moSp hr (by decide) (by rfl) (da_cons (de_var 4) da_nil))))))))), D.mg, D.fn.kp, D.binds⟩
abbrev s_times_divided : Stmt := top 19
theorem sc_times_divided : FnScope ["line", "factor", "many", "left", "later"] ["line", "factor"] (defScope s_times_divided) := ⟨rfl, rfl, rfl, by decide +kernel, rfl, by decide +kernel, by decide +kernel⟩
set_option maxHeartbeats 4000000 in
theorem ok_times_divided {Pg : Program} {w : World} {K : PySem.W.Frag} {mg : Str → Option Value} {base : Heap} {cn : Str → Value} {fa : Addr} {fd : FuncData} (T : Txt K mg) (c_quotient_of_lines : Callee Pg w K mg base cn 2 "quotient_of_lines" ["one", "other"] sp_quotient_of_lines) (D : DefAt K mg "times_divided" s_times_divided ["line", "factor"] fa fd) : Callee Pg w K mg base cn 3 "times_divided" ["line", "factor"] sp_times_divided :=
  ⟨fa, fd, fn_ok (k := 2) D.fn sc_times_divided k_times_divided (fun cdv A outer s H E hr =>
    (dss_cons (ds_par3 (i := 2) (j := 3) (l := 4) rfl sc_times_divided.nd rfl rfl rfl (by decide) (by decide) (by decide) rfl rfl rfl (daj_cons (dj_e de_int) (daj_cons (dj_e (de_var 0)) (daj_cons (dj_e (de_fn c_quotient_of_lines moSp hr (by decide) (by rfl) (da_cons (de_var 0) (da_cons (de_var 1) da_nil)))) daj_nil))) (by rfl))
    (dss_cons (ds_while (passes_of rfl) (dt_cmp2 op_notN does_notN gNotN_mono (do_slot 4) (do_val de_non) (nomark _)) (dss_one (ds_par3 (i := 2) (j := 3) (l := 4) rfl sc_times_divided.nd rfl rfl rfl (by decide) (by decide) (by decide) rfl rfl rfl (daj_cons (dj_op2 op_addA does_add gAdd_mono (do_slot 2) (do_val de_int)) (daj_cons (dj_e (de_var 4)) (daj_cons (dj_e (de_fn c_quotient_of_lines moSp hr (by decide) (by rfl) (da_cons (de_var 4) (da_cons (de_var 1) da_nil)))) daj_nil))) (by rfl))))
    (dss_one (ds_ret (de_tup (da_cons (de_var 2) (da_cons (de_var 3) da_nil)))))))), D.mg, D.fn.kp, D.binds⟩
abbrev s_factors_in : Stmt := top 8
theorem sc_factors_in : FnScope ["number", "found", "left", "prime"] ["number"] (defScope s_factors_in) := ⟨rfl, rfl, rfl, by decide +kernel, rfl, by decide +kernel, by decide +kernel⟩
set_option maxHeartbeats 4000000 in
theorem ok_factors_in {Pg : Program} {w : World} {K : PySem.W.Frag} {mg : Str → Option Value} {base : Heap} {cn : Str → Value} {fa : Addr} {fd : FuncData} (T : Txt K mg)  (D : DefAt K mg "factors_in" s_factors_in ["number"] fa fd) : Callee Pg w K mg base cn 1 "factors_in" ["number"] sp_factors_in :=
  ⟨fa, fd, fn_ok (k := 0) D.fn sc_factors_in k_factors_in (fun cdv A outer s H E hr =>
    (dss_cons (ds_par3 (i := 1) (j := 2) (l := 3) rfl sc_factors_in.nd rfl rfl rfl (by decide) (by decide) (by decide) rfl rfl rfl (daj_cons dj_dict0 (daj_cons (dj_e (de_var 0)) (daj_cons (dj_e de_int) daj_nil))) (by rfl))
    (dss_cons (ds_while (passes_of rfl) (dt_cmp2 op_le does_cmp gCmp_mono (do_val (de_j (dj_op2 op_mulA does_mul gMul_mono (do_slot 3) (do_slot 3)))) (do_slot 2) (nomark _)) (dss_cons (ds_while (passes_of rfl) (dt_cmp2 (op_eqP hr.units) does_eq gEq_mono (do_val (de_j (dj_op2 op_modM does_II gII_mono (do_slot 2) (do_slot 3)))) (do_val de_int) (nomark _)) (dss_cons (ds_asgG (de_j (dj_op2 op_addA does_add gAdd_mono (do_val (de_get (hu_of hr) (do_slot 1) (do_slot 3) de_int ⟨rfl, rfl, rfl, rfl⟩)) (do_val de_int))) (dg_sub (i := 1) (hu_of hr) (do_slot 3)))
    (dss_one (ds_aug (i := 2) iop_divM does_II gII_mono sc_factors_in.nd rfl (by first | exact Or.inl rfl | exact Or.inr rfl) (do_slot 3)))))
    (dss_one (ds_aug (i := 3) iop_add does_I0 gI0_mono sc_factors_in.nd rfl (by first | exact Or.inl rfl | exact Or.inr rfl) (do_val (de_ite (dt_cmp2 (op_eqP hr.units) does_eq gEq_mono (do_slot 3) (do_val de_int) (nomark _)) de_int de_int))))))
    (dss_cons (ds_if (dt_cmp2 op_gt does_cmp gCmp_mono (do_slot 2) (do_val de_int) (nomark _)) (dss_one (ds_asgG (de_j (dj_op2 op_addA does_add gAdd_mono (do_val (de_get (hu_of hr) (do_slot 1) (do_slot 2) de_int ⟨rfl, rfl, rfl, rfl⟩)) (do_val de_int))) (dg_sub (i := 1) (hu_of hr) (do_slot 2)))) dss_nil)
    (dss_one (ds_ret (de_var 1))))))), D.mg, D.fn.kp, D.binds⟩
abbrev s_stretched : Stmt := top 17
theorem sc_stretched : FnScope ["line", "times", "found", "at", "number"] ["line", "times"] (defScope s_stretched) := ⟨rfl, rfl, rfl, by decide +kernel, rfl, by decide +kernel, by decide +kernel⟩
set_option maxHeartbeats 4000000 in
theorem ok_stretched {Pg : Program} {w : World} {K : PySem.W.Frag} {mg : Str → Option Value} {base : Heap} {cn : Str → Value} {fa : Addr} {fd : FuncData} (T : Txt K mg)  (D : DefAt K mg "stretched" s_stretched ["line", "times"] fa fd) : Callee Pg w K mg base cn 1 "stretched" ["line", "times"] sp_stretched :=
  ⟨fa, fd, fn_ok (k := 0) D.fn sc_stretched k_stretched (fun cdv A outer s H E hr =>
    (dss_cons (ds_asg (i := 2) (dj_op2 op_mulA does_mul gMul_mono (do_val (de_j (dj_lst (da_cons de_int da_nil)))) (do_val (de_j (dj_op2 op_addA does_add gAdd_mono (do_val (de_j (dj_op2 op_mulA does_mul gMul_mono (do_val (de_j (dj_op2 op_subB does_sub gSubA_mono (do_val (de_j (dj_callB cr_lenA does_len gLen_mono (by rfl) T.z_len (by decide +kernel) (dao_cons (do_slot 0) dao_nil)))) (do_val de_int)))) (do_slot 1)))) (do_val de_int))))) sc_stretched.nd rfl (by first | exact Or.inl rfl | exact Or.inr rfl))
    (dss_cons (ds_for (passes_of rfl) rfl (di_enum (by rfl) T.z_enumerate (de_var 0)) (dg_tup rfl (dgs_cons (dg_name (i := 3) sc_stretched.nd rfl (by first | exact Or.inl rfl | exact Or.inr rfl)) (dgs_cons (dg_name (i := 4) sc_stretched.nd rfl (by first | exact Or.inl rfl | exact Or.inr rfl)) dgs_nil))) (dss_one (ds_asgG (de_var 4) (dg_sub (i := 2) (hu_of hr) (do_val (de_j (dj_op2 op_mulA does_mul gMul_mono (do_slot 3) (do_slot 1))))))))
    (dss_one (ds_ret (de_j (dj_callTy cr_tuple does_tuple gTuple_mono (by rfl) T.z_tuple (by decide +kernel) (dao_cons (do_slot 2) dao_nil)))))))), D.mg, D.fn.kp, D.binds⟩
abbrev s_cyclotomic_of : Stmt := top 18
theorem sc_cyclotomic_of : FnScope ["number", "found", "left", "prime"] ["number"] (defScope s_cyclotomic_of) := ⟨rfl, rfl, rfl, by decide +kernel, rfl, by decide +kernel, by decide +kernel⟩
set_option maxHeartbeats 4000000 in
theorem ok_cyclotomic_of {Pg : Program} {w : World} {K : PySem.W.Frag} {mg : Str → Option Value} {base : Heap} {cn : Str → Value} {fa : Addr} {fd : FuncData} (T : Txt K mg) (c_factors_in : Callee Pg w K mg base cn 1 "factors_in" ["number"] sp_factors_in) (c_quotient_of_lines : Callee Pg w K mg base cn 2 "quotient_of_lines" ["one", "other"] sp_quotient_of_lines) (c_stretched : Callee Pg w K mg base cn 1 "stretched" ["line", "times"] sp_stretched) (D : DefAt K mg "cyclotomic_of" s_cyclotomic_of ["number"] fa fd) : Callee Pg w K mg base cn 3 "cyclotomic_of" ["number"] sp_cyclotomic_of :=
  ⟨fa, fd, fn_ok (k := 2) D.fn sc_cyclotomic_of k_cyclotomic_of (fun cdv A outer s H E hr =>
    (dss_cons (ds_par2 (i := 1) (j := 2) rfl sc_cyclotomic_of.nd rfl rfl (by decide) rfl rfl (daj_cons (dj_e (de_tup (da_cons (de_j (dj_un1 un_neg does_neg gNeg_mono (do_val de_int))) (da_cons de_int da_nil)))) (daj_cons (dj_e (de_var 0)) daj_nil)) (by rfl))
    (dss_cons (ds_for (passes_of rfl) rfl (di_keys (de_fn c_factors_in moSp hr (by decide) (by rfl) (da_cons (de_var 0) da_nil))) (dg_name (i := 3) sc_cyclotomic_of.nd rfl (by first | exact Or.inl rfl | exact Or.inr rfl)) (dss_cons (ds_asg (i := 1) (dj_e (de_fn c_quotient_of_lines moSp hr (by decide) (by rfl) (da_cons (de_fn c_stretched moSp hr (by decide) (by rfl) (da_cons (de_var 1) (da_cons (de_var 3) da_nil))) (da_cons (de_var 1) da_nil)))) sc_cyclotomic_of.nd rfl (by first | exact Or.inl rfl | exact Or.inr rfl))
    (dss_one (ds_aug (i := 2) iop_divM does_II gII_mono sc_cyclotomic_of.nd rfl (by first | exact Or.inl rfl | exact Or.inr rfl) (do_slot 3)))))
    (dss_one (ds_ret (de_ite (dt_cmp2 op_gt does_cmp gCmp_mono (do_slot 0) (do_val de_int) (nomark _)) (de_fn c_stretched moSp hr (by decide) (by rfl) (da_cons (de_var 1) (da_cons (de_var 2) da_nil))) (de_var 1))))))), D.mg, D.fn.kp, D.binds⟩
abbrev s_parts_of_line : Stmt := top 20
theorem sc_parts_of_line : FnScope ["polynomial", "found", "left", "number", "many"] ["polynomial"] (defScope s_parts_of_line) := ⟨rfl, rfl, rfl, by decide +kernel, rfl, by decide +kernel, by decide +kernel⟩
set_option maxHeartbeats 4000000 in
theorem ok_parts_of_line {Pg : Program} {w : World} {K : PySem.W.Frag} {mg : Str → Option Value} {base : Heap} {cn : Str → Value} {fa : Addr} {fd : FuncData} (T : Txt K mg) (c_units_in : Callee Pg w K mg base cn 1 "units_in" ["number"] sp_units_in) (c_times_divided : Callee Pg w K mg base cn 3 "times_divided" ["line", "factor"] sp_times_divided) (c_cyclotomic_of : Callee Pg w K mg base cn 3 "cyclotomic_of" ["number"] sp_cyclotomic_of) (D : DefAt K mg "parts_of_line" s_parts_of_line ["polynomial"] fa fd) : Callee Pg w K mg base cn 4 "parts_of_line" ["polynomial"] sp_parts_of_line :=
  ⟨fa, fd, fn_ok (k := 3) D.fn sc_parts_of_line k_parts_of_line (fun cdv A outer s H E hr =>
    (dss_cons (ds_if (dt_w (dw_or (dt_cmp2 (op_eqP hr.units) does_eq gEq_mono (do_slot 0) (do_val (de_gtup T.t_ZERO (by rfl))) (nomark _)) (dw_or1 (dt_cmp2 (op_neP hr.units) does_ne gNe_mono (do_val (de_j (dj_callB call_abs does_abs gI1_mono (by rfl) T.z_abs (by decide +kernel) (dao_cons (do_val (de_j (dj_ix2 (ix_all (hu_of hr)) does_ix gIx_mono (do_slot 0) (do_val de_int) (fun _ _ => rfl)))) dao_nil)))) (do_val de_int) (nomark _))))) (dss_one (ds_ret de_non)) dss_nil)
    (dss_cons (ds_par2 (i := 1) (j := 2) rfl sc_parts_of_line.nd rfl rfl (by decide) rfl rfl (daj_cons dj_dict0 (daj_cons (dj_e (de_var 0)) daj_nil)) (by rfl))
    (dss_cons (ds_for (passes_of rfl) rfl (di_range2 (by rfl) T.z_range (do_val de_int) (do_val (de_j (dj_op2 op_addA does_add gAdd_mono (do_val (de_gint T.g_LAST_PART (by rfl))) (do_val de_int))))) (dg_name (i := 3) sc_parts_of_line.nd rfl (by first | exact Or.inl rfl | exact Or.inr rfl)) (dss_one (ds_if (dt_cmp2 op_lt does_cmp gCmp_mono (do_val (de_j (dj_callB cr_lenA does_len gLen_mono (by rfl) T.z_len (by decide +kernel) (dao_cons (do_val (de_fn c_units_in moSp hr (by decide) (by rfl) (da_cons (de_var 3) da_nil))) dao_nil)))) (do_val (de_j (dj_callB cr_lenA does_len gLen_mono (by rfl) T.z_len (by decide +kernel) (dao_cons (do_slot 2) dao_nil)))) (nomark _)) (dss_cons (ds_asgG (de_fn c_times_divided moSp hr (by decide) (by rfl) (da_cons (de_var 2) (da_cons (de_fn c_cyclotomic_of moSp hr (by decide) (by rfl) (da_cons (de_var 3) da_nil)) da_nil))) (dg_tup rfl (dgs_cons (dg_name (i := 4) sc_parts_of_line.nd rfl (by first | exact Or.inl rfl | exact Or.inr rfl)) (dgs_cons (dg_name (i := 2) sc_parts_of_line.nd rfl (by first | exact Or.inl rfl | exact Or.inr rfl)) dgs_nil))))
    (dss_one (ds_if (dt_cmp2 op_gt does_cmp gCmp_mono (do_slot 4) (do_val de_int) (nomark _)) (dss_one (ds_asgG (de_var 4) (dg_sub (i := 1) (hu_of hr) (do_slot 3)))) dss_nil))) dss_nil)))
    (dss_one (ds_ret (de_ite (dt_cmp2 (op_eqP hr.units) does_eq gEq_mono (do_slot 2) (do_val (de_gtup T.t_ONE (by rfl))) (nomark _)) (de_var 1) de_non))))))), D.mg, D.fn.kp, D.binds⟩
abbrev s_cyclotomic_parts : Stmt := top 23
theorem sc_cyclotomic_parts : FnScope ["polynomial"] ["polynomial"] (defScope s_cyclotomic_parts) := ⟨rfl, rfl, rfl, by decide +kernel, rfl, by decide +kernel, by decide +kernel⟩
set_option maxHeartbeats 4000000 in
theorem ok_cyclotomic_parts {Pg : Program} {w : World} {K : PySem.W.Frag} {mg : Str → Option Value} {base : Heap} {cn : Str → Value} {fa : Addr} {fd : FuncData} (T : Txt K mg) (c_require_polynomial : Callee Pg w K mg base cn 4 "require_polynomial" ["value"] sp_require_polynomial) (c_parts_of_line : Callee Pg w K mg base cn 4 "parts_of_line" ["polynomial"] sp_parts_of_line) (D : DefAt K mg "cyclotomic_parts" s_cyclotomic_parts ["polynomial"] fa fd) : Callee Pg w K mg base cn 5 "cyclotomic_parts" ["polynomial"] sp_cyclotomic_parts :=
  ⟨fa, fd, fn_ok (k := 4) D.fn sc_cyclotomic_parts k_cyclotomic_parts (fun cdv A outer s H E hr =>
    (dss_cons (ds_expr (de_fn c_require_polynomial moSp hr (by decide) (by rfl) (da_cons (de_var 0) da_nil)))
    (dss_one (ds_ret (de_fn c_parts_of_line moSp hr (by decide) (by rfl) (da_cons (de_var 0) da_nil)))))), D.mg, D.fn.kp, D.binds⟩
abbrev s__law_spoilt : Stmt := top 37
theorem sc__law_spoilt : FnScope ["_law_bag_here", "_law_line", "_law_found", "_law_at"] ["_law_bag_here", "_law_line"] (defScope s__law_spoilt) := ⟨rfl, rfl, rfl, by decide +kernel, rfl, by decide +kernel, by decide +kernel⟩
set_option maxHeartbeats 4000000 in
theorem ok__law_spoilt {Pg : Program} {w : World} {K : PySem.W.Frag} {mg : Str → Option Value} {base : Heap} {cn : Str → Value} {fa : Addr} {fd : FuncData} (T : Txt K mg) (c__law_grab : Callee Pg w K mg base cn 1 "_law_grab" ["_law_bag_here", "_law_total"] sp__law_grab) (c__law_one_of : Callee Pg w K mg base cn 2 "_law_one_of" ["_law_bag_here", "_law_items"] sp__law_one_of) (D : DefAt K mg "_law_spoilt" s__law_spoilt ["_law_bag_here", "_law_line"] fa fd) : Callee Pg w K mg base cn 3 "_law_spoilt" ["_law_bag_here", "_law_line"] sp__law_spoilt :=
  ⟨fa, fd, fn_ok (k := 2) D.fn sc__law_spoilt k__law_spoilt (fun cdv A outer s H E hr =>
    (dss_cons (ds_par2 (i := 2) (j := 3) rfl sc__law_spoilt.nd rfl rfl (by decide) rfl rfl (daj_cons (dj_callTy (cr_list rfl) does_list gList_mono (by rfl) T.z_list (by decide +kernel) (dao_cons (do_slot 1) dao_nil)) (daj_cons (dj_e (de_fn c__law_grab moSp hr (by decide) (by rfl) (da_cons (de_var 0) (da_cons (de_j (dj_callB cr_lenA does_len gLen_mono (by rfl) T.z_len (by decide +kernel) (dao_cons (do_slot 1) dao_nil))) da_nil)))) daj_nil)) (by rfl))
    (dss_cons (ds_asgG (de_j (dj_op2 op_addA does_add gAdd_mono (do_val (de_j (dj_ix2 (ix_all (hu_of hr)) does_ix gIx_mono (do_slot 2) (do_slot 3) (fun _ _ => rfl)))) (do_val (de_fn c__law_one_of moSp hr (by decide) (by rfl) (da_cons (de_var 0) (da_cons (de_j (dj_lst (da_cons de_int (da_cons (de_j (dj_un1 un_neg does_neg gNeg_mono (do_val de_int))) (da_cons de_int da_nil))))) da_nil)))))) (dg_sub (i := 2) (hu_of hr) (do_slot 3)))
    (dss_cons (ds_while (passes_of rfl) (dt_w (dw_and (dt_cmp2 op_gt does_cmp gCmp_mono (do_val (de_j (dj_callB cr_lenA does_len gLen_mono (by rfl) T.z_len (by decide +kernel) (dao_cons (do_slot 2) dao_nil)))) (do_val de_int) (nomark _)) (dw_and1 (dt_cmp2 (op_eqP hr.units) does_eq gEq_mono (do_val (de_j (dj_ix2 (ix_all (hu_of hr)) does_ix gIx_mono (do_slot 2) (do_val (de_j (dj_un1 un_neg does_neg gNeg_mono (do_val de_int)))) (fun _ _ => rfl)))) (do_val de_int) (nomark _))))) (dss_one (ds_expr (de_pop (i := 2) (by rfl) (by first | exact Or.inl rfl | exact Or.inr (Or.inl rfl) | exact Or.inr (Or.inr rfl))))))
    (dss_one (ds_ret (de_j (dj_callTy cr_tuple does_tuple gTuple_mono (by rfl) T.z_tuple (by decide +kernel) (dao_cons (do_slot 2) dao_nil))))))))), D.mg, D.fn.kp, D.binds⟩
abbrev s__law_due : Stmt := top 36
theorem sc__law_due : FnScope ["_law_line", "_law_told", "_law_found", "_law_left", "_law_number", "_law_later"] ["_law_line", "_law_told"] (defScope s__law_due) := ⟨rfl, rfl, rfl, by decide +kernel, rfl, by decide +kernel, by decide +kernel⟩
set_option maxHeartbeats 4000000 in
theorem ok__law_due {Pg : Program} {w : World} {K : PySem.W.Frag} {mg : Str → Option Value} {base : Heap} {cn : Str → Value} {fa : Addr} {fd : FuncData} (T : Txt K mg) (c__law_line_over : Callee Pg w K mg base cn 1 "_law_line_over" ["_law_one", "_law_other"] sp__law_line_over) (D : DefAt K mg "_law_due" s__law_due ["_law_line", "_law_told"] fa fd) : Callee Pg w K mg base cn 2 "_law_due" ["_law_line", "_law_told"] sp__law_due :=
  ⟨fa, fd, fn_ok (k := 1) D.fn sc__law_due k__law_due (fun cdv A outer s H E hr =>
    (dss_cons (ds_par2 (i := 2) (j := 3) rfl sc__law_due.nd rfl rfl (by decide) rfl rfl (daj_cons dj_dict0 (daj_cons (dj_e (de_var 0)) daj_nil)) (by rfl))
    (dss_cons (ds_if (dt_cmp2 (op_eqP hr.units) does_eq gEq_mono (do_slot 3) (do_val (de_tup (da_cons de_int da_nil))) (nomark _)) (dss_one (ds_ret de_non)) dss_nil)
    (dss_cons (ds_for (passes_of rfl) rfl (di_seq (de_j (dj_callB (cr_sortedX rfl) does_sorted gSorted_mono (by rfl) T.z_sorted (by decide +kernel) (dao_cons (do_slot 1) dao_nil)))) (dg_name (i := 4) sc__law_due.nd rfl (by first | exact Or.inl rfl | exact Or.inr rfl)) (dss_cons (ds_asg (i := 5) (dj_e (de_fn c__law_line_over moSp hr (by decide) (by rfl) (da_cons (de_var 3) (da_cons (de_j (dj_ix2 (ix_all (hu_of hr)) does_ix gIx_mono (do_slot 1) (do_slot 4) (fun _ _ => rfl))) da_nil)))) sc__law_due.nd rfl (by first | exact Or.inl rfl | exact Or.inr rfl))
    (dss_one (ds_while (passes_of rfl) (dt_cmp2 op_notN does_notN gNotN_mono (do_slot 5) (do_val de_non) (nomark _)) (dss_cons (ds_asgG (de_tup (da_cons (de_j (dj_op2 op_addA does_add gAdd_mono (do_val (de_get (hu_of hr) (do_slot 2) (do_slot 4) de_int ⟨rfl, rfl, rfl, rfl⟩)) (do_val de_int))) (da_cons (de_var 5) da_nil))) (dg_tup rfl (dgs_cons (dg_sub (i := 2) (hu_of hr) (do_slot 4)) (dgs_cons (dg_name (i := 3) sc__law_due.nd rfl (by first | exact Or.inl rfl | exact Or.inr rfl)) dgs_nil))))
    (dss_one (ds_asg (i := 5) (dj_e (de_fn c__law_line_over moSp hr (by decide) (by rfl) (da_cons (de_var 3) (da_cons (de_j (dj_ix2 (ix_all (hu_of hr)) does_ix gIx_mono (do_slot 1) (do_slot 4) (fun _ _ => rfl))) da_nil)))) sc__law_due.nd rfl (by first | exact Or.inl rfl | exact Or.inr rfl))))))))
    (dss_one (ds_ret (de_ite (dt_cmp2 (op_eqP hr.units) does_eq gEq_mono (do_slot 3) (do_val (de_tup (da_cons de_int da_nil))) (nomark _)) (de_var 2) de_non))))))), D.mg, D.fn.kp, D.binds⟩
abbrev s__law_right : Stmt := top 38
theorem sc__law_right : FnScope ["_law_bag_here", "_law_told", "_law_parts", "_law_line", "_law_here", "_law_more", "_law_some", "_law_near", "_law_number"] ["_law_bag_here", "_law_told"] (defScope s__law_right) := ⟨rfl, rfl, rfl, by decide +kernel, rfl, by decide +kernel, by decide +kernel⟩
set_option maxHeartbeats 4000000 in
theorem ok__law_right {Pg : Program} {w : World} {K : PySem.W.Frag} {mg : Str → Option Value} {base : Heap} {cn : Str → Value} {fa : Addr} {fd : FuncData} (T : Txt K mg) (c__law_some_parts : Callee Pg w K mg base cn 3 "_law_some_parts" ["_law_bag_here", "_law_told"] sp__law_some_parts) (c__law_made : Callee Pg w K mg base cn 2 "_law_made" ["_law_parts", "_law_told"] sp__law_made) (c_cyclotomic_parts : Callee Pg w K mg base cn 5 "cyclotomic_parts" ["polynomial"] sp_cyclotomic_parts) (c__law_one_of : Callee Pg w K mg base cn 2 "_law_one_of" ["_law_bag_here", "_law_items"] sp__law_one_of) (c__law_line_times : Callee Pg w K mg base cn 1 "_law_line_times" ["_law_one", "_law_other"] sp__law_line_times) (c__law_spoilt : Callee Pg w K mg base cn 3 "_law_spoilt" ["_law_bag_here", "_law_line"] sp__law_spoilt) (c__law_due : Callee Pg w K mg base cn 2 "_law_due" ["_law_line", "_law_told"] sp__law_due) (D : DefAt K mg "_law_right" s__law_right ["_law_bag_here", "_law_told"] fa fd) : Callee Pg w K mg base cn 6 "_law_right" ["_law_bag_here", "_law_told"] sp__law_right :=
  ⟨fa, fd, fn_ok (k := 5) D.fn sc__law_right k__law_right (fun cdv A outer s H E hr =>
    (dss_cons (ds_asg (i := 2) (dj_e (de_fn c__law_some_parts moSp hr (by decide) (by rfl) (da_cons (de_var 0) (da_cons (de_var 1) da_nil)))) sc__law_right.nd rfl (by first | exact Or.inl rfl | exact Or.inr rfl))
    (dss_cons (ds_asg (i := 3) (dj_e (de_fn c__law_made moSp hr (by decide) (by rfl) (da_cons (de_var 2) (da_cons (de_var 1) da_nil)))) sc__law_right.nd rfl (by first | exact Or.inl rfl | exact Or.inr rfl))
    (dss_cons (ds_asg (i := 4) (dj_e (de_fn c_cyclotomic_parts moSp hr (by decide) (by rfl) (da_cons (de_var 3) da_nil))) sc__law_right.nd rfl (by first | exact Or.inl rfl | exact Or.inr rfl))
    (dss_cons (ds_if (dt_w (dw_or (dt_cmp2 (op_neK hr.units) does_neK gNeK_mono (do_slot 4) (do_slot 2) (nomark _)) (dw_or1 (dt_cmp2 (op_neP hr.units) does_ne gNe_mono (do_val (de_j (dj_callTy (cr_list rfl) does_list gList_mono (by rfl) T.z_list (by decide +kernel) (dao_cons (do_slot 4) dao_nil)))) (do_val (de_j (dj_callTy (cr_list rfl) does_list gList_mono (by rfl) T.z_list (by decide +kernel) (dao_cons (do_slot 2) dao_nil)))) (nomark _))))) (dss_one (ds_ret de_bl)) dss_nil)
    (dss_cons (ds_asg (i := 5) (dj_e (de_fn c__law_one_of moSp hr (by decide) (by rfl) (da_cons (de_var 0) (da_cons (de_j (dj_lst (da_cons (de_tup (da_cons de_int (da_cons de_int (da_cons de_int (da_cons de_int da_nil))))) (da_cons (de_tup (da_cons de_int da_nil)) (da_cons (de_tup (da_cons de_int (da_cons de_int da_nil))) (da_cons (de_tup (da_cons (de_j (dj_un1 un_neg does_neg gNeg_mono (do_val de_int))) da_nil)) (da_cons (de_tup (da_cons de_int (da_cons (de_j (dj_un1 un_neg does_neg gNeg_mono (do_val de_int))) da_nil))) (da_cons (de_tup (da_cons de_int (da_cons de_int (da_cons de_int da_nil)))) (da_cons (de_tup (da_cons de_int (da_cons de_int da_nil))) (da_cons (de_tup (da_cons de_int (da_cons de_int (da_cons de_int da_nil)))) da_nil)))))))))) da_nil)))) sc__law_right.nd rfl (by first | exact Or.inl rfl | exact Or.inr rfl))
    (dss_cons (ds_asg (i := 6) (dj_lst (da_cons (de_fn c__law_spoilt moSp hr (by decide) (by rfl) (da_cons (de_var 0) (da_cons (de_var 3) da_nil))) (da_cons (de_fn c__law_line_times moSp hr (by decide) (by rfl) (da_cons (de_var 3) (da_cons (de_var 5) da_nil))) (da_cons (de_j (dj_callTy cr_tuple does_tuple gTuple_mono (by rfl) T.z_tuple (by decide +kernel) (dao_cons (do_val (de_j (dj_comp (own := [("_law_number", 8)]) (by decide) rfl sc__law_right.nd (di_seq (de_var 3)) (blkOk_by (own := [("_law_number", 8)]) (N := ["_law_bag_here", "_law_told", "_law_parts", "_law_line", "_law_here", "_law_more", "_law_some", "_law_near", "_law_number"]) (sc := defScope s__law_right) (by decide +kernel)) (fun _ _ _ _ _ => (dc_one (i := 8) sc__law_right.nd rfl (by first | exact Or.inl rfl | exact Or.inr rfl))) (fun _ _ _ _ _ => dts_nil) (fun _ _ _ _ _ => (de_j (dj_op2 op_subB does_sub gSubA_mono (do_val de_int) (do_slot 8)))) moT moE))) dao_nil))) (da_cons (de_tup (da_cons de_int da_nil)) (da_cons (de_j (dj_revS (do_slot 3) pe_m1)) da_nil)))))) sc__law_right.nd rfl (by first | exact Or.inl rfl | exact Or.inr rfl))
    (dss_cons (ds_for (passes_of rfl) rfl (di_seq (de_var 6)) (dg_name (i := 7) sc__law_right.nd rfl (by first | exact Or.inl rfl | exact Or.inr rfl)) (dss_one (ds_if (dt_w (dw_and (dt_cmp2 op_le does_cmp gCmp_mono (do_val (de_j (dj_callB cr_lenA does_len gLen_mono (by rfl) T.z_len (by decide +kernel) (dao_cons (do_slot 7) dao_nil)))) (do_val de_int) (nomark _)) (dw_and (dt_cmp2 (op_neP hr.units) does_ne gNe_mono (do_val (de_j (dj_ix2 (ix_all (hu_of hr)) does_ix gIx_mono (do_slot 7) (do_val (de_j (dj_un1 un_neg does_neg gNeg_mono (do_val de_int)))) (fun _ _ => rfl)))) (do_val de_int) (nomark _)) (dw_and1 (dt_cmp2 (op_neK hr.units) does_neK gNeK_mono (do_val (de_fn c_cyclotomic_parts moSp hr (by decide) (by rfl) (da_cons (de_var 7) da_nil))) (do_val (de_fn c__law_due moSp hr (by decide) (by rfl) (da_cons (de_var 7) (da_cons (de_var 1) da_nil)))) (nomark _)))))) (dss_one (ds_ret de_bl)) dss_nil)))
    (dss_one (ds_ret (de_j (dj_cmp2 op_isN does_isN gIsN_mono (do_val (de_fn c_cyclotomic_parts moSp hr (by decide) (by rfl) (da_cons (de_tup (da_cons de_int da_nil)) da_nil))) (do_val de_non) (nomark _))))))))))))), D.mg, D.fn.kp, D.binds⟩
abbrev s_law : Stmt := top 39
theorem sc_law : FnScope ["_law_script", "_law_told", "_law_spot", "_law_bag_here", "_law_some"] ["_law_script"] (defScope s_law) := ⟨rfl, rfl, rfl, by decide +kernel, rfl, by decide +kernel, by decide +kernel⟩
set_option maxHeartbeats 4000000 in
theorem ok_law {Pg : Program} {w : World} {K : PySem.W.Frag} {mg : Str → Option Value} {base : Heap} {cn : Str → Value} {fa : Addr} {fd : FuncData} (T : Txt K mg) (c__law_small_ones : Callee Pg w K mg base cn 3 "_law_small_ones" ["_law_most"] sp__law_small_ones) (c__law_bag : Callee Pg w K mg base cn 1 "_law_bag" ["_law_script", "_law_spot"] sp__law_bag) (c__law_right : Callee Pg w K mg base cn 6 "_law_right" ["_law_bag_here", "_law_told"] sp__law_right) (c_cyclotomic_parts : Callee Pg w K mg base cn 5 "cyclotomic_parts" ["polynomial"] sp_cyclotomic_parts) (D : DefAt K mg "law" s_law ["_law_script"] fa fd) : FnOk Pg w K mg base (L2.CX Pg w) 7 fa fd ["_law_script"] (lift K cn sp_law) :=
  fn_ok (k := 6) D.fn sc_law k_law (fun cdv A outer s H E hr =>
    (dss_cons (ds_asg (i := 1) (dj_e (de_fn c__law_small_ones moSp hr (by decide) (by rfl) (da_cons de_int da_nil))) sc_law.nd rfl (by first | exact Or.inl rfl | exact Or.inr rfl))
    (dss_cons (ds_for (passes_of rfl) rfl (di_range1 (by rfl) T.z_range (do_val (de_j (dj_callB (cr_maxA rfl) does_max gMax_mono (by rfl) T.z_max (by decide +kernel) (dao_cons (do_val de_int) (dao_cons (do_val (de_j (dj_callB (cr_minA rfl) does_min gMin_mono (by rfl) T.z_min (by decide +kernel) (dao_cons (do_val de_int) (dao_cons (do_val (de_j (dj_callB cr_lenA does_len gLen_mono (by rfl) T.z_len (by decide +kernel) (dao_cons (do_slot 0) dao_nil)))) dao_nil))))) dao_nil)))))) (dg_name (i := 2) sc_law.nd rfl (by first | exact Or.inl rfl | exact Or.inr rfl)) (dss_cons (ds_asg (i := 3) (dj_e (de_fn c__law_bag moSp hr (by decide) (by rfl) (da_cons (de_var 0) (da_cons (de_var 2) da_nil)))) sc_law.nd rfl (by first | exact Or.inl rfl | exact Or.inr rfl))
    (dss_one (ds_if (dt_w (dw_or (dt_not (dt_val (de_fn c__law_right moSp hr (by decide) (by rfl) (da_cons (de_var 3) (da_cons (de_var 1) da_nil))))) (dw_or1 (dt_not (dt_val (de_fn c__law_right moSp hr (by decide) (by rfl) (da_cons (de_var 3) (da_cons (de_var 1) da_nil)))))))) (dss_one (ds_ret de_bl)) dss_nil))))
    (dss_cons (ds_asg (i := 4) (dj_lst (da_cons (de_fn c_cyclotomic_parts moSp hr (by decide) (by rfl) (da_cons (de_tup (da_cons (de_j (dj_un1 un_neg does_neg gNeg_mono (do_val de_int))) (da_cons de_int (da_cons de_int (da_cons de_int (da_cons de_int da_nil)))))) da_nil)) (da_cons (de_fn c_cyclotomic_parts moSp hr (by decide) (by rfl) (da_cons (de_tup (da_cons de_int (da_cons (de_j (dj_un1 un_neg does_neg gNeg_mono (do_val de_int))) da_nil))) da_nil)) (da_cons (de_fn c_cyclotomic_parts moSp hr (by decide) (by rfl) (da_cons (de_tup (da_cons de_int da_nil)) da_nil)) (da_cons (de_fn c_cyclotomic_parts moSp hr (by decide) (by rfl) (da_cons (de_tup (da_cons (de_j (dj_un1 un_neg does_neg gNeg_mono (do_val de_int))) da_nil)) da_nil)) da_nil))))) sc_law.nd rfl (by first | exact Or.inl rfl | exact Or.inr rfl))
    (dss_one (ds_ret (de_and (de_j (dj_cmp2 (op_eqK hr.units) does_eqK gEqK_mono (do_slot 4) (do_val (de_j (dj_lst (da_cons (de_j (dj_disp (DPs.cons de_int de_int (DPs.cons de_int de_int (DPs.cons de_int de_int DPs.nil))) (by rfl) (by rfl) (fun z => by cases z) (by decide))) (da_cons de_non (da_cons (de_j dj_dict0) (da_cons de_non da_nil))))))) (nomark _))) (de_one (de_j (dj_cmp2 (op_eqK hr.units) does_eqK gEqK_mono (do_val (de_fn c_cyclotomic_parts moSp hr (by decide) (by rfl) (da_cons (de_tup (da_cons de_int (da_cons de_int (da_cons de_int da_nil)))) da_nil))) (do_val (de_j (dj_disp (DPs.cons de_int de_int DPs.nil) (by rfl) (by rfl) (fun z => by cases z) (by decide)))) (nomark _)))))))))))
set_option maxHeartbeats 0 in
theorem all_mk {l : PySem.W.OpenLaw} {w : World} {K : PySem.W.Frag} {h : Heap} {mg : Str → Option Value} {fa : Addr} (X : K.In h) (G : h.Ns mainGlobals mg) (hfa : mg "law" = some (.ref fa))
    (z_abs : PySem.W.nsIn K mainGlobals "abs" = some none)
    (z_all : PySem.W.nsIn K mainGlobals "all" = some none)
    (z_any : PySem.W.nsIn K mainGlobals "any" = some none)
    (z_bool : PySem.W.nsIn K mainGlobals "bool" = some none)
    (z_dict : PySem.W.nsIn K mainGlobals "dict" = some none)
    (z_divmod : PySem.W.nsIn K mainGlobals "divmod" = some none)
    (z_enumerate : PySem.W.nsIn K mainGlobals "enumerate" = some none)
    (z_int : PySem.W.nsIn K mainGlobals "int" = some none)
    (z_isinstance : PySem.W.nsIn K mainGlobals "isinstance" = some none)
    (z_len : PySem.W.nsIn K mainGlobals "len" = some none)
    (z_list : PySem.W.nsIn K mainGlobals "list" = some none)
    (z_max : PySem.W.nsIn K mainGlobals "max" = some none)
    (z_min : PySem.W.nsIn K mainGlobals "min" = some none)
    (z_range : PySem.W.nsIn K mainGlobals "range" = some none)
    (z_sorted : PySem.W.nsIn K mainGlobals "sorted" = some none)
    (z_sum : PySem.W.nsIn K mainGlobals "sum" = some none)
    (z_tuple : PySem.W.nsIn K mainGlobals "tuple" = some none)
    {t_FAR : Tok}
    (g_FAR : PySem.W.nsIn K mainGlobals "FAR" = some (some (.int 1000000000000000000000000000000000000000000000000000000000000 t_FAR)))
    {t_LAST_PART : Tok}
    (g_LAST_PART : PySem.W.nsIn K mainGlobals "LAST_PART" = some (some (.int 150 t_LAST_PART)))
    {t_MAX_DEGREE : Tok}
    (g_MAX_DEGREE : PySem.W.nsIn K mainGlobals "MAX_DEGREE" = some (some (.int 40 t_MAX_DEGREE)))
    (m_gcd : PySem.W.nsIn K mainGlobals "gcd" = some (some (.builtin "math.gcd")))
    {q_ONE : Addr} {dq_ONE : Option Addr} {nq_ONE : Nat} {sq_ONE : Array (Option Value)} {tq_ONE0 : Tok}
    (t_ONE : PySem.W.nsIn K mainGlobals "ONE" = some (some (.ref q_ONE)))
    (lq_ONE : K.lookup q_ONE = some ⟨.type "tuple", dq_ONE, .seq #[.int 1 tq_ONE0] nq_ONE, sq_ONE⟩)
    {q_ZERO : Addr} {dq_ZERO : Option Addr} {nq_ZERO : Nat} {sq_ZERO : Array (Option Value)} {tq_ZERO0 : Tok}
    (t_ZERO : PySem.W.nsIn K mainGlobals "ZERO" = some (some (.ref q_ZERO)))
    (lq_ZERO : K.lookup q_ZERO = some ⟨.type "tuple", dq_ZERO, .seq #[.int 0 tq_ZERO0] nq_ZERO, sq_ZERO⟩)
    {f0 : Addr} {od0 an0 : Option Addr} {sl0 : Array (Option Value)} {oc0 kV0 dc0 pm0 cd0 ct0 : Value}
    (a0 : PySem.W.nsIn K mainGlobals "_law_common" = some (some (.ref f0)))
    (l0 : K.lookup f0 = some ⟨oc0, od0, .func (PySem.W.fnOf "_law_common" "_law_common" (defArgs s__law_common) (defBody s__law_common) (defScope s__law_common) .none kV0 dc0 pm0 an0 cd0 ct0), sl0⟩)
    (c0 : PySem.W.codeIn K cd0 "_law_common" = true)
    (k0 : PySem.W.keepIn K (.ref f0) = true)
    {f1 : Addr} {od1 an1 : Option Addr} {sl1 : Array (Option Value)} {oc1 kV1 dc1 pm1 cd1 ct1 : Value}
    (a1 : PySem.W.nsIn K mainGlobals "_law_units" = some (some (.ref f1)))
    (l1 : K.lookup f1 = some ⟨oc1, od1, .func (PySem.W.fnOf "_law_units" "_law_units" (defArgs s__law_units) (defBody s__law_units) (defScope s__law_units) .none kV1 dc1 pm1 an1 cd1 ct1), sl1⟩)
    (c1 : PySem.W.codeIn K cd1 "_law_units" = true)
    (k1 : PySem.W.keepIn K (.ref f1) = true)
    {f2 : Addr} {od2 an2 : Option Addr} {sl2 : Array (Option Value)} {oc2 kV2 dc2 pm2 cd2 ct2 : Value}
    (a2 : PySem.W.nsIn K mainGlobals "_law_line_over" = some (some (.ref f2)))
    (l2 : K.lookup f2 = some ⟨oc2, od2, .func (PySem.W.fnOf "_law_line_over" "_law_line_over" (defArgs s__law_line_over) (defBody s__law_line_over) (defScope s__law_line_over) .none kV2 dc2 pm2 an2 cd2 ct2), sl2⟩)
    (c2 : PySem.W.codeIn K cd2 "_law_line_over" = true)
    (k2 : PySem.W.keepIn K (.ref f2) = true)
    {f3 : Addr} {od3 an3 : Option Addr} {sl3 : Array (Option Value)} {oc3 kV3 dc3 pm3 cd3 ct3 : Value}
    (a3 : PySem.W.nsIn K mainGlobals "_law_cyclotomic" = some (some (.ref f3)))
    (l3 : K.lookup f3 = some ⟨oc3, od3, .func (PySem.W.fnOf "_law_cyclotomic" "_law_cyclotomic" (defArgs s__law_cyclotomic) (defBody s__law_cyclotomic) (defScope s__law_cyclotomic) .none kV3 dc3 pm3 an3 cd3 ct3), sl3⟩)
    (c3 : PySem.W.codeIn K cd3 "_law_cyclotomic" = true)
    (k3 : PySem.W.keepIn K (.ref f3) = true)
    {f4 : Addr} {od4 an4 : Option Addr} {sl4 : Array (Option Value)} {oc4 kV4 dc4 pm4 cd4 ct4 : Value}
    (a4 : PySem.W.nsIn K mainGlobals "_law_small_ones" = some (some (.ref f4)))
    (l4 : K.lookup f4 = some ⟨oc4, od4, .func (PySem.W.fnOf "_law_small_ones" "_law_small_ones" (defArgs s__law_small_ones) (defBody s__law_small_ones) (defScope s__law_small_ones) .none kV4 dc4 pm4 an4 cd4 ct4), sl4⟩)
    (c4 : PySem.W.codeIn K cd4 "_law_small_ones" = true)
    (k4 : PySem.W.keepIn K (.ref f4) = true)
    {f5 : Addr} {od5 an5 : Option Addr} {sl5 : Array (Option Value)} {oc5 kV5 dc5 pm5 cd5 ct5 : Value}
    (a5 : PySem.W.nsIn K mainGlobals "_law_bag" = some (some (.ref f5)))
    (l5 : K.lookup f5 = some ⟨oc5, od5, .func (PySem.W.fnOf "_law_bag" "_law_bag" (defArgs s__law_bag) (defBody s__law_bag) (defScope s__law_bag) .none kV5 dc5 pm5 an5 cd5 ct5), sl5⟩)
    (c5 : PySem.W.codeIn K cd5 "_law_bag" = true)
    (k5 : PySem.W.keepIn K (.ref f5) = true)
    {f6 : Addr} {od6 an6 : Option Addr} {sl6 : Array (Option Value)} {oc6 kV6 dc6 pm6 cd6 ct6 : Value}
    (a6 : PySem.W.nsIn K mainGlobals "_law_grab" = some (some (.ref f6)))
    (l6 : K.lookup f6 = some ⟨oc6, od6, .func (PySem.W.fnOf "_law_grab" "_law_grab" (defArgs s__law_grab) (defBody s__law_grab) (defScope s__law_grab) .none kV6 dc6 pm6 an6 cd6 ct6), sl6⟩)
    (c6 : PySem.W.codeIn K cd6 "_law_grab" = true)
    (k6 : PySem.W.keepIn K (.ref f6) = true)
    {f7 : Addr} {od7 an7 : Option Addr} {sl7 : Array (Option Value)} {oc7 kV7 dc7 pm7 cd7 ct7 : Value}
    (a7 : PySem.W.nsIn K mainGlobals "_law_one_of" = some (some (.ref f7)))
    (l7 : K.lookup f7 = some ⟨oc7, od7, .func (PySem.W.fnOf "_law_one_of" "_law_one_of" (defArgs s__law_one_of) (defBody s__law_one_of) (defScope s__law_one_of) .none kV7 dc7 pm7 an7 cd7 ct7), sl7⟩)
    (c7 : PySem.W.codeIn K cd7 "_law_one_of" = true)
    (k7 : PySem.W.keepIn K (.ref f7) = true)
    {f8 : Addr} {od8 an8 : Option Addr} {sl8 : Array (Option Value)} {oc8 kV8 dc8 pm8 cd8 ct8 : Value}
    (a8 : PySem.W.nsIn K mainGlobals "_law_some_parts" = some (some (.ref f8)))
    (l8 : K.lookup f8 = some ⟨oc8, od8, .func (PySem.W.fnOf "_law_some_parts" "_law_some_parts" (defArgs s__law_some_parts) (defBody s__law_some_parts) (defScope s__law_some_parts) .none kV8 dc8 pm8 an8 cd8 ct8), sl8⟩)
    (c8 : PySem.W.codeIn K cd8 "_law_some_parts" = true)
    (k8 : PySem.W.keepIn K (.ref f8) = true)
    {f9 : Addr} {od9 an9 : Option Addr} {sl9 : Array (Option Value)} {oc9 kV9 dc9 pm9 cd9 ct9 : Value}
    (a9 : PySem.W.nsIn K mainGlobals "_law_line_times" = some (some (.ref f9)))
    (l9 : K.lookup f9 = some ⟨oc9, od9, .func (PySem.W.fnOf "_law_line_times" "_law_line_times" (defArgs s__law_line_times) (defBody s__law_line_times) (defScope s__law_line_times) .none kV9 dc9 pm9 an9 cd9 ct9), sl9⟩)
    (c9 : PySem.W.codeIn K cd9 "_law_line_times" = true)
    (k9 : PySem.W.keepIn K (.ref f9) = true)
    {f10 : Addr} {od10 an10 : Option Addr} {sl10 : Array (Option Value)} {oc10 kV10 dc10 pm10 cd10 ct10 : Value}
    (a10 : PySem.W.nsIn K mainGlobals "_law_made" = some (some (.ref f10)))
    (l10 : K.lookup f10 = some ⟨oc10, od10, .func (PySem.W.fnOf "_law_made" "_law_made" (defArgs s__law_made) (defBody s__law_made) (defScope s__law_made) .none kV10 dc10 pm10 an10 cd10 ct10), sl10⟩)
    (c10 : PySem.W.codeIn K cd10 "_law_made" = true)
    (k10 : PySem.W.keepIn K (.ref f10) = true)
    {f11 : Addr} {od11 an11 : Option Addr} {sl11 : Array (Option Value)} {oc11 kV11 dc11 pm11 cd11 ct11 : Value}
    (a11 : PySem.W.nsIn K mainGlobals "is_plain" = some (some (.ref f11)))
    (l11 : K.lookup f11 = some ⟨oc11, od11, .func (PySem.W.fnOf "is_plain" "is_plain" (defArgs s_is_plain) (defBody s_is_plain) (defScope s_is_plain) .none kV11 dc11 pm11 an11 cd11 ct11), sl11⟩)
    (c11 : PySem.W.codeIn K cd11 "is_plain" = true)
    (k11 : PySem.W.keepIn K (.ref f11) = true)
    {f12 : Addr} {od12 an12 : Option Addr} {sl12 : Array (Option Value)} {oc12 kV12 dc12 pm12 cd12 ct12 : Value}
    (a12 : PySem.W.nsIn K mainGlobals "is_integer" = some (some (.ref f12)))
    (l12 : K.lookup f12 = some ⟨oc12, od12, .func (PySem.W.fnOf "is_integer" "is_integer" (defArgs s_is_integer) (defBody s_is_integer) (defScope s_is_integer) .none kV12 dc12 pm12 an12 cd12 ct12), sl12⟩)
    (c12 : PySem.W.codeIn K cd12 "is_integer" = true)
    (k12 : PySem.W.keepIn K (.ref f12) = true)
    {f13 : Addr} {od13 an13 : Option Addr} {sl13 : Array (Option Value)} {oc13 kV13 dc13 pm13 cd13 ct13 : Value}
    (a13 : PySem.W.nsIn K mainGlobals "is_polynomial" = some (some (.ref f13)))
    (l13 : K.lookup f13 = some ⟨oc13, od13, .func (PySem.W.fnOf "is_polynomial" "is_polynomial" (defArgs s_is_polynomial) (defBody s_is_polynomial) (defScope s_is_polynomial) .none kV13 dc13 pm13 an13 cd13 ct13), sl13⟩)
    (c13 : PySem.W.codeIn K cd13 "is_polynomial" = true)
    (k13 : PySem.W.keepIn K (.ref f13) = true)
    {f14 : Addr} {od14 an14 : Option Addr} {sl14 : Array (Option Value)} {oc14 kV14 dc14 pm14 cd14 ct14 : Value}
    (a14 : PySem.W.nsIn K mainGlobals "require_polynomial" = some (some (.ref f14)))
    (l14 : K.lookup f14 = some ⟨oc14, od14, .func (PySem.W.fnOf "require_polynomial" "require_polynomial" (defArgs s_require_polynomial) (defBody s_require_polynomial) (defScope s_require_polynomial) .none kV14 dc14 pm14 an14 cd14 ct14), sl14⟩)
    (c14 : PySem.W.codeIn K cd14 "require_polynomial" = true)
    (k14 : PySem.W.keepIn K (.ref f14) = true)
    {f15 : Addr} {od15 an15 : Option Addr} {sl15 : Array (Option Value)} {oc15 kV15 dc15 pm15 cd15 ct15 : Value}
    (a15 : PySem.W.nsIn K mainGlobals "units_in" = some (some (.ref f15)))
    (l15 : K.lookup f15 = some ⟨oc15, od15, .func (PySem.W.fnOf "units_in" "units_in" (defArgs s_units_in) (defBody s_units_in) (defScope s_units_in) .none kV15 dc15 pm15 an15 cd15 ct15), sl15⟩)
    (c15 : PySem.W.codeIn K cd15 "units_in" = true)
    (k15 : PySem.W.keepIn K (.ref f15) = true)
    {f16 : Addr} {od16 an16 : Option Addr} {sl16 : Array (Option Value)} {oc16 kV16 dc16 pm16 cd16 ct16 : Value}
    (a16 : PySem.W.nsIn K mainGlobals "without_end" = some (some (.ref f16)))
    (l16 : K.lookup f16 = some ⟨oc16, od16, .func (PySem.W.fnOf "without_end" "without_end" (defArgs s_without_end) (defBody s_without_end) (defScope s_without_end) .none kV16 dc16 pm16 an16 cd16 ct16), sl16⟩)
    (c16 : PySem.W.codeIn K cd16 "without_end" = true)
    (k16 : PySem.W.keepIn K (.ref f16) = true)
    {f17 : Addr} {od17 an17 : Option Addr} {sl17 : Array (Option Value)} {oc17 kV17 dc17 pm17 cd17 ct17 : Value}
    (a17 : PySem.W.nsIn K mainGlobals "quotient_of_lines" = some (some (.ref f17)))
    (l17 : K.lookup f17 = some ⟨oc17, od17, .func (PySem.W.fnOf "quotient_of_lines" "quotient_of_lines" (defArgs s_quotient_of_lines) (defBody s_quotient_of_lines) (defScope s_quotient_of_lines) .none kV17 dc17 pm17 an17 cd17 ct17), sl17⟩)
    (c17 : PySem.W.codeIn K cd17 "quotient_of_lines" = true)
    (k17 : PySem.W.keepIn K (.ref f17) = true)
    {f18 : Addr} {od18 an18 : Option Addr} {sl18 : Array (Option Value)} {oc18 kV18 dc18 pm18 cd18 ct18 : Value}
    (a18 : PySem.W.nsIn K mainGlobals "times_divided" = some (some (.ref f18)))
    (l18 : K.lookup f18 = some ⟨oc18, od18, .func (PySem.W.fnOf "times_divided" "times_divided" (defArgs s_times_divided) (defBody s_times_divided) (defScope s_times_divided) .none kV18 dc18 pm18 an18 cd18 ct18), sl18⟩)
    (c18 : PySem.W.codeIn K cd18 "times_divided" = true)
    (k18 : PySem.W.keepIn K (.ref f18) = true)
    {f19 : Addr} {od19 an19 : Option Addr} {sl19 : Array (Option Value)} {oc19 kV19 dc19 pm19 cd19 ct19 : Value}
    (a19 : PySem.W.nsIn K mainGlobals "factors_in" = some (some (.ref f19)))
    (l19 : K.lookup f19 = some ⟨oc19, od19, .func (PySem.W.fnOf "factors_in" "factors_in" (defArgs s_factors_in) (defBody s_factors_in) (defScope s_factors_in) .none kV19 dc19 pm19 an19 cd19 ct19), sl19⟩)
    (c19 : PySem.W.codeIn K cd19 "factors_in" = true)
    (k19 : PySem.W.keepIn K (.ref f19) = true)
    {f20 : Addr} {od20 an20 : Option Addr} {sl20 : Array (Option Value)} {oc20 kV20 dc20 pm20 cd20 ct20 : Value}
    (a20 : PySem.W.nsIn K mainGlobals "stretched" = some (some (.ref f20)))
    (l20 : K.lookup f20 = some ⟨oc20, od20, .func (PySem.W.fnOf "stretched" "stretched" (defArgs s_stretched) (defBody s_stretched) (defScope s_stretched) .none kV20 dc20 pm20 an20 cd20 ct20), sl20⟩)
    (c20 : PySem.W.codeIn K cd20 "stretched" = true)
    (k20 : PySem.W.keepIn K (.ref f20) = true)
    {f21 : Addr} {od21 an21 : Option Addr} {sl21 : Array (Option Value)} {oc21 kV21 dc21 pm21 cd21 ct21 : Value}
    (a21 : PySem.W.nsIn K mainGlobals "cyclotomic_of" = some (some (.ref f21)))
    (l21 : K.lookup f21 = some ⟨oc21, od21, .func (PySem.W.fnOf "cyclotomic_of" "cyclotomic_of" (defArgs s_cyclotomic_of) (defBody s_cyclotomic_of) (defScope s_cyclotomic_of) .none kV21 dc21 pm21 an21 cd21 ct21), sl21⟩)
    (c21 : PySem.W.codeIn K cd21 "cyclotomic_of" = true)
    (k21 : PySem.W.keepIn K (.ref f21) = true)
    {f22 : Addr} {od22 an22 : Option Addr} {sl22 : Array (Option Value)} {oc22 kV22 dc22 pm22 cd22 ct22 : Value}
    (a22 : PySem.W.nsIn K mainGlobals "parts_of_line" = some (some (.ref f22)))
    (l22 : K.lookup f22 = some ⟨oc22, od22, .func (PySem.W.fnOf "parts_of_line" "parts_of_line" (defArgs s_parts_of_line) (defBody s_parts_of_line) (defScope s_parts_of_line) .none kV22 dc22 pm22 an22 cd22 ct22), sl22⟩)
    (c22 : PySem.W.codeIn K cd22 "parts_of_line" = true)
    (k22 : PySem.W.keepIn K (.ref f22) = true)
    {f23 : Addr} {od23 an23 : Option Addr} {sl23 : Array (Option Value)} {oc23 kV23 dc23 pm23 cd23 ct23 : Value}
    (a23 : PySem.W.nsIn K mainGlobals "cyclotomic_parts" = some (some (.ref f23)))
    (l23 : K.lookup f23 = some ⟨oc23, od23, .func (PySem.W.fnOf "cyclotomic_parts" "cyclotomic_parts" (defArgs s_cyclotomic_parts) (defBody s_cyclotomic_parts) (defScope s_cyclotomic_parts) .none kV23 dc23 pm23 an23 cd23 ct23), sl23⟩)
    (c23 : PySem.W.codeIn K cd23 "cyclotomic_parts" = true)
    (k23 : PySem.W.keepIn K (.ref f23) = true)
    {f24 : Addr} {od24 an24 : Option Addr} {sl24 : Array (Option Value)} {oc24 kV24 dc24 pm24 cd24 ct24 : Value}
    (a24 : PySem.W.nsIn K mainGlobals "_law_spoilt" = some (some (.ref f24)))
    (l24 : K.lookup f24 = some ⟨oc24, od24, .func (PySem.W.fnOf "_law_spoilt" "_law_spoilt" (defArgs s__law_spoilt) (defBody s__law_spoilt) (defScope s__law_spoilt) .none kV24 dc24 pm24 an24 cd24 ct24), sl24⟩)
    (c24 : PySem.W.codeIn K cd24 "_law_spoilt" = true)
    (k24 : PySem.W.keepIn K (.ref f24) = true)
    {f25 : Addr} {od25 an25 : Option Addr} {sl25 : Array (Option Value)} {oc25 kV25 dc25 pm25 cd25 ct25 : Value}
    (a25 : PySem.W.nsIn K mainGlobals "_law_due" = some (some (.ref f25)))
    (l25 : K.lookup f25 = some ⟨oc25, od25, .func (PySem.W.fnOf "_law_due" "_law_due" (defArgs s__law_due) (defBody s__law_due) (defScope s__law_due) .none kV25 dc25 pm25 an25 cd25 ct25), sl25⟩)
    (c25 : PySem.W.codeIn K cd25 "_law_due" = true)
    (k25 : PySem.W.keepIn K (.ref f25) = true)
    {f26 : Addr} {od26 an26 : Option Addr} {sl26 : Array (Option Value)} {oc26 kV26 dc26 pm26 cd26 ct26 : Value}
    (a26 : PySem.W.nsIn K mainGlobals "_law_right" = some (some (.ref f26)))
    (l26 : K.lookup f26 = some ⟨oc26, od26, .func (PySem.W.fnOf "_law_right" "_law_right" (defArgs s__law_right) (defBody s__law_right) (defScope s__law_right) .none kV26 dc26 pm26 an26 cd26 ct26), sl26⟩)
    (c26 : PySem.W.codeIn K cd26 "_law_right" = true)
    (k26 : PySem.W.keepIn K (.ref f26) = true)
    {f27 : Addr} {od27 an27 : Option Addr} {sl27 : Array (Option Value)} {oc27 kV27 dc27 pm27 cd27 ct27 : Value}
    (a27 : PySem.W.nsIn K mainGlobals "law" = some (some (.ref f27)))
    (l27 : K.lookup f27 = some ⟨oc27, od27, .func (PySem.W.fnOf "law" "law" (defArgs s_law) (defBody s_law) (defScope s_law) .none kV27 dc27 pm27 an27 cd27 ct27), sl27⟩)
    (c27 : PySem.W.codeIn K cd27 "law" = true)
    (k27 : PySem.W.keepIn K (.ref f27) = true) :
    ∃ fd : FuncData, (∀ (s : Shared) (v : Value), BindsTo s fd ⟨[v], []⟩ [("_law_script", v)]) ∧ ∀ base : Heap, K.In base → base.Ns mainGlobals mg → FnOk l.prog w K mg base (L2.CX l.prog w) 7 fa fd ["_law_script"] (lift K (fun _ => .none) spLaw) := by
  have e := hfa.symm.trans (PySem.W.mg_of X G a27)
  cases e
  have T : Txt K mg := ⟨PySem.W.mg_none_of X G z_abs, PySem.W.mg_none_of X G z_all, PySem.W.mg_none_of X G z_any, PySem.W.mg_none_of X G z_bool, PySem.W.mg_none_of X G z_dict, PySem.W.mg_none_of X G z_divmod, PySem.W.mg_none_of X G z_enumerate, PySem.W.mg_none_of X G z_int, PySem.W.mg_none_of X G z_isinstance, PySem.W.mg_none_of X G z_len, PySem.W.mg_none_of X G z_list, PySem.W.mg_none_of X G z_max, PySem.W.mg_none_of X G z_min, PySem.W.mg_none_of X G z_range, PySem.W.mg_none_of X G z_sorted, PySem.W.mg_none_of X G z_sum, PySem.W.mg_none_of X G z_tuple, ⟨t_FAR, PySem.W.mg_of X G g_FAR⟩, ⟨t_LAST_PART, PySem.W.mg_of X G g_LAST_PART⟩, ⟨t_MAX_DEGREE, PySem.W.mg_of X G g_MAX_DEGREE⟩, PySem.W.mg_of X G m_gcd, ⟨_, PySem.W.mg_of X G t_ONE, _, _, _, lq_ONE, rfl, rfl, by size_fits, (Paired.cons ⟨_, rfl⟩ Paired.nil)⟩, ⟨_, PySem.W.mg_of X G t_ZERO, _, _, _, lq_ZERO, rfl, rfl, by size_fits, (Paired.cons ⟨_, rfl⟩ Paired.nil)⟩⟩
  have D0 : DefAt K mg "_law_common" s__law_common ["_law_numbers"] f0 _ := def_at X G a0 l0 c0 k0 (fun _ _ _ _ _ _ us hl => match us, hl with | [_], _ => rfl)
  have D1 : DefAt K mg "_law_units" s__law_units ["_law_number"] f1 _ := def_at X G a1 l1 c1 k1 (fun _ _ _ _ _ _ us hl => match us, hl with | [_], _ => rfl)
  have D2 : DefAt K mg "_law_line_over" s__law_line_over ["_law_one", "_law_other"] f2 _ := def_at X G a2 l2 c2 k2 (fun _ _ _ _ _ _ us hl => match us, hl with | [_, _], _ => rfl)
  have D3 : DefAt K mg "_law_cyclotomic" s__law_cyclotomic ["_law_number"] f3 _ := def_at X G a3 l3 c3 k3 (fun _ _ _ _ _ _ us hl => match us, hl with | [_], _ => rfl)
  have D4 : DefAt K mg "_law_small_ones" s__law_small_ones ["_law_most"] f4 _ := def_at X G a4 l4 c4 k4 (fun _ _ _ _ _ _ us hl => match us, hl with | [_], _ => rfl)
  have D5 : DefAt K mg "_law_bag" s__law_bag ["_law_script", "_law_spot"] f5 _ := def_at X G a5 l5 c5 k5 (fun _ _ _ _ _ _ us hl => match us, hl with | [_, _], _ => rfl)
  have D6 : DefAt K mg "_law_grab" s__law_grab ["_law_bag_here", "_law_total"] f6 _ := def_at X G a6 l6 c6 k6 (fun _ _ _ _ _ _ us hl => match us, hl with | [_, _], _ => rfl)
  have D7 : DefAt K mg "_law_one_of" s__law_one_of ["_law_bag_here", "_law_items"] f7 _ := def_at X G a7 l7 c7 k7 (fun _ _ _ _ _ _ us hl => match us, hl with | [_, _], _ => rfl)
  have D8 : DefAt K mg "_law_some_parts" s__law_some_parts ["_law_bag_here", "_law_told"] f8 _ := def_at X G a8 l8 c8 k8 (fun _ _ _ _ _ _ us hl => match us, hl with | [_, _], _ => rfl)
  have D9 : DefAt K mg "_law_line_times" s__law_line_times ["_law_one", "_law_other"] f9 _ := def_at X G a9 l9 c9 k9 (fun _ _ _ _ _ _ us hl => match us, hl with | [_, _], _ => rfl)
  have D10 : DefAt K mg "_law_made" s__law_made ["_law_parts", "_law_told"] f10 _ := def_at X G a10 l10 c10 k10 (fun _ _ _ _ _ _ us hl => match us, hl with | [_, _], _ => rfl)
  have D11 : DefAt K mg "is_plain" s_is_plain ["value"] f11 _ := def_at X G a11 l11 c11 k11 (fun _ _ _ _ _ _ us hl => match us, hl with | [_], _ => rfl)
  have D12 : DefAt K mg "is_integer" s_is_integer ["value"] f12 _ := def_at X G a12 l12 c12 k12 (fun _ _ _ _ _ _ us hl => match us, hl with | [_], _ => rfl)
  have D13 : DefAt K mg "is_polynomial" s_is_polynomial ["value"] f13 _ := def_at X G a13 l13 c13 k13 (fun _ _ _ _ _ _ us hl => match us, hl with | [_], _ => rfl)
  have D14 : DefAt K mg "require_polynomial" s_require_polynomial ["value"] f14 _ := def_at X G a14 l14 c14 k14 (fun _ _ _ _ _ _ us hl => match us, hl with | [_], _ => rfl)
  have D15 : DefAt K mg "units_in" s_units_in ["number"] f15 _ := def_at X G a15 l15 c15 k15 (fun _ _ _ _ _ _ us hl => match us, hl with | [_], _ => rfl)
  have D16 : DefAt K mg "without_end" s_without_end ["line"] f16 _ := def_at X G a16 l16 c16 k16 (fun _ _ _ _ _ _ us hl => match us, hl with | [_], _ => rfl)
  have D17 : DefAt K mg "quotient_of_lines" s_quotient_of_lines ["one", "other"] f17 _ := def_at X G a17 l17 c17 k17 (fun _ _ _ _ _ _ us hl => match us, hl with | [_, _], _ => rfl)
  have D18 : DefAt K mg "times_divided" s_times_divided ["line", "factor"] f18 _ := def_at X G a18 l18 c18 k18 (fun _ _ _ _ _ _ us hl => match us, hl with | [_, _], _ => rfl)
  have D19 : DefAt K mg "factors_in" s_factors_in ["number"] f19 _ := def_at X G a19 l19 c19 k19 (fun _ _ _ _ _ _ us hl => match us, hl with | [_], _ => rfl)
  have D20 : DefAt K mg "stretched" s_stretched ["line", "times"] f20 _ := def_at X G a20 l20 c20 k20 (fun _ _ _ _ _ _ us hl => match us, hl with | [_, _], _ => rfl)
  have D21 : DefAt K mg "cyclotomic_of" s_cyclotomic_of ["number"] f21 _ := def_at X G a21 l21 c21 k21 (fun _ _ _ _ _ _ us hl => match us, hl with | [_], _ => rfl)
  have D22 : DefAt K mg "parts_of_line" s_parts_of_line ["polynomial"] f22 _ := def_at X G a22 l22 c22 k22 (fun _ _ _ _ _ _ us hl => match us, hl with | [_], _ => rfl)
  have D23 : DefAt K mg "cyclotomic_parts" s_cyclotomic_parts ["polynomial"] f23 _ := def_at X G a23 l23 c23 k23 (fun _ _ _ _ _ _ us hl => match us, hl with | [_], _ => rfl)
  have D24 : DefAt K mg "_law_spoilt" s__law_spoilt ["_law_bag_here", "_law_line"] f24 _ := def_at X G a24 l24 c24 k24 (fun _ _ _ _ _ _ us hl => match us, hl with | [_, _], _ => rfl)
  have D25 : DefAt K mg "_law_due" s__law_due ["_law_line", "_law_told"] f25 _ := def_at X G a25 l25 c25 k25 (fun _ _ _ _ _ _ us hl => match us, hl with | [_, _], _ => rfl)
  have D26 : DefAt K mg "_law_right" s__law_right ["_law_bag_here", "_law_told"] f26 _ := def_at X G a26 l26 c26 k26 (fun _ _ _ _ _ _ us hl => match us, hl with | [_, _], _ => rfl)
  have D27 : DefAt K mg "law" s_law ["_law_script"] _ _ := def_at X G a27 l27 c27 k27 (fun _ _ _ _ _ _ us hl => match us, hl with | [_], _ => rfl)
  refine ⟨PySem.W.fnOf "law" "law" (defArgs s_law) (defBody s_law) (defScope s_law) .none kV27 dc27 pm27 an27 cd27 ct27, fun s v => .of_eq rfl, fun base _ _ => ?_⟩
  have C0 := ok__law_common (Pg := l.prog) (w := w) (base := base) (cn := fun _ => .none) T  D0
  have C1 := ok__law_units (Pg := l.prog) (w := w) (base := base) (cn := fun _ => .none) T C0 D1
  have C2 := ok__law_line_over (Pg := l.prog) (w := w) (base := base) (cn := fun _ => .none) T  D2
  have C3 := ok__law_cyclotomic (Pg := l.prog) (w := w) (base := base) (cn := fun _ => .none) T C2 D3
  have C4 := ok__law_small_ones (Pg := l.prog) (w := w) (base := base) (cn := fun _ => .none) T C1 C3 D4
  have C5 := ok__law_bag (Pg := l.prog) (w := w) (base := base) (cn := fun _ => .none) T  D5
  have C6 := ok__law_grab (Pg := l.prog) (w := w) (base := base) (cn := fun _ => .none) T  D6
  have C7 := ok__law_one_of (Pg := l.prog) (w := w) (base := base) (cn := fun _ => .none) T C6 D7
  have C8 := ok__law_some_parts (Pg := l.prog) (w := w) (base := base) (cn := fun _ => .none) T C6 C7 D8
  have C9 := ok__law_line_times (Pg := l.prog) (w := w) (base := base) (cn := fun _ => .none) T  D9
  have C10 := ok__law_made (Pg := l.prog) (w := w) (base := base) (cn := fun _ => .none) T C9 D10
  have C11 := ok_is_plain (Pg := l.prog) (w := w) (base := base) (cn := fun _ => .none) T  D11
  have C12 := ok_is_integer (Pg := l.prog) (w := w) (base := base) (cn := fun _ => .none) T C11 D12
  have C13 := ok_is_polynomial (Pg := l.prog) (w := w) (base := base) (cn := fun _ => .none) T C12 D13
  have C14 := ok_require_polynomial (Pg := l.prog) (w := w) (base := base) (cn := fun _ => .none) T C13 D14
  have C15 := ok_units_in (Pg := l.prog) (w := w) (base := base) (cn := fun _ => .none) T  D15
  have C16 := ok_without_end (Pg := l.prog) (w := w) (base := base) (cn := fun _ => .none) T  D16
  have C17 := ok_quotient_of_lines (Pg := l.prog) (w := w) (base := base) (cn := fun _ => .none) T C16 D17
  have C18 := ok_times_divided (Pg := l.prog) (w := w) (base := base) (cn := fun _ => .none) T C17 D18
  have C19 := ok_factors_in (Pg := l.prog) (w := w) (base := base) (cn := fun _ => .none) T  D19
  have C20 := ok_stretched (Pg := l.prog) (w := w) (base := base) (cn := fun _ => .none) T  D20
  have C21 := ok_cyclotomic_of (Pg := l.prog) (w := w) (base := base) (cn := fun _ => .none) T C19 C17 C20 D21
  have C22 := ok_parts_of_line (Pg := l.prog) (w := w) (base := base) (cn := fun _ => .none) T C15 C18 C21 D22
  have C23 := ok_cyclotomic_parts (Pg := l.prog) (w := w) (base := base) (cn := fun _ => .none) T C14 C22 D23
  have C24 := ok__law_spoilt (Pg := l.prog) (w := w) (base := base) (cn := fun _ => .none) T C6 C7 D24
  have C25 := ok__law_due (Pg := l.prog) (w := w) (base := base) (cn := fun _ => .none) T C2 D25
  have C26 := ok__law_right (Pg := l.prog) (w := w) (base := base) (cn := fun _ => .none) T C8 C10 C23 C7 C9 C24 C25 D26
  exact ok_law (Pg := l.prog) (w := w) (base := base) (cn := fun _ => .none) T C4 C5 C26 C23 D27
end LW
open PySem PySem.W PyProof.Rows
set_option maxRecDepth 100000 in
set_option maxHeartbeats 0 in
theorem PySem.Challenge.cw_wholerises_k06_whole_products_of_cycloto_holds : PySem.Challenge.rw_wholerises_k06_whole_products_of_cycloto.Holds := by
  w_on; o_law; k_head; (case hw => w_witness2)
  k_fill
  refine DL.law_walk (l := PySem.Challenge.rw_wholerises_k06_whole_products_of_cycloto) (k := 7) (x := "_law_script") (cn := fun _ _ => .none) rfl rfl ⟨rfl, by decide, by decide⟩ (fun w h Y => PySem.W.kIn_of Y) ?F
  case F =>
    intro w mg fa h KX G hmg
    refine' LW.all_mk KX G hmg ?z_abs ?z_all ?z_any ?z_bool ?z_dict ?z_divmod ?z_enumerate ?z_int ?z_isinstance ?z_len ?z_list ?z_max ?z_min ?z_range ?z_sorted ?z_sum ?z_tuple ?g_FAR ?g_LAST_PART ?g_MAX_DEGREE ?m_gcd ?t_ONE ?lq_ONE ?t_ZERO ?lq_ZERO ?a0 ?l0 ?c0 ?k0 ?a1 ?l1 ?c1 ?k1 ?a2 ?l2 ?c2 ?k2 ?a3 ?l3 ?c3 ?k3 ?a4 ?l4 ?c4 ?k4 ?a5 ?l5 ?c5 ?k5 ?a6 ?l6 ?c6 ?k6 ?a7 ?l7 ?c7 ?k7 ?a8 ?l8 ?c8 ?k8 ?a9 ?l9 ?c9 ?k9 ?a10 ?l10 ?c10 ?k10 ?a11 ?l11 ?c11 ?k11 ?a12 ?l12 ?c12 ?k12 ?a13 ?l13 ?c13 ?k13 ?a14 ?l14 ?c14 ?k14 ?a15 ?l15 ?c15 ?k15 ?a16 ?l16 ?c16 ?k16 ?a17 ?l17 ?c17 ?k17 ?a18 ?l18 ?c18 ?k18 ?a19 ?l19 ?c19 ?k19 ?a20 ?l20 ?c20 ?k20 ?a21 ?l21 ?c21 ?k21 ?a22 ?l22 ?c22 ?k22 ?a23 ?l23 ?c23 ?k23 ?a24 ?l24 ?c24 ?k24 ?a25 ?l25 ?c25 ?k25 ?a26 ?l26 ?c26 ?k26 ?a27 ?l27 ?c27 ?k27
    (case z_abs => k_is)
    (case z_all => k_is)
    (case z_any => k_is)
    (case z_bool => k_is)
    (case z_dict => k_is)
    (case z_divmod => k_is)
    (case z_enumerate => k_is)
    (case z_int => k_is)
    (case z_isinstance => k_is)
    (case z_len => k_is)
    (case z_list => k_is)
    (case z_max => k_is)
    (case z_min => k_is)
    (case z_range => k_is)
    (case z_sorted => k_is)
    (case z_sum => k_is)
    (case z_tuple => k_is)
    (case g_FAR => k_is)
    (case g_LAST_PART => k_is)
    (case g_MAX_DEGREE => k_is)
    (case m_gcd => k_is)
    (case t_ONE => k_is)
    (case lq_ONE => k_is)
    (case t_ZERO => k_is)
    (case lq_ZERO => k_is)
    (case a0 => k_is)
    (case l0 => k_is)
    (case c0 => k_is)
    (case k0 => k_is)
    (case a1 => k_is)
    (case l1 => k_is)
    (case c1 => k_is)
    (case k1 => k_is)
    (case a2 => k_is)
    (case l2 => k_is)
    (case c2 => k_is)
    (case k2 => k_is)
    (case a3 => k_is)
    (case l3 => k_is)
    (case c3 => k_is)
    (case k3 => k_is)
    (case a4 => k_is)
    (case l4 => k_is)
    (case c4 => k_is)
    (case k4 => k_is)
    (case a5 => k_is)
    (case l5 => k_is)
    (case c5 => k_is)
    (case k5 => k_is)
    (case a6 => k_is)
    (case l6 => k_is)
    (case c6 => k_is)
    (case k6 => k_is)
    (case a7 => k_is)
    (case l7 => k_is)
    (case c7 => k_is)
    (case k7 => k_is)
    (case a8 => k_is)
    (case l8 => k_is)
    (case c8 => k_is)
    (case k8 => k_is)
    (case a9 => k_is)
    (case l9 => k_is)
    (case c9 => k_is)
    (case k9 => k_is)
    (case a10 => k_is)
    (case l10 => k_is)
    (case c10 => k_is)
    (case k10 => k_is)
    (case a11 => k_is)
    (case l11 => k_is)
    (case c11 => k_is)
    (case k11 => k_is)
    (case a12 => k_is)
    (case l12 => k_is)
    (case c12 => k_is)
    (case k12 => k_is)
    (case a13 => k_is)
    (case l13 => k_is)
    (case c13 => k_is)
    (case k13 => k_is)
    (case a14 => k_is)
    (case l14 => k_is)
    (case c14 => k_is)
    (case k14 => k_is)
    (case a15 => k_is)
    (case l15 => k_is)
    (case c15 => k_is)
    (case k15 => k_is)
    (case a16 => k_is)
    (case l16 => k_is)
    (case c16 => k_is)
    (case k16 => k_is)
    (case a17 => k_is)
    (case l17 => k_is)
    (case c17 => k_is)
    (case k17 => k_is)
    (case a18 => k_is)
    (case l18 => k_is)
    (case c18 => k_is)
    (case k18 => k_is)
    (case a19 => k_is)
    (case l19 => k_is)
    (case c19 => k_is)
    (case k19 => k_is)
    (case a20 => k_is)
    (case l20 => k_is)
    (case c20 => k_is)
    (case k20 => k_is)
    (case a21 => k_is)
    (case l21 => k_is)
    (case c21 => k_is)
    (case k21 => k_is)
    (case a22 => k_is)
    (case l22 => k_is)
    (case c22 => k_is)
    (case k22 => k_is)
    (case a23 => k_is)
    (case l23 => k_is)
    (case c23 => k_is)
    (case k23 => k_is)
    (case a24 => k_is)
    (case l24 => k_is)
    (case c24 => k_is)
    (case k24 => k_is)
    (case a25 => k_is)
    (case l25 => k_is)
    (case c25 => k_is)
    (case k25 => k_is)
    (case a26 => k_is)
    (case l26 => k_is)
    (case c26 => k_is)
    (case k26 => k_is)
    (case a27 => k_is)
    (case l27 => k_is)
    (case c27 => k_is)
    (case k27 => k_is)
