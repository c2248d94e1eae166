import PyProof.Rows.All
import Wide.All
import OpenK.AllK
import Wide.FinOn
import HandS.ForMost
import HandS.ForExc
import HandS.Flow
import HandS.Style
import HandS.ExcInit
import HandS.Defaults
import HandS.MakeKwOnly
import HandS.Star
import HandS.TupAny
import HandS.TupMul
import HandS.Deep
import HandS.WideBits
import HandS.Conv
import KE.SortUse
import KE.LtData
import HandS.TupLen
import KE.KEqDict
import PyProof.FactsAll.tuple_2
import HandS.SortInts
import HandS.SortOrd
import HandS.TupSets
import HandS.SortRule
import PyProof.DictTruth
import HandS.IsInst
import KE.GoesMore
import HandS.Small
import PySem.Challenge.RW_cleanhelpers_k60_prices_scale
set_option Elab.async false
set_option linter.all false
set_option maxRecDepth 100000
namespace N9
open PySem PySem.Spec L2

/-! ## values; the things of the heap -/
inductive D where
  | non | bl (b : Bool) | int (i : Int) | str (s : Str)
  | tup (l : List D) | lst (l : List D) | ins (c : Nat) (fs : List D) | ref (n : Nat) | scr (l : List Int)

/-- keys: tuples of ints -/
abbrev TK := List Int
inductive Ob where
  | lst (l : List D) | dk (kvs : List (Int × D)) | dt (kvs : List (TK × D)) | st (ks : List TK) | ins (c : Nat) (fs : List D) | frz (o : Ob) | dead

abbrev Env := List (Option D)
abbrev Hm := List Ob

inductive Re (α : Type) where
  | ok (a : α) (h : Hm) | exc (c : Nat) (w : D) (h : Hm) | stk
def Re.bind {α β : Type} (x : Re α) (f : α → Hm → Re β) : Re β := match x with
  | .ok a h => f a h
  | .exc c w h => .exc c w h
  | .stk => .stk
/-- call: a def at this depth; make: an __init__, one depth lower -/
structure Oracle where
  call : Nat → List D → Hm → Re D
  make : Nat → List D → Hm → Re D

inductive Fl where
  | nx (e : Env) (h : Hm) | ret (d : D) (h : Hm) | brk (e : Env) (h : Hm) | ct (e : Env) (h : Hm) | exc (c : Nat) (w : D) (e : Env) (h : Hm) | stk

/-! ## what stands for what -/
def kTup (K : PySem.W.Frag) (a : Addr) (xs : List V) : Prop :=
  ∃ (o : Obj) (its : Array Value) (n : Nat), K.lookup a = some o ∧ o.cls = .type "tuple" ∧ o.data = .seq its n ∧ its.size ≤ sizeLine ∧ Vals xs its.toList

/-- facts of the classes: address of the class c, its attribute names in order -/
structure Ct where
  addr : Nat → Addr
  faddr : Nat → Addr
  names : Nat → List Str

/-- a tuple that is read: tracked, or of the written part -/
def TupR (K : PySem.W.Frag) (ad : List Addr) (H : Hp) (a : Addr) (xs : List V) : Prop := (H a = some (.tup xs) ∧ a ∉ ad) ∨ kTup K a xs

/-- the script: a list of ints that is read alone -/
def ScrR (K : PySem.W.Frag) (ad : List Addr) (H : Hp) (a : Addr) (is : List Int) : Prop := (Rd H a (.lst (is.map V.int)) ∧ a ∉ ad) ∨ ∃ (o : Obj) (its : Array Value) (n : Nat), K.lookup a = some o ∧ o.cls = .type "list" ∧ o.dict = none ∧ o.data = .seq its n ∧ its.size ≤ sizeLine ∧ Vals (is.map V.int) its.toList
theorem ScrR.sq {K : PySem.W.Frag} {ad : List Addr} {H : Hp} {a : Addr} {is : List Int} (r : ScrR K ad H a is) : SqL K H a (is.map V.int) := r.imp (·.1) id
mutual
inductive RV (C : Ct) (K : PySem.W.Frag) (ad : List Addr) (H : Hp) : V → D → Prop
  | non : RV C K ad H .non .non
  | bl (b : Bool) : RV C K ad H (.bl b) (.bl b)
  | int (i : Int) : RV C K ad H (.int i) (.int i)
  | str (x : Str) : RV C K ad H (.str x) (.str x)
  | tup {a : Addr} {xs : List V} {ds : List D} : TupR K ad H a xs → RVs C K ad H xs ds → RV C K ad H (.ref a) (.tup ds)
  | lst {a : Addr} {xs : List V} {ds : List D} : Rd H a (.lst xs) → a ∉ ad → RVs C K ad H xs ds → RV C K ad H (.ref a) (.lst ds)
  | ins {a dx : Addr} {c : Nat} {xs : List V} {ds : List D} : H a = some (.ins (C.addr c) dx ((C.names c).zip xs)) → a ∉ ad → xs.length ≤ (C.names c).length → RVs C K ad H xs ds → RV C K ad H (.ref a) (.ins c ds)
  | ref {a : Addr} {n : Nat} : ad[n]? = some a → RV C K ad H (.ref a) (.ref n)
  | scr {a : Addr} {is : List Int} : ScrR K ad H a is → RV C K ad H (.ref a) (.scr is)
inductive RVs (C : Ct) (K : PySem.W.Frag) (ad : List Addr) (H : Hp) : List V → List D → Prop
  | nil : RVs C K ad H [] []
  | cons {v : V} {vs : List V} {d : D} {ds : List D} : RV C K ad H v d → RVs C K ad H vs ds → RVs C K ad H (v :: vs) (d :: ds)
end

/-! ## dicts with tuples as keys: the object, by its entries (the keys' own objects stand apart) -/
def dtPhi (P : Program) (w : World) (a : Addr) (ys : List (TK × Addr × V)) (h : Heap) : Prop :=
  ys.length ≤ sizeLine ∧ (a == sysModules) = false ∧ (ys.map (·.1)).Nodup ∧
  ∃ (xs : List (List Key × Addr × Value)) (o : Obj) (es : Array DictEntry) (ep : Nat), Paired (fun (y : TK × Addr × V) (x : List Key × Addr × Value) => x.1 = y.1.map Sum.inl ∧ x.2.1 = y.2.1 ∧ RelV y.2.2 x.2.2) ys xs ∧
    h.get? a = some o ∧ o.ExactDict ∧ o.data = .dict es ep ∧ es.toList = xs.map (entryOfKey (tupleKind (mixKind P w)))

/-- the int keys of a dict -/
def kInts (kvs : List (Int × D)) : List Key := kvs.map fun p => .inl p.1

/-- what stands at an address of the heap's things -/
inductive OR (C : Ct) (P : Program) (w : World) (K : PySem.W.Frag) (ad : List Addr) (H : Hp) : Addr → Ob → Prop
  | lst {a : Addr} {xs : List V} {ds : List D} : H a = some (.lst xs) → RVs C K ad H xs ds → OR C P w K ad H a (.lst ds)
  | dk {a : Addr} {kxs : List (Key × V)} {kvs : List (Int × D)} : H a = some (.dK kxs) → kxs.map (·.1) = kInts kvs → RVs C K ad H (kxs.map (·.2)) (kvs.map (·.2)) → OR C P w K ad H a (.dk kvs)
  | dt {a : Addr} {ys : List (TK × Addr × V)} {kvs : List (TK × D)} : H a = some (.ext (dtPhi P w a ys)) → ys.map (·.1) = kvs.map (·.1) → (∀ y ∈ ys, TupR K ad H y.2.1 (y.1.map V.int)) → RVs C K ad H (ys.map (·.2.2)) (kvs.map (·.2)) → OR C P w K ad H a (.dt kvs)
  | ins {a dx : Addr} {c : Nat} {xs : List V} {ds : List D} : H a = some (.ins (C.addr c) dx ((C.names c).zip xs)) → xs.length ≤ (C.names c).length → RVs C K ad H xs ds → OR C P w K ad H a (.ins c ds)
  | frzL {a : Addr} {o : Obj} {xs : List V} {ds : List D} : H a = some (.frz o (.lst xs)) → RVs C K ad H xs ds → OR C P w K ad H a (.frz (.lst ds))
  | frzK {a : Addr} {o : Obj} {kxs : List (Key × V)} {kvs : List (Int × D)} : H a = some (.frz o (.dK kxs)) → kxs.map (·.1) = kInts kvs → RVs C K ad H (kxs.map (·.2)) (kvs.map (·.2)) → OR C P w K ad H a (.frz (.dk kvs))
  | frzT {a : Addr} {o : Obj} {ys : List (TK × Addr × V)} {kvs : List (TK × D)} : H a = some (.frz o (.ext (dtPhi P w a ys))) → ys.map (·.1) = kvs.map (·.1) → (∀ y ∈ ys, TupR K ad H y.2.1 (y.1.map V.int)) → RVs C K ad H (ys.map (·.2.2)) (kvs.map (·.2)) → OR C P w K ad H a (.frz (.dt kvs))
  | dead {a : Addr} : H a ≠ none → (∀ xs, H a ≠ some (.tup xs)) → OR C P w K ad H a .dead

structure HR (C : Ct) (P : Program) (w : World) (K : PySem.W.Frag) (ad : List Addr) (hp : Hm) (H : Hp) : Prop where
  len : ad.length = hp.length
  nd : ad.Nodup
  at_ : ∀ (n : Nat) (a : Addr) (o : Ob), ad[n]? = some a → hp[n]? = some o → OR C P w K ad H a o

/-! ## change -/
structure Ext (ad : List Addr) (H : Hp) (ad' : List Addr) (H' : Hp) : Prop where
  pre : ad <+: ad'
  keep : ∀ a o, H a = some o → a ∉ ad → H' a = some o
  there : ∀ a, H a ≠ none → H' a ≠ none
  new : ∀ a ∈ ad', a ∈ ad ∨ H a = none
  fz : ∀ a o u, H a = some (.frz o u) → H' a = some (.frz o u)

theorem Ext.refl (ad : List Addr) (H : Hp) : Ext ad H ad H := ⟨List.prefix_refl _, fun _ _ h _ => h, fun _ h => h, fun _ h => .inl h, fun _ _ _ h => h⟩
theorem Ext.trans {ad ad1 ad2 : List Addr} {H H1 H2 : Hp} (x : Ext ad H ad1 H1) (y : Ext ad1 H1 ad2 H2) : Ext ad H ad2 H2 := by
  refine ⟨x.pre.trans y.pre, fun a o h n => ?_, fun a h => y.there a (x.there a h), fun a h => ?_, fun a o u h => y.fz a o u (x.fz a o u h)⟩
  · refine y.keep a o (x.keep a o h n) fun m => ?_
    rcases x.new a m with q | q
    · exact n q
    · rw [h] at q; cases q
  · rcases y.new a h with q | q
    · exact x.new a q
    · cases z : H a with
      | none => exact .inr rfl
      | some o => exact absurd q (x.there a (by rw [z]; simp))
theorem Ext.same {ad : List Addr} {H H' : Hp} (h : ∀ a o, H a = some o → H' a = some o) : Ext ad H ad H' :=
  ⟨List.prefix_refl _, fun a o e _ => h a o e, fun a e => by
    cases q : H a with
    | none => exact absurd q e
    | some o => rw [h a o q]; simp, fun _ h => .inl h, fun a o u e => h a _ e⟩
theorem same_upd {H : Hp} {p : Addr} {o : HO} (h : H p = none) : ∀ a u, H a = some u → upd H p o a = some u := fun a u e => by rw [upd_ne (ne_of_none e h)]; exact e
theorem Ext.nin {ad ad' : List Addr} {H H' : Hp} (x : Ext ad H ad' H') {a : Addr} {o : HO} (h : H a = some o) (n : a ∉ ad) : a ∉ ad' := fun m => by
  rcases x.new a m with q | q
  · exact n q
  · rw [h] at q; cases q
theorem TupR.mono {K : PySem.W.Frag} {ad ad' : List Addr} {H H' : Hp} {a : Addr} {xs : List V} (x : Ext ad H ad' H') (r : TupR K ad H a xs) : TupR K ad' H' a xs :=
  r.imp (fun q => ⟨x.keep _ _ q.1 q.2, x.nin q.1 q.2⟩) id
theorem TupR.sq {K : PySem.W.Frag} {ad : List Addr} {H : Hp} {a : Addr} {xs : List V} (r : TupR K ad H a xs) : SqT K H a xs := r.imp (fun q => .inl q.1) id
theorem prefix_get {α : Type} {l m : List α} {n : Nat} {a : α} (p : l <+: m) (h : l[n]? = some a) : m[n]? = some a := by
  obtain ⟨t, rfl⟩ := p
  rw [List.getElem?_append_left (List.getElem?_eq_some_iff.mp h).1]; exact h
section
variable {C : Ct} {P : Program} {w : World} {K : PySem.W.Frag} {ad ad' : List Addr} {H H' : Hp}
theorem rd_mono {a : Addr} {u : HO} (x : Ext ad H ad' H') (r : Rd H a u) (n : a ∉ ad) : Rd H' a u ∧ a ∉ ad' := by
  rcases r with r | ⟨o, r⟩
  · exact ⟨.inl (x.keep _ _ r n), x.nin r n⟩
  · exact ⟨.inr ⟨o, x.keep _ _ r n⟩, x.nin r n⟩
mutual
theorem RV.mono (x : Ext ad H ad' H') : ∀ {v : V} {d : D}, RV C K ad H v d → RV C K ad' H' v d
  | _, _, .non => .non
  | _, _, .bl b => .bl b
  | _, _, .int i => .int i
  | _, _, .str x => .str x
  | _, _, .tup r rs => .tup (r.mono x) (RVs.mono x rs)
  | _, _, .lst r n rs => .lst (rd_mono x r n).1 (rd_mono x r n).2 (RVs.mono x rs)
  | _, _, .ins r n l rs => .ins (x.keep _ _ r n) (x.nin r n) l (RVs.mono x rs)
  | _, _, .ref h => .ref (prefix_get x.pre h)
  | _, _, .scr h => .scr (h.imp (fun q => rd_mono x q.1 q.2) id)
theorem RVs.mono (x : Ext ad H ad' H') : ∀ {v : List V} {d : List D}, RVs C K ad H v d → RVs C K ad' H' v d
  | _, _, .nil => .nil
  | _, _, .cons r rs => .cons (RV.mono x r) (RVs.mono x rs)
end
theorem RVs.length : ∀ {vs : List V} {ds : List D}, RVs C K ad H vs ds → vs.length = ds.length
  | _, _, .nil => rfl
  | _, _, .cons _ r => by simp [RVs.length r]
theorem RVs.get : ∀ {vs : List V} {ds : List D} {i : Nat} {v : V}, RVs C K ad H vs ds → vs[i]? = some v → ∃ d, ds[i]? = some d ∧ RV C K ad H v d
  | _, _, i, _, .nil, h => by simp at h
  | _, _, 0, _, .cons r _, h => ⟨_, rfl, by simp at h; subst h; exact r⟩
  | _, _, i + 1, _, .cons _ r, h => by
    obtain ⟨d, e, q⟩ := RVs.get (i := i) r (by simpa using h)
    exact ⟨d, by simpa using e, q⟩
theorem RVs.getD : ∀ {vs : List V} {ds : List D} {i : Nat} {d : D}, RVs C K ad H vs ds → ds[i]? = some d → ∃ v, vs[i]? = some v ∧ RV C K ad H v d
  | _, _, i, _, .nil, h => by simp at h
  | _, _, 0, _, .cons r _, h => ⟨_, rfl, by simp at h; subst h; exact r⟩
  | _, _, i + 1, _, .cons _ r, h => by
    obtain ⟨d, e, q⟩ := RVs.getD (i := i) r (by simpa using h)
    exact ⟨d, by simpa using e, q⟩
theorem RVs.append : ∀ {vs ws : List V} {ds es : List D}, RVs C K ad H vs ds → RVs C K ad H ws es → RVs C K ad H (vs ++ ws) (ds ++ es)
  | _, _, _, _, .nil, s => s
  | _, _, _, _, .cons r t, s => .cons r (RVs.append t s)
theorem RVs.take : ∀ {vs : List V} {ds : List D} (n : Nat), RVs C K ad H vs ds → RVs C K ad H (vs.take n) (ds.take n)
  | _, _, 0, _ => by simp; exact .nil
  | _, _, n + 1, .nil => .nil
  | _, _, n + 1, .cons r t => .cons r (RVs.take n t)
theorem RVs.drop : ∀ {vs : List V} {ds : List D} (n : Nat), RVs C K ad H vs ds → RVs C K ad H (vs.drop n) (ds.drop n)
  | _, _, 0, r => by simpa using r
  | _, _, n + 1, .nil => .nil
  | _, _, n + 1, .cons r t => RVs.drop n t
theorem RVs.set : ∀ {vs : List V} {ds : List D} (i : Nat) {v : V} {d : D}, RVs C K ad H vs ds → RV C K ad H v d → RVs C K ad H (vs.set i v) (ds.set i d)
  | _, _, _, _, _, .nil, _ => by simp; exact .nil
  | _, _, 0, _, _, .cons r t, q => .cons q t
  | _, _, i + 1, _, _, .cons r t, q => .cons r (RVs.set i t q)
theorem RVs.dropLast : ∀ {vs : List V} {ds : List D}, RVs C K ad H vs ds → RVs C K ad H vs.dropLast ds.dropLast := by
  intro vs ds r
  rw [List.dropLast_eq_take, List.dropLast_eq_take, r.length]
  exact r.take _
theorem RVs.reverse : ∀ {vs : List V} {ds : List D}, RVs C K ad H vs ds → RVs C K ad H vs.reverse ds.reverse
  | _, _, .nil => .nil
  | _, _, .cons r t => by
    rw [List.reverse_cons, List.reverse_cons]
    exact (RVs.reverse t).append (.cons r .nil)
theorem RVs.ints : ∀ {is : List Int}, RVs C K ad H (is.map V.int) (is.map D.int)
  | [] => .nil
  | i :: is => .cons (.int i) RVs.ints
theorem RVs.of_ints : ∀ {is : List Int} {vs : List V}, RVs C K ad H vs (is.map D.int) → vs = is.map V.int
  | [], _, h => by cases h; rfl
  | i :: is, _, h => by
    cases h with
    | cons r t => cases r; rw [RVs.of_ints t]; rfl
theorem RVs.rep : ∀ {vs : List V} {ds : List D} (n : Nat), RVs C K ad H vs ds → RVs C K ad H (List.replicate n vs).flatten (List.replicate n ds).flatten
  | _, _, 0, _ => by simp; exact .nil
  | _, _, n + 1, r => by
    rw [List.replicate_succ, List.replicate_succ, List.flatten_cons, List.flatten_cons]
    exact r.append (RVs.rep n r)
theorem rv_tup {v : V} {ds : List D} (r : RV C K ad H v (.tup ds)) : ∃ a xs, v = .ref a ∧ TupR K ad H a xs ∧ RVs C K ad H xs ds := by
  cases r with
  | tup r rs => exact ⟨_, _, rfl, r, rs⟩
theorem rv_int {v : V} {i : Int} (r : RV C K ad H v (.int i)) : v = .int i := by cases r; rfl
theorem rv_bl {v : V} {i : Bool} (r : RV C K ad H v (.bl i)) : v = .bl i := by cases r; rfl
theorem rv_non {v : V} (r : RV C K ad H v .non) : v = .non := by cases r; rfl
theorem rv_str {v : V} {x : Str} (r : RV C K ad H v (.str x)) : v = .str x := by cases r; rfl
theorem OR.ne {a : Addr} {o : Ob} (r : OR C P w K ad H a o) : H a ≠ none := by
  cases r with
  | dead h _ => exact h
  | lst h _ | dk h _ _ | dt h _ _ _ | ins h _ _ | frzL h _ | frzK h _ _ | frzT h _ _ _ => rw [h]; simp
theorem OR.notup {a : Addr} {o : Ob} (r : OR C P w K ad H a o) {xs : List V} : H a ≠ some (.tup xs) := by
  cases r with
  | dead _ h => exact h xs
  | lst h _ | dk h _ _ | dt h _ _ _ | ins h _ _ | frzL h _ | frzK h _ _ | frzT h _ _ _ => rw [h]; intro z; cases z
/-- an object that stays is read as before -/
theorem OR.mono {a : Addr} {o : Ob} (x : Ext ad H ad' H') (r : OR C P w K ad H a o) (h : H' a = H a) : OR C P w K ad' H' a o := by
  cases r with
  | lst e rs => exact .lst (h.trans e) (rs.mono x)
  | dk e k rs => exact .dk (h.trans e) k (rs.mono x)
  | dt e k t rs => exact .dt (h.trans e) k (fun y hy => (t y hy).mono x) (rs.mono x)
  | ins e l rs => exact .ins (h.trans e) l (rs.mono x)
  | frzL e rs => exact .frzL (h.trans e) (rs.mono x)
  | frzK e k rs => exact .frzK (h.trans e) k (rs.mono x)
  | frzT e k t rs => exact .frzT (h.trans e) k (fun y hy => (t y hy).mono x) (rs.mono x)
  | dead e t => exact .dead (by rw [h]; exact e) (by rw [h]; exact t)
variable {hp : Hm}
theorem HR.fresh (R : HR C P w K ad hp H) {p : Addr} (h : H p = none) : p ∉ ad := fun m => by
  obtain ⟨n, hn, e⟩ := List.mem_iff_getElem.mp m
  have h1 : ad[n]? = some p := by rw [List.getElem?_eq_getElem hn, e]
  have hl : n < hp.length := by rw [← R.len]; exact hn
  exact (R.at_ n p hp[n] h1 (List.getElem?_eq_getElem hl)).ne h
theorem HR.notup (R : HR C P w K ad hp H) {p : Addr} {xs : List V} (h : H p = some (.tup xs)) : p ∉ ad := fun m => by
  obtain ⟨n, hn, e⟩ := List.mem_iff_getElem.mp m
  have h1 : ad[n]? = some p := by rw [List.getElem?_eq_getElem hn, e]
  have hl : n < hp.length := by rw [← R.len]; exact hn
  exact (R.at_ n p hp[n] h1 (List.getElem?_eq_getElem hl)).notup h
theorem HR.get (R : HR C P w K ad hp H) {n : Nat} {o : Ob} (h : hp[n]? = some o) : ∃ a, ad[n]? = some a ∧ OR C P w K ad H a o := by
  have hl := (List.getElem?_eq_some_iff.mp h).1
  rw [← R.len] at hl
  exact ⟨_, List.getElem?_eq_getElem hl, R.at_ n _ o (List.getElem?_eq_getElem hl) h⟩
theorem HR.ref (R : HR C P w K ad hp H) {n : Nat} {o : Ob} {v : V} (r : RV C K ad H v (.ref n)) (h : hp[n]? = some o) : ∃ a, v = .ref a ∧ ad[n]? = some a ∧ OR C P w K ad H a o := by
  cases r with
  | ref e =>
    obtain ⟨a, e2, o⟩ := R.get h
    rw [e] at e2; cases e2
    exact ⟨_, rfl, e, o⟩
/-- all that was tracked stays -/
theorem HR.same (R : HR C P w K ad hp H) (h : ∀ a o, H a = some o → H' a = some o) : HR C P w K ad hp H' := by
  refine ⟨R.len, R.nd, fun n a o e q => ?_⟩
  have r := R.at_ n a o e q
  refine r.mono (Ext.same h) ?_
  cases z : H a with
  | none => exact absurd z r.ne
  | some u => exact h a u z
/-- the thing n is written -/
theorem HR.write (R : HR C P w K ad hp H) {n : Nat} {a : Addr} {o : Ob} {u : HO} (h : ad[n]? = some a) (new : OR C P w K ad (upd H a u) a o) (hnf : ∀ o' u', H a ≠ some (.frz o' u') := by intro o' u' z; simp_all) : HR C P w K ad (hp.set n o) (upd H a u) ∧ Ext ad H ad (upd H a u) := by
  have hm : a ∈ ad := List.mem_of_getElem? h
  have hl := (List.getElem?_eq_some_iff.mp h).1
  have x : Ext ad H ad (upd H a u) := ⟨List.prefix_refl _, fun b o e m => by rw [upd_ne (fun z => by subst z; exact m hm)]; exact e, fun b e => by
    by_cases z : b = a
    · subst z; rw [upd_same]; simp
    · rw [upd_ne z]; exact e, fun _ h => .inl h, fun b o' u' e => by rw [upd_ne (fun z => by subst z; exact hnf _ _ e)]; exact e⟩
  refine ⟨⟨by rw [List.length_set]; exact R.len, R.nd, fun m b q e f => ?_⟩, x⟩
  by_cases z : m = n
  · subst z
    rw [h] at e; cases e
    rw [List.getElem?_set_self (by rw [← R.len]; exact hl)] at f
    cases f
    exact new
  · rw [List.getElem?_set_ne (Ne.symm z)] at f
    have hb : b ≠ a := fun q => by
      subst q
      have l1 := (List.getElem?_eq_some_iff.mp e)
      have l2 := (List.getElem?_eq_some_iff.mp h)
      obtain ⟨p1, e1⟩ := l1
      obtain ⟨p2, e2⟩ := l2
      exact z ((List.getElem_inj R.nd).mp (e1.trans e2.symm))
    exact (R.at_ m b q e f).mono x (upd_ne hb)
/-- a new thing -/
theorem HR.push (R : HR C P w K ad hp H) {p : Addr} {o : Ob} {u : HO} (h : H p = none) (new : OR C P w K (ad ++ [p]) (upd H p u) p o) : HR C P w K (ad ++ [p]) (hp ++ [o]) (upd H p u) ∧ Ext ad H (ad ++ [p]) (upd H p u) ∧ RV C K (ad ++ [p]) (upd H p u) (.ref p) (.ref hp.length) := by
  have hn := R.fresh h
  have x : Ext ad H (ad ++ [p]) (upd H p u) := ⟨List.prefix_append _ _, fun b o e m => same_upd h b o e, fun b e => by
    by_cases z : b = p
    · subst z; rw [upd_same]; simp
    · rw [upd_ne z]; exact e, fun b m => by
      rcases List.mem_append.mp m with m | m
      · exact .inl m
      · rw [List.mem_singleton] at m; subst m; exact .inr h, fun b o' u' e => same_upd h b _ e⟩
  refine ⟨⟨by simp [R.len], ?_, fun m b q e f => ?_⟩, x, .ref (by rw [← R.len]; simp)⟩
  · rw [List.nodup_append]
    refine ⟨R.nd, by simp, fun a ha b hb => ?_⟩
    rw [List.mem_singleton] at hb
    subst hb
    intro z; subst z; exact hn ha
  · by_cases z : m < ad.length
    · rw [List.getElem?_append_left z] at e
      rw [List.getElem?_append_left (by rw [← R.len]; exact z)] at f
      have r := R.at_ m b q e f
      exact r.mono x (upd_ne fun q => by subst q; exact hn (List.mem_of_getElem? e))
    · have hm : m = ad.length := by
        have := (List.getElem?_eq_some_iff.mp e).1
        simp at this; omega
      subst hm
      rw [List.getElem?_append_right (Nat.le_refl _), Nat.sub_self] at e
      rw [R.len, List.getElem?_append_right (Nat.le_refl _), Nat.sub_self] at f
      simp at e f
      subst e f
      exact new
/-- a new frozen list, a new tuple -/
theorem new_tup (R : HR C P w K ad hp H) {p : Addr} {xs : List V} {ds : List D} (h : H p = none) (r : RVs C K ad H xs ds) : HR C P w K ad hp (upd H p (.tup xs)) ∧ Ext ad H ad (upd H p (.tup xs)) ∧ RV C K ad (upd H p (.tup xs)) (.ref p) (.tup ds) :=
  ⟨R.same (same_upd h), Ext.same (same_upd h), .tup (.inl ⟨upd_same, R.fresh h⟩) (r.mono (Ext.same (same_upd h)))⟩
theorem new_lst (R : HR C P w K ad hp H) {p : Addr} {xs : List V} {ds : List D} (h : H p = none) (r : RVs C K ad H xs ds) : HR C P w K ad hp (upd H p (.lst xs)) ∧ Ext ad H ad (upd H p (.lst xs)) ∧ RV C K ad (upd H p (.lst xs)) (.ref p) (.lst ds) :=
  ⟨R.same (same_upd h), Ext.same (same_upd h), .lst (.inl upd_same) (R.fresh h) (r.mono (Ext.same (same_upd h)))⟩
theorem push_lst (R : HR C P w K ad hp H) {p : Addr} {xs : List V} {ds : List D} (h : H p = none) (r : RVs C K ad H xs ds) : HR C P w K (ad ++ [p]) (hp ++ [.lst ds]) (upd H p (.lst xs)) ∧ Ext ad H (ad ++ [p]) (upd H p (.lst xs)) ∧ RV C K (ad ++ [p]) (upd H p (.lst xs)) (.ref p) (.ref hp.length) := by
  have x : Ext ad H (ad ++ [p]) (upd H p (.lst xs)) := ⟨List.prefix_append _ _, fun b o e m => same_upd h b o e, fun b e => by
    by_cases z : b = p
    · subst z; rw [upd_same]; simp
    · rw [upd_ne z]; exact e, fun b m => by
      rcases List.mem_append.mp m with m | m
      · exact .inl m
      · rw [List.mem_singleton] at m; subst m; exact .inr h, fun b o' u' e => same_upd h b _ e⟩
  exact R.push h (.lst upd_same (r.mono x))
end
end N9

set_option Elab.async false
set_option linter.all false
set_option maxRecDepth 100000
namespace N9
open PySem PySem.Spec L2
open Classical

/-! ## the terms -/
inductive Bop where | add | sub | mul | fdiv | mod | pow | shl | shr | band deriving DecidableEq
inductive Cop where | eq | ne | lt | le | gt | ge | isn | notn | isin | notin | eqd | ned deriving DecidableEq
inductive Bi where | len | sum | min | max | sorted | int | list | tuple | any | all | str | listk | sortt | sortk | mint deriving DecidableEq
inductive Mm where | append | pop | clear deriving DecidableEq
inductive Tk where | int | bool | str | tuple | list | dict deriving DecidableEq
inductive Tg where | nm (i : Nat) | tp (is : List Nat) deriving DecidableEq

/-- operations by value; z: a new list is kept apart as a frozen value, else it goes to the heap -/
inductive Pn where
  | bin (z : Bool) (o : Bop) | neg | idx | slc (z lo hi : Bool) | rev (z : Bool) | revf (z : Bool) | revt
  | bi (z : Bool) (f : Bi) | mnd (mx : Bool) | bits | mm (m : Mm) | cnt | ix
  | dnew (t : Bool) | get1 | get2 | att (c i : Nat) (f : String) | isi (k : Tk) | isc (c : Nat) | lrng (z : Bool)
  | ddis (t : Bool) | vls (z : Bool)
  deriving DecidableEq

/-- how the written arguments go to the parameters; a default: None, () -/
abbrev Pm := Option (List (Nat ⊕ Bool))

inductive IE where
  | unk
  | con (d : D) | gl (x : String) (d : D) | var (i : Nat)
  | nil | cons (h t : IE) | star (h t : IE)
  | tupE (as : IE) | lstE (z : Bool) (as : IE)
  | op (p : Pn) (as : IE) | bmt (p : Pn) (o as : IE) | slc2 (z : Bool) (a lo hi : IE)
  | cmp (o : Cop) (a b : IE) | chain (o o' : Cop) (a b c : IE) | chain3 (o o2 o3 : Cop) (a b c d : IE)
  | not (a : IE) | and (a b : IE) | or (a b : IE) | ite (c a b : IE)
  | call (f : Nat) (p : Pm) (as : IE) | meth (c : Nat) (m : String) (f : Nat) (p : Pm) (o as : IE) | make (z : Bool) (c f : Nat) (p : Pm) (as : IE)
  | kys (a : IE)
  | rng1 (a : IE) | rng2 (a b : IE) | rng3 (a b : IE) | enm (a : IE) | itm (a : IE) | itv (a : IE)
  | lc (z : Bool) (own : List Nat) (tg : Tg) (it cond elt : IE)
  | dc (t : Bool) (own : List Nat) (tg : Tg) (it cond k v : IE)

inductive IS where
  | unk | nil | seq (a b : IS) | pass | brk | cont
  | asg (tg : Tg) (e : IE) | asgs (is : List Nat) (e : IE) | par (is : List Nat) (es : IE)
  | setI (o k e : IE) | setA (c i : Nat) (f : String) (o e : IE) | aug (i : Nat) (o : Bop) (e : IE)
  | exp (e : IE) | ret (e : IE) | retN
  | ite (c : IE) (a b : IS) | whl (c : IE) (b : IS) | for (tg : Tg) (it : IE) (b : IS)
  | rais (c : Nat) (e : IE)
  | tryx (b : IS) (c : Nat) (i : Option Nat) (h : IS)

/-! ## the heap is read -/
def Ob.strip : Ob → Ob
  | .frz o => o
  | o => o
def gt (hp : Hm) (n : Nat) : Option Ob := (hp[n]?).map Ob.strip
def listD (hp : Hm) : D → Option (List D)
  | .lst l => some l
  | .ref n => match gt hp n with
    | some (.lst l) => some l
    | _ => none
  | _ => none
def seqD (hp : Hm) : D → Option (List D)
  | .tup l => some l
  | .scr l => some (l.map .int)
  | d => listD hp d
def D.truth (hp : Hm) : D → Option Bool
  | .non => some false
  | .bl b => some b
  | .int i => some (i != 0)
  | .tup l => some (!l.isEmpty)
  | .lst l => some (!l.isEmpty)
  | .ref n => match gt hp n with
    | some (.lst l) => some (!l.isEmpty)
    | some (.dk l) => some (!l.isEmpty)
    | some (.dt l) => some (!l.isEmpty)
    | _ => none
  | _ => none
def D.len (hp : Hm) : D → Option Nat
  | .tup l => some l.length
  | .lst l => some l.length
  | .scr l => some l.length
  | .ref n => match gt hp n with
    | some (.lst l) => some l.length
    | some (.dk l) => some l.length
    | some (.dt l) => some l.length
    | _ => none
  | _ => none

section
variable (f : Nat → Option PyData)
mutual
def D.py : D → Option PyData
  | .non => some .none
  | .bl b => some (.bool b)
  | .int i => some (.int i)
  | .str s => some (.str s)
  | .tup l => (D.pys l).map .tuple
  | .lst l => (D.pys l).map .list
  | .ref n => f n
  | _ => none
def D.pys : List D → Option (List PyData)
  | [] => some []
  | d :: ds => match D.py d, D.pys ds with
    | some x, some xs => some (x :: xs)
    | _, _ => none
end
end
/-- data of a thing of the heap: k refs deep -/
def pyR (hp : Hm) : Nat → Nat → Option PyData
  | 0, _ => none
  | k + 1, n => match gt hp n with
    | some (.lst l) => (D.pys (pyR hp k) l).map .list
    | _ => none
def D.eqv (hp : Hm) (a b : D) : Option Bool := match D.py (pyR hp 2) a, D.py (pyR hp 2) b with
  | some x, some y => if SeqAt.shaped x && SeqAt.shaped y then some (PyData.eqv x y) else none
  | _, _ => none
def memD (hp : Hm) (x : D) (ys : List D) : Option Bool := match D.py (pyR hp 2) x, D.pys (pyR hp 2) ys with
  | some p, some qs => if SeqAt.shaped p && SeqAt.shaped (.list qs) then some (qs.any fun z => PyData.eqv z p) else none
  | _, _ => none

def intsD : List D → Option (List Int)
  | [] => some []
  | .int i :: ds => (intsD ds).map (i :: ·)
  | _ => none
/-- a key that is a tuple of ints -/
def tkD : D → Option TK
  | .tup l => intsD l
  | _ => none
def lookK {κ : Type} [DecidableEq κ] (kvs : List (κ × D)) (k : κ) : Option D := (kvs.find? fun kv => decide (kv.1 = k)).map (·.2)
def putD {κ : Type} [DecidableEq κ] (kvs : List (κ × D)) (k : κ) (v : D) : List (κ × D) :=
  if kvs.any fun kv => decide (kv.1 = k) then kvs.map fun kv => if kv.1 = k then (kv.1, v) else kv else kvs ++ [(k, v)]

/-! ## operations -/
/-- (the kernel must not count down from great numbers: the choice stands in the way) -/
noncomputable def smallMul (i j : Int) : Bool := @decide ((-(2 ^ 64) < i ∧ i < 2 ^ 64) ∨ (-(2 ^ 64) < j ∧ j < 2 ^ 64)) (Classical.propDecidable _)
noncomputable def binI : Bop → Int → Int → Option Int
  | .add, i, j => some (i + j)
  | .sub, i, j => some (i - j)
  | .mul, i, j => if smallMul i j then some (i * j) else none
  | .fdiv, i, j => @ite _ (0 < j ∧ j < 1073741824) (Classical.propDecidable _) (some (i / j)) none
  | .mod, i, j => @ite _ (0 < j) (Classical.propDecidable _) (some (i % j)) none
  | .pow, i, j => @ite _ (0 ≤ j ∧ j ≤ 1000000 ∧ i.natAbs < 2 ^ 64) (Classical.propDecidable _) (some (i ^ j.toNat)) none
  | .shl, i, j => @ite _ (0 ≤ j ∧ j ≤ 1000000 ∧ i.natAbs < 2 ^ 64) (Classical.propDecidable _) (some (i * 2 ^ j.toNat)) none
  | .shr, i, j => @ite _ (0 ≤ j) (Classical.propDecidable _) (some (i / 2 ^ j.toNat)) none
  | .band, i, j => some (Builtin.bitAnd i j)

def ofO (o : Option D) (h : Hm) : Re D := match o with
  | some d => .ok d h
  | none => .stk
def ofB (o : Option Bool) (h : Hm) : Re D := match o with
  | some b => .ok (.bl b) h
  | none => .stk
/-- a new list -/
def mkL (z : Bool) (l : List D) (h : Hm) : Re D := if z then .ok (.lst l) h else .ok (.ref h.length) (h ++ [.lst l])
def mkO (z : Bool) (o : Option (List D)) (h : Hm) : Re D := match o with
  | some l => mkL z l h
  | none => .stk

noncomputable def binD (z : Bool) (o : Bop) (a b : D) (h : Hm) : Re D := match a, b with
  | .int i, .int j => ofO ((binI o i j).map .int) h
  | .tup x, .tup y => match o with
    | .add => if x.length + y.length ≤ sizeLine then .ok (.tup (x ++ y)) h else .stk
    | _ => .stk
  | .tup x, .int j => match o with
    | .mul => if -1000 ≤ j ∧ j ≤ 1000 ∧ x.length ≤ 1000 then .ok (.tup (List.replicate j.toNat x).flatten) h else .stk
    | _ => .stk
  | a, .int j => match o with
    | .mul => match listD h a with
      | some x => if 0 ≤ j ∧ j ≤ sizeLine ∧ x.length * j.toNat ≤ sizeLine then mkL z (List.replicate j.toNat x).flatten h else .stk
      | none => .stk
    | _ => .stk
  | a, b => match o with
    | .add => match listD h a, listD h b with
      | some x, some y => if x.length + y.length ≤ sizeLine then mkL z (x ++ y) h else .stk
      | _, _ => .stk
    | _ => .stk

/-- dicts of lots and ints: the same pairs -/
def intVs : List (TK × D) → Option (List (TK × Int))
  | [] => some []
  | (k, .int i) :: l => (intVs l).map ((k, i) :: ·)
  | _ => none
def sameB (a b : List (TK × Int)) : Bool := a.length == b.length && a.all fun p => b.contains p
def dtE (h : Hm) (a b : D) : Option Bool := match a, b with
  | .ref m, .ref n => match gt h m, gt h n with
    | some (.dt x), some (.dt y) => match intVs x, intVs y with
      | some x, some y => some (sameB x y)
      | _, _ => none
    | _, _ => none
  | _, _ => none
def cmpD (o : Cop) (h : Hm) (a b : D) : Option Bool := match o with
  | .eq => D.eqv h a b
  | .ne => (D.eqv h a b).map (!·)
  | .lt => match a, b with
    | .int i, .int j => some (decide (i < j))
    | .tup x, .tup y => match D.pys (pyR h 2) x, D.pys (pyR h 2) y with
      | some x, some y => if PySem.W.alikeAll x y && SeqAt.shaped (.tuple x) && SeqAt.shaped (.tuple y) then some (PySem.W.dataLt (.tuple x) (.tuple y)) else none
      | _, _ => none
    | _, _ => none
  | .le => match a, b with
    | .int i, .int j => some (decide (i ≤ j))
    | _, _ => none
  | .gt => match a, b with
    | .int i, .int j => some (decide (j < i))
    | _, _ => none
  | .ge => match a, b with
    | .int i, .int j => some (decide (j ≤ i))
    | _, _ => none
  | .isn => match b with
    | .non => match a with
      | .non => some true
      | _ => some false
    | _ => none
  | .notn => match b with
    | .non => match a with
      | .non => some false
      | _ => some true
    | _ => none
  | .isin => inD h a b
  | .notin => (inD h a b).map (!·)
  | .eqd => dtE h a b
  | .ned => (dtE h a b).map (!·)
where inD (h : Hm) (a b : D) : Option Bool := match b with
  | .ref n => match gt h n with
    | some (.lst l) => memD h a l
    | some (.dk l) => match a with
      | .int i => some (lookK l i).isSome
      | _ => none
    | some (.dt l) => match tkD a with
      | some k => some (lookK l k).isSome
      | none => none
    | _ => none
  | .tup l => memD h a l
  | .lst l => memD h a l
  | _ => none

def idxD (h : Hm) (a i : D) : Option D := match a with
  | .ref n => match gt h n with
    | some (.lst l) => match i with
      | .int i => atI l i
      | _ => none
    | some (.dk l) => match i with
      | .int i => lookK l i
      | _ => none
    | some (.dt l) => match tkD i with
      | some k => lookK l k
      | none => none
    | _ => none
  | .scr l => match i with
    | .int i => atI (l.map D.int) i
    | _ => none
  | .tup l => match i with
    | .int i => atI l i
    | _ => none
  | .lst l => match i with
    | .int i => atI l i
    | _ => none
  | _ => none
def cutD (xs : List D) (lo hi : Option Int) : List D := (xs.drop (HT.sIx xs.length 0 lo)).take (HT.sIx xs.length xs.length hi - HT.sIx xs.length 0 lo)
def slcD (z : Bool) (a : D) (lo hi : Option Int) (h : Hm) : Re D := match a with
  | .tup l => .ok (.tup (cutD l lo hi)) h
  | .scr l => mkL z (cutD (l.map .int) lo hi) h
  | a => match listD h a with
    | some l => mkL z (cutD l lo hi) h
    | none => .stk

def minL : List Int → Int
  | [] => 0
  | [a] => a
  | a :: as => min a (minL as)
def maxL : List Int → Int
  | [] => 0
  | [a] => a
  | a :: as => max a (maxL as)
def isort (l : List Int) : List Int := l.mergeSort (fun a b => decide (a ≤ b))
def blsD : List D → Option (List Bool)
  | [] => some []
  | .bl i :: ds => (blsD ds).map (i :: ·)
  | _ => none

/-! lots in order -/
def ksort (l : List TK) : List TK := l.mergeSort (fun a b => !HT.lexLt b a)
def tksD : List D → Option (List TK)
  | [] => some []
  | d :: ds => match tkD d, tksD ds with
    | some k, some ks => some (k :: ks)
    | _, _ => none
def kD (k : TK) : D := .tup (k.map .int)
/-- pairs of an int and a lot -/
def pairK : D → Option TK
  | .tup [.int a, .tup l] => (intsD l).map (a :: ·)
  | _ => none
def pairsK : List D → Option (List TK)
  | [] => some []
  | d :: ds => match pairK d, pairsK ds with
    | some k, some ks => some (k :: ks)
    | _, _ => none
def unpair : TK → D
  | [] => .non
  | a :: r => .tup [.int a, kD r]
/-- the least lot -/
def kmin : List TK → TK
  | [] => []
  | [k] => k
  | k :: ks => if HT.lexLt (kmin ks) k then kmin ks else k

def biD (z : Bool) (f : Bi) (ds : List D) (h : Hm) : Re D := match f, ds with
  | .len, [d] => ofO ((d.len h).map fun n => .int (n : Int)) h
  | .sum, [d] => match listD h d with
    | some l => ofO ((intsD l).map fun is => .int is.sum) h
    | none => .stk
  | .min, [.int a, .int b] => .ok (.int (min a b)) h
  | .max, [.int a, .int b] => .ok (.int (max a b)) h
  | .min, [.int a, .int b, .int c] => .ok (.int (min (min a b) c)) h
  | .max, [.int a, .int b, .int c] => .ok (.int (max (max a b) c)) h
  | .min, [d] => match listD h d with
    | some l => match intsD l with
      | some (i :: is) => .ok (.int (minL (i :: is))) h
      | _ => .stk
    | none => .stk
  | .max, [d] => match listD h d with
    | some l => match intsD l with
      | some (i :: is) => .ok (.int (maxL (i :: is))) h
      | _ => .stk
    | none => .stk
  | .sorted, [d] => match listD h d with
    | some l => match intsD l with
      | some is => if is.length ≤ sizeLine then mkL z ((isort is).map .int) h else .stk
      | _ => .stk
    | none => .stk
  | .any, [d] => match listD h d with
    | some l => ofO ((blsD l).map fun bs => .bl (bs.any id)) h
    | none => .stk
  | .all, [d] => match listD h d with
    | some l => ofO ((blsD l).map fun bs => .bl (bs.all id)) h
    | none => .stk
  | .int, [.int i] => .ok (.int i) h
  | .int, [.bl b] => .ok (.int (if b then 1 else 0)) h
  | .list, [d] => mkO z (seqD h d) h
  | .tuple, [.tup l] => .ok (.tup l) h
  | .tuple, [d] => match listD h d with
    | some l => .ok (.tup l) h
    | none => .stk
  | .listk, [.ref n] => match gt h n with
    | some (.dt l) => mkL z (l.map fun p => kD p.1) h
    | _ => .stk
  | .sortt, [d] => match listD h d with
    | some l => match tksD l with
      | some ks => if ks.length ≤ sizeLine then mkL z ((ksort ks).map kD) h else .stk
      | none => match pairsK l with
        | some ks => if ks.length ≤ sizeLine then mkL z ((ksort ks).map unpair) h else .stk
        | none => .stk
    | none => .stk
  | .sortk, [.ref n] => match gt h n with
    | some (.dt l) => mkL z ((ksort (l.map (·.1))).map kD) h
    | _ => .stk
  | _, _ => .stk

def Tk.nm : Tk → String
  | .int => "int" | .bool => "bool" | .str => "str" | .tuple => "tuple" | .list => "list" | .dict => "dict"
/-- the built-in type of a thing -/
def tyD (h : Hm) : D → Option String
  | .non => some "NoneType"
  | .bl _ => some "bool"
  | .int _ => some "int"
  | .str _ => some "str"
  | .tup _ => some "tuple"
  | .lst _ => some "list"
  | .ref n => match gt h n with
    | some (.lst _) => some "list"
    | some (.dk _) => some "dict"
    | some (.dt _) => some "dict"
    | _ => none
  | _ => none
def isiD (k : Tk) (h : Hm) (d : D) : Option Bool := (tyD h d).map fun t => t == k.nm || (t == "bool" && k.nm == "int")

def mmD (m : Mm) (ds : List D) (h : Hm) : Re D := match m, ds with
  | .append, [.ref n, d] => match h[n]? with
    | some (.lst l) => if l.length < sizeLine then .ok .non (h.set n (.lst (l ++ [d]))) else .stk
    | _ => .stk
  | .pop, [.ref n] => match h[n]? with
    | some (.lst l) => match l[l.length - 1]? with
      | some d => .ok d (h.set n (.lst l.dropLast))
      | none => .stk
    | _ => .stk
  | .clear, [.ref n] => match h[n]? with
    | some (.lst l) => .ok .non (h.set n (.lst []))
    | _ => .stk
  | _, _ => .stk
noncomputable def rngOk (a b : Int) : Bool := @decide (-(2 ^ 62) ≤ a ∧ a < 2 ^ 62 ∧ -(2 ^ 62) ≤ b ∧ b < 2 ^ 62) (Classical.propDecidable _)
def rngL (lo : Int) (n : Nat) : List D := (List.range n).map fun (j : Nat) => D.int (lo + (j : Int))
def rngD (lo : Int) (n : Nat) : List D := (List.range n).map fun (j : Nat) => D.int (lo - (j : Int))
/-- what a dict holds at a key -/
def dgD (h : Hm) (a k : D) : Option (Option D) := match a with
  | .ref n => match gt h n with
    | some (.dk l) => match k with
      | .int i => some (lookK l i)
      | _ => none
    | some (.dt l) => match tkD k with
      | some k => some (lookK l k)
      | none => none
    | _ => none
  | _ => none
def partD : D → Option (Option Int)
  | .non => some none
  | .int i => some (some i)
  | _ => none

noncomputable def pr (p : Pn) (ds : List D) (h : Hm) : Re D := match p, ds with
  | .bin z o, [a, b] => binD z o a b h
  | .neg, [.int i] => .ok (.int (-i)) h
  | .idx, [a, i] => ofO (idxD h a i) h
  | .slc z true false, [a, x] => match partD x with
    | some x => slcD z a x none h
    | _ => .stk
  | .slc z false true, [a, x] => match partD x with
    | some x => slcD z a none x h
    | _ => .stk
  | .slc z false false, [a] => slcD z a none none h
  | .rev z, [a] => mkO z ((listD h a).map List.reverse) h
  | .revt, [.tup l] => .ok (.tup l.reverse) h
  | .bi z f, ds => biD z f ds h
  | .bits, [.int i] => .ok (.int (Builtin.Int.intBits i : Nat)) h
  | .mm m, ds => mmD m ds h
  | .dnew t, [] => .ok (.ref h.length) (h ++ [if t then .dt [] else .dk []])
  | .get1, [a, k] => ofO ((dgD h a k).map fun o => o.getD .non) h
  | .get2, [a, k, d] => ofO ((dgD h a k).map fun o => o.getD d) h
  | .att c i _, [.ins c' fs] => if c = c' then ofO fs[i]? h else .stk
  | .att c i _, [.ref n] => match gt h n with
    | some (.ins c' fs) => if c = c' then ofO fs[i]? h else .stk
    | _ => .stk
  | .isi k, [d] => ofB (isiD k h d) h
  | .lrng z, [.int i, .int j] => if rngOk i j && decide ((j - i).toNat ≤ sizeLine) then mkL z (rngL i (j - i).toNat) h else .stk
  | _, _ => .stk

/-- a built-in method's receiver, ahead of the arguments -/
def kindOk (p : Pn) (h : Hm) (d : D) : Bool := match p with
  | .mm _ => match d with
    | .ref n => match gt h n with
      | some (.lst _) => true
      | _ => false
    | _ => false
  | .get1 | .get2 => match d with
    | .ref n => match gt h n with
      | some (.dk _) => true
      | some (.dt _) => true
      | _ => false
    | _ => false
  | _ => false

/-! ## evaluation -/
/-- in a test: the truth -/
def fin (t : Bool) (r : Re D) : Re D := if t then match r with
  | .ok d h => ofB (d.truth h) h
  | r => r
  else r
def setSl (e : Env) (i : Nat) (d : D) : Option Env := if i < e.length then some (e.set i (some d)) else none
def setSls : Env → List Nat → List D → Option Env
  | e, [], [] => some e
  | e, i :: is, d :: ds => match setSl e i d with
    | some e' => setSls e' is ds
    | none => none
  | _, _, _ => none
def bindT (e : Env) : Tg → D → Option Env
  | .nm i, d => setSl e i d
  | .tp is, .tup ds => setSls e is ds
  | _, _ => none
/-- a comprehension's slots ahead of it -/
def wipeE (e : Env) : List Nat → Env
  | [] => e
  | i :: is => (wipeE e is).set i none
def permL : List (Nat ⊕ Bool) → List D → Option (List D)
  | [], _ => some []
  | .inl i :: l, ds => match ds[i]? with
    | some d => match permL l ds with
      | some r => some (d :: r)
      | none => none
    | none => none
  | .inr b :: l, ds => match permL l ds with
    | some r => some ((if b then .tup [] else .non) :: r)
    | none => none
def permD (p : Pm) (ds : List D) : Option (List D) := match p with
  | none => some ds
  | some l => permL l ds
/-- an instance of the class -/
def insOk (cl : Nat) (h : Hm) : D → Bool
  | .ins c _ => c == cl
  | .ref n => match gt h n with
    | some (.ins c _) => c == cl
    | _ => false
  | _ => false
def enmL : Nat → List D → List D
  | _, [] => []
  | i, d :: ds => .tup [.int (i : Int), d] :: enmL (i + 1) ds

/-- what is walked: its items; g: what must hold of the heap as long as it is walked -/
structure Its where
  l : List D
  g : Hm → Prop
/-- a value is walked -/
def itV (d : D) (h : Hm) : Option Its := match d with
  | .tup l => some ⟨l, fun _ => True⟩
  | .lst l => some ⟨l, fun _ => True⟩
  | .scr l => some ⟨l.map .int, fun _ => True⟩
  | .ref n => match h[n]? with
    | some (.lst l) => some ⟨l, fun h' => h'[n]? = some (.lst l)⟩
    | some (.frz (.lst l)) => some ⟨l, fun h' => h'[n]? = some (.frz (.lst l))⟩
    | _ => none
  | _ => none

/-- a dict is walked: it stands frozen from then on -/
def kysR (d : D) (h : Hm) : Re Its := match d with
  | .ref n => match h[n]? with
    | some (.dt l) => .ok ⟨l.map fun p => kD p.1, fun h' => h'[n]? = some (.frz (.dt l))⟩ (h.set n (.frz (.dt l)))
    | some (.frz (.dt l)) => .ok ⟨l.map fun p => kD p.1, fun h' => h'[n]? = some (.frz (.dt l))⟩ h
    | _ => .stk
  | _ => .stk
noncomputable def cloop (g : Hm → Prop) (bnd : D → Option Env) (cond elt : Env → Hm → Re D) (n : Nat) : List D → Hm → Option Hm
  | [], h => if g h then some h else none
  | d :: ds, h => if g h then match bnd d with
    | none => none
    | some e1 => match cond e1 h with
      | .ok (.bl true) h2 => match elt e1 h2 with
        | .ok x h3 => match h3[n]? with
          | some (.lst acc) => if acc.length < sizeLine then cloop g bnd cond elt n ds (h3.set n (.lst (acc ++ [x]))) else none
          | _ => none
        | _ => none
      | .ok (.bl false) h2 => cloop g bnd cond elt n ds h2
      | _ => none
    else none

/-- a def's end: what its frame has made is dropped where nothing points to it -/
inductive Gc where | keep | pure | one | frz deriving DecidableEq
mutual
def D.pure : D → Bool
  | .tup l => D.pures l
  | .lst l => D.pures l
  | .ins _ l => D.pures l
  | .ref _ => false
  | _ => true
def D.pures : List D → Bool
  | [] => true
  | d :: ds => D.pure d && D.pures ds
end
def Ob.pure : Ob → Bool
  | .lst l => D.pures l
  | .dk kvs => kvs.all fun p => p.2.pure
  | .dt kvs => kvs.all fun p => p.2.pure
  | .ins _ l => D.pures l
  | _ => false
/-- nothing that stood points to what was made -/
def oldOk (h h' : Hm) : Prop := h.length ≤ h'.length ∧ ∀ i, i < h.length → h'[i]? = h[i]? ∨ ∃ o, h'[i]? = some o ∧ o.pure = true
noncomputable def gcR (m : Gc) (h : Hm) (d : D) (h' : Hm) : Re D := match m with
  | .keep => .ok d h'
  | .pure => if oldOk h h' ∧ d.pure = true then .ok d (h'.take h.length) else .stk
  | .one => match d with
    | .ref n => match h'[n]? with
      | some o => if oldOk h h' ∧ h.length ≤ n ∧ o.pure = true then .ok (.ref h.length) (h'.take h.length ++ [o]) else .stk
      | none => .stk
    | d => if oldOk h h' ∧ d.pure = true then .ok d (h'.take h.length) else .stk
  | .frz => match d with
    | .ref n => match h'[n]? with
      | some (.lst l) => if oldOk h h' ∧ h.length ≤ n ∧ D.pures l = true then .ok (.lst l) (h'.take h.length) else .stk
      | some (.ins c l) => if oldOk h h' ∧ h.length ≤ n ∧ D.pures l = true then .ok (.ins c l) (h'.take h.length) else .stk
      | _ => .stk
    | d => if oldOk h h' ∧ d.pure = true then .ok d (h'.take h.length) else .stk

mutual
noncomputable def ev (c : Oracle) : IE → Bool → Env → Hm → Re D
  | .con d, t, e, h => fin t (.ok d h)
  | .gl _ d, t, e, h => fin t (.ok d h)
  | .var i, t, e, h => fin t (match e[i]? with
    | some (some d) => .ok d h
    | _ => .stk)
  | .tupE as, t, e, h => fin t ((evA c as e h).bind fun ds h1 => if ds.length ≤ sizeLine then .ok (.tup ds) h1 else .stk)
  | .lstE z as, t, e, h => fin t ((evA c as e h).bind fun ds h1 => if ds.length ≤ sizeLine then mkL z ds h1 else .stk)
  | .op p as, t, e, h => fin t ((evA c as e h).bind fun ds h1 => pr p ds h1)
  | .bmt p o as, t, e, h => fin t ((ev c o false e h).bind fun x h1 => if kindOk p h1 x then (evA c as e h1).bind fun ds h2 => pr p (x :: ds) h2 else .stk)
  | .slc2 z a lo hi, t, e, h => fin t ((ev c a false e h).bind fun x h1 => (ev c lo false e h1).bind fun y h2 => match partD y with
    | some y => (ev c hi false e h2).bind fun w h3 => match partD w with
      | some w => slcD z x y w h3
      | none => .stk
    | none => .stk)
  | .cmp o a b, t, e, h => (ev c a false e h).bind fun x h1 => (ev c b false e h1).bind fun y h2 => ofB (cmpD o h2 x y) h2
  | .chain o o' a b d, t, e, h => (ev c a false e h).bind fun x h1 => (ev c b false e h1).bind fun y h2 => match cmpD o h2 x y with
    | some true => (ev c d false e h2).bind fun z h3 => ofB (cmpD o' h3 y z) h3
    | some false => .ok (.bl false) h2
    | none => .stk
  | .chain3 o o2 o3 a b b2 d, t, e, h => (ev c a false e h).bind fun x h1 => (ev c b false e h1).bind fun y h2 => match cmpD o h2 x y with
    | some true => (ev c b2 false e h2).bind fun z h3 => match cmpD o2 h3 y z with
      | some true => (ev c d false e h3).bind fun w h4 => ofB (cmpD o3 h4 z w) h4
      | some false => .ok (.bl false) h3
      | none => .stk
    | some false => .ok (.bl false) h2
    | none => .stk
  | .not a, true, e, h => (ev c a true e h).bind fun x h1 => match x with
    | .bl b => .ok (.bl (!b)) h1
    | _ => .stk
  | .not a, false, e, h => (ev c a false e h).bind fun x h1 => ofB ((x.truth h1).map (!·)) h1
  | .and a b, t, e, h => (ev c a t e h).bind fun x h1 => match x with
    | .bl true => (ev c b t e h1).bind fun y h2 => match y with
      | .bl k => .ok (.bl k) h2
      | _ => .stk
    | .bl false => .ok (.bl false) h1
    | _ => .stk
  | .or a b, t, e, h => (ev c a t e h).bind fun x h1 => match x with
    | .bl true => .ok (.bl true) h1
    | .bl false => (ev c b t e h1).bind fun y h2 => match y with
      | .bl k => .ok (.bl k) h2
      | _ => .stk
    | _ => .stk
  | .ite q a b, t, e, h => (ev c q true e h).bind fun x h1 => match x with
    | .bl true => ev c a t e h1
    | .bl false => ev c b t e h1
    | _ => .stk
  | .call f p as, t, e, h => fin t ((evA c as e h).bind fun ds h1 => match permD p ds with
    | some args => c.call f args h1
    | none => .stk)
  | .meth cl _ f p o as, t, e, h => fin t ((ev c o false e h).bind fun x h1 => if insOk cl h1 x then (evA c as e h1).bind fun ds h2 => match permD p (x :: ds) with
    | some args => c.call f args h2
    | none => .stk
    else .stk)
  | .make z cl f p as, t, e, h => fin t ((evA c as e h).bind fun ds h1 => match permD p (.ref h1.length :: ds) with
    | some args => (c.make f args (h1 ++ [.ins cl []])).bind fun r h2 => match r with
      | .non => gcR (if z then .frz else .keep) h1 (.ref h1.length) h2
      | _ => .stk
    | none => .stk)
  | .lc z own tg it cond elt, t, e, h => fin t ((evI c it e h).bind fun its h1 => match cloop its.g (fun d => bindT (wipeE e own) tg d) (fun e h => ev c cond true e h) (fun e h => ev c elt false e h) h1.length its.l (h1 ++ [.lst []]) with
    | some h3 => gcR (if z then .frz else .keep) h1 (.ref h1.length) h3
    | none => .stk)
  | _, _, _, _ => .stk
/-- what is walked -/
noncomputable def evI (c : Oracle) : IE → Env → Hm → Re Its
  | .rng1 a, e, h => (ev c a false e h).bind fun x h1 => match x with
    | .int b => if rngOk 0 b then .ok ⟨rngL 0 b.toNat, fun _ => True⟩ h1 else .stk
    | _ => .stk
  | .rng2 a b, e, h => (ev c a false e h).bind fun x h1 => (ev c b false e h1).bind fun y h2 => match x, y with
    | .int i, .int j => if rngOk i j then .ok ⟨rngL i (j - i).toNat, fun _ => True⟩ h2 else .stk
    | _, _ => .stk
  | .rng3 a b, e, h => (ev c a false e h).bind fun x h1 => (ev c b false e h1).bind fun y h2 => match x, y with
    | .int i, .int j => if rngOk i j then .ok ⟨rngD i (i - j).toNat, fun _ => True⟩ h2 else .stk
    | _, _ => .stk
  | .enm a, e, h => (ev c a false e h).bind fun x h1 => match itV x h1 with
    | some its => .ok ⟨enmL 0 its.l, its.g⟩ h1
    | none => .stk
  | .itv a, e, h => (ev c a false e h).bind fun x h1 => match itV x h1 with
    | some i => .ok i h1
    | none => .stk
  | .kys a, e, h => (ev c a false e h).bind fun x h1 => kysR x h1
  | _, _, _ => .stk
noncomputable def evA (c : Oracle) : IE → Env → Hm → Re (List D)
  | .nil, e, h => .ok [] h
  | .cons a t, e, h => (ev c a false e h).bind fun d h1 => (evA c t e h1).bind fun ds h2 => .ok (d :: ds) h2
  | .star a t, e, h => (ev c a false e h).bind fun d h1 => match seqD h1 d with
    | some l => (evA c t e h1).bind fun ds h2 => .ok (l ++ ds) h2
    | none => .stk
  | _, _, _ => .stk
end

/-! ## statements -/
def Re.fl {α : Type} (x : Re α) (e : Env) (f : α → Hm → Fl) : Fl := match x with
  | .ok d h => f d h
  | .exc c w h => .exc c w e h
  | .stk => .stk
def ofE (o : Option Env) (h : Hm) : Fl := match o with
  | some e => .nx e h
  | none => .stk
def Fl.then (x : Fl) (f : Env → Hm → Fl) : Fl := match x with
  | .nx e h => f e h
  | r => r
noncomputable def floop (g : Hm → Prop) (bnd : Env → D → Option Env) (body : Env → Hm → Fl) : List D → Env → Hm → Fl
  | [], e, h => if g h then .nx e h else .stk
  | d :: ds, e, h => if g h then match bnd e d with
    | none => .stk
    | some e1 => match body e1 h with
      | .nx e2 h2 => floop g bnd body ds e2 h2
      | .ct e2 h2 => floop g bnd body ds e2 h2
      | .brk e2 h2 => .nx e2 h2
      | r => r
    else .stk
def wloop (test : Env → Hm → Re D) (body : Env → Hm → Fl) : Nat → Env → Hm → Fl
  | 0, _, _ => .stk
  | n + 1, e, h => (test e h).fl e fun b h1 => match b with
    | .bl true => match body e h1 with
      | .nx e2 h2 => wloop test body n e2 h2
      | .ct e2 h2 => wloop test body n e2 h2
      | .brk e2 h2 => .nx e2 h2
      | r => r
    | .bl false => .nx e h1
    | _ => .stk
def setK (h : Hm) (o k d : D) : Option Hm := match o with
  | .ref n => match h[n]? with
    | some (.lst l) => match k with
      | .int i => match ixN l.length i with
        | some j => some (h.set n (.lst (l.set j d)))
        | none => none
      | _ => none
    | some (.dk l) => match k with
      | .int i => if l.length < sizeLine then some (h.set n (.dk (putD l i d))) else none
      | _ => none
    | some (.dt l) => match tkD k with
      | some i => if l.length < sizeLine then some (h.set n (.dt (putD l i d))) else none
      | none => none
    | _ => none
  | _ => none
/-- an attribute: there already, or the next one -/
def setF (fs : List D) (i : Nat) (d : D) : Option (List D) := if i < fs.length then some (fs.set i d) else if i = fs.length then some (fs ++ [d]) else none
def augD (o : Bop) (a b : D) (h : Hm) : Option (D × Hm) := match a with
  | .int i => match b with
    | .int j => match o with
      | .add => some (.int (i + j), h)
      | .sub => some (.int (i - j), h)
      | _ => none
    | _ => none
  | .ref n => match o with
    | .add => match h[n]? with
      | some (.lst l) => match listD h b with
        | some m => if l.length + m.length ≤ sizeLine then some (.ref n, h.set n (.lst (l ++ m))) else none
        | none => none
      | _ => none
    | _ => none
  | _ => none

noncomputable def ex (c : Oracle) (W : Nat) : IS → Env → Hm → Fl
  | .nil, e, h => .nx e h
  | .pass, e, h => .nx e h
  | .brk, e, h => .brk e h
  | .cont, e, h => .ct e h
  | .seq a b, e, h => (ex c W a e h).then (ex c W b)
  | .asg tg v, e, h => (ev c v false e h).fl e fun d h1 => ofE (bindT e tg d) h1
  | .asgs is v, e, h => (ev c v false e h).fl e fun d h1 => ofE (setSls e is (is.map fun _ => d)) h1
  | .par is vs, e, h => (evA c vs e h).fl e fun ds h1 => ofE (setSls e is ds) h1
  | .setI o k v, e, h => (ev c v false e h).fl e fun d h1 => (ev c o false e h1).fl e fun x h2 => (ev c k false e h2).fl e fun y h3 => match setK h3 x y d with
    | some h4 => .nx e h4
    | none => .stk
  | .setA cl i _ o v, e, h => (ev c v false e h).fl e fun d h1 => (ev c o false e h1).fl e fun x h2 => match x with
    | .ref n => match h2[n]? with
      | some (.ins c' fs) => if c' = cl then match setF fs i d with
          | some fs' => .nx e (h2.set n (.ins cl fs'))
          | none => .stk
        else .stk
      | _ => .stk
    | _ => .stk
  | .aug i o v, e, h => match e[i]? with
    | some (some d0) => (ev c v false e h).fl e fun d h1 => match augD o d0 d h1 with
      | some (r, h2) => ofE (setSl e i r) h2
      | none => .stk
    | _ => .stk
  | .exp v, e, h => (ev c v false e h).fl e fun _ h1 => .nx e h1
  | .ret v, e, h => (ev c v false e h).fl e fun d h1 => .ret d h1
  | .retN, e, h => .ret .non h
  | .ite q a b, e, h => (ev c q true e h).fl e fun x h1 => match x with
    | .bl true => ex c W a e h1
    | .bl false => ex c W b e h1
    | _ => .stk
  | .whl q b, e, h => wloop (fun e h => ev c q true e h) (fun e h => ex c W b e h) W e h
  | .for tg it b, e, h => (evI c it e h).fl e fun its h1 => floop its.g (fun e d => bindT e tg d) (fun e h => ex c W b e h) its.l e h1
  | .rais cl v, e, h => (ev c v false e h).fl e fun d h1 => .exc cl d e h1
  | _, _, _ => .stk

/-! ## defs -/
structure Df where
  params : Nat
  slots : Nat
  gc : Gc
  body : IS

def startE (n : Nat) (ds : List D) : Env := ds.map some ++ List.replicate (n - ds.length) none
noncomputable def callF (c : Oracle) (W : Nat) (f : Df) (ds : List D) (h : Hm) : Re D :=
  if ds.length = f.params then match ex c W f.body (startE f.slots ds) h with
    | .nx e h' => gcR f.gc h .non h'
    | .ret d h' => gcR f.gc h d h'
    | .exc cl w e h' => .exc cl w h'
    | _ => .stk
  else .stk
/-- k: the depth, W: the turns of a while -/
noncomputable def run (Γ : Nat → Option Df) (W : Nat) : Nat → Oracle
  | 0 => ⟨fun _ _ _ => .stk, fun _ _ _ => .stk⟩
  | k + 1 => ⟨fun f ds h => match Γ f with
    | some d => callF (run Γ W k) W d ds h
    | none => .stk, fun f ds h => (run Γ W k).call f ds h⟩
theorem tst1 {c : Oracle} {d : D} {t : Bool} {e : Env} {h : Hm} : ev c (.con d) t e h = fin t (.ok d h) := rfl
theorem tst2 {c : Oracle} {a : IE} {e : Env} {h : Hm} : evI c (.itv a) e h = (ev c a false e h).bind fun x h1 => match itV x h1 with
    | some i => .ok i h1
    | none => .stk := rfl
end N9

set_option Elab.async false
set_option linter.all false
set_option maxRecDepth 100000
namespace N9
open PySem PySem.Spec L2

/-! ## the check: this term is that text -/
/-- how a def is called: positional arguments (with self), keywords -/
structure Shp where
  f : Nat
  n : Nat
  ks : List Str
  pm : Pm
  deriving DecidableEq
structure Tab where
  fn : Nat → Str
  np : Nat → Nat
  gf : Nat → Bool
  co : String → Option D
  bl : List String
  cn : Nat → List Str
  cname : Nat → Str
  ncl : List Nat
  /-- the method m of the class c -/
  mt : Nat → String → Option Nat
  shs : List Shp

def isSl : Expr → Bool
  | .Slice .. => true
  | _ => false
def isComp : Expr → Bool
  | .ListComp .. | .SetComp .. | .DictComp .. => true
  | _ => false
def isStar : Expr → Bool
  | .Starred .. => true
  | _ => false
def isSet : Expr → Bool
  | .Set .. => true
  | _ => false
def plainT : Expr → Bool
  | .UnaryOp .Not _ _ | .BoolOp .. | .IfExp .. | .Compare .. => false
  | _ => true
def visB (sc : Scope) (x : Str) : Bool := match sc.names.lookup x with
  | some .local | some .cell | some .free => true
  | _ => false
def locB (sc : Scope) (x : Str) : Bool := match sc.names.lookup x with
  | some .local | some .cell => true
  | _ => false
def glB (sc : Scope) (x : Str) : Bool := match sc.names.lookup x with
  | some .globalImplicit => true
  | _ => false
def plainN (x : Str) : Bool := !(x == ("__debug__" : Str)) && !(x == ("__classdict__" : Str)) && !(x == ("__name__" : Str))

def Bop.is : Bop → Operator → Bool
  | .add, .Add | .sub, .Sub | .mul, .Mult | .fdiv, .FloorDiv | .mod, .Mod | .pow, .Pow | .shl, .LShift | .shr, .RShift | .band, .BitAnd => true
  | _, _ => false
def Cop.is : Cop → CmpOp → Bool
  | .eq, .Eq | .ne, .NotEq | .lt, .Lt | .le, .LtE | .gt, .Gt | .ge, .GtE | .isn, .Is | .notn, .IsNot | .isin, .In | .notin, .NotIn | .eqd, .Eq | .ned, .NotEq => true
  | _, _ => false
def Bi.nm : Bi → String
  | .len => "len" | .sum => "sum" | .min => "min" | .max => "max" | .sorted => "sorted" | .int => "int" | .list => "list" | .tuple => "tuple" | .any => "any" | .all => "all" | .str => "str" | .listk => "list" | .sortt => "sorted" | .sortk => "sorted" | .mint => "min"
def Mm.nm : Mm → String
  | .append => "append" | .pop => "pop" | .clear => "clear"
def Mm.ar : Mm → Nat
  | .append => 1 | .pop => 0 | .clear => 0
/-- a call that might be super() -/
def isCall : Expr → Bool
  | .Call (.Name _ _) [] [] _ => true
  | _ => false
def isOne : Expr → Bool
  | .Constant (.int i) _ _ => decide (i = 1)
  | _ => false
def isM1 : Expr → Bool
  | .UnaryOp .USub e _ => isOne e
  | _ => false
def isRev1 : Expr → Bool
  | .Slice none none (some e) _ => isM1 e
  | _ => false
theorem isOne_of {e : Expr} (h : isOne e = true) : ∃ k p, e = .Constant (.int 1) k p := by
  cases e <;> first | exact absurd h Bool.false_ne_true | skip
  rename_i v k p
  cases v <;> first | exact absurd h Bool.false_ne_true | skip
  have h := of_decide_eq_true h
  subst h
  exact ⟨_, _, rfl⟩
theorem isM1_of {e : Expr} (h : isM1 e = true) : ∃ k p p2, e = .UnaryOp .USub (.Constant (.int 1) k p) p2 := by
  cases e <;> first | exact absurd h Bool.false_ne_true | skip
  rename_i op x p2
  cases op <;> first | exact absurd h Bool.false_ne_true | skip
  obtain ⟨k, p, rfl⟩ := isOne_of h
  exact ⟨_, _, _, rfl⟩
theorem isRev1_of {e : Expr} (h : isRev1 e = true) : ∃ k p p2 p3, e = .Slice none none (some (.UnaryOp .USub (.Constant (.int 1) k p) p2)) p3 := by
  cases e <;> first | exact absurd h Bool.false_ne_true | skip
  rename_i lo hi st p3
  cases lo <;> first | exact absurd h Bool.false_ne_true | skip
  cases hi <;> first | exact absurd h Bool.false_ne_true | skip
  cases st <;> first | exact absurd h Bool.false_ne_true | skip
  obtain ⟨k, p, p2, rfl⟩ := isM1_of h
  exact ⟨_, _, _, _, rfl⟩
def conB (d : D) : Expr → Bool
  | .Constant (.int i) _ _ => match d with | .int j => decide (i = j) | _ => false
  | .Constant (.bool i) _ _ => match d with | .bl j => decide (i = j) | _ => false
  | .Constant .none _ _ => match d with | .non => true | _ => false
  | .Constant (.str i) _ _ => match d with | .str j => decide (i = j) | _ => false
  | _ => false
def tgB (N : List Str) (sc : Scope) : Tg → Expr → Bool
  | .nm i, .Name x _ => decide (N[i]? = some x) && locB sc x
  | .tp is, .Tuple es _ _ => decide (is.length = es.length) && (is.zip es).all fun p => match p.2 with
    | .Name x _ => decide (N[p.1]? = some x) && locB sc x
    | _ => false
  | _, _ => false
/-- a block's names -/
def blkB (N : List Str) (sc scope : Scope) (own : List Nat) : Bool :=
  (match scope.kind with | .function => true | _ => false) && (scope.names.all fun y => decide (scope.names.lookup y.1 = some y.2)) && (own.all fun p => decide (p < N.length)) &&
    (scope.names.all fun y => match y.2 with
      | .free => (match sc.names.lookup y.1 with | some .cell => true | some .free => true | _ => false)
      | .local => decide (y.1 ∈ own.map (fun p => N.getD p default)) || decide (y.1 ∉ N)
      | .cell => decide (y.1 ∈ own.map (fun p => N.getD p default)) || decide (y.1 ∉ N)
      | _ => true)
def tgSub (own : List Nat) : Tg → Bool
  | .nm i => own.contains i
  | .tp is => is.all own.contains
def IE.noS : IE → Bool
  | .cons _ t => t.noS
  | .star _ _ => false
  | _ => true

/-- an operation's parts, in the order of their evaluation -/
def prim (T : Tab) (sc : Scope) (p : Pn) (e : Expr) : Option (List Expr) := match p with
  | .bin _ o => match e with
    | .BinOp x op y _ => if o.is op then some [x, y] else none
    | _ => none
  | .neg => match e with
    | .UnaryOp .USub x _ => some [x]
    | _ => none
  | .idx => match e with
    | .Subscript x y _ => if isSl y then none else some [x, y]
    | _ => none
  | .slc _ l h => match e with
    | .Subscript x (.Slice lo hi none _) _ => match lo, hi with
      | none, none => if l || h then none else some [x]
      | some lo, none => if !l || h then none else some [x, lo]
      | none, some hi => if l || !h then none else some [x, hi]
      | _, _ => none
    | _ => none
  | .rev _ => match e with
    | .Subscript x sl _ => if isRev1 sl then some [x] else none
    | _ => none
  | .revt => match e with
    | .Subscript x sl _ => if isRev1 sl then some [x] else none
    | _ => none
  | .bi _ f => match e with
    | .Call (.Name x _) (y :: ys) [] _ => if decide (x = Str.ofString f.nm) && glB sc x && T.bl.contains f.nm then some (y :: ys) else none
    | _ => none
  | .bits => match e with
    | .Call (.Attribute x n ap) [] [] cp => if decide (n = ("bit_length" : Str)) && !isCall x && (ap.endLine == cp.line) then some [x] else none
    | _ => none
  | .dnew _ => match e with
    | .Dict [] [] _ => some []
    | _ => none
  | .att c i f => match e with
    | .Attribute x n _ => if decide (n = Str.ofString f) && !isCall x && decide ((T.cn c)[i]? = some n) && decide (c ∈ T.ncl) && decide (T.cn c).Nodup then some [x] else none
    | _ => none
  | .isi k => match e with
    | .Call (.Name x _) [y, .Name z _] [] _ => if decide (x = ("isinstance" : Str)) && glB sc x && T.bl.contains "isinstance" && decide (z = Str.ofString k.nm) && glB sc z && T.bl.contains k.nm then some [y] else none
    | _ => none
  | .lrng _ => match e with
    | .Call (.Name x _) [.Call (.Name w _) [y, z] [] _] [] _ => if decide (x = ("list" : Str)) && glB sc x && T.bl.contains "list" && decide (w = ("range" : Str)) && glB sc w && T.bl.contains "range" then some [y, z] else none
    | _ => none
  | _ => none
/-- a built-in method: its name, the number of its arguments -/
def bmtN : Pn → Option (String × Nat)
  | .mm m => some (m.nm, m.ar)
  | .get1 => some ("get", 1)
  | .get2 => some ("get", 2)
  | _ => none

section
variable (T : Tab) (N : List Str)
mutual
def chkE : IE → Scope → Expr → Bool
  | .unk, _, _ => true
  | .con d, _, e => conB d e
  | .gl n d, sc, e => match e with
    | .Name x _ => decide (x = Str.ofString n) && glB sc x && plainN x && (match T.co n, d with | some (.int i), .int j => decide (i = j) | some (.str i), .str j => decide (i = j) | _, _ => false)
    | _ => false
  | .var i, sc, e => match e with
    | .Name x _ => decide (N[i]? = some x) && visB sc x && plainN x
    | _ => false
  | .tupE as, sc, e => match e with
    | .Tuple es _ _ => chkA as sc es
    | _ => false
  | .lstE _ as, sc, e => match e with
    | .List es _ => chkA as sc es
    | _ => false
  | .op p as, sc, e => match prim T sc p e with
    | some es => as.noS && chkA as sc es
    | none => false
  | .bmt p o as, sc, e => match e with
    | .Call (.Attribute x n ap) ys [] cp => (match bmtN p with | some q => decide (n = Str.ofString q.1) && decide (ys.length = q.2) | none => false) && !isCall x && (ap.endLine == cp.line) && chkE o sc x && as.noS && chkA as sc ys
    | _ => false
  | .slc2 _ a lo hi, sc, e => match e with
    | .Subscript x (.Slice (some l) (some h) none _) _ => chkE a sc x && chkE lo sc l && chkE hi sc h
    | _ => false
  | .cmp o a b, sc, e => match e with
    | .Compare x [op] [y] _ => o.is op && chkE a sc x && chkE b sc y && !isSet y
    | _ => false
  | .chain o o' a b c, sc, e => match e with
    | .Compare x [op, op'] [y, z] _ => o.is op && o'.is op' && chkE a sc x && chkE b sc y && chkE c sc z && !isSet y && !isSet z
    | _ => false
  | .not a, sc, e => match e with
    | .UnaryOp .Not x _ => chkE a sc x
    | _ => false
  | .and a b, sc, e => match e with
    | .BoolOp .And (x :: y :: r) p => chkE a sc x && (match r with | [] => chkE b sc y | _ => chkE b sc (.BoolOp .And (y :: r) p))
    | _ => false
  | .or a b, sc, e => match e with
    | .BoolOp .Or (x :: y :: r) p => chkE a sc x && (match r with | [] => chkE b sc y | _ => chkE b sc (.BoolOp .Or (y :: r) p))
    | _ => false
  | .ite c a b, sc, e => match e with
    | .IfExp x y z _ => chkE c sc x && chkE a sc y && chkE b sc z
    | _ => false
  | .call f p as, sc, e => match e with
    | .Call (.Name x _) es kws _ => decide (x = T.fn f) && glB sc x && plainN x && T.gf f && T.shs.contains ⟨f, es.length, kws.filterMap (·.arg), p⟩ && kws.all (·.arg.isSome) && as.noS && chkA as sc (es ++ kws.map (·.value))
    | _ => false
  | .meth c m f p o as, sc, e => match e with
    | .Call (.Attribute x n ap) es kws cp => decide (n = Str.ofString m) && decide (T.mt c m = some f) && decide (c ∈ T.ncl) && !(T.cn c).contains n && (ap.endLine == cp.line) && !isCall x && T.shs.contains ⟨f, es.length + 1, kws.filterMap (·.arg), p⟩ && kws.all (·.arg.isSome) && decide (es.length + kws.length < 28) && as.noS && chkE o sc x && chkA as sc (es ++ kws.map (·.value))
    | _ => false
  | .make _ c f p as, sc, e => match e with
    | .Call (.Name x _) es kws _ => decide (x = T.cname c) && glB sc x && plainN x && decide (c ∈ T.ncl) && decide (T.mt c "__init__" = some f) && T.shs.contains ⟨f, es.length + 1, kws.filterMap (·.arg), p⟩ && kws.all (·.arg.isSome) && as.noS && chkA as sc (es ++ kws.map (·.value))
    | _ => false
  | .lc _ own tg it cond elt, sc, e => match e with
    | .ListComp x [⟨t, i, ifs, 0⟩] scope _ => chkI it t sc i && blkB N sc scope own && tgB N scope tg t && tgSub own tg && (match ifs with | [] => (match cond with | .con (.bl true) => true | _ => false) | [c] => chkE cond scope c | _ => false) && chkE elt scope x && !isSet i
    | _ => false
  | _, _, _ => false
/-- t: the target -/
def chkI : IE → Expr → Scope → Expr → Bool
  | .rng1 a, _, sc, e => match e with
    | .Call (.Name x _) [y] [] _ => decide (x = ("range" : Str)) && glB sc x && T.bl.contains "range" && chkE a sc y && !isStar y
    | _ => false
  | .rng2 a b, _, sc, e => match e with
    | .Call (.Name x _) [y, z] [] _ => decide (x = ("range" : Str)) && glB sc x && T.bl.contains "range" && chkE a sc y && chkE b sc z && !isStar y && !isStar z
    | _ => false
  | .enm a, t, sc, e => match t, e with
    | .Tuple .., .Call (.Name x _) [y] [] _ => decide (x = ("enumerate" : Str)) && glB sc x && T.bl.contains "enumerate" && chkE a sc y && !isStar y
    | _, _ => false
  | .itv a, _, sc, e => chkE a sc e
  | .kys a, _, sc, e => chkE a sc e
  | _, _, _, _ => false
def chkA : IE → Scope → List Expr → Bool
  | .nil, _, es => es.isEmpty
  | .cons h t, sc, es => match es with
    | e :: es => chkE h sc e && !isStar e && chkA t sc es
    | [] => false
  | .star h t, sc, es => match es with
    | .Starred e _ :: es => chkE h sc e && chkA t sc es
    | _ => false
  | _, _, _ => false
end

mutual
def chkS : IS → Scope → Stmt → Bool
  | .unk, _, _ => true
  | .pass, _, s => match s with
    | .Pass _ => true
    | _ => false
  | .brk, _, s => match s with
    | .Break _ => true
    | _ => false
  | .cont, _, s => match s with
    | .Continue _ => true
    | _ => false
  | .asg tg v, sc, s => match s with
    | .Assign [t] e _ => tgB N sc tg t && chkE T N v sc e && (match tg with | .nm _ => true | _ => !isComp e && (match e with | .Tuple .. => false | _ => true))
    | _ => false
  | .asgs is v, sc, s => match s with
    | .Assign [.Name x _, .Name y _] e _ => (match is with | [i, j] => decide (N[i]? = some x) && decide (N[j]? = some y) && locB sc x && locB sc y && decide (i ≠ j) && chkE T N v sc e && (match e with | .Tuple .. => false | _ => true) && !isComp e | _ => false)
    | _ => false
  | .par is vs, sc, s => match s with
    | .Assign [.Tuple [.Name x px, .Name y py] _ _] (.Tuple [a, b] _ _) _ => (match is with | [i, j] => decide (N[i]? = some x) && decide (N[j]? = some y) && decide (i ≠ j) && decide (sc.names.lookup x = some .local) && decide (sc.names.lookup y = some .local) && decide (px.line = py.line) && (chkA T N vs sc [a, b] && vs.noS) && !([a, b].all (foldedForSure 8)) && !([a, b].all (constantsAlone 8)) && !isStar a && !isStar b | _ => false)
    | _ => false
  | .setI o k v, sc, s => match s with
    | .Assign [.Subscript x y _] e _ => chkE T N o sc x && chkE T N k sc y && chkE T N v sc e && !isSl y
    | _ => false
  | .setA c i f o v, sc, s => match s with
    | .Assign [.Attribute x n _] e _ => decide (n = Str.ofString f) && chkE T N o sc x && chkE T N v sc e && decide ((T.cn c)[i]? = some n) && decide (c ∈ T.ncl) && decide (T.cn c).Nodup && decide ((T.cn c).length < 1000)
    | _ => false
  | .aug i o v, sc, s => match s with
    | .AugAssign (.Name x _) op e _ => o.is op && decide (N[i]? = some x) && locB sc x && chkE T N v sc e
    | _ => false
  | .exp v, sc, s => match s with
    | .Expr e _ => chkE T N v sc e && !isComp e
    | _ => false
  | .ret v, sc, s => match s with
    | .Return (some e) _ => chkE T N v sc e
    | _ => false
  | .retN, sc, s => match s with
    | .Return none _ => true
    | _ => false
  | .ite t a b, sc, s => match s with
    | .If c x y _ => chkE T N t sc c && chkB a sc x && chkB b sc y
    | _ => false
  | .whl t b, sc, s => match s with
    | .While c x [] _ => chkE T N t sc c && chkB b sc x
    | _ => false
  | .for tg it b, sc, s => match s with
    | .For t i x [] _ => chkI T N it t sc i && tgB N sc tg t && chkB b sc x && !isSet i
    | _ => false
  | _, _, _ => false
def chkB : IS → Scope → List Stmt → Bool
  | .nil, _, ss => ss.isEmpty
  | .seq a b, sc, ss => match ss with
    | s :: ss => chkS a sc s && chkB b sc ss
    | [] => false
  | _, _, _ => false
end
end
end N9

set_option Elab.async false
set_option linter.all false
set_option maxRecDepth 100000
namespace N9
open PySem PySem.Spec L2

/-! ## the canonical readings -/
def wE (X : Cx) (e : Expr) : TE := fun σ H Q => ∀ pins s, Inv X pins σ H s → wpAny (model X.prog X.w) X.A (eval e X.env) (EP X pins σ Q) X.xe s
def wT (X : Cx) (e : Expr) : TT := fun σ H Q => ∀ pins s, Inv X pins σ H s → wpAny (model X.prog X.w) X.A (isTrue e X.env (eval e X.env)) (TP X pins σ Q) X.xe s
def wW (X : Cx) (e : Expr) : TT := fun σ H Q => ∀ whole pins s, Inv X pins σ H s → wpAny (model X.prog X.w) X.A (isTrue e X.env whole) (TP X pins σ Q) X.xe s
def wA (X : Cx) (es : List Expr) : TA := fun σ H Q => ∀ pos pins s, Inv X pins σ H s → wpAny (model X.prog X.w) X.A (spliced (backTo pos (starEach es X.env))) (AP X pins σ Q) X.xe s
def wS (X : Cx) (st : Stmt) : TS := fun D σ H => ∀ pins s, Inv X pins σ H s → wpAny (model X.prog X.w) X.A (exec st X.env) (SP X pins D) X.xe s
def wB (X : Cx) (st : List Stmt) : TS := fun D σ H => ∀ pins s, Inv X pins σ H s → wpAny (model X.prog X.w) X.A (execs st X.env) (SP X pins D) X.xe s
def wI (X : Cx) (tg iter : Expr) : TI := fun σ H R => ∀ pins s, Inv X pins σ H s →
  wpAny (model X.prog X.w) X.A (eval iter X.env) (fun v s1 => wpAny (model X.prog X.w) X.A (pyIter v) (PIE X pins σ tg R) X.xe s1) X.xe s
def wG (X : Cx) (target : Expr) : TG := fun v σ H Q => ∀ pins s u, Inv X pins σ H s → RelV v u →
  wpAny (model X.prog X.w) X.A (assign target X.env u) (fun _ s' => ∃ σ' H', Inv X pins σ' H' s' ∧ Q σ' H') X.xe s
section
variable {X : Cx}
theorem peW {e : Expr} : PE X e (wE X e) := ⟨fun pins s σ H Q I h => h pins s I⟩
theorem ptW {e : Expr} : PT X e (wT X e) := ⟨fun pins s σ H Q I h => h pins s I⟩
theorem pwW {e : Expr} : PW X e (wW X e) := ⟨fun whole pins s σ H Q I h => h whole pins s I⟩
theorem paW {es : List Expr} : PA X es (wA X es) := ⟨fun pos pins s σ H Q I h => h pos pins s I⟩
theorem psW {st : Stmt} : PS X st (wS X st) := ⟨fun pins s σ H D I h => h pins s I⟩
theorem pbW {st : List Stmt} : PSs X st (wB X st) := ⟨fun pins s σ H D I h => h pins s I⟩
theorem piW {tg iter : Expr} : PI X tg iter (wI X tg iter) := ⟨fun pins s σ H R I h => h pins s I⟩
theorem pgW {tg : Expr} : PG X tg (wG X tg) := ⟨fun pins s σ H v u Q I r h => h pins s u I r⟩
theorem wE.of {e : Expr} {t : TE} (h : PE X e t) {σ : L2.St} {H : Hp} {Q : VK} (q : t σ H Q) : wE X e σ H Q := fun pins s I => h.run pins s σ H Q I q
theorem wT.of {e : Expr} {t : TT} (h : PT X e t) {σ : L2.St} {H : Hp} {Q : Bool → Hp → Prop} (q : t σ H Q) : wT X e σ H Q := fun pins s I => h.run pins s σ H Q I q
theorem wW.of {e : Expr} {t : TT} (h : PW X e t) {σ : L2.St} {H : Hp} {Q : Bool → Hp → Prop} (q : t σ H Q) : wW X e σ H Q := fun w pins s I => h.run w pins s σ H Q I q
theorem wW.t {e : Expr} {σ : L2.St} {H : Hp} {Q : Bool → Hp → Prop} (q : wW X e σ H Q) : wT X e σ H Q := fun pins s I => q _ pins s I
theorem wA.of {e : List Expr} {t : TA} (h : PA X e t) {σ : L2.St} {H : Hp} {Q : List V → Hp → Prop} (q : t σ H Q) : wA X e σ H Q := fun pos pins s I => h.run pos pins s σ H Q I q
theorem wS.of {e : Stmt} {t : TS} (h : PS X e t) {σ : L2.St} {H : Hp} {D : Ends} (q : t D σ H) : wS X e D σ H := fun pins s I => h.run pins s σ H D I q
theorem wB.of {e : List Stmt} {t : TS} (h : PSs X e t) {σ : L2.St} {H : Hp} {D : Ends} (q : t D σ H) : wB X e D σ H := fun pins s I => h.run pins s σ H D I q
theorem wI.of {tg iter : Expr} {t : TI} (h : PI X tg iter t) {σ : L2.St} {H : Hp} {R : It → Hp → Prop} (q : t σ H R) : wI X tg iter σ H R := fun pins s I => h.run pins s σ H R I q
theorem wG.of {tg : Expr} {t : TG} (h : PG X tg t) {v : V} {σ : L2.St} {H : Hp} {Q : L2.St → Hp → Prop} (q : t v σ H Q) : wG X tg v σ H Q := fun pins s u I r => h.run pins s σ H v u Q I r q
theorem wE.mono {e : Expr} {σ : L2.St} {H : Hp} {Q Q' : VK} (h : wE X e σ H Q) (m : ∀ v H', Q v H' → Q' v H') : wE X e σ H Q' := fun pins s I => thn (h pins s I) fun u s' ⟨v, H', I', r, q⟩ => ⟨v, H', I', r, m v H' q⟩
theorem wT.mono {e : Expr} {σ : L2.St} {H : Hp} {Q Q' : Bool → Hp → Prop} (h : wT X e σ H Q) (m : ∀ v H', Q v H' → Q' v H') : wT X e σ H Q' := fun pins s I => thn (h pins s I) fun u s' ⟨H', I', q⟩ => ⟨H', I', m _ H' q⟩
end
/-- expressions one behind the other -/
def wL (X : Cx) : List Expr → L2.St → Hp → (List V → Hp → Prop) → Prop
  | [], _, H, Q => Q [] H
  | e :: es, σ, H, Q => wE X e σ H fun v H1 => wL X es σ H1 fun vs H2 => Q (v :: vs) H2
theorem wL.mono {X : Cx} : ∀ {es : List Expr} {σ : L2.St} {H : Hp} {Q Q' : List V → Hp → Prop}, wL X es σ H Q → (∀ vs H', Q vs H' → Q' vs H') → wL X es σ H Q'
  | [], _, _, _, _, h, m => m _ _ h
  | _ :: _, _, _, _, _, h, m => wE.mono h fun _ _ h1 => wL.mono h1 fun _ _ h2 => m _ _ h2
theorem wL.app {X : Cx} : ∀ {es fs : List Expr} {σ : L2.St} {H : Hp} {Q : List V → Hp → Prop}, wL X (es ++ fs) σ H Q → wL X es σ H fun vs H1 => wL X fs σ H1 fun us H2 => Q (vs ++ us) H2
  | [], _, _, _, _, h => h
  | _ :: _, _, _, _, _, h => wE.mono h fun _ _ h1 => wL.app h1

/-- where an exception's field stands -/
def ExcAt (H : Hp) (dx : Addr) (v : V) : Prop := H dx = some (.xd [(("what" : Str), v)])

section
variable (C : Ct) (P : Program) (w : World) (K : PySem.W.Frag)
def PostX (ad : List Addr) (H : Hp) (E : Value → Option Addr → Hp → Prop) (c : Nat) (x : D) (h' : Hm) : Prop :=
  ∀ dx v H' ad', HR C P w K ad' h' H' → Ext ad H ad' H' → ExcAt H' dx v → RV C K ad' H' v x → E (.ref (C.addr c)) (some dx) H'
def Post {α β : Type} (R : List Addr → Hp → β → α → Prop) (r : Re α) (ad : List Addr) (H : Hp) (E : Value → Option Addr → Hp → Prop) (Q : β → Hp → Prop) : Prop :=
  match r with
  | .ok d h' => ∀ v H' ad', HR C P w K ad' h' H' → Ext ad H ad' H' → R ad' H' v d → Q v H'
  | .exc c x h' => PostX C P w K ad H E c x h'
  | .stk => False
end
abbrev PV (C : Ct) (X : Cx) := Post C X.prog X.w X.K (RV C X.K)
abbrev PVs (C : Ct) (X : Cx) := Post C X.prog X.w X.K (RVs C X.K)
/-- a test -/
def RB (ad : List Addr) (H : Hp) (b : Bool) (d : D) : Prop := d = .bl b
def PB (C : Ct) (X : Cx) (r : Re D) (ad : List Addr) (H : Hp) (E : Value → Option Addr → Hp → Prop) (Q : Bool → Hp → Prop) : Prop :=
  match r with
  | .ok (.bl b) h' => ∀ H' ad', HR C X.prog X.w X.K ad' h' H' → Ext ad H ad' H' → Q b H'
  | .ok _ _ => False
  | .exc c x h' => PostX C X.prog X.w X.K ad H E c x h'
  | .stk => False
theorem PostX.shift {C : Ct} {P : Program} {w : World} {K : PySem.W.Frag} {ad ad1 : List Addr} {H H1 : Hp} {E : Value → Option Addr → Hp → Prop} {c : Nat} {x : D} {h' : Hm} (z : Ext ad H ad1 H1) (p : PostX C P w K ad H E c x h') : PostX C P w K ad1 H1 E c x h' :=
  fun dx v H' ad' R y ea r => p dx v H' ad' R (z.trans y) ea r
theorem Post.shift {C : Ct} {P : Program} {w : World} {K : PySem.W.Frag} {α β : Type} {R : List Addr → Hp → β → α → Prop} {r : Re α} {ad ad1 : List Addr} {H H1 : Hp} {E : Value → Option Addr → Hp → Prop} {Q : β → Hp → Prop} (z : Ext ad H ad1 H1) (p : Post C P w K R r ad H E Q) : Post C P w K R r ad1 H1 E Q := by
  cases r with
  | ok d h' => exact fun v H' ad' S y q => p v H' ad' S (z.trans y) q
  | exc c x h' => exact PostX.shift z p
  | stk => exact p
theorem PB.shift {C : Ct} {X : Cx} {r : Re D} {ad ad1 : List Addr} {H H1 : Hp} {E : Value → Option Addr → Hp → Prop} {Q : Bool → Hp → Prop} (z : Ext ad H ad1 H1) (p : PB C X r ad H E Q) : PB C X r ad1 H1 E Q := by
  cases r with
  | ok d h' => cases d <;> first | exact p | exact fun H' ad' S y => p H' ad' S (z.trans y)
  | exc c x h' => exact PostX.shift z p
  | stk => exact p

/-- the slots -/
structure SlR (C : Ct) (K : PySem.W.Frag) (ad : List Addr) (env : Env) (σ : L2.St) (H : Hp) : Prop where
  len : σ.length = env.length
  slot : ∀ (i : Nat) (d : D), env[i]? = some (some d) → ∃ v, σ[i]? = some (some v) ∧ RV C K ad H v d
theorem SlR.mono {C : Ct} {K : PySem.W.Frag} {ad ad' : List Addr} {env : Env} {σ : L2.St} {H H' : Hp} (S : SlR C K ad env σ H) (x : Ext ad H ad' H') : SlR C K ad' env σ H' :=
  ⟨S.len, fun i d h => let ⟨v, e, r⟩ := S.slot i d h; ⟨v, e, r.mono x⟩⟩

/-- what holds of the code's surroundings -/
structure XOk (N : List Str) (sc : Scope) (W : WX) (X : Cx) : Prop where
  hN : X.N = N
  nd : N.Nodup
  calm : X.calm = true
  tk : Takes X W
  hu : X.A.units + 200 < cLine
  vis : ∀ x, (sc.names.lookup x = some .local ∨ sc.names.lookup x = some .cell ∨ sc.names.lookup x = some .free) → Vis X.env.scope x
  loc : ∀ x, (sc.names.lookup x = some .local ∨ sc.names.lookup x = some .cell) → Loc X.env.scope x ∧ (X.fn x = true ∨ X.env.scope.names.lookup x = some .local)
  gl : ∀ x, sc.names.lookup x = some .globalImplicit → Gl X x
  cf : ∀ x, (sc.names.lookup x = some .cell ∨ sc.names.lookup x = some .free) → X.env.scope.names.lookup x = some .cell ∨ X.env.scope.names.lookup x = some .free

/-! ## defs -/
def spF (C : Ct) (P : Program) (w : World) (K : PySem.W.Frag) (np : Nat) (c : List D → Hm → Re D) : Sp := fun vs H Q E => vs.length = np ∧ ∃ (ad : List Addr) (hp : Hm) (ds : List D), HR C P w K ad hp H ∧ RVs C K ad H vs ds ∧
  Post C P w K (RV C K) (c ds hp) ad H E Q
def PermR (K : PySem.W.Frag) (p : Pm) (vs zs : List V) : Prop := match p with
  | none => zs = vs
  | some l => Paired (fun (x : Nat ⊕ Bool) (z : V) => match x with
    | .inl i => vs[i]? = some z
    | .inr true => ∃ a, z = .ref a ∧ kTup K a []
    | .inr false => z = .non) l zs
/-- how a def's arguments are bound -/
def BindR (K : PySem.W.Frag) (fd : FuncData) (ps : List Str) (s : Shp) : Prop :=
  ∀ (s0 : Shared) (us ws : List Value) (vs : List V), K.In s0.heap → us.length = s.n → ws.length = s.ks.length → Vals vs (us ++ ws) → ∃ zs zvs, BindsTo s0 fd ⟨us, s.ks.zip ws⟩ (ps.zip zs) ∧ zs.length = ps.length ∧ Vals zvs zs ∧ PermR K s.pm vs zvs

structure TabOk (T : Tab) (C : Ct) (c : Oracle) (X : Cx) : Prop where
  cn : C.names = T.cn
  gf : ∀ f, T.gf f = true → X.mg (T.fn f) = some (.ref (C.faddr f))
  fns : ∀ s, s ∈ T.shs → ∃ fd ps k, ps.length = T.np s.f ∧ PySem.W.keepIn X.K (.ref (C.faddr s.f)) = true ∧ Room k X.A ∧ FnOk X.prog X.w X.K X.mg X.base (L2.CX X.prog X.w) k (C.faddr s.f) fd ps (spF C X.prog X.w X.K (T.np s.f) (c.call s.f)) ∧ BindR X.K fd ps s
  mks : ∀ s, s ∈ T.shs → ∃ fd ps k, ps.length = T.np s.f ∧ Room (k + 1) X.A ∧ FnOk X.prog X.w X.K X.mg X.base (L2.CX X.prog X.w) k (C.faddr s.f) fd ps (spF C X.prog X.w X.K (T.np s.f) (c.make s.f)) ∧ BindR X.K fd ps s
  mt : ∀ c m f, c ∈ T.ncl → T.mt c m = some f → Meth X.K (C.addr c) (Str.ofString m) (C.faddr f)
  cls : ∀ c, c ∈ T.ncl → Cls X.K (C.addr c) ∧ X.mg (T.cname c) = some (.ref (C.addr c)) ∧ (∀ n, n ∈ T.cn c → NoAttr X.K (C.addr c) n)
  ini : ∀ c f, c ∈ T.ncl → T.mt c "__init__" = some f → Mk X.K (C.addr c) (C.faddr f)
  cInt : ∀ n i, T.co n = some (.int i) → ∃ t, X.mg (Str.ofString n) = some (.int i t)
  cStr : ∀ n i, T.co n = some (.str i) → ∃ t, X.mg (Str.ofString n) = some (.str i t)
  bls : ∀ n, T.bl.contains n = true → X.mg (Str.ofString n) = none

/-! ## what is to be shown of a term -/
/-- the wish of an exception, at these slots -/
def WE (W : WX) (σ : L2.St) : Value → Option Addr → Hp → Prop := fun c dx H => W c dx σ H
section
variable (T : Tab) (N : List Str) (C : Ct) (c : Oracle)
def SE (i : IE) : Prop := ∀ sc e W X env hp ad σ H, XOk N sc W X → TabOk T C c X → chkE T N i sc e = true → HR C X.prog X.w X.K ad hp H → SlR C X.K ad env σ H →
  (∀ Q, PV C X (ev c i false env hp) ad H (WE W σ) Q → wE X e σ H Q) ∧ (∀ Q, PB C X (ev c i true env hp) ad H (WE W σ) Q → wT X e σ H Q)
/-- arguments without a star -/
def SL (i : IE) : Prop := ∀ sc es W X env hp ad σ H, XOk N sc W X → TabOk T C c X → chkA T N i sc es = true → i.noS = true → HR C X.prog X.w X.K ad hp H → SlR C X.K ad env σ H →
  ∀ Q, PVs C X (evA c i env hp) ad H (WE W σ) Q → wL X es σ H Q
def SA (i : IE) : Prop := ∀ sc es W X env hp ad σ H, XOk N sc W X → TabOk T C c X → chkA T N i sc es = true → HR C X.prog X.w X.K ad hp H → SlR C X.K ad env σ H →
  ∀ Q, PVs C X (evA c i env hp) ad H (WE W σ) Q → wA X es σ H Q
end
theorem plainT_is {e : Expr} (h : plainT e = true) (env : PySem.Env) : ∀ whole, isTrue e env whole = (do let v ← whole; standAt e.pos; holding [v] (truthy v)) := by
  intro whole
  cases e <;> first
    | rfl
    | (simp [plainT] at h; done)
    | (rename_i op _ _; cases op <;> first | rfl | (simp [plainT] at h; done))
theorem gt_some {hp : Hm} {n : Nat} {o : Ob} (h : gt hp n = some o) : ∃ o', hp[n]? = some o' ∧ o'.strip = o := by
  unfold gt at h
  cases e : hp[n]? with
  | none => rw [e] at h; cases h
  | some o' => rw [e] at h; simp at h; exact ⟨o', rfl, h⟩

/-! ## what is read of a thing -/
section
variable {C : Ct} {P : Program} {w : World} {K : PySem.W.Frag} {ad : List Addr} {hp : Hm} {H : Hp}
theorem HR.lst (R : HR C P w K ad hp H) {v : V} {n : Nat} {l : List D} (r : RV C K ad H v (.ref n)) (h : gt hp n = some (.lst l)) : ∃ a xs, v = .ref a ∧ Rd H a (.lst xs) ∧ RVs C K ad H xs l := by
  obtain ⟨o', h1, h2⟩ := gt_some h
  obtain ⟨a, rfl, _, q⟩ := R.ref r h1
  cases o' with
  | lst l' => cases h2; cases q with | lst e rs => exact ⟨a, _, rfl, .inl e, rs⟩
  | frz o =>
    have h2 : o = .lst l := h2
    subst h2
    cases q with | frzL e rs => exact ⟨a, _, rfl, .inr ⟨_, e⟩, rs⟩
  | _ => cases h2
theorem listD_of (R : HR C P w K ad hp H) {v : V} {d : D} {l : List D} (r : RV C K ad H v d) (h : listD hp d = some l) : ∃ a xs, v = .ref a ∧ Rd H a (.lst xs) ∧ RVs C K ad H xs l := by
  cases d <;> simp only [listD, reduceCtorEq] at h
  · simp only [Option.some.injEq] at h; subst h
    cases r with | lst e n rs => exact ⟨_, _, rfl, e, rs⟩
  · split at h <;> simp only [Option.some.injEq, reduceCtorEq] at h
    subst h
    exact R.lst r (by assumption)
theorem HR.dk (R : HR C P w K ad hp H) {v : V} {n : Nat} {l : List (Int × D)} (r : RV C K ad H v (.ref n)) (h : gt hp n = some (.dk l)) : ∃ a kxs, v = .ref a ∧ Rd H a (.dK kxs) ∧ kxs.map (·.1) = kInts l ∧ RVs C K ad H (kxs.map (·.2)) (l.map (·.2)) := by
  obtain ⟨o', h1, h2⟩ := gt_some h
  obtain ⟨a, rfl, _, q⟩ := R.ref r h1
  cases o' with
  | dk l' => cases h2; cases q with | dk e k rs => exact ⟨a, _, rfl, .inl e, k, rs⟩
  | frz o =>
    have h2 : o = .dk l := h2
    subst h2
    cases q with | frzK e k rs => exact ⟨a, _, rfl, .inr ⟨_, e⟩, k, rs⟩
  | _ => cases h2
theorem HR.dt (R : HR C P w K ad hp H) {v : V} {n : Nat} {l : List (TK × D)} (r : RV C K ad H v (.ref n)) (h : gt hp n = some (.dt l)) : ∃ a ys, v = .ref a ∧ Rd H a (.ext (dtPhi P w a ys)) ∧ ys.map (·.1) = l.map (·.1) ∧ (∀ y ∈ ys, TupR K ad H y.2.1 (y.1.map V.int)) ∧ RVs C K ad H (ys.map (·.2.2)) (l.map (·.2)) := by
  obtain ⟨o', h1, h2⟩ := gt_some h
  obtain ⟨a, rfl, _, q⟩ := R.ref r h1
  cases o' with
  | dt l' => cases h2; cases q with | dt e k t rs => exact ⟨a, _, rfl, .inl e, k, t, rs⟩
  | frz o =>
    have h2 : o = .dt l := h2
    subst h2
    cases q with | frzT e k t rs => exact ⟨a, _, rfl, .inr ⟨_, e⟩, k, t, rs⟩
  | _ => cases h2
end
end N9

set_option Elab.async false
set_option linter.all false
set_option maxRecDepth 100000
namespace N9
open PySem PySem.Spec L2

/-! ## readings of operations by value -/
def wO (X : Cx) (f : Value → Value → Sem Value) : R2 := fun x y H Q => ∀ pins s σ v u, Inv X pins σ H s → RelV x v → RelV y u → wpAny (model X.prog X.w) X.A (f v u) (EP X pins σ Q) X.xe s
def wCall (X : Cx) (f : Value) : List V → Hp → VK → Prop := fun xs H Q => ∀ pins s σ us, Inv X pins σ H s → Vals xs us → wpAny (model X.prog X.w) X.A (call f us) (EP X pins σ Q) X.xe s
def wTr (X : Cx) : V → Hp → (Bool → Hp → Prop) → Prop := fun x H Q => ∀ pins s σ v, Inv X pins σ H s → RelV x v → wpAny (model X.prog X.w) X.A (truthy v) (TP X pins σ Q) X.xe s
section
variable {X : Cx}
theorem wO.op {f : Value → Value → Sem Value} : OpR X f (wO X f) := fun pins s σ H x y v u Q I rx ry h => h pins s σ v u I rx ry
theorem wO.of {f : Value → Value → Sem Value} {r : R2} (h : OpR X f r) {x y : V} {H : Hp} {Q : VK} (q : r x y H Q) : wO X f x y H Q := fun pins s σ v u I rx ry => h pins s σ H x y v u Q I rx ry q
theorem wCall.op {f : Value} : CallR X f (wCall X f) := fun pins s σ H xs us Q I r h => h pins s σ us I r
theorem wCall.of {f : Value} {r : List V → Hp → VK → Prop} (h : CallR X f r) {xs : List V} {H : Hp} {Q : VK} (q : r xs H Q) : wCall X f xs H Q := fun pins s σ us I rx => h pins s σ H xs us Q I rx q
theorem wTr.op : TruR X (wTr X) := fun pins s σ H x v Q I rx h => h pins s σ v I rx
theorem wTr.of {r : V → Hp → (Bool → Hp → Prop) → Prop} (h : TruR X r) {x : V} {H : Hp} {Q : Bool → Hp → Prop} (q : r x H Q) : wTr X x H Q := fun pins s σ v I rx => h pins s σ H x v Q I rx q
theorem pt_truthW {a : Expr} {ta : TE} (ha : PE X a ta) (he : ∀ whole, isTrue a X.env whole = (do let v ← whole; standAt a.pos; holding [v] (truthy v))) : PT X a (fun σ H Q => ta σ H fun x H' => wTr X x H' Q) := by
  refine ⟨fun pins s σ H Q I h => ?_⟩
  exact PyProof.Rows.isTrue_plain (thn (ha.run pins s σ H _ I h) fun v s1 ⟨x, H1, I1, r1, q1⟩ => q1 pins s1 σ v I1 r1) (he _)
end

/-! ## dicts with tuples as keys -/
abbrev YS := List (TK × Addr × V)
abbrev XS := List (List Key × Addr × Value)
abbrev Prel : YS → XS → Prop := Paired (fun y x => x.1 = y.1.map Sum.inl ∧ x.2.1 = y.2.1 ∧ RelV y.2.2 x.2.2)
def lookY (ys : YS) (k : TK) : Option V := (ys.find? fun y => decide (y.1 = k)).map (·.2.2)
def putY (ys : YS) (k : TK) (b : Addr) (v : V) : YS := if (ys.any fun y => decide (y.1 = k)) then ys.map fun y => if y.1 = k then (y.1, y.2.1, v) else y else ys ++ [(k, b, v)]
theorem inl_inj {k l : TK} (h : k.map (Sum.inl : Int → Key) = l.map Sum.inl) : k = l := by
  induction k generalizing l with
  | nil => cases l <;> first | rfl | simp at h
  | cons a k ih =>
    cases l with
    | nil => simp at h
    | cons b l =>
      simp only [List.map_cons, List.cons.injEq, Sum.inl.injEq] at h
      rw [h.1, ih h.2]
theorem Prel.val {ys : YS} {xs : XS} (r : Prel ys xs) (k : TK) : RelO (lookY ys k) ((atKey xs (k.map Sum.inl)).map (·.2)) := by
  induction r with
  | nil => exact True.intro
  | @cons p q ps qs h t ih =>
    obtain ⟨h1, _, h2⟩ := h
    by_cases e : p.1 = k
    · have e' : q.1 = k.map Sum.inl := by rw [h1, e]
      have b : atKey (q :: qs) (k.map Sum.inl) = some q.2 := by simp [atKey, List.find?_cons, e']
      have a : lookY (p :: ps) k = some p.2.2 := by simp [lookY, List.find?_cons, e]
      rw [a, b]; exact h2
    · have e' : ¬ q.1 = k.map Sum.inl := fun z => e (inl_inj (by rw [← h1, z]))
      have b : atKey (q :: qs) (k.map Sum.inl) = atKey qs (k.map Sum.inl) := by simp [atKey, List.find?_cons, e']
      have a : lookY (p :: ps) k = lookY ps k := by simp [lookY, List.find?_cons, e]
      rw [a, b]; exact ih
theorem lookY_any {ys : YS} {k : TK} : (ys.any fun y => decide (y.1 = k)) = (lookY ys k).isSome := by
  induction ys with
  | nil => rfl
  | cons y ys ih =>
    by_cases e : y.1 = k
    · simp [lookY, List.find?_cons, e]
    · have a : lookY (y :: ys) k = lookY ys k := by simp [lookY, List.find?_cons, e]
      rw [a, ← ih]; simp [e]
theorem Prel.put {ys : YS} {xs : XS} (r : Prel ys xs) (k : TK) {b : Addr} {y : V} {u : Value} (ry : RelV y u) : Prel (putY ys k b y) (storedH xs (k.map Sum.inl) b u) := by
  have e : (ys.any fun y => decide (y.1 = k)) = (atKey xs (k.map Sum.inl)).isSome := by
    rw [lookY_any, (r.val k).isSome_eq, Option.isSome_map]
  unfold putY storedH
  rw [e]
  by_cases q : (atKey xs (k.map Sum.inl)).isSome = true
  · rw [if_pos q, if_pos q]
    clear e q
    induction r with
    | nil => exact .nil
    | @cons p q ps qs h t ih =>
      rw [List.map_cons, List.map_cons]
      refine .cons ?_ ih
      obtain ⟨h1, h2, h3⟩ := h
      unfold putAt
      by_cases e : p.1 = k
      · rw [if_pos e, if_pos (by rw [h1, e])]; exact ⟨h1, h2, ry⟩
      · rw [if_neg e, if_neg (fun z => e (inl_inj (by rw [← h1, z])))]; exact ⟨h1, h2, h3⟩
  · rw [if_neg q, if_neg q]; exact Paired.snoc r ⟨rfl, rfl, ry⟩
theorem putY_keys {ys : YS} {k : TK} {b : Addr} {v : V} (n : (ys.map (·.1)).Nodup) : ((putY ys k b v).map (·.1)).Nodup := by
  unfold putY
  split
  · rw [List.map_map]
    have : ((fun y : TK × Addr × V => y.1) ∘ fun y => if y.1 = k then (y.1, y.2.1, v) else y) = (fun y => y.1) := by
      funext y
      simp only [Function.comp]
      split <;> rfl
    rw [this]; exact n
  · rename_i h
    rw [List.map_append, List.nodup_append]
    refine ⟨n, by simp, fun a ha c hc => ?_⟩
    simp only [List.map_cons, List.map_nil, List.mem_singleton] at hc
    subst hc
    rintro rfl
    obtain ⟨y, hy, e⟩ := List.mem_map.mp ha
    exact h (List.any_eq_true.mpr ⟨y, hy, by simpa using e⟩)
theorem putY_len {ys : YS} {k : TK} {b : Addr} {v : V} : (putY ys k b v).length ≤ ys.length + 1 := by
  unfold putY
  split
  · rw [List.length_map]; omega
  · simp
section
variable {C : Ct} {K : PySem.W.Frag} {ad : List Addr} {H : Hp}
/-- the keys and the values, told -/
structure DtR (C : Ct) (K : PySem.W.Frag) (ad : List Addr) (H : Hp) (ys : YS) (kvs : List (TK × D)) : Prop where
  ks : ys.map (·.1) = kvs.map (·.1)
  tp : ∀ y ∈ ys, TupR K ad H y.2.1 (y.1.map V.int)
  vs : RVs C K ad H (ys.map (·.2.2)) (kvs.map (·.2))
theorem DtR.look : ∀ {ys : YS} {kvs : List (TK × D)} (k : TK), ys.map (·.1) = kvs.map (·.1) → RVs C K ad H (ys.map (·.2.2)) (kvs.map (·.2)) →
    (lookY ys k = none ∧ lookK kvs k = none) ∨ ∃ v d, lookY ys k = some v ∧ lookK kvs k = some d ∧ RV C K ad H v d
  | [], [], _, _, _ => .inl ⟨rfl, rfl⟩
  | [], _ :: _, _, h, _ => by simp at h
  | _ :: _, [], _, h, _ => by simp at h
  | y :: ys, p :: kvs, k, h, r => by
    simp only [List.map_cons, List.cons.injEq] at h
    rw [List.map_cons, List.map_cons] at r
    cases r with
    | cons r rs =>
      by_cases e : y.1 = k
      · have e' : p.1 = k := by rw [← h.1, e]
        exact .inr ⟨y.2.2, p.2, by simp [lookY, List.find?_cons, e], by simp [lookK, List.find?_cons, e'], r⟩
      · have e' : ¬ p.1 = k := by rw [← h.1]; exact e
        have a : lookY (y :: ys) k = lookY ys k := by simp [lookY, List.find?_cons, e]
        have b : lookK (p :: kvs) k = lookK kvs k := by simp [lookK, List.find?_cons, e']
        rw [a, b]
        exact DtR.look k h.2 rs
theorem DtR.put {ys : YS} {kvs : List (TK × D)} {k : TK} {b : Addr} {v : V} {d : D} (r : DtR C K ad H ys kvs) (t : TupR K ad H b (k.map V.int)) (rv : RV C K ad H v d) : DtR C K ad H (putY ys k b v) (putD kvs k d) := by
  have e : (ys.any fun y => decide (y.1 = k)) = (kvs.any fun y => decide (y.1 = k)) := by
    have : ∀ {ys : YS} {kvs : List (TK × D)}, ys.map (·.1) = kvs.map (·.1) → (ys.any fun y => decide (y.1 = k)) = (kvs.any fun y => decide (y.1 = k)) := by
      intro ys
      induction ys with
      | nil => intro kvs h; cases kvs <;> first | rfl | simp at h
      | cons y ys ih =>
        intro kvs h
        cases kvs with
        | nil => simp at h
        | cons p kvs =>
          simp only [List.map_cons, List.cons.injEq] at h
          rw [List.any_cons, List.any_cons, ih h.2, h.1]
    exact this r.ks
  unfold putY putD
  rw [e]
  by_cases q : (kvs.any fun y => decide (y.1 = k)) = true
  · rw [if_pos q, if_pos q]
    refine ⟨?_, fun y hy => ?_, ?_⟩
    · rw [List.map_map, List.map_map]
      have a : ((fun y : TK × Addr × V => y.1) ∘ fun y => if y.1 = k then (y.1, y.2.1, v) else y) = (fun y => y.1) := by
        funext y; simp only [Function.comp]; split <;> rfl
      have b : ((fun y : TK × D => y.1) ∘ fun y => if y.1 = k then (y.1, d) else y) = (fun y => y.1) := by
        funext y; simp only [Function.comp]; split <;> rfl
      rw [a, b]; exact r.ks
    · obtain ⟨z, hz, rfl⟩ := List.mem_map.mp hy
      have := r.tp z hz
      split <;> exact this
    · rw [List.map_map, List.map_map]
      obtain ⟨h1, htp, h3⟩ := r
      clear e q
      induction ys generalizing kvs with
      | nil => cases kvs <;> first | exact .nil | simp at h1
      | cons y ys ih =>
        cases kvs with
        | nil => simp at h1
        | cons p kvs =>
          simp only [List.map_cons, List.cons.injEq] at h1
          rw [List.map_cons, List.map_cons] at h3
          cases h3 with
          | cons r rs =>
            rw [List.map_cons, List.map_cons]
            refine .cons ?_ (ih h1.2 (fun y hy => htp y (List.mem_cons_of_mem _ hy)) rs)
            simp only [Function.comp]
            by_cases e : y.1 = k
            · rw [if_pos e, if_pos (by rw [← h1.1, e])]; exact rv
            · rw [if_neg e, if_neg (by rw [← h1.1]; exact e)]; exact r
  · rw [if_neg q, if_neg q]
    refine ⟨by rw [List.map_append, List.map_append, r.ks]; rfl, fun y hy => ?_, ?_⟩
    · rcases List.mem_append.mp hy with hy | hy
      · exact r.tp y hy
      · rw [List.mem_singleton] at hy; subst hy; exact t
    · rw [List.map_append, List.map_append]
      exact r.vs.append (.cons rv .nil)
end

section
variable {X : Cx} {pins : List (Addr × Obj)} {σ : L2.St} {H : Hp} {s : Shared} {a b : Addr} {ys : YS} {ad : List Addr} {k : TK} {y v : V} {u r : Value} {A : Around} {E : Value → Shared → Prop}
theorem kV_ints {k : TK} : (k.map (Sum.inl : Int → Key)).map kV = k.map V.int := by rw [List.map_map]; rfl
/-- a tuple of ints is a key -/
theorem key_ofR (I : Inv X pins σ H s) (t : TupR X.K ad H b (k.map V.int)) : (tupleKind (mixKind X.prog X.w)).is s.heap (k.map Sum.inl) b := by
  rcases t with ⟨t, _⟩ | ⟨o, its, n, h1, h2, h3, h4, h5⟩
  · exact key_of I.hok (by rw [kV_ints]; exact t)
  · exact ⟨o, its, n, I.kIn _ _ h1, h2, h3, items_are (by rw [kV_ints]; exact h5)⟩
theorem dt_rd (I : Inv X pins σ H s) (e : Rd H a (.ext (dtPhi X.prog X.w a ys))) (t : ∀ y ∈ ys, TupR X.K ad H y.2.1 (y.1.map V.int)) : ys.length ≤ sizeLine ∧ (a == sysModules) = false ∧ ∃ xs, Prel ys xs ∧ s.heap.DictOfH (tupleKind (mixKind X.prog X.w)) a xs := by
  obtain ⟨⟨z, y, nd, xs, o, es, ep, r, h1, h2, h3, h4⟩, _, _⟩ := (show ObjOk X.prog X.w H s.heap a (.ext (dtPhi X.prog X.w a ys)) from e.ok I.hok)
  refine ⟨z, y, xs, r, o, es, ep, h1, h2, h3, h4, fun x hx => ?_, ?_⟩
  · have all : ∀ {l : YS} {m : XS}, Prel l m → (∀ y ∈ l, TupR X.K ad H y.2.1 (y.1.map V.int)) → ∀ x ∈ m, (tupleKind (mixKind X.prog X.w)).is s.heap x.1 x.2.1 := by
      intro l m q
      induction q with
      | nil => intro _ x hx; exact nomatch hx
      | @cons p q ps qs hq t ih =>
        intro ht x hx
        rcases List.mem_cons.mp hx with e | hx
        · subst e
          rw [hq.1, hq.2.1]
          exact key_ofR I (ht p List.mem_cons_self)
        · exact ih (fun y hy => ht y (List.mem_cons_of_mem _ hy)) x hx
    exact all r t x hx
  · have : xs.map (·.1) = (ys.map (·.1)).map (fun k => k.map Sum.inl) := by
      have all : ∀ {l : YS} {m : XS}, Prel l m → m.map (·.1) = (l.map (·.1)).map (fun k => k.map Sum.inl) := by
        intro l m q
        induction q with
        | nil => rfl
        | cons h t ih => rw [List.map_cons, List.map_cons, List.map_cons, ih, h.1]
      exact all r
    rw [this]
    exact List.Pairwise.map _ (fun _ _ h z => h (inl_inj z)) nd
/-- d[y], there -/
theorem dt_getItem {Q : Value → Shared → Prop} (hu : A.units + 1 < cLine) (I : Inv X pins σ H s) (e : Rd H a (.ext (dtPhi X.prog X.w a ys))) (t : ∀ y ∈ ys, TupR X.K ad H y.2.1 (y.1.map V.int)) (tk : TupR X.K ad H b (k.map V.int)) (l : lookY ys k = some v) (h : ∀ w' s', Inv X pins σ H s' → RelV v w' → Q w' s') :
    wpAny (model X.prog X.w) A (getItem (.ref a) (.ref b)) Q E s := by
  obtain ⟨z, hd, xs, rel, dd⟩ := dt_rd I e t
  obtain ⟨w', hw, rw'⟩ := RelO.some_of (v := v) (o := (atKey xs (k.map Sum.inl)).map (·.2)) (by rw [← l]; exact rel.val k)
  obtain ⟨p, hp, hp2⟩ := Option.map_eq_some_iff.mp hw
  refine wpAny_getItem_heap (tupleKind_room_in1 hu) (key_ofR I tk) dd hp ?_
  rw [hp2]
  exact h w' _ (I.tok _) rw'
theorem dt_in {Q : Value → Shared → Prop} (hu : A.units + 1 < cLine) (I : Inv X pins σ H s) (e : Rd H a (.ext (dtPhi X.prog X.w a ys))) (t : ∀ y ∈ ys, TupR X.K ad H y.2.1 (y.1.map V.int)) (tk : TupR X.K ad H b (k.map V.int)) (h : ∀ s', Inv X pins σ H s' → Q (.bool (lookY ys k).isSome) s') :
    wpAny (model X.prog X.w) A (compareOp .In (.ref b) (.ref a)) Q E s := by
  obtain ⟨z, hd, xs, rel, dd⟩ := dt_rd I e t
  refine wpAny_in_heap (tupleKind_room_in1 hu) (key_ofR I tk) hd dd ?_
  have q := (rel.val k).isSome_eq
  rw [Option.isSome_map] at q
  rw [← q]
  exact h _ (I.tok _)
theorem dt_notIn {Q : Value → Shared → Prop} (hu : A.units + 1 < cLine) (I : Inv X pins σ H s) (e : Rd H a (.ext (dtPhi X.prog X.w a ys))) (t : ∀ y ∈ ys, TupR X.K ad H y.2.1 (y.1.map V.int)) (tk : TupR X.K ad H b (k.map V.int)) (h : ∀ s', Inv X pins σ H s' → Q (.bool (!(lookY ys k).isSome)) s') :
    wpAny (model X.prog X.w) A (compareOp .NotIn (.ref b) (.ref a)) Q E s := by
  obtain ⟨z, hd, xs, rel, dd⟩ := dt_rd I e t
  refine PyProof.Rows.wpAny_notIn_heap (tupleKind_room_in1 hu) (key_ofR I tk) hd dd ?_
  have q := (rel.val k).isSome_eq
  rw [Option.isSome_map] at q
  rw [← q]
  exact h _ (I.tok _)
theorem dt_get1 {Q : Value → Shared → Prop} (hu : A.units + 1 < cLine) (I : Inv X pins σ H s) (e : Rd H a (.ext (dtPhi X.prog X.w a ys))) (t : ∀ y ∈ ys, TupR X.K ad H y.2.1 (y.1.map V.int)) (tk : TupR X.K ad H b (k.map V.int)) (h : ∀ w' s', Inv X pins σ H s' → RelV ((lookY ys k).getD .non) w' → Q w' s') :
    wpAny (model X.prog X.w) A (call (.builtin "dict.get") [.ref a, .ref b]) Q E s := by
  obtain ⟨z, hd, xs, rel, dd⟩ := dt_rd I e t
  refine call_meetsIn PySem.F.slot_dict_get dd.typeIs PySem.F.entry_dict_get (PySem.F.args_dict_get_2 _ _) (meetsH_dict_get (tupleKind (mixKind X.prog X.w)) a b hd) ⟨tupleKind_room_in1 hu, k.map Sum.inl, xs, key_ofR I tk, dd, h _ _ (I.tok _) ?_⟩
  exact (rel.val k).getD rfl
theorem dt_get2 {d : V} {Q : Value → Shared → Prop} (hu : A.units + 1 < cLine) (I : Inv X pins σ H s) (e : Rd H a (.ext (dtPhi X.prog X.w a ys))) (t : ∀ y ∈ ys, TupR X.K ad H y.2.1 (y.1.map V.int)) (tk : TupR X.K ad H b (k.map V.int)) (rd : RelV d r) (h : ∀ w' s', Inv X pins σ H s' → RelV ((lookY ys k).getD d) w' → Q w' s') :
    wpAny (model X.prog X.w) A (call (.builtin "dict.get") [.ref a, .ref b, r]) Q E s := by
  obtain ⟨z, hd, xs, rel, dd⟩ := dt_rd I e t
  refine call_meetsIn PySem.F.slot_dict_get dd.typeIs PySem.F.entry_dict_get (PySem.F.args_dict_get_3 _ _ _) (meetsH_dict_get_default (tupleKind (mixKind X.prog X.w)) a b hd r) ⟨tupleKind_room_in1 hu, k.map Sum.inl, xs, key_ofR I tk, dd, h _ _ (I.tok _) ?_⟩
  exact (rel.val k).getD rd
theorem dt_phi {P : Program} {w : World} {H' : Hp} {h' : Heap} {xs : XS} (z : ys.length ≤ sizeLine) (hd : (a == sysModules) = false) (nd : (ys.map (·.1)).Nodup) (rel : Prel ys xs) (dd : h'.DictOfH (tupleKind (mixKind P w)) a xs) : ObjOk P w H' h' a (.ext (dtPhi P w a ys)) := by
  obtain ⟨q, es, ep, hq, h2, h3, h4, _, _⟩ := dd
  refine ⟨⟨z, hd, nd, xs, q, es, ep, rel, hq, h2, h3, h4⟩, ⟨q, hq⟩, fun h1 h2' ⟨z1, y1, n1, xs1, o1, es1, ep1, r1, e1, e2⟩ st => ⟨z1, y1, n1, xs1, o1, es1, ep1, r1, st _ e1, e2⟩⟩
theorem dt_setItem {Q : Unit → Shared → Prop} (hu : A.units + 1 < cLine) (I : Inv X pins σ H s) (e : H a = some (.ext (dtPhi X.prog X.w a ys))) (t : ∀ y ∈ ys, TupR X.K ad H y.2.1 (y.1.map V.int)) (tk : TupR X.K ad H b (k.map V.int)) (hl : ys.length < sizeLine) (rv : RelV v r)
    (h : ∀ s', Inv X pins σ (upd H a (.ext (dtPhi X.prog X.w a (putY ys k b v)))) s' → Q () s') : wpAny (model X.prog X.w) A (setItem (.ref a) (.ref b) r) Q E s := by
  obtain ⟨z, hd, xs, rel, dd⟩ := dt_rd I (.inl e) t
  have nd : (ys.map (·.1)).Nodup := by
    obtain ⟨⟨_, _, nd, _⟩, _, _⟩ := (show ObjOk X.prog X.w H s.heap a (.ext (dtPhi X.prog X.w a ys)) from I.hok a _ e)
    exact nd
  have hz : xs.length ≤ sizeLine := by rw [← Paired.length rel]; exact z
  refine wpAny_setItem_heap (hsz := hz) (tupleKind_room_in1 hu) (key_ofR I tk) dd fun h' dd' hs => h _ ?_
  have he : ∃ q, h'.get? a = some q := let ⟨q, _, _, hq, _⟩ := dd'; ⟨q, hq⟩
  exact d_write I (by rw [e]; exact True.intro) hs he (dt_phi (by have := putY_len (ys := ys) (k := k) (b := b) (v := v); omega) hd (putY_keys nd) (rel.put k rv) dd')
theorem dt_isD (I : Inv X pins σ H s) (e : Rd H a (.ext (dtPhi X.prog X.w a ys))) : s.TypeIs (.ref a) "dict" ∧ (∀ b, Value.ref a = .ref b → ∃ ob, s.heap.get? b = some ob ∧ ob.dict = none) ∧ (a == sysModules) = false := by
  obtain ⟨⟨z, y, nd, xs, o, es, ep, r, h1, h2, h3, h4⟩, _, _⟩ := (show ObjOk X.prog X.w H s.heap a (.ext (dtPhi X.prog X.w a ys)) from e.ok I.hok)
  refine ⟨⟨o, h1, h2.1⟩, fun b q => ?_, y⟩
  cases q
  exact ⟨o, h1, h2.2.1⟩
end
end N9

set_option Elab.async false
set_option linter.all false
set_option maxRecDepth 100000
namespace N9
open PySem PySem.Spec L2

theorem vis_of {sc : Scope} {x : Str} (h : visB sc x = true) : sc.names.lookup x = some .local ∨ sc.names.lookup x = some .cell ∨ sc.names.lookup x = some .free := by
  unfold visB at h
  split at h <;> first
    | (left; assumption)
    | (right; left; assumption)
    | (right; right; assumption)
    | contradiction
theorem loc_of {sc : Scope} {x : Str} (h : locB sc x = true) : sc.names.lookup x = some .local ∨ sc.names.lookup x = some .cell := by
  unfold locB at h
  split at h <;> first
    | (left; assumption)
    | (right; assumption)
    | contradiction
theorem gl_of {sc : Scope} {x : Str} (h : glB sc x = true) : sc.names.lookup x = some .globalImplicit := by
  unfold glB at h
  split at h <;> first
    | assumption
    | contradiction
theorem plainN_of {x : Str} (h : plainN x = true) : (x == ("__debug__" : Str)) = false ∧ (x == ("__classdict__" : Str)) = false ∧ x ≠ "__name__" := by
  unfold plainN at h
  simp only [Bool.and_eq_true, Bool.not_eq_true', beq_eq_false_iff_ne] at h
  exact ⟨by simpa using h.1.1, by simpa using h.1.2, h.2⟩
theorem starCons {e : Expr} {es : List Expr} {env : PySem.Env} (h : isStar e = false) : starEach (e :: es) env = (false, eval e env) :: starEach es env := by
  cases e <;> first | rfl | exact absurd h (fun z => Bool.false_ne_true z.symm)
theorem noStar_any {pos : Pos} {env : PySem.Env} : ∀ {es : List Expr}, (∀ e ∈ es, isStar e = false) → (backTo pos (starEach es env)).any (·.1) = false
  | [], _ => rfl
  | e :: es, h => by
    rw [starCons (h e List.mem_cons_self)]
    show (false || (backTo pos (starEach es env)).any (·.1)) = false
    rw [Bool.false_or]
    exact noStar_any fun x hx => h x (List.mem_cons_of_mem _ hx)

section
variable {C : Ct} {X : Cx} {ad : List Addr} {hp : Hm} {H : Hp}
/-- a list's things, and who reads them -/
theorem truth_ok {v : V} {d : D} {b : Bool} {Q : Bool → Hp → Prop} (R : HR C X.prog X.w X.K ad hp H) (r : RV C X.K ad H v d) (h : D.truth hp d = some b) (q : Q b H) : wTr X v H Q := by
  have tv : ∀ v, TruV X.K v H b → wTr X v H Q := fun v t => wTr.of tru_ok ⟨b, t, q⟩
  cases d <;> simp only [D.truth, Option.some.injEq, reduceCtorEq] at h
  · cases r; exact tv _ h.symm
  · cases r; exact tv _ h.symm
  · cases r; exact tv _ h.symm
  · subst h
    obtain ⟨a, xs, rfl, t, rs⟩ := rv_tup r
    exact tv _ (.inr (.inl ⟨xs, t.sq, by rw [rvs_isEmpty' rs]⟩))
  · subst h
    cases r with | lst e n rs => exact tv _ (.inl ⟨_, .inl e, by rw [rvs_isEmpty' rs]⟩)
  · split at h <;> simp only [Option.some.injEq, reduceCtorEq] at h
    · subst h
      obtain ⟨a, xs, rfl, e, rs⟩ := R.lst r (by assumption)
      exact tv _ (.inl ⟨_, .inl e, by rw [rvs_isEmpty' rs]⟩)
    · subst h
      obtain ⟨a, kxs, rfl, e, k, rs⟩ := R.dk r (by assumption)
      refine fun pins s σ v I rx => ?_
      cases rx
      obtain ⟨z, hS, vs, r, m⟩ := dk_rd I.hok e
      have hlen : kxs.length = vs.length := Paired.length r
      refine wpAny_truthy_dict hS m (by rw [← hlen]; rw [sizeLine_eq] at z; omega) ⟨H, I.tok _, ?_⟩
      rw [isEmpty_kv r]
      have : kxs.isEmpty = (‹List (Int × D)›).isEmpty := by
        have := congrArg List.length k
        unfold kInts at this
        rw [List.length_map, List.length_map] at this
        cases kxs <;> cases ‹List (Int × D)› <;> first | rfl | simp at this
      rw [this]; exact q
    · subst h
      obtain ⟨a, ys, rfl, e, k, t, rs⟩ := R.dt r (by assumption)
      refine fun pins s σ v I rx => ?_
      cases rx
      obtain ⟨z, hd, xs, rel, dd⟩ := dt_rd I e t
      have hlen : ys.length = xs.length := Paired.length rel
      have hb : ys.isEmpty = (‹List (TK × D)›).isEmpty := by
        have := congrArg List.length k
        rw [List.length_map, List.length_map] at this
        cases ys <;> cases ‹List (TK × D)› <;> first | rfl | simp at this
      refine truthy_dtH hd dd (by rw [← hlen]; rw [sizeLine_eq] at z; omega) ⟨H, I.tok _, ?_⟩
      have hx : xs.isEmpty = ys.isEmpty := by cases rel <;> rfl
      rw [hx, hb]; exact q
where
  rvs_isEmpty' {xs : List V} {ds : List D} (r : RVs C X.K ad H xs ds) : xs.isEmpty = ds.isEmpty := by cases r <;> rfl
  truthy_dtH {prog : Program} {w : World} {A : Around} {E : Value → Shared → Prop} {s : Shared} {K : Type} [DecidableEq K] {knd : HeapKind prog w K} {d : Addr} {xs : List (K × Addr × Value)} {Q : Bool → Shared → Prop} (hd : (d == sysModules) = false) (hm : s.heap.DictOfH knd d xs) (hfit : (xs.length : Int) < 2 ^ 63)
    (h : Q (!xs.isEmpty) { s with toks := s.toks + 1 + 1 }) : wpAny (model prog w) A (truthy (.ref d)) Q E s := by
    have hne : ((xs.length : Int) != 0) = !xs.isEmpty := by cases xs <;> simp <;> omega
    have key : wpAny (model prog w) A (runValue (.builtin "len" ⟨[.ref d], []⟩)) (fun r s' => r = .int xs.length (s.toks + 1) ∧ Q (!xs.isEmpty) s') E s := by
      refine wpAny_runValue (codeAny_builtin entry_len ?_)
      rw [Around.under_plainId plain_len _]
      exact wpAny_mono (wpAny_len_body_dictH (Q := fun r s' => r = .int xs.length (s.toks + 1) ∧ Q (!xs.isEmpty) s') hd hm hfit ⟨rfl, h⟩)
        (fun fin s' h' => by obtain ⟨r, rfl, hq⟩ := h'; exact hq) fun _ _ e => e
    unfold truthy
    first
      | refine wpAny_bind (wpAny_callSpecial?_none (name := Str.ofString "__bool__") hm.typeIs noBool_dict ?_)
      | refine wpAny_bind (wpAny_pure (wpAny_bind (wpAny_callSpecial?_none (name := Str.ofString "__bool__") hm.typeIs noBool_dict ?_)))
    first
      | refine wpAny_bind (wpAny_specialOf (name := Str.ofString "__len__") hm.typeIs PySem.F.slot_dict_len.lookup ?_)
      | refine wpAny_bind (wpAny_pure (wpAny_bind (wpAny_specialOf (name := Str.ofString "__len__") hm.typeIs PySem.F.slot_dict_len.lookup ?_)))
    first
      | exact wpAny_bind (wpAny_mono key (fun r s' h' => by obtain ⟨rfl, hq⟩ := h'; exact wpAny_pure (hne ▸ hq)) fun _ _ e => e)
      | exact wpAny_bind (wpAny_pure (wpAny_bind (wpAny_mono key (fun r s' h' => by obtain ⟨rfl, hq⟩ := h'; exact wpAny_pure (hne ▸ hq)) fun _ _ e => e)))
end

section
variable {T : Tab} {N : List Str} {C : Ct} {c : Oracle}
/-- a value, read as itself or in a test -/
theorem fin_both {e : Expr} {W : WX} {X : Cx} {r : Re D} {ad : List Addr} {σ : L2.St} {H : Hp} (pt : plainT e = true)
    (hv : ∀ Q, PV C X r ad H (WE W σ) Q → wE X e σ H Q) :
    (∀ Q, PV C X (fin false r) ad H (WE W σ) Q → wE X e σ H Q) ∧ (∀ Q, PB C X (fin true r) ad H (WE W σ) Q → wT X e σ H Q) := by
  refine ⟨hv, fun Q p => ?_⟩
  refine wT.of (pt_truthW peW (plainT_is pt X.env)) (hv _ ?_)
  cases r with
  | ok d h' =>
    intro v H' ad' R x rv
    have p : PB C X (ofB (d.truth h') h') ad H (WE W σ) Q := p
    cases hb : d.truth h' with
    | none => rw [hb] at p; exact p.elim
    | some b => rw [hb] at p; exact truth_ok R rv hb (p H' ad' R x)
  | exc cl w h' => exact p
  | stk => exact p.elim
theorem se_unk : SE T N C c .unk := fun sc e W X env hp ad σ H hX hT hc R S => ⟨fun Q p => p.elim, fun Q p => p.elim⟩
theorem se_con (d : D) : SE T N C c (.con d) := by
  intro sc e W X env hp ad σ H hX hT hc R S
  have hc' : conB d e = true := hc
  have key : ∃ (v : V), PE X e (tC v) ∧ RV C X.K ad H v d ∧ plainT e = true := by
    cases e with
    | Constant k j pos =>
      cases k <;> simp only [conB] at hc' <;> first | contradiction | skip
      all_goals (split at hc' <;> first | contradiction | skip)
      all_goals (try simp only [decide_eq_true_eq] at hc') <;> (try subst hc')
      · exact ⟨_, pe_non, .non, rfl⟩
      · exact ⟨_, pe_bl, .bl _, rfl⟩
      · exact ⟨_, pe_int, .int _, rfl⟩
      · exact ⟨_, pe_str, .str _, rfl⟩
    | _ => simp [conB] at hc'
  obtain ⟨v, pe, r, pt⟩ := key
  exact fin_both (r := .ok d hp) pt (fun Q p => wE.of pe (p v H ad R (.refl _ _) r))
theorem se_gl (n : String) (d : D) : SE T N C c (.gl n d) := by
  intro sc e W X env hp ad σ H hX hT hc R S
  have key : ∃ pos, e = .Name (Str.ofString n) pos ∧ glB sc (Str.ofString n) = true ∧ plainN (Str.ofString n) = true ∧ ((∃ i, d = .int i ∧ T.co n = some (.int i)) ∨ ∃ i, d = .str i ∧ T.co n = some (.str i)) := by
    cases e <;> first | exact absurd hc Bool.false_ne_true | skip
    rename_i x pos
    change (decide (x = Str.ofString n) && _ && _ && (match (generalizing := false) T.co n, d with | some (.int i), .int j => decide (i = j) | some (.str i), .str j => decide (i = j) | _, _ => false)) = true at hc
    simp only [Bool.and_eq_true, decide_eq_true_eq] at hc
    obtain ⟨⟨⟨rfl, h2⟩, h3⟩, h4⟩ := hc
    refine ⟨_, rfl, h2, h3, ?_⟩
    split at h4
    · simp only [decide_eq_true_eq] at h4; subst h4; exact .inl ⟨_, rfl, by assumption⟩
    · simp only [decide_eq_true_eq] at h4; subst h4; exact .inr ⟨_, rfl, by assumption⟩
    · exact absurd h4 Bool.false_ne_true
  obtain ⟨pos, rfl, hg, hpn, hd⟩ := key
  obtain ⟨p1, p2, p3⟩ := plainN_of hpn
  have pe : ∃ v, PE X (.Name (Str.ofString n) pos) (tC v) ∧ RV C X.K ad H v d := by
    rcases hd with ⟨i, rfl, hi⟩ | ⟨i, rfl, hi⟩
    · obtain ⟨t, ht⟩ := hT.cInt n i hi
      exact ⟨.int i, pe_glob (hX.gl _ (gl_of hg)) ht ⟨t, rfl⟩ p1, .int i⟩
    · obtain ⟨t, ht⟩ := hT.cStr n i hi
      exact ⟨.str i, pe_glob (hX.gl _ (gl_of hg)) ht ⟨t, rfl⟩ p1, .str i⟩
  obtain ⟨v, pe, r⟩ := pe
  exact fin_both (r := .ok d hp) rfl (fun Q p => wE.of pe (p v H ad R (.refl _ _) r))
theorem se_var (i : Nat) : SE T N C c (.var i) := by
  intro sc e W X env hp ad σ H hX hT hc R S
  have key : ∃ x pos, e = .Name x pos ∧ N[i]? = some x ∧ visB sc x = true ∧ plainN x = true := by
    cases e <;> first | exact absurd hc Bool.false_ne_true | skip
    change (decide _ && _ && _) = true at hc
    simp only [Bool.and_eq_true, decide_eq_true_eq] at hc
    exact ⟨_, _, rfl, hc.1.1, hc.1.2, hc.2⟩
  obtain ⟨x, pos, rfl, hi, hv, hpn⟩ := key
  obtain ⟨p1, p2, p3⟩ := plainN_of hpn
  have pe : PE X (.Name x pos) (tVar i) := pe_var (by rw [hX.hN]; exact hi) (hX.vis x (vis_of hv)) p1 p2
  refine fin_both (r := match env[i]? with | some (some d) => .ok d hp | _ => .stk) rfl fun Q p => ?_
  cases hs : env[i]? with
  | none => rw [hs] at p; exact p.elim
  | some o =>
    rw [hs] at p
    cases o with
    | none => exact p.elim
    | some d =>
      obtain ⟨v, hv, r⟩ := S.slot i d hs
      exact wE.of pe ⟨v, hv, p v H ad R (.refl _ _) r⟩

/-! ## one behind the other -/
theorem step {a : IE} {x : Expr} {sc : Scope} {W : WX} {X : Cx} {env : Env} {hp : Hm} {ad : List Addr} {σ : L2.St} {H : Hp} {α β : Type} {RR : List Addr → Hp → β → α → Prop} {f : D → Hm → Re α} {Q : β → Hp → Prop} {Q2 : VK}
    (ha : SE T N C c a) (hX : XOk N sc W X) (hT : TabOk T C c X) (ca : chkE T N a sc x = true) (R : HR C X.prog X.w X.K ad hp H) (S : SlR C X.K ad env σ H)
    (p : Post C X.prog X.w X.K RR ((ev c a false env hp).bind f) ad H (WE W σ) Q)
    (k : ∀ d h1 v H1 ad1, HR C X.prog X.w X.K ad1 h1 H1 → SlR C X.K ad1 env σ H1 → Ext ad H ad1 H1 → RV C X.K ad1 H1 v d → Post C X.prog X.w X.K RR (f d h1) ad1 H1 (WE W σ) Q → Q2 v H1) : wE X x σ H Q2 := by
  refine (ha sc x W X env hp ad σ H hX hT ca R S).1 Q2 ?_
  cases hr : ev c a false env hp with
  | ok d h1 =>
    rw [hr] at p
    intro v H1 ad1 R1 x1 r1
    exact k d h1 v H1 ad1 R1 (S.mono x1) x1 r1 (Post.shift x1 p)
  | exc cl w h1 => rw [hr] at p; exact p
  | stk => rw [hr] at p; exact p.elim
theorem stepB {a : IE} {x : Expr} {sc : Scope} {W : WX} {X : Cx} {env : Env} {hp : Hm} {ad : List Addr} {σ : L2.St} {H : Hp} {f : D → Hm → Re D} {Q : Bool → Hp → Prop} {Q2 : VK}
    (ha : SE T N C c a) (hX : XOk N sc W X) (hT : TabOk T C c X) (ca : chkE T N a sc x = true) (R : HR C X.prog X.w X.K ad hp H) (S : SlR C X.K ad env σ H)
    (p : PB C X ((ev c a false env hp).bind f) ad H (WE W σ) Q)
    (k : ∀ d h1 v H1 ad1, HR C X.prog X.w X.K ad1 h1 H1 → SlR C X.K ad1 env σ H1 → Ext ad H ad1 H1 → RV C X.K ad1 H1 v d → PB C X (f d h1) ad1 H1 (WE W σ) Q → Q2 v H1) : wE X x σ H Q2 := by
  refine (ha sc x W X env hp ad σ H hX hT ca R S).1 Q2 ?_
  cases hr : ev c a false env hp with
  | ok d h1 =>
    rw [hr] at p
    intro v H1 ad1 R1 x1 r1
    exact k d h1 v H1 ad1 R1 (S.mono x1) x1 r1 (PB.shift x1 p)
  | exc cl w h1 => rw [hr] at p; exact p
  | stk => rw [hr] at p; exact p.elim
/-- a test ahead -/
theorem stepT {a : IE} {x : Expr} {sc : Scope} {W : WX} {X : Cx} {env : Env} {hp : Hm} {ad : List Addr} {σ : L2.St} {H : Hp} {f : D → Hm → Re D} {Q : VK} {Q2 : Bool → Hp → Prop}
    (ha : SE T N C c a) (hX : XOk N sc W X) (hT : TabOk T C c X) (ca : chkE T N a sc x = true) (R : HR C X.prog X.w X.K ad hp H) (S : SlR C X.K ad env σ H)
    (p : PV C X ((ev c a true env hp).bind f) ad H (WE W σ) Q) (hf : ∀ d h1, (∀ b, d ≠ .bl b) → f d h1 = .stk)
    (k : ∀ b h1 H1 ad1, HR C X.prog X.w X.K ad1 h1 H1 → SlR C X.K ad1 env σ H1 → Ext ad H ad1 H1 → PV C X (f (.bl b) h1) ad1 H1 (WE W σ) Q → Q2 b H1) : wT X x σ H Q2 := by
  refine (ha sc x W X env hp ad σ H hX hT ca R S).2 Q2 ?_
  cases hr : ev c a true env hp with
  | ok d h1 =>
    rw [hr] at p
    by_cases hd : ∃ b, d = .bl b
    · obtain ⟨b, rfl⟩ := hd
      intro H1 ad1 R1 x1
      exact k b h1 H1 ad1 R1 (S.mono x1) x1 (Post.shift x1 p)
    · have p' : PV C X (f d h1) ad H (WE W σ) Q := p
      rw [hf d h1 (fun b e => hd ⟨b, e⟩)] at p'
      exact p'.elim
  | exc cl w h1 => rw [hr] at p; exact p
  | stk => rw [hr] at p; exact p.elim
theorem stepTT {a : IE} {x : Expr} {sc : Scope} {W : WX} {X : Cx} {env : Env} {hp : Hm} {ad : List Addr} {σ : L2.St} {H : Hp} {f : D → Hm → Re D} {Q : Bool → Hp → Prop} {Q2 : Bool → Hp → Prop}
    (ha : SE T N C c a) (hX : XOk N sc W X) (hT : TabOk T C c X) (ca : chkE T N a sc x = true) (R : HR C X.prog X.w X.K ad hp H) (S : SlR C X.K ad env σ H)
    (p : PB C X ((ev c a true env hp).bind f) ad H (WE W σ) Q) (hf : ∀ d h1, (∀ b, d ≠ .bl b) → f d h1 = .stk)
    (k : ∀ b h1 H1 ad1, HR C X.prog X.w X.K ad1 h1 H1 → SlR C X.K ad1 env σ H1 → Ext ad H ad1 H1 → PB C X (f (.bl b) h1) ad1 H1 (WE W σ) Q → Q2 b H1) : wT X x σ H Q2 := by
  refine (ha sc x W X env hp ad σ H hX hT ca R S).2 Q2 ?_
  cases hr : ev c a true env hp with
  | ok d h1 =>
    rw [hr] at p
    by_cases hd : ∃ b, d = .bl b
    · obtain ⟨b, rfl⟩ := hd
      intro H1 ad1 R1 x1
      exact k b h1 H1 ad1 R1 (S.mono x1) x1 (PB.shift x1 p)
    · have p' : PB C X (f d h1) ad H (WE W σ) Q := p
      rw [hf d h1 (fun b e => hd ⟨b, e⟩)] at p'
      exact p'.elim
  | exc cl w h1 => rw [hr] at p; exact p
  | stk => rw [hr] at p; exact p.elim

/-! ## arguments -/
theorem chkA_cons {a t : IE} {sc : Scope} {es : List Expr} (h : chkA T N (.cons a t) sc es = true) : ∃ e es', es = e :: es' ∧ chkE T N a sc e = true ∧ isStar e = false ∧ chkA T N t sc es' = true := by
  cases es with
  | nil => exact absurd h Bool.false_ne_true
  | cons e es =>
    have h : (chkE T N a sc e && !isStar e && chkA T N t sc es) = true := h
    simp only [Bool.and_eq_true, Bool.not_eq_true'] at h
    exact ⟨e, es, rfl, h.1.1, h.1.2, h.2⟩
theorem sl_nil : SL T N C c .nil := by
  intro sc es W X env hp ad σ H hX hT hc hn R S Q p
  have h : es.isEmpty = true := hc
  cases es with
  | cons e es => exact absurd h (by simp)
  | nil => exact p [] H ad R (.refl _ _) .nil
theorem sl_cons {a t : IE} (ha : SE T N C c a) (ht : SL T N C c t) : SL T N C c (.cons a t) := by
  intro sc es W X env hp ad σ H hX hT hc hn R S Q p
  obtain ⟨e, es, rfl, ca, hs, ct⟩ := chkA_cons hc
  refine step (RR := RVs C X.K) (f := fun d h1 => (evA c t env h1).bind fun ds h2 => .ok (d :: ds) h2) ha hX hT ca R S p fun d h1 v H1 ad1 R1 S1 x1 r1 p1 => ?_
  refine ht sc es W X env h1 ad1 σ H1 hX hT ct hn R1 S1 _ ?_
  cases hr : evA c t env h1 with
  | ok ds h2 =>
    rw [hr] at p1
    intro vs H2 ad2 R2 x2 r2
    exact p1 (v :: vs) H2 ad2 R2 x2 (.cons (r1.mono x2) r2)
  | exc cl w h2 => rw [hr] at p1; exact p1
  | stk => rw [hr] at p1; exact p1.elim
theorem sl_star {a t : IE} : SL T N C c (.star a t) := fun sc es W X env hp ad σ H hX hT hc hn => absurd hn Bool.false_ne_true
theorem sa_nil : SA T N C c .nil := by
  intro sc es W X env hp ad σ H hX hT hc R S Q p
  have h : es.isEmpty = true := hc
  cases es with
  | cons e es => exact absurd h (by simp)
  | nil => exact wA.of pa_nil (p [] H ad R (.refl _ _) .nil)
theorem sa_cons {a t : IE} (ha : SE T N C c a) (ht : SA T N C c t) : SA T N C c (.cons a t) := by
  intro sc es W X env hp ad σ H hX hT hc R S Q p
  obtain ⟨e, es, rfl, ca, hs, ct⟩ := chkA_cons hc
  refine wA.of (pa_cons peW paW (starCons hs)) ?_
  refine step (RR := RVs C X.K) (f := fun d h1 => (evA c t env h1).bind fun ds h2 => .ok (d :: ds) h2) ha hX hT ca R S p fun d h1 v H1 ad1 R1 S1 x1 r1 p1 => ?_
  refine ht sc es W X env h1 ad1 σ H1 hX hT ct R1 S1 _ ?_
  cases hr : evA c t env h1 with
  | ok ds h2 =>
    rw [hr] at p1
    intro vs H2 ad2 R2 x2 r2
    exact p1 (v :: vs) H2 ad2 R2 x2 (.cons (r1.mono x2) r2)
  | exc cl w h2 => rw [hr] at p1; exact p1
  | stk => rw [hr] at p1; exact p1.elim
theorem seqD_of {X : Cx} {ad : List Addr} {hp : Hm} {H : Hp} {v : V} {d : D} {l : List D} (R : HR C X.prog X.w X.K ad hp H) (r : RV C X.K ad H v d) (h : seqD hp d = some l) : ∃ a xs, v = .ref a ∧ (SqT X.K H a xs ∨ SqL X.K H a xs) ∧ RVs C X.K ad H xs l := by
  by_cases hd : ∃ l', d = .tup l'
  · obtain ⟨l', rfl⟩ := hd
    have h : some l' = some l := h
    cases h
    obtain ⟨a, xs, rfl, t, rs⟩ := rv_tup r
    exact ⟨a, xs, rfl, .inl t.sq, rs⟩
  by_cases hs : ∃ l', d = .scr l'
  · obtain ⟨l', rfl⟩ := hs
    have h : some (l'.map N9.D.int) = some l := h
    cases h
    cases r with | scr t => exact ⟨_, _, rfl, .inr t.sq, RVs.ints⟩
  · have h : listD hp d = some l := by
      cases d <;> first | exact h | exact absurd ⟨_, rfl⟩ hd | exact absurd ⟨_, rfl⟩ hs
    obtain ⟨a, xs, rfl, t, rs⟩ := listD_of R r h
    exact ⟨a, xs, rfl, .inr (.inl t), rs⟩
theorem sa_star {a t : IE} (ha : SE T N C c a) (ht : SA T N C c t) : SA T N C c (.star a t) := by
  intro sc es W X env hp ad σ H hX hT hc R S Q p
  have key : ∃ e pos es', es = .Starred e pos :: es' ∧ chkE T N a sc e = true ∧ chkA T N t sc es' = true := by
    cases es with
    | nil => exact absurd hc Bool.false_ne_true
    | cons e es =>
      cases e <;> first | exact absurd hc Bool.false_ne_true | skip
      have hc : (_ && _) = true := hc
      simp only [Bool.and_eq_true] at hc
      exact ⟨_, _, _, rfl, hc.1, hc.2⟩
  obtain ⟨e, pos, es, rfl, ca, ct⟩ := key
  refine wA.of (StX.pa_star peW paW) ?_
  refine step (RR := RVs C X.K) (f := fun d h1 => match seqD h1 d with
    | some l => (evA c t env h1).bind fun ds h2 => .ok (l ++ ds) h2
    | none => .stk) ha hX hT ca R S p fun d h1 v H1 ad1 R1 S1 x1 r1 p1 => ?_
  cases hl : seqD h1 d with
  | none => rw [hl] at p1; exact p1.elim
  | some l =>
    rw [hl] at p1
    obtain ⟨q, xs, rfl, hx, rs⟩ := seqD_of R1 r1 hl
    refine ⟨q, xs, rfl, hx, ?_⟩
    refine ht sc es W X env h1 ad1 σ H1 hX hT ct R1 S1 _ ?_
    cases hr : evA c t env h1 with
    | ok ds h2 =>
      simp only [hr] at p1
      intro vs H2 ad2 R2 x2 r2
      exact p1 (xs ++ vs) H2 ad2 R2 x2 ((rs.mono x2).append r2)
    | exc cl w h2 => simp only [hr] at p1; exact p1
    | stk => simp only [hr] at p1; exact p1.elim
/-- a new list, one of the two kinds -/
theorem mkL_ok {X : Cx} {z : Bool} {l : List D} {hp : Hm} {ad : List Addr} {H : Hp} {E : Value → Option Addr → Hp → Prop} {Q : VK} {xs : List V} (R : HR C X.prog X.w X.K ad hp H) (rs : RVs C X.K ad H xs l) (p : PV C X (mkL z l hp) ad H E Q) : ∀ q, H q = none → Q (.ref q) (upd H q (.lst xs)) := by
  intro q hq
  cases z with
  | true =>
    obtain ⟨a, b, d⟩ := new_lst R hq rs
    exact p (.ref q) _ ad a b d
  | false =>
    obtain ⟨a, b, d⟩ := push_lst R hq rs
    exact p (.ref q) _ _ a b d
theorem se_tup {as : IE} (ha : SA T N C c as) : SE T N C c (.tupE as) := by
  intro sc e W X env hp ad σ H hX hT hc R S
  have key : ∃ es k pos, e = .Tuple es k pos ∧ chkA T N as sc es = true := by
    cases e <;> first | exact absurd hc Bool.false_ne_true | skip
    exact ⟨_, _, _, rfl, hc⟩
  obtain ⟨es, k, pos, rfl, ca⟩ := key
  refine fin_both (r := (evA c as env hp).bind fun ds h1 => if ds.length ≤ sizeLine then .ok (.tup ds) h1 else .stk) rfl fun Q p => ?_
  refine wE.of (pe_tup paW) ?_
  refine ha sc es W X env hp ad σ H hX hT ca R S _ ?_
  cases hr : evA c as env hp with
  | exc cl w h1 => rw [hr] at p; exact p
  | stk => rw [hr] at p; exact p.elim
  | ok ds h1 =>
    rw [hr] at p
    have p : PV C X (if ds.length ≤ sizeLine then .ok (.tup ds) h1 else .stk) ad H (WE W σ) Q := p
    intro vs H1 ad1 R1 x1 rs
    by_cases hl : ds.length ≤ sizeLine
    · rw [if_pos hl] at p
      refine ⟨by rw [rs.length]; exact hl, fun q hq => ?_⟩
      obtain ⟨a, b, d⟩ := new_tup R1 hq rs
      exact p _ _ ad1 a (x1.trans b) d
    · rw [if_neg hl] at p; exact p.elim
theorem se_lst {z : Bool} {as : IE} (ha : SA T N C c as) : SE T N C c (.lstE z as) := by
  intro sc e W X env hp ad σ H hX hT hc R S
  have key : ∃ es pos, e = .List es pos ∧ chkA T N as sc es = true := by
    cases e <;> first | exact absurd hc Bool.false_ne_true | skip
    exact ⟨_, _, rfl, hc⟩
  obtain ⟨es, pos, rfl, ca⟩ := key
  refine fin_both (r := (evA c as env hp).bind fun ds h1 => if ds.length ≤ sizeLine then mkL z ds h1 else .stk) rfl fun Q p => ?_
  refine wE.of (pe_lst paW) ?_
  refine ha sc es W X env hp ad σ H hX hT ca R S _ ?_
  cases hr : evA c as env hp with
  | exc cl w h1 => rw [hr] at p; exact p
  | stk => rw [hr] at p; exact p.elim
  | ok ds h1 =>
    rw [hr] at p
    have p : PV C X (if ds.length ≤ sizeLine then mkL z ds h1 else .stk) ad H (WE W σ) Q := p
    intro vs H1 ad1 R1 x1 rs
    by_cases hl : ds.length ≤ sizeLine
    · rw [if_pos hl] at p
      exact ⟨by rw [rs.length]; exact hl, mkL_ok R1 rs (Post.shift x1 p)⟩
    · rw [if_neg hl] at p; exact p.elim
end
end N9

set_option Elab.async false
set_option linter.all false
set_option maxRecDepth 100000
namespace N9
open PySem PySem.Spec L2

/-! ## dicts of lots, compared -/
def goodX (ys : XS) (x : List Key × Addr × Value) : Bool := match atKey ys x.1 with
  | some p => (match x.2.2, p.2 with | .int i _, .int j _ => i == j | _, _ => false)
  | none => false
section
variable {prog : Program} {w : World} {A : Around} {E : Value → Shared → Prop} {s : Shared}
theorem samePairsH {nm : String} {a b : Addr} {xs ys : XS} {Q : Bool → Shared → Prop} (hu : (tupleKind (mixKind prog w)).room A) (ha : (a == sysModules) = false) (hb : (b == sysModules) = false)
    (da : s.heap.DictOfH (tupleKind (mixKind prog w)) a xs) (db : s.heap.DictOfH (tupleKind (mixKind prog w)) b ys) (ia : ∀ x ∈ xs, ∃ i t, x.2.2 = .int i t) (ib : ∀ x ∈ ys, ∃ i t, x.2.2 = .int i t) (h : Q (xs.length == ys.length && xs.all (goodX ys)) s) :
    wpAny (model prog w) A (Builtin.Dict.samePairs nm a b) Q E s := by
  obtain ⟨oa, es, ep, hoa, _, hda, hpa, hka, hna⟩ := da
  obtain ⟨ob, es', ep', hob, _, hdb, hpb, hkb, hnb⟩ := db
  have hla : xs.length = es.size := by rw [← Array.length_toList, hpa, List.length_map]
  have hlb : ys.length = es'.size := by rw [← Array.length_toList, hpb, List.length_map]
  rw [hla, hlb] at h
  unfold Builtin.Dict.samePairs Builtin.Dict.showsAll
  rw [if_neg (show ¬ (a == sysModules) = true by rw [ha]; exact Bool.false_ne_true), if_neg (show ¬ (b == sysModules) = true by rw [hb]; exact Bool.false_ne_true)]
  refine wpAny_bind (wpAny_pure (wpAny_bind (wpAny_pure ?_)))
  refine wpAny_bind (wpAny_dictEntries hoa hda ?_)
  dsimp only
  refine wpAny_bind (wpAny_dictEntries hob hdb ?_)
  by_cases hsz : es.size = es'.size
  case neg =>
    rw [if_pos (by simpa using hsz)]
    have hbf : (es.size == es'.size) = false := by simpa using hsz
    rw [hbf, Bool.false_and] at h
    exact wpAny_bind (wpAny_rule (wpAny_pure h))
  case pos =>
    have h' : Q (xs.all (goodX ys)) s := by simpa [hsz] using h
    rw [if_neg (by rw [hsz]; simp)]
    refine wpAny_bind (wpAny_dictEpoch hoa hda ?_)
    refine wpAny_bind ?_
    rw [Std.Legacy.Range.forIn_eq_forIn_range']
    simp only [Std.Legacy.Range.size, Nat.sub_zero, Nat.add_sub_cancel, Nat.div_one]
    refine wpAny_forIn_list _
      (fun rest q s' => s' = s ∧ q = (none, ()) ∧ ∃ i, rest = List.range' i (es.size - i) ∧ i ≤ es.size ∧ (xs.drop i).all (goodX ys) = xs.all (goodX ys))
      _ ?_ ?_ _ _ ⟨rfl, rfl, 0, by simp, Nat.zero_le _, by simp⟩
    · rintro x rest q s' ⟨rfl, rfl, i, hr, hi, hpre⟩
      have hlt : i < es.size := by
        rcases Nat.lt_or_ge i es.size with h | h
        · exact h
        · rw [Nat.sub_eq_zero_of_le h] at hr; simp at hr
      obtain ⟨rfl, hrest⟩ : x = i ∧ rest = List.range' (i + 1) (es.size - (i + 1)) := by
        have e : es.size - i = (es.size - (i + 1)) + 1 := by omega
        rw [e, List.range'_succ] at hr
        injection hr with h1 h2
        exact ⟨h1, h2⟩
      refine wpAny_bind (wpAny_dictEntries hoa hda ?_)
      have hlt' : x < xs.length := by rw [hla]; exact hlt
      obtain ⟨k, c, v, hkv⟩ : ∃ k c v, xs[x] = (k, c, v) := ⟨_, _, _, rfl⟩
      have hdrop : xs.drop x = (k, c, v) :: xs.drop (x + 1) := by rw [← hkv]; exact List.drop_eq_getElem_cons hlt'
      obtain ⟨hk, ehk⟩ : ∃ hk, hk = (tupleKind (mixKind prog w)).hash k := ⟨_, rfl⟩
      have hes : es[x]? = some ⟨hk, .ref c, v⟩ := by
        rw [← Array.getElem?_toList, hpa, List.getElem?_map, List.getElem?_eq_getElem hlt', hkv, ehk]; rfl
      rw [hes]
      have hm : (k, c, v) ∈ xs := by rw [← hkv]; exact List.getElem_mem hlt'
      have hkey := hka _ hm
      obtain ⟨i0, t0, ev⟩ := ia _ hm
      have ev : v = .int i0 t0 := ev
      subst ev
      rw [hdrop, List.all_cons] at hpre
      show wpAny _ _ (holding [.ref c, .int i0 t0] _ >>= _) _ _ _
      refine wpAny_bind (wpAny_holding (wpAny_bind ?_))
      show wpAny _ _ (dictFind b (.ref c) hk) _ _ _
      rw [ehk]
      refine wpAny_dictFind_heap (k := k) (a := c) hu hkey hob hdb hpb hkb hnb (fun hno => ?_) fun j p hj => ?_
      · have hg : goodX ys (k, c, .int i0 t0) = false := by
          unfold goodX
          have : atKey ys k = none := by
            unfold atKey
            rw [Option.map_eq_none_iff, List.find?_eq_none]
            intro y hy
            obtain ⟨n, hn, e⟩ := List.mem_iff_getElem.mp hy
            intro z
            have z : y.1 = k := by simpa using z
            refine hno n y.2 ?_
            rw [List.getElem?_eq_getElem hn, e, ← z]
          simp only [this]
        rw [hg, Bool.false_and] at hpre
        rw [← hpre] at h'
        refine wpAny_pure ?_
        show wpAny _ _ (if (!false) = true then _ else _) _ _ _
        rw [if_pos (by decide)]
        exact wpAny_pure (wpAny_pure h')
      · have hj' : j < ys.length := (List.getElem?_eq_some_iff.mp hj).1
        refine wpAny_bind (wpAny_dictEntries hob hdb ?_)
        obtain ⟨hk', ehk'⟩ : ∃ hk, hk = (tupleKind (mixKind prog w)).hash k := ⟨_, rfl⟩
        have hes' : es'[j]? = some ⟨hk', .ref p.1, p.2⟩ := by
          rw [← Array.getElem?_toList, hpb, List.getElem?_map, hj, ehk']; rfl
        rw [hes']
        have hmy : (k, p) ∈ ys := List.mem_of_getElem? hj
        obtain ⟨i1, t1, ev⟩ := ib _ hmy
        have ev : p.2 = .int i1 t1 := ev
        have hat : atKey ys k = some p := by
          unfold atKey
          cases hf : ys.find? fun x => decide (x.1 = k) with
          | none =>
            have := List.find?_eq_none.mp hf _ hmy
            simp at this
          | some y =>
            have h1 : y.1 = k := by simpa using List.find?_some hf
            have h2 := List.mem_of_find?_eq_some hf
            have : y = (k, p) := by
              obtain ⟨n, hn, e⟩ := List.mem_iff_getElem.mp h2
              have e1 : (ys.map (·.1))[n]'(by simpa using hn) = k := by simp [e, h1]
              have e2 : (ys.map (·.1))[j]'(by simpa using hj') = k := by
                have := (List.getElem?_eq_some_iff.mp hj).2
                simp [this]
              have : n = j := (List.getElem_inj hnb).mp (e1.trans e2.symm)
              subst this
              rw [← e]; exact (List.getElem?_eq_some_iff.mp hj).2
            rw [this]; rfl
        have hg : goodX ys (k, c, .int i0 t0) = (i0 == i1) := by
          unfold goodX
          simp only [hat, ev]
        rw [hg] at hpre
        show wpAny _ _ (holding [p.2] (eqBool (.int i0 t0) p.2)) _ _ _
        rw [ev]
        refine wpAny_holding (wpAny_eqBool_int ?_)
        cases he : (i0 == i1) with
        | false =>
          rw [he, Bool.false_and] at hpre
          rw [← hpre] at h'
          show wpAny _ _ (if (!false) = true then _ else _) _ _ _
          rw [if_pos (by decide)]
          exact wpAny_pure (wpAny_pure h')
        | true =>
          rw [he, Bool.true_and] at hpre
          show wpAny _ _ (if (!true) = true then _ else _) _ _ _
          rw [if_neg (by decide)]
          refine wpAny_bind (wpAny_dictEpoch hoa hda ?_)
          rw [if_neg (by simp)]
          exact wpAny_pure ⟨rfl, rfl, x + 1, hrest, hlt, hpre⟩
    · rintro q s' ⟨rfl, rfl, i, hr, hi, hpre⟩
      have hin : i = es.size := by
        rcases Nat.lt_or_ge i es.size with h | h
        · have e : es.size - i = (es.size - (i + 1)) + 1 := by omega
          rw [e, List.range'_succ] at hr; exact nomatch hr
        · exact Nat.le_antisymm hi h
      refine wpAny_pure ?_
      rw [hin, ← hla, List.drop_length] at hpre
      rw [← hpre] at h'
      exact h'
theorem keqH {a b : Addr} {xs ys : XS} {neg : Bool} {Q : Value → Shared → Prop} (hu : A.units + 1 < cLine) (ha : (a == sysModules) = false) (hb : (b == sysModules) = false)
    (da : s.heap.DictOfH (tupleKind (mixKind prog w)) a xs) (db : s.heap.DictOfH (tupleKind (mixKind prog w)) b ys) (ia : ∀ x ∈ xs, ∃ i t, x.2.2 = .int i t) (ib : ∀ x ∈ ys, ∃ i t, x.2.2 = .int i t)
    (h : Q (.bool (if neg then !(xs.length == ys.length && xs.all (goodX ys)) else (xs.length == ys.length && xs.all (goodX ys)))) s) :
    wpAny (model prog w) A (compareOp (if neg then .NotEq else .Eq) (.ref a) (.ref b)) Q E s := by
  cases neg with
  | false =>
    refine wpAny_richCompare_same_room (op := .Eq) da.typeIs db.typeIs PySem.F.slot_dict_eq (wpAny_call_entry PySem.F.slot_dict_eq da.typeIs PySem.F.entry_dict_eq ?_ (PySem.F.args_dict_eq_2 _ _)) (by omega)
    show wpAny _ _ (Builtin.Dict.dictSlotArgs "__eq__" ⟨[.ref a, .ref b], []⟩ >>= _) _ _ s
    refine wpAny_bind ?_
    unfold Builtin.Dict.dictSlotArgs
    refine wpAny_bind (wpAny_notOrdered_dict da.typeIs ?_)
    show wpAny _ _ (pure (Value.ref a, Value.ref b)) _ _ s
    refine wpAny_pure ?_
    refine wpAny_bind (wpAny_isInstance (T := "dict") db.typeIs PySem.F.sub_dict_dict ?_)
    simp only [Bool.not_true, Bool.false_eq_true, if_false]
    refine wpAny_bind (wpAny_pure (wpAny_bind (wpAny_pure ?_)))
    refine wpAny_bind (samePairsH (tupleKind_room_in1 hu) ha hb da db ia ib ?_)
    refine wpAny_pure ⟨_, rfl, ?_, ?_⟩
    · exact fun x => nomatch x
    · simpa using h
  | true =>
    refine wpAny_richCompare_same_room (op := .NotEq) da.typeIs db.typeIs PySem.F.slot_dict_ne (wpAny_call_entry PySem.F.slot_dict_ne da.typeIs PySem.F.entry_dict_ne ?_ (PySem.F.args_dict_ne_2 _ _)) (by omega)
    show wpAny _ _ (Builtin.Dict.dictSlotArgs "__ne__" ⟨[.ref a, .ref b], []⟩ >>= _) _ _ s
    refine wpAny_bind ?_
    unfold Builtin.Dict.dictSlotArgs
    refine wpAny_bind (wpAny_notOrdered_dict da.typeIs ?_)
    show wpAny _ _ (pure (Value.ref a, Value.ref b)) _ _ s
    refine wpAny_pure ?_
    refine wpAny_bind (wpAny_isInstance (T := "dict") db.typeIs PySem.F.sub_dict_dict ?_)
    simp only [Bool.not_true, Bool.false_eq_true, if_false]
    refine wpAny_bind (wpAny_pure (wpAny_bind (wpAny_pure ?_)))
    refine wpAny_bind (samePairsH (tupleKind_room_in1 hu) ha hb da db ia ib ?_)
    refine wpAny_pure ⟨_, rfl, ?_, ?_⟩
    · exact fun x => nomatch x
    · simpa using h
end
end N9

set_option Elab.async false
set_option linter.all false
set_option maxRecDepth 100000
namespace N9
open PySem PySem.Spec L2

/-! ## deep data -/
section
variable {C : Ct} {P : Program} {w : World} {K : PySem.W.Frag} {ad : List Addr} {hp : Hm} {H : Hp} {f : Nat → Option PyData}
set_option maxHeartbeats 2000000 in
mutual
theorem RV.dpF (hf : ∀ v n p, RV C K ad H v (.ref n) → f n = some p → Dp K H v p) : ∀ {v : V} {d : D} {p : PyData}, RV C K ad H v d → D.py f d = some p → Dp K H v p
  | _, _, _, .non, h => by simp only [D.py, Option.some.injEq] at h; subst h; exact .non
  | _, _, _, .bl b, h => by simp only [D.py, Option.some.injEq] at h; subst h; exact .bl b
  | _, _, _, .int i, h => by simp only [D.py, Option.some.injEq] at h; subst h; exact .int i
  | _, _, _, .str x, h => by simp only [D.py, Option.some.injEq] at h; subst h; exact .str x
  | _, _, _, .tup r rs, h => by
    simp only [D.py, Option.map_eq_some_iff] at h
    obtain ⟨q, e, rfl⟩ := h
    exact .tup r.sq (RVs.dpF hf rs e)
  | _, _, _, .lst r n rs, h => by
    simp only [D.py, Option.map_eq_some_iff] at h
    obtain ⟨q, e, rfl⟩ := h
    exact .lst (.inl r) (RVs.dpF hf rs e)
  | _, _, _, .ins .., h => by simp only [D.py, reduceCtorEq] at h
  | _, _, _, .ref e, h => hf _ _ _ (.ref e) (by simpa only [D.py] using h)
  | _, _, _, .scr _, h => by simp only [D.py, reduceCtorEq] at h
theorem RVs.dpF (hf : ∀ v n p, RV C K ad H v (.ref n) → f n = some p → Dp K H v p) : ∀ {v : List V} {d : List D} {p : List PyData}, RVs C K ad H v d → D.pys f d = some p → DpAll K H v p
  | _, _, _, .nil, h => by simp only [D.pys, Option.some.injEq] at h; subst h; exact .nil
  | _, _, _, .cons (d := d) (ds := ds) r rs, h => by
    simp only [D.pys] at h
    cases h1 : D.py f d with
    | none => rw [h1] at h; simp at h
    | some x =>
      cases h2 : D.pys f ds with
      | none => rw [h1, h2] at h; simp at h
      | some xs =>
        rw [h1, h2] at h
        simp only [Option.some.injEq] at h
        subst h
        exact .cons (RV.dpF hf r h1) (RVs.dpF hf rs h2)
end
theorem pyR_ok (R : HR C P w K ad hp H) : ∀ (k : Nat) (v : V) (n : Nat) (p : PyData), RV C K ad H v (.ref n) → pyR hp k n = some p → Dp K H v p
  | 0, _, _, _, _, h => absurd (show (none : Option PyData) = some _ from h) (by simp)
  | k + 1, v, n, p, r, h => by
    have h : (match gt hp n with | some (.lst l) => (D.pys (pyR hp k) l).map .list | _ => none) = some p := h
    cases hg : gt hp n with
    | none => rw [hg] at h; cases h
    | some o =>
    rw [hg] at h
    cases o <;> first | (cases h; done) | skip
    rename_i l
    obtain ⟨q, e, rfl⟩ := Option.map_eq_some_iff.mp h
    obtain ⟨a, xs, rfl, hx, rs⟩ := R.lst r hg
    exact .lst (.inl hx) (RVs.dpF (fun v n p => pyR_ok R k v n p) rs e)
theorem RV.dp {k : Nat} (R : HR C P w K ad hp H) {v : V} {d : D} {p : PyData} (r : RV C K ad H v d) (h : D.py (pyR hp k) d = some p) : Dp K H v p := r.dpF (pyR_ok R k) h
theorem RVs.dp {k : Nat} (R : HR C P w K ad hp H) {v : List V} {d : List D} {p : List PyData} (r : RVs C K ad H v d) (h : D.pys (pyR hp k) d = some p) : DpAll K H v p := r.dpF (pyR_ok R k) h
end

section
variable {X : Cx}
theorem op_inDT {neg : Bool} (hu : X.A.units + 65 < cLine) : OpR X (compareOp (if neg then .NotIn else .In)) (fun x y H Q => ∃ d ds, Dp X.K H x d ∧ Dp X.K H y (.tuple ds) ∧ SeqAt.shaped d = true ∧ SeqAt.shaped (.list ds) = true ∧ Q (.bl (if neg then !(ds.any fun z => PyData.eqv z d) else ds.any fun z => PyData.eqv z d)) H) := by
  intro pins s σ H x y v u Q I rx ry h
  obtain ⟨d, ds, hd, he, sd, se, q⟩ := h
  obtain ⟨as, r1⟩ := Dp.reads I d x v hd rx
  obtain ⟨bs, r2⟩ := Dp.reads I (.tuple ds) y u he ry
  cases neg with
  | false => exact SeqAt.in_tuple_reads r2 r1 (SeqAt.canLay_of_shaped se) (SeqAt.canLay_of_shaped sd) (PyProof.Rows.room_in_shaped sd hu) ⟨.bl _, H, I, rfl, q⟩
  | true => exact SeqAt.notIn_tuple_reads r2 r1 (SeqAt.canLay_of_shaped se) (SeqAt.canLay_of_shaped sd) (PyProof.Rows.room_in_shaped sd hu) ⟨.bl _, H, I, rfl, q⟩
end
section
variable {C : Ct} {X : Cx} {ad : List Addr} {hp : Hm} {H : Hp}
theorem eqv_ok {x y : V} {a b : D} {k : Bool} {Q : VK} (hu : X.A.units + 64 < cLine) (R : HR C X.prog X.w X.K ad hp H) (ra : RV C X.K ad H x a) (rb : RV C X.K ad H y b) (h : D.eqv hp a b = some k) :
    (Q (.bl k) H → wO X (compareOp .Eq) x y H Q) ∧ (Q (.bl (!k)) H → wO X (compareOp .NotEq) x y H Q) := by
  unfold D.eqv at h
  split at h <;> try contradiction
  rename_i p r e1 e2
  split at h <;> simp only [Option.some.injEq, reduceCtorEq] at h
  rename_i hs
  subst h
  exact ⟨fun q => wO.of (op_eqD hu) ⟨p, r, ra.dp R e1, rb.dp R e2, (Bool.and_eq_true_iff.mp hs).1, (Bool.and_eq_true_iff.mp hs).2, q⟩,
    fun q => wO.of (op_neD hu) ⟨p, r, ra.dp R e1, rb.dp R e2, (Bool.and_eq_true_iff.mp hs).1, (Bool.and_eq_true_iff.mp hs).2, q⟩⟩
theorem mem_ok {x y : V} {a : D} {l : List D} {xs : List V} {k : Bool} {Q : VK} (hu : X.A.units + 65 < cLine) (R : HR C X.prog X.w X.K ad hp H) (ra : RV C X.K ad H x a) (rs : RVs C X.K ad H xs l) (hy : ∃ q, y = .ref q ∧ (SqL X.K H q xs ∨ SqT X.K H q xs)) (h : memD hp a l = some k) :
    (Q (.bl k) H → wO X (compareOp .In) x y H Q) ∧ (Q (.bl (!k)) H → wO X (compareOp .NotIn) x y H Q) := by
  unfold memD at h
  split at h <;> try contradiction
  rename_i p r e1 e2
  split at h <;> simp only [Option.some.injEq, reduceCtorEq] at h
  rename_i hs
  subst h
  obtain ⟨q, rfl, hq⟩ := hy
  obtain ⟨s1, s2⟩ := Bool.and_eq_true_iff.mp hs
  rcases hq with hq | hq
  · exact ⟨fun z => wO.of (op_inD hu) ⟨p, r, ra.dp R e1, .lst hq (rs.dp R e2), s1, s2, z⟩, fun z => wO.of (op_notInD hu) ⟨p, r, ra.dp R e1, .lst hq (rs.dp R e2), s1, s2, z⟩⟩
  · exact ⟨fun z => wO.of (op_inDT (neg := false) hu) ⟨p, r, ra.dp R e1, .tup hq (rs.dp R e2), s1, s2, z⟩, fun z => wO.of (op_inDT (neg := true) hu) ⟨p, r, ra.dp R e1, .tup hq (rs.dp R e2), s1, s2, z⟩⟩
end

section
variable {C : Ct} {X : Cx} {ad : List Addr} {hp : Hm} {H : Hp}
theorem op_ltD (hu : X.A.units + 64 < cLine) : OpR X (compareOp .Lt) (fun x y H Q => ∃ d e, Dp X.K H x d ∧ Dp X.K H y e ∧ PySem.W.alike d e = true ∧ d ≠ .none ∧ SeqAt.shaped d = true ∧ SeqAt.shaped e = true ∧ Q (.bl (PySem.W.dataLt d e)) H) := by
  intro pins s σ H x y v u Q I rx ry h
  obtain ⟨d, e, hd, he, al, nn, sd, se, q⟩ := h
  obtain ⟨as, r1⟩ := Dp.reads I d x v hd rx
  obtain ⟨bs, r2⟩ := Dp.reads I e y u he ry
  exact PySem.W.rcLt_alike d e X.A s v u as bs r1 r2 al nn (SeqAt.room_of_shaped sd hu) _ _ _ _ ⟨.bl _, H, I, rfl, q⟩
abbrev IX : List (TK × Int) → XS → Prop := Paired (fun p x => x.1 = p.1.map Sum.inl ∧ ∃ t, x.2.2 = .int p.2 t)
theorem IX.of {K : PySem.W.Frag} : ∀ {l : List (TK × D)} {a : List (TK × Int)} {ys : YS} {xs : XS}, intVs l = some a → ys.map (·.1) = l.map (·.1) → RVs C K ad H (ys.map (·.2.2)) (l.map (·.2)) → Prel ys xs → IX a xs
  | [], a, ys, xs, h, e, r, p => by
    simp only [intVs, Option.some.injEq] at h; subst h
    cases ys with
    | nil => cases p; exact .nil
    | cons => simp at e
  | (k, d) :: l, a, ys, xs, h, e, r, p => by
    cases d <;> simp only [intVs, reduceCtorEq, Option.map_eq_some_iff] at h
    rename_i i
    obtain ⟨a', h, rfl⟩ := h
    cases ys with
    | nil => simp at e
    | cons y ys =>
      simp only [List.map_cons, List.cons.injEq] at e
      rw [List.map_cons, List.map_cons] at r
      cases r with
      | cons r rs =>
      cases p with
      | cons q qs =>
        refine .cons ⟨by rw [q.1, e.1], ?_⟩ (IX.of h e.2 rs qs)
        have := rv_int r
        have q2 := q.2.2
        rw [this] at q2
        exact q2
theorem IX.len {a : List (TK × Int)} {xs : XS} (r : IX a xs) : a.length = xs.length := Paired.length r
theorem IX.keys : ∀ {a : List (TK × Int)} {xs : XS}, IX a xs → xs.map (·.1) = a.map fun p => p.1.map Sum.inl
  | _, _, .nil => rfl
  | _, _, .cons h t => by rw [List.map_cons, List.map_cons, IX.keys t, h.1]
theorem IX.at_ {k : TK} : ∀ {a : List (TK × Int)} {xs : XS}, IX a xs → (atKey xs (k.map Sum.inl) = none ∧ (a.find? fun p => decide (p.1 = k)) = none) ∨ ∃ c i t p, atKey xs (k.map Sum.inl) = some (c, .int i t) ∧ (a.find? fun p => decide (p.1 = k)) = some p ∧ p.2 = i
  | _, _, .nil => .inl ⟨rfl, rfl⟩
  | p :: a, x :: xs, .cons h t => by
    by_cases e : p.1 = k
    · obtain ⟨h1, tk, h2⟩ := h
      refine .inr ⟨x.2.1, p.2, tk, p, ?_, by simp [List.find?_cons, e], rfl⟩
      unfold atKey
      rw [List.find?_cons, decide_eq_true (by rw [h1, e] : x.1 = k.map Sum.inl)]
      simp only [Option.map_some]
      rw [← h2]
    · have e' : ¬ x.1 = k.map Sum.inl := fun z => e (inl_inj (by rw [← h.1, z]))
      have h1 : atKey (x :: xs) (k.map Sum.inl) = atKey xs (k.map Sum.inl) := by unfold atKey; rw [List.find?_cons, decide_eq_false e']
      have h2 : ((p :: a).find? fun p => decide (p.1 = k)) = a.find? fun p => decide (p.1 = k) := by rw [List.find?_cons, decide_eq_false e]
      rw [h1, h2]
      exact IX.at_ t
theorem IX.good {a b : List (TK × Int)} {xs ys : XS} (ra : IX a xs) (rb : IX b ys) (nd : (b.map (·.1)).Nodup) : xs.all (goodX ys) = a.all fun p => b.contains p := by
  induction ra with
  | nil => rfl
  | @cons p x a xs h t ih =>
    rw [List.all_cons, List.all_cons, ih]
    congr 1
    obtain ⟨h1, tk, h2⟩ := h
    unfold goodX
    rw [h1, h2]
    rcases rb.at_ (k := p.1) with ⟨e1, e2⟩ | ⟨c, i, t', p', e1, e2, e3⟩
    · rw [e1]
      symm
      simp only [Bool.eq_false_iff, ne_eq, List.contains_iff_mem]
      intro m
      have := List.find?_eq_none.mp e2 _ m
      simp at this
    · rw [e1]
      show (p.2 == i) = _
      have m := List.mem_of_find?_eq_some e2
      have k1 : p'.1 = p.1 := by simpa using List.find?_some e2
      by_cases hi : p.2 = i
      · rw [show (p.2 == i) = true by simpa using hi]
        symm
        rw [List.contains_iff_mem, show p = p' from Prod.ext k1.symm (hi.trans e3.symm)]
        exact m
      · rw [show (p.2 == i) = false by simpa using hi]
        symm
        simp only [Bool.eq_false_iff, ne_eq, List.contains_iff_mem]
        intro m2
        refine hi ?_
        have : p = p' := by
          obtain ⟨n1, l1, f1⟩ := List.mem_iff_getElem.mp m
          obtain ⟨n2, l2, f2⟩ := List.mem_iff_getElem.mp m2
          have : n1 = n2 := (List.getElem_inj nd).mp (show (b.map (·.1))[n1]'(by simpa using l1) = (b.map (·.1))[n2]'(by simpa using l2) by simp [f1, f2, k1])
          subst this
          exact f2.symm.trans f1
        rw [this]; exact e3
theorem dtE_ok {x y : V} {a b : D} {k neg : Bool} {Q : VK} (hu : X.A.units + 1 < cLine) (R : HR C X.prog X.w X.K ad hp H) (ra : RV C X.K ad H x a) (rb : RV C X.K ad H y b) (h : dtE hp a b = some k) (q : Q (.bl (if neg then !k else k)) H) : wO X (compareOp (if neg then .NotEq else .Eq)) x y H Q := by
  cases a <;> first | (cases h; done) | skip
  rename_i m
  cases b <;> first | (cases h; done) | skip
  rename_i n
  have h : (match gt hp m, gt hp n with
    | some (.dt x), some (.dt y) => match intVs x, intVs y with
      | some x, some y => some (sameB x y)
      | _, _ => none
    | _, _ => none) = some k := h
  cases hg : gt hp m with
  | none => rw [hg] at h; cases h
  | some oa =>
  cases hg2 : gt hp n with
  | none => rw [hg, hg2] at h; cases oa <;> cases h
  | some ob =>
  rw [hg, hg2] at h
  cases oa <;> first | (cases h; done) | skip
  cases ob <;> first | (cases h; done) | skip
  rename_i l1 l2
  simp only at h
  cases e1 : intVs l1 with
  | none => rw [e1] at h; cases h
  | some va =>
  cases e2 : intVs l2 with
  | none => rw [e1, e2] at h; cases h
  | some vb =>
  rw [e1, e2] at h
  have h : some (sameB va vb) = some k := h
  cases h
  obtain ⟨p1, ys1, rfl, d1, k1, t1, r1⟩ := R.dt ra hg
  obtain ⟨p2, ys2, rfl, d2, k2, t2, r2⟩ := R.dt rb hg2
  intro pins s σ v u I rx ry
  cases rx; cases ry
  obtain ⟨z1, s1, xs1, rel1, dd1⟩ := dt_rd I d1 t1
  obtain ⟨z2, s2, xs2, rel2, dd2⟩ := dt_rd I d2 t2
  have i1 := IX.of e1 k1 r1 rel1
  have i2 := IX.of e2 k2 r2 rel2
  have allI : ∀ {a : List (TK × Int)} {xs : XS}, IX a xs → ∀ x ∈ xs, ∃ i t, x.2.2 = .int i t := by
    intro a xs r
    induction r with
    | nil => intro x hx; exact absurd hx (by simp)
    | cons h t ih =>
      intro x hx
      rcases List.mem_cons.mp hx with rfl | hx
      · exact ⟨_, h.2⟩
      · exact ih x hx
  have nd : (vb.map (·.1)).Nodup := by
    have := dd2.choose_spec.choose_spec.choose_spec.2.2.2.2.2
    rw [i2.keys] at this
    have h3 : (vb.map fun p => p.1.map Sum.inl) = (vb.map (·.1)).map fun k => (k.map Sum.inl : List Key) := by rw [List.map_map]; rfl
    rw [h3] at this
    exact List.Pairwise.imp (fun h z => h (by rw [z])) (List.pairwise_map.mp this)
  have hval : (xs1.length == xs2.length && xs1.all (goodX xs2)) = sameB va vb := by
    unfold sameB
    rw [i1.good i2 nd, ← i1.len, ← i2.len]
  refine keqH (neg := neg) (xs := xs1) (ys := xs2) hu s1 s2 dd1 dd2 (allI i1) (allI i2) ?_
  rw [hval]
  exact ⟨.bl _, H, I, rfl, q⟩
theorem cmp_ok {o : Cop} {op : CmpOp} {x y : V} {a b : D} {k : Bool} {Q : VK} (hu : X.A.units + 64 < cLine) (hu1 : X.A.units + 65 < cLine) (his : o.is op = true) (R : HR C X.prog X.w X.K ad hp H) (ra : RV C X.K ad H x a) (rb : RV C X.K ad H y b) (h : cmpD o hp a b = some k)
    (q : Q (.bl k) H) : wO X (compareOp op) x y H Q := by
  have inn : ∀ {j : Bool} {neg : Bool}, cmpD.inD hp a b = some j → Q (.bl (if neg then !j else j)) H → wO X (compareOp (if neg then .NotIn else .In)) x y H Q := by
    clear h q
    intro j neg h q
    have mem : ∀ {l : List D} {xs : List V} {q' : Addr}, y = .ref q' → (SqL X.K H q' xs ∨ SqT X.K H q' xs) → RVs C X.K ad H xs l → memD hp a l = some j → wO X (compareOp (if neg then .NotIn else .In)) x y H Q := by
      intro l xs q' hy hq rs hm
      obtain ⟨m1, m2⟩ := mem_ok (Q := Q) hu1 R ra rs ⟨q', hy, hq⟩ hm
      cases neg with
      | false => exact m1 q
      | true => exact m2 q
    cases b <;> first | (cases h; done) | skip
    rotate_left 2
    · rename_i n
      have h : (match gt hp n with
        | some (.lst l) => memD hp a l
        | some (.dk l) => match (generalizing := false) a with
          | .int i => some (lookK l i).isSome
          | _ => none
        | some (.dt l) => match (generalizing := false) tkD a with
          | some k => some (lookK l k).isSome
          | none => none
        | _ => none) = some j := h
      cases hg : gt hp n with
      | none => rw [hg] at h; cases h
      | some ob =>
        rw [hg] at h
        rcases ob with l | l | l | l | _ | _ | _ <;> first | (cases h; done) | skip
        · obtain ⟨q', xs, hy, hx, rs⟩ := R.lst rb hg
          exact mem hy (.inl (.inl hx)) rs h
        · rcases a with _ | _ | i | _ | _ | _ | _ | _ <;> first | (cases h; done) | skip
          obtain ⟨q', kxs, rfl, e, ek, rs⟩ := R.dk rb hg
          have h : some (lookK _ _).isSome = some j := h
          cases h
          cases ra
          have key : (valV kxs (Sum.inl i)).isSome = (lookK l i).isSome := (dk_look ek rs).1
          refine fun pins s σ v u I rx ry => ?_
          cases ry
          cases neg with
          | false => exact d_in (by omega) I (.inl ⟨kxs, Sum.inl i, e, rfl, rfl⟩) rx fun s' I' => ⟨.bl _, H, I', rfl, by rw [key]; exact q⟩
          | true => exact d_notIn (by omega) I (.inl ⟨kxs, Sum.inl i, e, rfl, rfl⟩) rx fun s' I' => ⟨.bl _, H, I', rfl, by rw [key]; exact q⟩
        · cases hk : tkD a with
          | none => rw [hk] at h; cases h
          | some kk =>
            rw [hk] at h
            have h : some (lookK _ _).isSome = some j := h
            cases h
            obtain ⟨q', ys, rfl, e, ek, tp, rs⟩ := R.dt rb hg
            obtain ⟨b', rfl, tk⟩ := tkD_of ra hk
            have key : (lookY ys kk).isSome = (lookK l kk).isSome := by
              rcases DtR.look (C := C) (K := X.K) (ad := ad) (H := H) kk ek rs with ⟨z1, z2⟩ | ⟨v, d, z1, z2, _⟩
              · rw [z1, z2]; rfl
              · rw [z1, z2]; rfl
            refine fun pins s σ v u I rx ry => ?_
            cases ry; cases rx
            cases neg with
            | false => exact dt_in (by omega) I e tp tk fun s' I' => ⟨.bl _, H, I', rfl, by rw [key]; exact q⟩
            | true => exact dt_notIn (by omega) I e tp tk fun s' I' => ⟨.bl _, H, I', rfl, by rw [key]; exact q⟩
    · obtain ⟨q', xs, hy, t, rs⟩ := rv_tup rb
      exact mem hy (.inr t.sq) rs h
    · cases rb with | lst e n rs => exact mem rfl (.inl (.inl e)) rs h
  cases o <;> cases op <;> simp only [Cop.is, reduceCtorEq] at his <;> (try (unfold cmpD at h))
  · exact (eqv_ok (Q := Q) hu R ra rb h).1 q
  · simp only [Option.map_eq_some_iff] at h
    obtain ⟨k', h, rfl⟩ := h
    exact (eqv_ok (Q := Q) hu R ra rb h).2 q
  · cases a <;> first | (cases h; done) | skip
    · cases b <;> first | (cases h; done) | skip
      cases h
      cases ra; cases rb; exact wO.of op_lt ⟨_, _, rfl, rfl, q⟩
    · cases b <;> first | (cases h; done) | skip
      rename_i x0 y0
      have h : (match D.pys (pyR hp 2) x0, D.pys (pyR hp 2) y0 with
        | some x, some y => if PySem.W.alikeAll x y && SeqAt.shaped (.tuple x) && SeqAt.shaped (.tuple y) then some (PySem.W.dataLt (.tuple x) (.tuple y)) else none
        | _, _ => none) = some k := h
      cases e1 : D.pys (pyR hp 2) x0 with
      | none => rw [e1] at h; cases h
      | some p =>
        cases e2 : D.pys (pyR hp 2) y0 with
        | none => rw [e1, e2] at h; cases h
        | some r =>
          rw [e1, e2] at h
          simp only at h
          by_cases hs : (PySem.W.alikeAll p r && SeqAt.shaped (.tuple p) && SeqAt.shaped (.tuple r)) = true
          · rw [if_pos hs] at h
            cases h
            rw [Bool.and_eq_true, Bool.and_eq_true] at hs
            obtain ⟨a1, xs, rfl, t1, rs1⟩ := rv_tup ra
            obtain ⟨a2, ys, rfl, t2, rs2⟩ := rv_tup rb
            refine wO.of (op_ltD hu) ⟨.tuple p, .tuple r, .tup t1.sq (rs1.dp R e1), .tup t2.sq (rs2.dp R e2), ?_, by simp, hs.1.2, hs.2, q⟩
            rw [PySem.W.alike]; exact hs.1.1
          · rw [if_neg hs] at h; cases h
  · cases a <;> first | (cases h; done) | skip
    cases b <;> first | (cases h; done) | skip
    cases h; cases ra; cases rb; exact wO.of op_le ⟨_, _, rfl, rfl, q⟩
  · cases a <;> first | (cases h; done) | skip
    cases b <;> first | (cases h; done) | skip
    cases h; cases ra; cases rb; exact wO.of op_gt ⟨_, _, rfl, rfl, q⟩
  · cases a <;> first | (cases h; done) | skip
    cases b <;> first | (cases h; done) | skip
    cases h; cases ra; cases rb; exact wO.of op_ge ⟨_, _, rfl, rfl, q⟩
  · cases b <;> first | (cases h; done) | skip
    have hb := rv_non rb
    subst hb
    cases ra <;> cases h <;> exact wO.of op_isN ⟨rfl, q⟩
  · cases b <;> first | (cases h; done) | skip
    have hb := rv_non rb
    subst hb
    cases ra <;> cases h <;> exact wO.of op_notN ⟨rfl, q⟩
  · exact inn (neg := false) h q
  · simp only [Option.map_eq_some_iff] at h
    obtain ⟨k', h, rfl⟩ := h
    exact inn (neg := true) h q
  · exact dtE_ok (neg := false) (by omega) R ra rb h q
  · simp only [Option.map_eq_some_iff] at h
    obtain ⟨j, h, rfl⟩ := h
    exact dtE_ok (neg := true) (by omega) R ra rb h q
where
  tkD_of {v : V} {d : D} {k : TK} (r : RV C X.K ad H v d) (h : tkD d = some k) : ∃ b, v = .ref b ∧ TupR X.K ad H b (k.map V.int) := by
    cases d <;> simp only [tkD, reduceCtorEq] at h
    obtain ⟨a, xs, rfl, t, rs⟩ := rv_tup r
    have e : ∀ {ds : List D} {is : List Int}, intsD ds = some is → ds = is.map D.int := by
      intro ds
      induction ds with
      | nil => intro is h; simp only [intsD, Option.some.injEq] at h; subst h; rfl
      | cons d ds ih =>
        intro is h
        cases d <;> simp only [intsD, reduceCtorEq, Option.map_eq_some_iff] at h
        obtain ⟨js, e, rfl⟩ := h
        rw [ih e]; rfl
    rw [e h] at rs
    rw [rs.of_ints] at t
    exact ⟨a, rfl, t⟩
  dk_look {kxs : List (Key × V)} {l : List (Int × D)} {i : Int} (ek : kxs.map (·.1) = kInts l) (rs : RVs C X.K ad H (kxs.map (·.2)) (l.map (·.2))) : (valV kxs (Sum.inl i)).isSome = (lookK l i).isSome ∧ ∀ d, lookK l i = some d → ∃ v, valV kxs (Sum.inl i) = some v ∧ RV C X.K ad H v d := by
    induction kxs generalizing l with
    | nil => cases l <;> first | exact ⟨rfl, fun d h => by simp [lookK] at h⟩ | simp [kInts] at ek
    | cons p kxs ih =>
      cases l with
      | nil => simp [kInts] at ek
      | cons z l =>
        simp only [kInts, List.map_cons, List.cons.injEq] at ek
        rw [List.map_cons, List.map_cons] at rs
        cases rs with
        | cons r rs =>
          by_cases e : z.1 = i
          · have e' : p.1 = Sum.inl i := by rw [ek.1, e]
            have a : valV (p :: kxs) (Sum.inl i) = some p.2 := by simp [valV, List.find?_cons, e']
            have b : lookK (z :: l) i = some z.2 := by simp [lookK, List.find?_cons, e]
            rw [a, b]
            exact ⟨rfl, fun d h => by cases h; exact ⟨_, rfl, r⟩⟩
          · have e' : ¬ p.1 = Sum.inl i := by rw [ek.1]; intro z; injection z with z; exact e z
            have a : valV (p :: kxs) (Sum.inl i) = valV kxs (Sum.inl i) := by simp [valV, List.find?_cons, e']
            have b : lookK (z :: l) i = lookK l i := by simp [lookK, List.find?_cons, e]
            rw [a, b]
            exact ih ek.2 rs
end
end N9

set_option Elab.async false
set_option linter.all false
set_option maxRecDepth 100000
namespace N9
open PySem PySem.Spec L2
section
variable {T : Tab} {N : List Str} {C : Ct} {c : Oracle}
theorem isSet_mark {op : CmpOp} {y : Expr} (h : isSet y = false) : behindInMarks op y = false := by
  cases y <;> first | rfl | (simp [isSet] at h)
/-- a result that is a truth value, read both ways -/
theorem bl_both {e : Expr} {W : WX} {X : Cx} {ad : List Addr} {σ : L2.St} {H : Hp} {r : Re D} (hb : ∀ d h', r = .ok d h' → ∃ b, d = .bl b)
    (h : ∀ Q : VK, PV C X r ad H (WE W σ) Q → wE X e σ H Q) (t : ∀ Q : Bool → Hp → Prop, PV C X r ad H (WE W σ) (fun v H' => ∃ k, v = .bl k ∧ Q k H') → wT X e σ H Q) :
    (∀ Q, PV C X r ad H (WE W σ) Q → wE X e σ H Q) ∧ (∀ Q, PB C X r ad H (WE W σ) Q → wT X e σ H Q) := by
  refine ⟨h, fun Q p => t Q ?_⟩
  cases r with
  | ok d h' =>
    obtain ⟨b, rfl⟩ := hb d h' rfl
    intro v H' ad' R x rv
    cases rv
    exact ⟨b, rfl, p H' ad' R x⟩
  | exc cl w h' => exact p
  | stk => exact p.elim
theorem bind_bl {α : Type} {r : Re α} {f : α → Hm → Re D} (hf : ∀ x h d h1, f x h = .ok d h1 → ∃ b, d = .bl b) : ∀ d h1, r.bind f = .ok d h1 → ∃ b, d = .bl b := by
  intro d h1 q
  cases r with
  | ok x h => exact hf x h d h1 q
  | exc _ _ _ => cases q
  | stk => cases q
theorem ofB_bl {o : Option Bool} {h : Hm} : ∀ d h1, ofB o h = .ok d h1 → ∃ b, d = .bl b := by
  intro d h1 q
  unfold ofB at q
  split at q
  · cases q; exact ⟨_, rfl⟩
  · cases q

theorem se_not {a : IE} (ha : SE T N C c a) : SE T N C c (.not a) := by
  intro sc e W X env hp ad σ H hX hT hc R S
  have key : ∃ x pos, e = .UnaryOp .Not x pos ∧ chkE T N a sc x = true := by
    cases e <;> first | exact absurd hc Bool.false_ne_true | skip
    rename_i op x pos
    cases op <;> first | exact absurd hc Bool.false_ne_true | skip
    exact ⟨_, _, rfl, hc⟩
  obtain ⟨x, pos, rfl, ca⟩ := key
  refine ⟨fun Q p => ?_, fun Q p => ?_⟩
  · have pe : PE X (.UnaryOp .Not x pos) (fun σ H Q => wE X x σ H fun v H1 => wTr X v H1 fun k H2 => Q (.bl (!k)) H2) := by
      refine ⟨fun pins s σ H Q I h => ?_⟩
      refine PyProof.Rows.UnaryOp_ (thn (h pins s I) fun v s1 ⟨x, H1, I1, r1, q1⟩ => ?_)
      exact PyProof.Rows.not_of (thn (q1 pins s1 σ v I1 r1) fun c s2 ⟨H2, I2, q2⟩ => ⟨.bl (!c), H2, I2, rfl, q2⟩)
    refine wE.of pe ?_
    refine step (RR := RV C X.K) (f := fun x h1 => ofB ((x.truth h1).map (!·)) h1) ha hX hT ca R S p fun d h1 v H1 ad1 R1 S1 x1 r1 p1 => ?_
    cases hb : d.truth h1 with
    | none => rw [hb] at p1; exact p1.elim
    | some b =>
      rw [hb] at p1
      exact truth_ok R1 r1 hb (p1 _ H1 ad1 R1 (.refl _ _) (.bl _))
  · refine wT.of (pt_not ptW) ?_
    refine stepTT (f := fun x h1 => match x with
      | .bl b => .ok (.bl (!b)) h1
      | _ => .stk) ha hX hT ca R S p (fun d h1 hd => by cases d <;> first | rfl | exact absurd rfl (hd _)) fun b h1 H1 ad1 R1 S1 x1 p1 => ?_
    exact p1 H1 ad1 R1 (.refl _ _)

theorem se_and {a b : IE} (ha : SE T N C c a) (hb : SE T N C c b) : SE T N C c (.and a b) := by
  intro sc e W X env hp ad σ H hX hT hc R S
  have key : ∃ x y r pos, e = .BoolOp .And (x :: y :: r) pos ∧ chkE T N a sc x = true ∧ (match r with | [] => chkE T N b sc y = true | _ => chkE T N b sc (.BoolOp .And (y :: r) pos) = true) := by
    cases e <;> first | exact absurd hc Bool.false_ne_true | skip
    rename_i op vs pos
    match op, vs, hc with
    | .Or, _, hc => exact absurd hc Bool.false_ne_true
    | .And, [], hc => exact absurd hc Bool.false_ne_true
    | .And, [_], hc => exact absurd hc Bool.false_ne_true
    | .And, [x, y], hc =>
      change (_ && _) = true at hc
      simp only [Bool.and_eq_true] at hc
      exact ⟨x, y, [], pos, rfl, hc.1, hc.2⟩
    | .And, x :: y :: z :: r, hc =>
      change (_ && _) = true at hc
      simp only [Bool.and_eq_true] at hc
      exact ⟨x, y, z :: r, pos, rfl, hc.1, hc.2⟩
  obtain ⟨x, y, r, pos, rfl, ca, cb⟩ := key
  have rest : ∀ (hp : Hm) (ad : List Addr) (H : Hp), HR C X.prog X.w X.K ad hp H → SlR C X.K ad env σ H → (∀ Q, PV C X (ev c b false env hp) ad H (WE W σ) Q → wE X (.BoolOp .And (y :: r) pos) σ H Q) ∧ (∀ Q, PB C X (ev c b true env hp) ad H (WE W σ) Q → wW X (.BoolOp .And (y :: r) pos) σ H Q) := by
    intro hp ad H R S
    cases r with
    | nil =>
      obtain ⟨h1, h2⟩ := hb sc y W X env hp ad σ H hX hT cb R S
      exact ⟨fun Q p => wE.of (pe_one peW) (h1 Q p), fun Q p => wW.of (pw_and1 ptW) (h2 Q p)⟩
    | cons z r =>
      obtain ⟨h1, h2⟩ := hb sc _ W X env hp ad σ H hX hT cb R S
      exact ⟨h1, fun Q p whole pins s I => h2 Q p pins s I⟩
  have hf : ∀ (t : Bool) (d : D) (h1 : Hm), (∀ b, d ≠ .bl b) → (match d with
      | .bl true => (ev c b t env h1).bind fun y h2 => match y with
        | .bl k => .ok (.bl k) h2
        | _ => .stk
      | .bl false => .ok (.bl false) h1
      | _ => .stk : Re D) = .stk := fun t d h1 hd => by cases d <;> first | rfl | exact absurd rfl (hd _)
  refine ⟨fun Q p => ?_, fun Q p => ?_⟩
  · refine wE.of (pe_and peW peW) ?_
    refine step (RR := RV C X.K) (f := fun x h1 => match x with
      | .bl true => (ev c b false env h1).bind fun y h2 => match y with
        | .bl k => .ok (.bl k) h2
        | _ => .stk
      | .bl false => .ok (.bl false) h1
      | _ => .stk) ha hX hT ca R S p fun d h1 v H1 ad1 R1 S1 x1 r1 p1 => ?_
    cases d with
    | bl k =>
      cases r1
      refine ⟨k, rfl, ?_⟩
      cases k with
      | false => exact (if_neg (by simp)).mpr (p1 _ H1 ad1 R1 (.refl _ _) (.bl _))
      | true =>
        refine (if_pos rfl).mpr ((rest h1 ad1 H1 R1 S1).1 Q ?_)
        cases hr : ev c b false env h1 with
        | ok d2 h2 => simp only [hr] at p1; cases d2 <;> first | exact p1.elim | exact p1
        | exc cl w h2 => simp only [hr] at p1; exact p1
        | stk => simp only [hr] at p1; exact p1.elim
    | _ => exact p1.elim
  · refine wW.t (wW.of (pw_and ptW pwW) ?_)
    refine stepTT (f := fun x h1 => match x with
      | .bl true => (ev c b true env h1).bind fun y h2 => match y with
        | .bl k => .ok (.bl k) h2
        | _ => .stk
      | .bl false => .ok (.bl false) h1
      | _ => .stk) ha hX hT ca R S p (hf true) fun k h1 H1 ad1 R1 S1 x1 p1 => ?_
    cases k with
    | false => exact (if_neg (by simp)).mpr (p1 H1 ad1 R1 (.refl _ _))
    | true =>
      refine (if_pos rfl).mpr ((rest h1 ad1 H1 R1 S1).2 Q ?_)
      cases hr : ev c b true env h1 with
      | ok d2 h2 => simp only [hr] at p1; cases d2 <;> first | exact p1.elim | exact p1
      | exc cl w h2 => simp only [hr] at p1; exact p1
      | stk => simp only [hr] at p1; exact p1.elim

theorem se_or {a b : IE} (ha : SE T N C c a) (hb : SE T N C c b) : SE T N C c (.or a b) := by
  intro sc e W X env hp ad σ H hX hT hc R S
  have key : ∃ x y r pos, e = .BoolOp .Or (x :: y :: r) pos ∧ chkE T N a sc x = true ∧ (match r with | [] => chkE T N b sc y = true | _ => chkE T N b sc (.BoolOp .Or (y :: r) pos) = true) := by
    cases e <;> first | exact absurd hc Bool.false_ne_true | skip
    rename_i op vs pos
    match op, vs, hc with
    | .And, _, hc => exact absurd hc Bool.false_ne_true
    | .Or, [], hc => exact absurd hc Bool.false_ne_true
    | .Or, [_], hc => exact absurd hc Bool.false_ne_true
    | .Or, [x, y], hc =>
      change (_ && _) = true at hc
      simp only [Bool.and_eq_true] at hc
      exact ⟨x, y, [], pos, rfl, hc.1, hc.2⟩
    | .Or, x :: y :: z :: r, hc =>
      change (_ && _) = true at hc
      simp only [Bool.and_eq_true] at hc
      exact ⟨x, y, z :: r, pos, rfl, hc.1, hc.2⟩
  obtain ⟨x, y, r, pos, rfl, ca, cb⟩ := key
  have rest : ∀ (hp : Hm) (ad : List Addr) (H : Hp), HR C X.prog X.w X.K ad hp H → SlR C X.K ad env σ H → (∀ Q, PV C X (ev c b false env hp) ad H (WE W σ) Q → wE X (.BoolOp .Or (y :: r) pos) σ H Q) ∧ (∀ Q, PB C X (ev c b true env hp) ad H (WE W σ) Q → wW X (.BoolOp .Or (y :: r) pos) σ H Q) := by
    intro hp ad H R S
    cases r with
    | nil =>
      obtain ⟨h1, h2⟩ := hb sc y W X env hp ad σ H hX hT cb R S
      exact ⟨fun Q p => wE.of (pe_one peW) (h1 Q p), fun Q p => wW.of (pw_or1 ptW) (h2 Q p)⟩
    | cons z r =>
      obtain ⟨h1, h2⟩ := hb sc _ W X env hp ad σ H hX hT cb R S
      exact ⟨h1, fun Q p whole pins s I => h2 Q p pins s I⟩
  have hf : ∀ (t : Bool) (d : D) (h1 : Hm), (∀ b, d ≠ .bl b) → (match d with
      | .bl true => .ok (.bl true) h1
      | .bl false => (ev c b t env h1).bind fun y h2 => match y with
        | .bl k => .ok (.bl k) h2
        | _ => .stk
      | _ => .stk : Re D) = .stk := fun t d h1 hd => by cases d <;> first | rfl | exact absurd rfl (hd _)
  refine ⟨fun Q p => ?_, fun Q p => ?_⟩
  · refine wE.of (pe_or peW peW) ?_
    refine step (RR := RV C X.K) (f := fun x h1 => match x with
      | .bl true => .ok (.bl true) h1
      | .bl false => (ev c b false env h1).bind fun y h2 => match y with
        | .bl k => .ok (.bl k) h2
        | _ => .stk
      | _ => .stk) ha hX hT ca R S p fun d h1 v H1 ad1 R1 S1 x1 r1 p1 => ?_
    cases d with
    | bl k =>
      cases r1
      refine ⟨k, rfl, ?_⟩
      cases k with
      | true => exact (if_pos rfl).mpr (p1 _ H1 ad1 R1 (.refl _ _) (.bl _))
      | false =>
        refine (if_neg (by simp)).mpr ((rest h1 ad1 H1 R1 S1).1 Q ?_)
        cases hr : ev c b false env h1 with
        | ok d2 h2 => simp only [hr] at p1; cases d2 <;> first | exact p1.elim | exact p1
        | exc cl w h2 => simp only [hr] at p1; exact p1
        | stk => simp only [hr] at p1; exact p1.elim
    | _ => exact p1.elim
  · refine wW.t (wW.of (pw_or ptW pwW) ?_)
    refine stepTT (f := fun x h1 => match x with
      | .bl true => .ok (.bl true) h1
      | .bl false => (ev c b true env h1).bind fun y h2 => match y with
        | .bl k => .ok (.bl k) h2
        | _ => .stk
      | _ => .stk) ha hX hT ca R S p (hf true) fun k h1 H1 ad1 R1 S1 x1 p1 => ?_
    cases k with
    | true => exact (if_pos rfl).mpr (p1 H1 ad1 R1 (.refl _ _))
    | false =>
      refine (if_neg (by simp)).mpr ((rest h1 ad1 H1 R1 S1).2 Q ?_)
      cases hr : ev c b true env h1 with
      | ok d2 h2 => simp only [hr] at p1; cases d2 <;> first | exact p1.elim | exact p1
      | exc cl w h2 => simp only [hr] at p1; exact p1
      | stk => simp only [hr] at p1; exact p1.elim

theorem se_ite {t a b : IE} (ht : SE T N C c t) (ha : SE T N C c a) (hb : SE T N C c b) : SE T N C c (.ite t a b) := by
  intro sc e W X env hp ad σ H hX hT hc R S
  have key : ∃ x y z pos, e = .IfExp x y z pos ∧ chkE T N t sc x = true ∧ chkE T N a sc y = true ∧ chkE T N b sc z = true := by
    cases e <;> first | exact absurd hc Bool.false_ne_true | skip
    change (_ && _ && _) = true at hc
    simp only [Bool.and_eq_true] at hc
    exact ⟨_, _, _, _, rfl, hc.1.1, hc.1.2, hc.2⟩
  obtain ⟨x, y, z, pos, rfl, ct, ca, cb⟩ := key
  have hf : ∀ (t : Bool) (d : D) (h1 : Hm), (∀ b, d ≠ .bl b) → (match d with | .bl true => ev c a t env h1 | .bl false => ev c b t env h1 | _ => .stk) = .stk := fun t d e1 hd => by cases d <;> first | rfl | exact absurd rfl (hd _)
  refine ⟨fun Q p => ?_, fun Q p => ?_⟩
  · refine wE.of (pe_ifExp ptW peW peW) ?_
    refine stepT ht hX hT ct R S (f := fun x h1 => match x with | .bl true => ev c a false env h1 | .bl false => ev c b false env h1 | _ => .stk) p (hf false) fun k h1 H1 ad1 R1 S1 x1 p1 => ?_
    cases k with
    | true => exact (if_pos rfl).mpr ((ha sc y W X env h1 ad1 σ H1 hX hT ca R1 S1).1 Q p1)
    | false => exact (if_neg (by simp)).mpr ((hb sc z W X env h1 ad1 σ H1 hX hT cb R1 S1).1 Q p1)
  · have h : wT X x σ H (fun k H1 => if k = true then wT X y σ H1 Q else wT X z σ H1 Q) := by
      refine stepTT ht hX hT ct R S (f := fun x h1 => match x with | .bl true => ev c a true env h1 | .bl false => ev c b true env h1 | _ => .stk) p (hf true) fun k h1 H1 ad1 R1 S1 x1 p1 => ?_
      cases k with
      | true => exact (if_pos rfl).mpr ((ha sc y W X env h1 ad1 σ H1 hX hT ca R1 S1).2 Q p1)
      | false => exact (if_neg (by simp)).mpr ((hb sc z W X env h1 ad1 σ H1 hX hT cb R1 S1).2 Q p1)
    intro pins s I
    show wpAny (model X.prog X.w) X.A (do if ← isTrue x X.env (eval x X.env) then isTrue y X.env (eval y X.env) else isTrue z X.env (eval z X.env)) (TP X pins σ Q) X.xe s
    refine wpAny_bind (thn (h pins s I) fun b s1 ⟨H1, I1, q1⟩ => ?_)
    cases b with
    | true => exact (if_pos rfl).mp q1 pins s1 I1
    | false => exact (if_neg (by simp)).mp q1 pins s1 I1

theorem se_cmp {o : Cop} {a b : IE} (ha : SE T N C c a) (hb : SE T N C c b) : SE T N C c (.cmp o a b) := by
  intro sc e W X env hp ad σ H hX hT hc R S
  have key : ∃ x op y pos, e = .Compare x [op] [y] pos ∧ o.is op = true ∧ chkE T N a sc x = true ∧ chkE T N b sc y = true ∧ isSet y = false := by
    cases e <;> first | exact absurd hc Bool.false_ne_true | skip
    rename_i x ops ys pos
    match ops, ys, hc with
    | [], _, hc => exact absurd hc Bool.false_ne_true
    | [op], [], hc => exact absurd hc Bool.false_ne_true
    | [op], [y], hc =>
      change (_ && _ && _ && !_) = true at hc
      simp only [Bool.and_eq_true, Bool.not_eq_true'] at hc
      exact ⟨_, _, _, _, rfl, hc.1.1.1, hc.1.1.2, hc.1.2, hc.2⟩
    | [op], _ :: _ :: _, hc => exact absurd hc Bool.false_ne_true
    | _ :: _ :: _, [], hc => exact absurd hc Bool.false_ne_true
    | _ :: _ :: _, [_], hc => exact absurd hc Bool.false_ne_true
    | _ :: _ :: [], _ :: _ :: _, hc => exact absurd hc Bool.false_ne_true
    | _ :: _ :: _ :: _, _ :: _ :: _, hc => exact absurd hc Bool.false_ne_true
  obtain ⟨x, op, y, pos, rfl, ho, ca, cb, hs⟩ := key
  have hu := hX.hu
  have core : ∀ Q : VK, PV C X ((ev c a false env hp).bind fun x h1 => (ev c b false env h1).bind fun y h2 => ofB (cmpD o h2 x y) h2) ad H (WE W σ) Q → tOp (wO X (compareOp op)) (wE X x) (wE X y) σ H Q := by
    intro Q p
    refine step (RR := RV C X.K) ha hX hT ca R S p fun d h1 v H1 ad1 R1 S1 x1 r1 p1 => ?_
    refine step (RR := RV C X.K) hb hX hT cb R1 S1 p1 fun d2 h2 v2 H2 ad2 R2 S2 x2 r2 p2 => ?_
    cases hk : cmpD o h2 d d2 with
    | none => rw [hk] at p2; exact p2.elim
    | some k =>
      rw [hk] at p2
      exact cmp_ok (by omega) (by omega) ho R2 (r1.mono x2) r2 hk (p2 _ H2 ad2 R2 (.refl _ _) (.bl _))
  exact bl_both (bind_bl fun _ _ => bind_bl fun _ _ => ofB_bl) (fun Q p => wE.of (pe_cmpR wO.op peW peW (isSet_mark hs)) (core Q p)) (fun Q p => wT.of (pt_cmpR wO.op peW peW (isSet_mark hs)) (core _ p))

theorem se_chain {o o' : Cop} {a b b2 : IE} (ha : SE T N C c a) (hb : SE T N C c b) (hb2 : SE T N C c b2) : SE T N C c (.chain o o' a b b2) := by
  intro sc e W X env hp ad σ H hX hT hc R S
  have key : ∃ x op op' y z pos, e = .Compare x [op, op'] [y, z] pos ∧ o.is op = true ∧ o'.is op' = true ∧ chkE T N a sc x = true ∧ chkE T N b sc y = true ∧ chkE T N b2 sc z = true ∧ isSet z = false := by
    cases e <;> first | exact absurd hc Bool.false_ne_true | skip
    rename_i x ops ys pos
    match ops, ys, hc with
    | [], _, hc => exact absurd hc Bool.false_ne_true
    | [op], [], hc => exact absurd hc Bool.false_ne_true
    | [op], [y], hc => exact absurd hc Bool.false_ne_true
    | [op], _ :: _ :: _, hc => exact absurd hc Bool.false_ne_true
    | [_, _], [], hc => exact absurd hc Bool.false_ne_true
    | _ :: _ :: _ :: _, [], hc => exact absurd hc Bool.false_ne_true
    | [_, _], [_], hc => exact absurd hc Bool.false_ne_true
    | [_, _], [y, z], hc =>
      change (_ && _ && _ && _ && _ && !_ && !_) = true at hc
      simp only [Bool.and_eq_true, Bool.not_eq_true'] at hc
      exact ⟨_, _, _, _, _, _, rfl, hc.1.1.1.1.1.1, hc.1.1.1.1.1.2, hc.1.1.1.1.2, hc.1.1.1.2, hc.1.1.2, hc.2⟩
    | [_, _], _ :: _ :: _ :: _, hc => exact absurd hc Bool.false_ne_true
    | _ :: _ :: _ :: _, [_], hc => exact absurd hc Bool.false_ne_true
    | _ :: _ :: _ :: _, _ :: _ :: _, hc => exact absurd hc Bool.false_ne_true
  obtain ⟨x, op, op', y, z, pos, rfl, ho, ho', ca, cb, cb2, hs⟩ := key
  have hu := hX.hu
  have core : ∀ Q : VK, PV C X ((ev c a false env hp).bind fun x h1 => (ev c b false env h1).bind fun y h2 => match cmpD o h2 x y with
    | some true => (ev c b2 false env h2).bind fun z h3 => ofB (cmpD o' h3 y z) h3
    | some false => .ok (.bl false) h2
    | none => .stk) ad H (WE W σ) Q → tChain (wO X (compareOp op)) (wO X (compareOp op')) (wE X x) (wE X y) (wE X z) σ H Q := by
    intro Q p
    refine step (RR := RV C X.K) ha hX hT ca R S p fun d h1 v H1 ad1 R1 S1 x1 r1 p1 => ?_
    refine step (RR := RV C X.K) hb hX hT cb R1 S1 p1 fun d2 h2 v2 H2 ad2 R2 S2 x2 r2 p2 => ?_
    cases hk : cmpD o h2 d d2 with
    | none => rw [hk] at p2; exact p2.elim
    | some k =>
      rw [hk] at p2
      refine cmp_ok (by omega) (by omega) ho R2 (r1.mono x2) r2 hk ⟨k, rfl, ?_⟩
      cases k with
      | false => exact (if_neg (by simp)).mpr (p2 _ H2 ad2 R2 (.refl _ _) (.bl _))
      | true =>
        refine (if_pos rfl).mpr ?_
        refine step (RR := RV C X.K) hb2 hX hT cb2 R2 S2 p2 fun d3 h3 v3 H3 ad3 R3 S3 x3 r3 p3 => ?_
        cases hk2 : cmpD o' h3 d2 d3 with
        | none => rw [hk2] at p3; exact p3.elim
        | some k2 =>
          rw [hk2] at p3
          exact cmp_ok (by omega) (by omega) ho' R3 (r2.mono x3) r3 hk2 (p3 _ H3 ad3 R3 (.refl _ _) (.bl _))
  have hm : lastMarks [op, op'] [y, z] = false := by
    show behindInMarks op' z = false
    exact isSet_mark hs
  refine bl_both (bind_bl fun _ _ => bind_bl fun _ _ d e1 h => ?_) (fun Q p => wE.of (pe_chain wO.op wO.op peW peW peW hm) (core Q p)) (fun Q p => wT.of (pt_chain wO.op wO.op peW peW peW hm) (core _ p))
  split at h
  · exact bind_bl (fun _ _ => ofB_bl) d e1 h
  · cases h; exact ⟨_, rfl⟩
  · cases h
end
end N9

set_option Elab.async false
set_option linter.all false
set_option maxRecDepth 100000
namespace L2
open PySem PySem.Spec PyProof.Rows
set_option maxHeartbeats 4000000 in
theorem tuple_mul1 (l : Addr) (items : Array Value) (n : Nat) (sl : Array (Option Value)) (dd : Option Addr) (x : Int) (u : Tok) (c0 : (decide (x < -(2 ^ 63)) || decide (x ≥ 2 ^ 63)) = false) (c1 : (items.isEmpty || x == 1) = true) :
    Meets (Builtin.«tuple.__mul__» ⟨[.ref l, .int x u], []⟩) (fun _ R s => s.heap.get? l = some { cls := .type "tuple", dict := dd, data := .seq items n, slots := sl } ∧
      R (.ok (.ret (Value.ref l))) s) :=
  .of_wp fun prog w A R s h => by
    obtain ⟨hp, g, d, tk, os⟩ := s
    obtain ⟨hl, h⟩ := h
    have f1 := AutoSeq1.idx_int
    wp_walk using wpAny_loadPart' hl
    repeat (first
      | (refine wpAny_ite_false (decide_eq_false (by rw [c0]; exact Bool.false_ne_true)) ?_; wp_walk using wpAny_loadPart' hl)
      | (refine wpAny_ite_true (decide_eq_true c1) ?_; wp_walk using wpAny_loadPart' hl))
    exact ⟨_, rfl, h⟩
set_option maxHeartbeats 4000000 in
theorem tuple_mul0 (l : Addr) (items : Array Value) (n : Nat) (sl : Array (Option Value)) (dd : Option Addr) (x : Int) (u : Tok) (c0 : (decide (x < -(2 ^ 63)) || decide (x ≥ 2 ^ 63)) = false) (c1 : (items.isEmpty || x == 1) = false) (c2 : (decide (x ≤ 0) || items.isEmpty) = true) :
    Meets (Builtin.«tuple.__mul__» ⟨[.ref l, .int x u], []⟩) (fun _ R s => s.heap.get? l = some { cls := .type "tuple", dict := dd, data := .seq items n, slots := sl } ∧
      R (.ok (.ret (Value.ref s.heap.objs.size))) { s with heap := s.heap.push { cls := Value.type "tuple", data := Data.seq #[] }, toks := s.toks }) :=
  .of_wp fun prog w A R s h => by
    obtain ⟨hp, g, d, tk, os⟩ := s
    obtain ⟨hl, h⟩ := h
    have f1 := AutoSeq1.idx_int
    have hsz : (#[] : Array Value).size ≤ sizeLine := Nat.zero_le _
    wp_walk using wpAny_loadPart' hl
    repeat (first
      | (refine wpAny_ite_false (decide_eq_false (by rw [c0]; exact Bool.false_ne_true)) ?_; wp_walk using wpAny_loadPart' hl)
      | (refine wpAny_ite_false (decide_eq_false (by rw [c1]; exact Bool.false_ne_true)) ?_; wp_walk using wpAny_loadPart' hl)
      | (refine wpAny_ite_true (decide_eq_true c2) ?_; wp_walk using wpAny_loadPart' hl)
      | (refine wpAny_ite_false (decide_eq_false (Nat.not_lt.mpr hsz)) ?_; wp_walk using wpAny_loadPart' hl))
    exact ⟨_, rfl, h⟩
section
variable {X : Cx}
theorem op_repT1 : OpR X (binaryOp .Mult) (fun x y H Q => ∃ l xs k, x = .ref l ∧ y = .int k ∧ SqT X.K H l xs ∧ -1001 < k ∧ k < 1001 ∧ (k = 1 ∨ xs = []) ∧ Q (.ref l) H) := by
  intro pins s σ H x y v u Q I rx ry h
  obtain ⟨l, xs, k, rfl, rfl, hT, k1, k2, hk, q⟩ := h
  cases rx
  obtain ⟨t, rfl⟩ := ry
  obtain ⟨its, r, ⟨⟨cls, dd, data, sl⟩, ho, hc, n, hd⟩, hs⟩ := I.tuple hT
  simp only at hc hd
  subst hc hd
  have hc1 : (its.toArray.isEmpty || k == 1) = true := by
    rcases hk with rfl | rfl
    · simp
    · cases r; rfl
  have hc0 : (decide (k < -(2 ^ 63)) || decide (k ≥ 2 ^ 63)) = false := by
    rw [decide_eq_false (by omega), decide_eq_false (by omega)]; rfl
  exact wpAny_binaryOp_repeat_ref (T := "tuple") (U := "int") (by decide) ⟨_, ho, rfl⟩ (fun s' => typeIs_int s' k t) noFill_tuple_mul F.fills_int_mul F.slot_int_rmul repeat_tuple F.slot_int_index.lookup
    (call_meets F.slot_int_rmul (typeIs_int s k t) F.entry_int_rmul (F.args_int_rmul_2 _ _) (int_rmul_tuple k t l its.toArray n dd sl)
      ⟨ho, rfl, ⟨_, ho, rfl⟩, call_meets F.slot_tuple_mul ⟨_, ho, rfl⟩ F.entry_tuple_mul (F.args_tuple_mul_2 _ _) (tuple_mul1 l its.toArray n sl dd k t hc0 hc1) ⟨ho, ⟨.ref l, H, I, rfl, q⟩⟩⟩)
theorem op_repT0 : OpR X (binaryOp .Mult) (fun x y H Q => ∃ l xs k, x = .ref l ∧ y = .int k ∧ SqT X.K H l xs ∧ -1001 < k ∧ k ≤ 0 ∧ xs ≠ [] ∧ ∀ p, H p = none → Q (.ref p) (upd H p (.tup (List.replicate 0 xs).flatten))) := by
  intro pins s σ H x y v u Q I rx ry h
  obtain ⟨l, xs, k, rfl, rfl, hT, k1, k2, hne, q⟩ := h
  cases rx
  obtain ⟨t, rfl⟩ := ry
  obtain ⟨its, r, ⟨⟨cls, dd, data, sl⟩, ho, hc, n, hd⟩, hs⟩ := I.tuple hT
  simp only at hc hd
  subst hc hd
  have hn : its ≠ [] := fun e => hne (by rw [e] at r; cases r; rfl)
  have hc1 : (its.toArray.isEmpty || k == 1) = false := by
    rw [Bool.or_eq_false_iff]
    refine ⟨by cases its <;> first | exact absurd rfl hn | rfl, by simp; omega⟩
  have hc0 : (decide (k < -(2 ^ 63)) || decide (k ≥ 2 ^ 63)) = false := by
    rw [decide_eq_false (by omega), decide_eq_false (by omega)]; rfl
  have hc2 : (decide (k ≤ 0) || its.toArray.isEmpty) = true := by rw [decide_eq_true k2]; rfl
  refine wpAny_binaryOp_repeat_ref (T := "tuple") (U := "int") (by decide) ⟨_, ho, rfl⟩ (fun s' => typeIs_int s' k t) noFill_tuple_mul F.fills_int_mul F.slot_int_rmul repeat_tuple F.slot_int_index.lookup
    (call_meets F.slot_int_rmul (typeIs_int s k t) F.entry_int_rmul (F.args_int_rmul_2 _ _) (int_rmul_tuple k t l its.toArray n dd sl)
      ⟨ho, rfl, ⟨_, ho, rfl⟩, call_meets F.slot_tuple_mul ⟨_, ho, rfl⟩ F.entry_tuple_mul (F.args_tuple_mul_2 _ _) (tuple_mul0 l its.toArray n sl dd k t hc0 hc1 hc2) ⟨ho, ?_⟩⟩)
  have I2 : Inv X pins σ (upd H s.heap.objs.size (.tup ([] : List V))) { s with heap := s.heap.push { cls := Value.type "tuple", data := Data.seq #[] }, toks := s.toks } := I.laid (t' := s.toks) (o := .tup []) (fun b ob q => Heap.get?_push_of_some _ q) (Nat.le_refl _) ⟨Nat.zero_le _, [], .nil, IsTup.new _ _⟩
  exact ⟨.ref _, _, I2, rfl, q _ I.fresh⟩
end
section
variable {X : Cx}
theorem rd_lst {pins : List (Addr × Obj)} {s : Shared} {σ : St} {H : Hp} {l : Addr} {xs : List V} (I : Inv X pins σ H s) (h : Rd H l (.lst xs)) : ∃ (its : List Value) (n : Nat), xs.length ≤ sizeLine ∧ Vals xs its ∧ xs.length = its.length ∧ s.heap.get? l = some { cls := .type "list", data := .seq its.toArray n } := by
  obtain ⟨z, its, n, r, e⟩ := (show ObjOk X.prog X.w H s.heap l (.lst xs) from h.ok I.hok)
  exact ⟨its, n, z, r, r.length, e⟩
theorem op_catR : OpR X (binaryOp .Add) (fun x y H Q => ∃ l b xs zs, x = .ref l ∧ y = .ref b ∧ Rd H l (.lst xs) ∧ Rd H b (.lst zs) ∧ xs.length + zs.length ≤ sizeLine ∧ ∀ p, H p = none → Q (.ref p) (upd H p (.lst (xs ++ zs)))) := by
  intro pins s σ H x y v u Q I rx ry h
  obtain ⟨l, b, xs, zs, rfl, rfl, hH, hB, hz, q⟩ := h
  cases rx
  cases ry
  obtain ⟨its, n, z, r, hl, e⟩ := rd_lst I hH
  obtain ⟨its2, n2, z2, r2, hl2, e2⟩ := rd_lst I hB
  refine PySem.P.add_list e e2 ?_ (by rw [List.size_toArray, List.size_toArray]; omega)
  have ea : its.toArray ++ its2.toArray = (its ++ its2).toArray := by simp
  rw [ea]
  exact ⟨.ref _, _, I.lnew (t' := s.toks) (r.append r2) (by rw [List.length_append]; omega), rfl, q _ I.fresh⟩
theorem op_repR : OpR X (binaryOp .Mult) (fun x y H Q => ∃ l k xs, x = .ref l ∧ y = .int k ∧ Rd H l (.lst xs) ∧ -(2 ^ 63) ≤ k ∧ k < 2 ^ 63 ∧ xs.length * k.toNat ≤ sizeLine ∧
  ∀ p, H p = none → Q (.ref p) (upd H p (.lst (List.replicate k.toNat xs).flatten))) := by
  intro pins s σ H x y v u Q I rx ry h
  obtain ⟨l, k, xs, rfl, rfl, hH, h1, h2, hz, q⟩ := h
  cases rx
  obtain ⟨t, rfl⟩ := ry
  obtain ⟨its, n, z, r, hl, e⟩ := rd_lst I hH
  have hlen : its.toArray.size * k.toNat ≤ sizeLine := by rw [List.size_toArray, ← hl]; exact hz
  have hcap : ¬ its.toArray.size * k.toNat > (2 ^ 63 - 1) / 8 := by
    have : (sizeLine : Nat) ≤ (2 ^ 63 - 1) / 8 := by decide
    omega
  have hfit : ¬ (!Builtin.List.listFitsIndex k) = true := by
    rw [fitsIndex_both h1 h2]
    exact Bool.false_ne_true
  have hlong : ¬ Builtin.List.listTooLong (its.toArray.size * k.toNat) = true := by
    rw [notLongL hlen]
    exact Bool.false_ne_true
  have hnew : List.foldl (fun x1 x2 => x1 ++ x2) #[] (List.replicate (if its.toArray.isEmpty = true then 0 else k.toNat) its.toArray) = (List.replicate k.toNat its).flatten.toArray := by
    have f0 : ∀ m : Nat, List.foldl (fun x1 x2 => x1 ++ x2) #[] (List.replicate m its.toArray) = (List.replicate m its).flatten.toArray := fun m => by
      have := foldl_rep its m []
      rw [List.nil_append] at this
      exact this
    rw [f0]
    cases its with
    | nil => simp
    | cons a r' => rw [if_neg (by simp)]
  refine wpAny_binaryOp_repeat_ref (T := "list") (U := "int") (by decide) ⟨_, e, rfl⟩ (fun s' => typeIs_int s' k t) noFill_list_mul F.fills_int_mul F.slot_int_rmul repeat_list F.slot_int_index.lookup
    (call_meets F.slot_int_rmul (typeIs_int s k t) F.entry_int_rmul (F.args_int_rmul_2 _ _) (int___rmul___int_list k t l its.toArray n)
      ⟨e, rfl, ⟨_, e, rfl⟩, call_meets F.slot_list_mul ⟨_, e, rfl⟩ F.entry_list_mul (F.args_list_mul_2 _ _) (AutoListH.list___mul___list_int_3 l its.toArray n k t hfit hcap hlong) ⟨e, ?_⟩⟩)
  rw [hnew]
  exact ⟨.ref _, _, I.lnew (t' := s.toks) (r.rep k.toNat) (by rw [PyProof.Rows.lm_len_rep_flat, Nat.mul_comm]; exact hz), rfl, q _ I.fresh⟩

end
end L2
namespace N9
open PySem PySem.Spec L2

def PrimOk (p : Pn) : Prop := ∀ (T : Tab) (N : List Str) (sc : Scope) (W : WX) (X : Cx) (e : Expr) (es : List Expr) (σ : L2.St) (H : Hp) (Q : VK) (C : Ct) (c : Oracle), XOk N sc W X → TabOk T C c X → prim T sc p e = some es → (∀ x ∈ es, isStar x = false) → plainT e = true ∧
  ((wL X es σ H fun vs H1 => ∃ ad hp ds, HR C X.prog X.w X.K ad hp H1 ∧ RVs C X.K ad H1 vs ds ∧ PV C X (pr p ds hp) ad H1 (WE W σ) Q) → wE X e σ H Q)

section
variable {C : Ct} {X : Cx} {ad : List Addr} {hp : Hm} {H : Hp} {E : Value → Option Addr → Hp → Prop} {Q : VK}
theorem if_some {p : Prop} {dp : Decidable p} {α : Type} {a b : α} (h : (if p then some a else none) = some b) : p ∧ a = b := by
  by_cases q : p
  · rw [if_pos q] at h; cases h; exact ⟨q, rfl⟩
  · rw [if_neg q] at h; cases h
theorem pv_ok {r : Re D} {d : D} {v : V} (R : HR C X.prog X.w X.K ad hp H) (e : r = .ok d hp) (rv : RV C X.K ad H v d) (p : PV C X r ad H E Q) : Q v H := by
  subst e; exact p v H ad R (.refl _ _) rv
theorem intsD_of : ∀ {ds : List D} {is : List Int}, intsD ds = some is → ds = is.map D.int
  | [], is, h => by simp only [intsD, Option.some.injEq] at h; subst h; rfl
  | d :: ds, is, h => by
    cases d <;> simp only [intsD, reduceCtorEq, Option.map_eq_some_iff] at h
    obtain ⟨js, e, rfl⟩ := h
    rw [intsD_of e]; rfl
theorem tkD_of {v : V} {d : D} {k : TK} (r : RV C X.K ad H v d) (h : tkD d = some k) : ∃ b, v = .ref b ∧ TupR X.K ad H b (k.map V.int) := by
  cases d <;> simp only [tkD, reduceCtorEq] at h
  obtain ⟨a, xs, rfl, t, rs⟩ := rv_tup r
  rw [intsD_of h] at rs
  rw [rs.of_ints] at t
  exact ⟨a, rfl, t⟩
theorem bin_ok {z : Bool} {o : Bop} {op : Operator} {x y : V} {a b : D} (his : o.is op = true) (R : HR C X.prog X.w X.K ad hp H) (ra : RV C X.K ad H x a) (rb : RV C X.K ad H y b) (p : PV C X (binD z o a b hp) ad H E Q) : wO X (binaryOp op) x y H Q := by
  have isI : ∀ i j, a = .int i → b = .int j → wO X (binaryOp op) x y H Q := by
    rintro i j rfl rfl
    cases ra; cases rb
    have p : PV C X (ofO ((binI o i j).map .int) hp) ad H E Q := p
    cases hb : binI o i j with
    | none => rw [hb] at p; exact p.elim
    | some k =>
      rw [hb] at p
      have q : Q (.int k) H := p _ H ad R (.refl _ _) (.int _)
      cases o <;> cases op <;> simp only [Bop.is, reduceCtorEq] at his <;> unfold binI at hb
      · cases hb; exact wO.of op_add ⟨_, _, rfl, rfl, q⟩
      · cases hb; exact wO.of op_sub ⟨_, _, rfl, rfl, q⟩
      · obtain ⟨hc, rfl⟩ := if_some hb
        exact wO.of op_mul ⟨_, _, rfl, rfl, by unfold CMul; simpa [smallMul] using hc, q⟩
      · obtain ⟨hc, rfl⟩ := if_some hb
        exact wO.of op_fdiv ⟨_, _, rfl, rfl, hc, q⟩
      · obtain ⟨hc, rfl⟩ := if_some hb
        exact wO.of op_mod ⟨_, _, rfl, rfl, hc, q⟩
      · obtain ⟨hc, rfl⟩ := if_some hb
        exact wO.of op_pow ⟨_, _, rfl, rfl, hc, q⟩
      · obtain ⟨hc, rfl⟩ := if_some hb
        exact wO.of op_shl ⟨_, _, rfl, rfl, hc, q⟩
      · obtain ⟨hc, rfl⟩ := if_some hb
        exact wO.of op_shr ⟨_, _, rfl, rfl, hc, q⟩
      · cases hb; exact wO.of op_and ⟨_, _, rfl, rfl, q⟩
  have cats : ∀ l m, listD hp a = some l → listD hp b = some m → o = .add → PV C X (if l.length + m.length ≤ sizeLine then mkL z (l ++ m) hp else .stk) ad H E Q → wO X (binaryOp op) x y H Q := by
    rintro l m ha hb rfl p
    cases op <;> simp only [Bop.is, reduceCtorEq] at his
    obtain ⟨q1, xs, rfl, hx, rx⟩ := listD_of R ra ha
    obtain ⟨q2, ys, rfl, hy, ry⟩ := listD_of R rb hb
    by_cases hl : l.length + m.length ≤ sizeLine
    · rw [if_pos hl] at p
      exact wO.of op_catR ⟨_, _, _, _, rfl, rfl, hx, hy, by rw [rx.length, ry.length]; exact hl, fun q hq => mkL_ok R (rx.append ry) p q hq⟩
    · rw [if_neg hl] at p; exact p.elim
  have reps : ∀ l j, listD hp a = some l → b = .int j → o = .mul → PV C X (if 0 ≤ j ∧ j ≤ sizeLine ∧ l.length * j.toNat ≤ sizeLine then mkL z (List.replicate j.toNat l).flatten hp else .stk) ad H E Q → wO X (binaryOp op) x y H Q := by
    rintro l j ha rfl rfl p
    cases op <;> simp only [Bop.is, reduceCtorEq] at his
    obtain ⟨q1, xs, rfl, hx, rx⟩ := listD_of R ra ha
    cases rb
    have hs : (sizeLine : Nat) = 16777216 := sizeLine_eq
    by_cases hl : 0 ≤ j ∧ j ≤ sizeLine ∧ l.length * j.toNat ≤ sizeLine
    · rw [if_pos hl] at p
      exact wO.of op_repR ⟨_, _, _, rfl, rfl, hx, by omega, by omega, by rw [rx.length]; exact hl.2.2, fun q hq => mkL_ok R (rx.rep _) p q hq⟩
    · rw [if_neg hl] at p; exact p.elim
  -- by the kinds
  by_cases hi : (∃ i, a = .int i) ∧ ∃ j, b = .int j
  · obtain ⟨⟨i, e1⟩, j, e2⟩ := hi
    exact isI i j e1 e2
  by_cases ht : ∃ l, a = .tup l
  · obtain ⟨l, rfl⟩ := ht
    obtain ⟨q1, xs, rfl, t1, rs1⟩ := rv_tup ra
    cases b with
    | int j =>
      cases o <;> first | exact p.elim | skip
      cases op <;> simp only [Bop.is, reduceCtorEq] at his
      have p : PV C X (if -1000 ≤ j ∧ j ≤ 1000 ∧ l.length ≤ 1000 then .ok (.tup (List.replicate j.toNat l).flatten) hp else .stk) ad H E Q := p
      by_cases hl : -1000 ≤ j ∧ j ≤ 1000 ∧ l.length ≤ 1000
      · rw [if_pos hl] at p
        cases rb
        by_cases h1 : j = 1 ∨ l = []
        · refine wO.of op_repT1 ⟨_, _, j, rfl, rfl, t1.sq, by omega, by omega, h1.imp id (fun z => by subst z; cases rs1; rfl), p _ H ad R (.refl _ _) ?_⟩
          have : (List.replicate j.toNat l).flatten = l := by
            rcases h1 with rfl | rfl
            · simp
            · simp
          rw [this]; exact ra
        by_cases h0 : j ≤ 0
        · refine wO.of op_repT0 ⟨_, _, j, rfl, rfl, t1.sq, by omega, h0, fun z => h1 (.inr ?_), fun q hq => ?_⟩
          · subst z; cases rs1; rfl
          · obtain ⟨n1, n2, n3⟩ := new_tup R hq (rs1.rep j.toNat)
            rw [show j.toNat = 0 by omega] at n1 n2 n3
            rw [show j.toNat = 0 by omega] at p
            exact p _ _ ad n1 n2 n3
        · refine wO.of op_repT ⟨_, _, _, rfl, rfl, t1.sq, fun z => h1 (.inr ?_), by omega, hl.2.1, by rw [rs1.length]; exact hl.2.2, fun q hq => ?_⟩
          · subst z; cases rs1; rfl
          · obtain ⟨n1, n2, n3⟩ := new_tup R hq (rs1.rep j.toNat)
            exact p _ _ ad n1 n2 n3
      · rw [if_neg hl] at p; exact p.elim
    | tup m =>
      cases o <;> first | exact p.elim | skip
      cases op <;> simp only [Bop.is, reduceCtorEq] at his
      have p : PV C X (if l.length + m.length ≤ sizeLine then .ok (.tup (l ++ m)) hp else .stk) ad H E Q := p
      obtain ⟨q2, ys, rfl, t2, rs2⟩ := rv_tup rb
      by_cases hl : l.length + m.length ≤ sizeLine
      · rw [if_pos hl] at p
        refine wO.of op_catA ⟨_, _, _, _, rfl, rfl, t1.sq, t2.sq, by rw [rs1.length, rs2.length]; exact hl, fun e => ?_, fun _ e => ?_, fun _ _ q hq => ?_⟩
        · subst e; cases rs1
          exact p _ H ad R (.refl _ _) rb
        · subst e; cases rs2
          exact p _ H ad R (.refl _ _) (by rw [List.append_nil]; exact ra)
        · obtain ⟨n1, n2, n3⟩ := new_tup R hq (rs1.append rs2)
          exact p _ _ ad n1 n2 n3
      · rw [if_neg hl] at p; exact p.elim
    | _ => cases o <;> exact p.elim
  by_cases hl : (∃ l, a = .lst l) ∨ ∃ n, a = .ref n
  · by_cases hj : ∃ j, b = .int j
    · obtain ⟨j, rfl⟩ := hj
      have p : PV C X (match (generalizing := false) o with
        | .mul => match listD hp a with
          | some x => if 0 ≤ j ∧ j ≤ sizeLine ∧ x.length * j.toNat ≤ sizeLine then mkL z (List.replicate j.toNat x).flatten hp else .stk
          | none => .stk
        | _ => .stk) ad H E Q := by
        rcases hl with ⟨l, rfl⟩ | ⟨n, rfl⟩ <;> exact p
      cases o <;> first | exact p.elim | skip
      cases hla : listD hp a with
      | none => simp only [hla] at p; exact p.elim
      | some l => simp only [hla] at p; exact reps l j hla rfl rfl p
    · have p : PV C X (match (generalizing := false) o with
        | .add => match listD hp a, listD hp b with
          | some x, some y => if x.length + y.length ≤ sizeLine then mkL z (x ++ y) hp else .stk
          | _, _ => .stk
        | _ => .stk) ad H E Q := by
        rcases hl with ⟨l, rfl⟩ | ⟨n, rfl⟩ <;> cases b <;> first | exact p | exact absurd ⟨_, rfl⟩ hj
      cases o <;> first | exact p.elim | skip
      cases hla : listD hp a with
      | none => simp only [hla] at p; exact p.elim
      | some l =>
        cases hlb : listD hp b with
        | none => simp only [hla, hlb] at p; exact p.elim
        | some m => simp only [hla, hlb] at p; exact cats l m hla hlb rfl p
  · exfalso
    have hn : listD hp a = none := by
      cases a <;> first | rfl | exact absurd (.inl ⟨_, rfl⟩) hl | exact absurd (.inr ⟨_, rfl⟩) hl
    cases a <;> first | exact absurd ⟨_, rfl⟩ ht | exact absurd (.inl ⟨_, rfl⟩) hl | exact absurd (.inr ⟨_, rfl⟩) hl | skip
    all_goals cases b <;> first | exact absurd ⟨⟨_, rfl⟩, _, rfl⟩ hi | (cases o <;> exact p)
end
end N9

set_option Elab.async false
set_option linter.all false
set_option maxRecDepth 100000
namespace N9
open PySem PySem.Spec L2

/-- an item by its index -/
def wIx (X : Cx) : R2 := fun x y H Q => ∀ value slice pins s σ v u, Inv X pins σ H s → RelV x v → RelV y u → subscripted slice false v u = operate [v, u] (getItem v u) → wpAny (model X.prog X.w) X.A (PyProof.Rows.subscriptTail value slice v u) (EP X pins σ Q) X.xe s
theorem wIx.op {X : Cx} : IxR X (wIx X) := fun value slice pins s σ H x y v u Q I rx ry h e => h value slice pins s σ v u I rx ry e
theorem wIx.of {X : Cx} {r : R2} (h : IxR X r) {x y : V} {H : Hp} {Q : VK} (q : r x y H Q) : wIx X x y H Q := fun value slice pins s σ v u I rx ry e => h value slice pins s σ H x y v u Q I rx ry q e
theorem ixN_len {n : Nat} {i : Int} {j : Nat} (h : ixN n i = some j) : j < n := (ixN_seq h).2.1
section
variable {C : Ct} {X : Cx} {ad : List Addr} {hp : Hm} {H : Hp} {E : Value → Option Addr → Hp → Prop} {Q : VK}
theorem RVs.at {K : PySem.W.Frag} {xs : List V} {ds : List D} {i : Int} {d : D} (r : RVs C K ad H xs ds) (h : atI ds i = some d) : ∃ v, atI xs i = some v ∧ RV C K ad H v d := by
  unfold atI at h ⊢
  rw [r.length]
  cases e : ixN ds.length i with
  | none => rw [e] at h; simp at h
  | some j =>
    rw [e] at h
    simp only [Option.bind_some] at h ⊢
    exact r.getD h
theorem dk_look {kxs : List (Key × V)} {l : List (Int × D)} {i : Int} {d : D} (ek : kxs.map (·.1) = kInts l) (rs : RVs C X.K ad H (kxs.map (·.2)) (l.map (·.2))) : (lookK l i = none → valV kxs (Sum.inl i) = none) ∧ (lookK l i = some d → ∃ v, valV kxs (Sum.inl i) = some v ∧ RV C X.K ad H v d) := by
  induction kxs generalizing l with
  | nil =>
    cases l with
    | nil => exact ⟨fun _ => rfl, fun h => by simp [lookK] at h⟩
    | cons _ _ => simp [kInts] at ek
  | cons p kxs ih =>
    cases l with
    | nil => simp [kInts] at ek
    | cons z l =>
      simp only [kInts, List.map_cons, List.cons.injEq] at ek
      rw [List.map_cons, List.map_cons] at rs
      cases rs with
      | cons r rs =>
        by_cases e : z.1 = i
        · have e' : p.1 = Sum.inl i := by rw [ek.1, e]
          have a : valV (p :: kxs) (Sum.inl i) = some p.2 := by simp [valV, List.find?_cons, e']
          have b : lookK (z :: l) i = some z.2 := by simp [lookK, List.find?_cons, e]
          rw [a, b]
          exact ⟨fun h => absurd h (by simp), fun h => ⟨_, rfl, by simp only [Option.some.injEq] at h; subst h; exact r⟩⟩
        · have e' : ¬ p.1 = Sum.inl i := by rw [ek.1]; intro z; injection z with z; exact e z
          have a : valV (p :: kxs) (Sum.inl i) = valV kxs (Sum.inl i) := by simp [valV, List.find?_cons, e']
          have b : lookK (z :: l) i = lookK l i := by simp [lookK, List.find?_cons, e]
          rw [a, b]
          exact ih ek.2 rs
theorem idx_ok {x y : V} {a b : D} (hu : X.A.units + 1 < cLine) (R : HR C X.prog X.w X.K ad hp H) (ra : RV C X.K ad H x a) (rb : RV C X.K ad H y b) (p : PV C X (ofO (idxD hp a b) hp) ad H E Q) : wIx X x y H Q := by
  cases hi : idxD hp a b with
  | none => rw [hi] at p; exact p.elim
  | some d =>
  rw [hi] at p
  have q : ∀ v, RV C X.K ad H v d → Q v H := fun v rv => p v H ad R (.refl _ _) rv
  have lst : ∀ {l : List D} {xs : List V} {q' : Addr}, x = .ref q' → (SqL X.K H q' xs ∨ SqT X.K H q' xs) → RVs C X.K ad H xs l → (∃ i, b = .int i ∧ atI l i = some d) → wIx X x y H Q := by
    rintro l xs q' rfl hq rs ⟨i, rfl, hat⟩
    cases rb
    obtain ⟨v, e, rv⟩ := rs.at hat
    rcases hq with hq | hq
    · exact wIx.of ix_list ⟨_, _, _, v, rfl, rfl, hq, e, q v rv⟩
    · exact wIx.of ix_tup ⟨_, _, _, v, rfl, rfl, hq, e, q v rv⟩
  have idb : ∀ {l : List D}, (match (generalizing := false) b with | .int i => atI l i | _ => none) = some d → ∃ i, b = .int i ∧ atI l i = some d := by
    intro l h
    cases b <;> first | (cases h; done) | exact ⟨_, rfl, h⟩
  cases a <;> first | (cases hi; done) | skip
  · rename_i l
    obtain ⟨q', xs, hy, t, rs⟩ := rv_tup ra
    exact lst hy (.inr t.sq) rs (idb hi)
  · rename_i l
    cases ra with | lst e n rs => exact lst rfl (.inl (.inl e)) rs (idb hi)
  · rename_i n
    have h : (match gt hp n with
      | some (.lst l) => match (generalizing := false) b with
        | .int i => atI l i
        | _ => none
      | some (.dk l) => match (generalizing := false) b with
        | .int i => lookK l i
        | _ => none
      | some (.dt l) => match (generalizing := false) tkD b with
        | some k => lookK l k
        | none => none
      | _ => none) = some d := hi
    cases hg : gt hp n with
    | none => rw [hg] at h; cases h
    | some ob =>
      rw [hg] at h
      rcases ob with l | l | l | l | _ | _ | _ <;> first | (cases h; done) | skip
      · obtain ⟨q', xs, hy, hx, rs⟩ := R.lst ra hg
        exact lst hy (.inl (.inl hx)) rs (idb h)
      · rcases b with _ | _ | i | _ | _ | _ | _ | _ <;> first | (cases h; done) | skip
        obtain ⟨q', kxs, rfl, e, ek, rs⟩ := R.dk ra hg
        cases rb
        obtain ⟨v, hv, rv⟩ := (dk_look (d := d) ek rs).2 h
        refine fun value slice pins s σ v0 u I rx ry he => ?_
        cases rx
        have g : DGet H q' (.int i) (some v) := .inl ⟨kxs, Sum.inl i, e, rfl, hv.symm⟩
        exact PyProof.Rows.tail_any (dict_typeIs I g) PySem.F.slot_dict_getitem.lookup (d_getItem hu I g ry fun w' s3 I3 rw' => ⟨v, H, I3, rw', q v rv⟩) he
      · have h : (match (generalizing := false) tkD b with | some k => lookK l k | none => none) = some d := h
        cases hk : tkD b with
        | none => rw [hk] at h; cases h
        | some kk =>
          rw [hk] at h
          obtain ⟨q', ys, rfl, e, ek, tp, rs⟩ := R.dt ra hg
          obtain ⟨b', rfl, tk⟩ := tkD_of rb hk
          have h : lookK l kk = some d := h
          rcases DtR.look (C := C) (K := X.K) (ad := ad) (H := H) kk ek rs with ⟨z1, z2⟩ | ⟨v, d', z1, z2, rv⟩
          · rw [h] at z2; cases z2
          · rw [h] at z2; cases z2
            refine fun value slice pins s σ v0 u I rx ry he => ?_
            cases rx; cases ry
            exact PyProof.Rows.tail_any (dt_isD I e).1 PySem.F.slot_dict_getitem.lookup (dt_getItem hu I e tp tk z1 fun w' s3 I3 rw' => ⟨v, H, I3, rw', q v rv⟩) he
  · cases ra with | scr t => exact lst rfl (.inl t.sq) RVs.ints (idb hi)
end
theorem prim_bin {z : Bool} {o : Bop} : PrimOk (.bin z o) := by
  intro T N sc W X e es σ H Q C c hX hT hp hs
  cases e <;> first | (cases hp; done) | skip
  rename_i x op y pos
  have hp : (if o.is op = true then some [x, y] else none) = some es := hp
  obtain ⟨ho, rfl⟩ := if_some hp
  refine ⟨rfl, fun h => ?_⟩
  refine wE.of (pe_op wO.op peW peW) ?_
  refine wE.mono h fun v H1 h1 => wE.mono h1 fun u H2 ⟨ad, hm, ds, R, rs, p⟩ => ?_
  cases rs with
  | cons r1 rs => cases rs with
    | cons r2 rs => cases rs; exact bin_ok ho R r1 r2 p
theorem prim_neg : PrimOk .neg := by
  intro T N sc W X e es σ H Q C c hX hT hp hs
  cases e <;> first | (cases hp; done) | skip
  rename_i op x pos
  cases op <;> first | (cases hp; done) | skip
  cases hp
  refine ⟨rfl, fun h => ?_⟩
  refine wE.of (pe_un un_neg peW) ?_
  refine wE.mono h fun v H1 ⟨ad, hm, ds, R, rs, p⟩ => ?_
  cases rs with
  | cons r1 rs =>
    cases rs
    rename_i d
    cases d <;> first | exact p.elim | skip
    cases r1
    exact ⟨_, rfl, p _ H1 ad R (.refl _ _) (.int _)⟩
theorem prim_idx : PrimOk .idx := by
  intro T N sc W X e es σ H Q C c hX hT hp hs
  cases e <;> first | (cases hp; done) | skip
  rename_i x y pos
  have hp : (if isSl y = true then none else some [x, y]) = some es := hp
  have hsl : isSl y = false := by
    cases q : isSl y with
    | false => rfl
    | true => rw [q] at hp; cases hp
  rw [hsl] at hp
  cases hp
  refine ⟨rfl, fun h => ?_⟩
  have hpl : PlainIx y := by intro o i; cases y <;> first | rfl | (simp [isSl] at hsl)
  refine wE.of (pe_ix wIx.op peW peW hpl) ?_
  refine wE.mono h fun v H1 h1 => wE.mono h1 fun u H2 ⟨ad, hm, ds, R, rs, p⟩ => ?_
  cases rs with
  | cons r1 rs => cases rs with
    | cons r2 rs => cases rs; exact idx_ok (by have := hX.hu; omega) R r1 r2 p
end N9

set_option Elab.async false
set_option linter.all false
set_option maxRecDepth 100000
namespace PySem
open Sem (wp)
namespace Q9M
variable {prog : Program} {w : World} {A : Around} {E : Value → Shared → Prop} {s : Shared}
theorem argsMin3 (a b c : Value) : argsOk "min" ⟨[a, b, c], []⟩ := by
  unfold argsOk
  kernel_rfl
/-- min of three, over the walk of the tuple that it makes -/
theorem min3_call {a b c : Value} {Q : Value → Shared → Prop}
    (h : wpAny (model prog w) A.in1 (pyIter (.ref s.heap.objs.size))
      (fun it s₂ => ∃ I fp wr n P St bt, it = .ref I ∧ Walks prog w A.in1 I fp wr n P St
        ∧ St 0 s₂.heap ∧ (∀ b ∈ fp, b < s₂.heap.objs.size) ∧ 0 < n
        ∧ CmpOf prog w A.in1 .Lt P bt
        ∧ ∀ v h' tk, P (argBest bt (n - 1)) v → (∀ b o, b ∉ wr → s₂.heap.get? b = some o → h'.get? b = some o)
          → Q v { s₂ with heap := h', toks := tk })
      E { s with heap := s.heap.push { cls := .type "tuple", data := .seq #[a, b, c] } }) :
    wpAny (model prog w) A (call (.builtin "min") [a, b, c]) Q E s := by
  have hname : (toString "min" ++ toString ".loop" : String) = "min.loop" := by
    decide
  refine call_function_tree F.kind_min F.plain_min F.entry_min (argsMin3 _ _ _) ?_
  show wpAny _ A.in1
    (Builtin.Builtins.bindParams "min" ["key", "default"] 0 ⟨[], []⟩ >>= _) _ _ s
  have hb : Builtin.Builtins.bindParams "min" ["key", "default"] 0 ⟨[], []⟩
    = pure [none, none] := rfl
  refine wpAny_bind (wpAny_of_eq hb ?_)
  show wpAny _ A.in1 (newTuple [a, b, c] >>= _) _ _ s
  refine wpAny_bind (wpAny_newObj_type ?_)
  refine wpAny_bind (wpAny_mono h (fun it s₂ h₂ => ?_)
    fun _ _ e => e)
  obtain ⟨I, fp, wr, n, P, St, bt, rfl, W, hst, hfp, hn, hcmp, hQ⟩ := h₂
  refine wpAny_bind (wpAny_newObj_type ?_)
  have hSf : s₂.heap.objs.size ∉ fp :=
    fun hm => Nat.lt_irrefl _ (hfp _ hm)
  rw [hname]
  refine wpAny_pure ⟨plainId_quiet F.plain_min_loop _,
    codeAny_min_loop_first W bt hcmp s₂.heap.objs.size hSf hn
      (W.frame _ _ _ hst fun b _ o e => Heap.get?_push_of_some _ e)
      (Heap.get?_push_size _ rfl) fun v h' tk hP hk => ?_⟩
  exact hQ v h' tk hP
    fun b o hbw e => hk b o hbw (Nat.ne_of_lt (Heap.lt_size e))
      (Heap.get?_push_of_some _ e)
theorem min3_ints {a b c : Int} {t u x : Tok} {Q : Value → Shared → Prop} (hh : A.handled = none)
    (h : ∀ h' tk y, (∀ d o, s.heap.get? d = some o → h'.get? d = some o)
      → Q (.int (min (min a b) c) y) { s with heap := h', toks := tk }) :
    wpAny (model prog w) A (call (.builtin "min") [.int a t, .int b u, .int c x]) Q E s := by
  let its : Array (Int × Tok) := #[(a, t), (b, u), (c, x)]
  have hT : (s.heap.push { cls := .type "tuple", data := .seq #[.int a t, .int b u, .int c x] }).IsTuple
    s.heap.objs.size (intItems its) := ⟨_, Heap.get?_push_size _ rfl, rfl, 0, by simp [its, intItems]⟩
  refine min3_call (wpAny_pyIter_tuple hT ?_)
  have hsz : (s.heap.push { cls := .type "tuple", data := .seq #[.int a t, .int b u, .int c x] }).objs.size
    = s.heap.objs.size + 1 := Heap.size_push ..
  have hne : s.heap.objs.size ≠
    (s.heap.push { cls := .type "tuple", data := .seq #[.int a t, .int b u, .int c x] }).objs.size := by
    rw [hsz]; exact Nat.ne_of_lt (Nat.lt_succ_self _)
  refine ⟨_, [_, s.heap.objs.size], [_], _, _, _, _, rfl,
    Walks.tuple (A := A.in1) hh _ s.heap.objs.size hne (intItems its),
    ⟨⟨_, Heap.get?_push_size _ rfl, rfl, rfl⟩, hT.push _⟩, fun d hd => ?_, by simp [its, intItems],
    CmpOf.ints_lt (numAt its) (fun _ _ => intItems_at), fun v h' tk hP hk => ?_⟩
  · show d < ((s.heap.push _).push _).objs.size
    rw [Heap.size_push, hsz]
    simp only [List.mem_cons, List.not_mem_nil, or_false] at hd
    rcases hd with rfl | rfl
    · rw [hsz]; exact Nat.lt_succ_self _
    · exact Nat.lt_succ_of_lt (Nat.lt_succ_self _)
  · have hold : ∀ d o, s.heap.get? d = some o → h'.get? d = some o := fun d o e => by
      refine hk d o (fun hm => ?_)
        (Heap.get?_push_of_some _ (Heap.get?_push_of_some _ e))
      simp only [List.mem_cons, List.not_mem_nil, or_false] at hm
      have z := Heap.lt_size e
      rw [hm, hsz] at z
      exact Nat.lt_irrefl _ (Nat.lt_of_succ_lt z)
    have hP' : (intItems its)[argBest (fun i j => decide (numAt its i < numAt its j)) 2]? = some v := by
      have hsz2 : (intItems its).size - 1 = 2 := by simp [its, intItems]
      rw [← hsz2]
      exact hP
    have hv : ∃ y, v = .int (min (min a b) c) y := by
      by_cases h1 : b < a
      · by_cases h2 : c < b
        · have e : argBest (fun i j => decide (numAt its i < numAt its j)) 2 = 2 := by
            simp [its, argBest, numAt, h1, h2]
          rw [e] at hP'
          refine ⟨x, ?_⟩
          rw [show min (min a b) c = c by omega]
          simpa [its, intItems] using hP'.symm
        · have e : argBest (fun i j => decide (numAt its i < numAt its j)) 2 = 1 := by
            simp [its, argBest, numAt, h1, h2]
          rw [e] at hP'
          refine ⟨u, ?_⟩
          rw [show min (min a b) c = b by omega]
          simpa [its, intItems] using hP'.symm
      · by_cases h2 : c < a
        · have e : argBest (fun i j => decide (numAt its i < numAt its j)) 2 = 2 := by
            simp [its, argBest, numAt, h1, h2]
          rw [e] at hP'
          refine ⟨x, ?_⟩
          rw [show min (min a b) c = c by omega]
          simpa [its, intItems] using hP'.symm
        · have e : argBest (fun i j => decide (numAt its i < numAt its j)) 2 = 0 := by
            simp [its, argBest, numAt, h1, h2]
          rw [e] at hP'
          refine ⟨t, ?_⟩
          rw [show min (min a b) c = a by omega]
          simpa [its, intItems] using hP'.symm
    obtain ⟨y, rfl⟩ := hv
    exact h h' tk y hold
end Q9M
end PySem

set_option Elab.async false
set_option linter.all false
set_option maxRecDepth 100000
namespace N9
open PySem PySem.Spec L2 PyProof.Rows HT

/-! ## a tuple turned about -/
theorem adjust_rev (n : Nat) : Builtin.Slice.sliceAdjust none none (-1) (n : Int) = ((n : Int) - 1, -1) := rfl
theorem places_rev (n : Nat) : Builtin.Slice.slicePlaces ((n : Int) - 1) (-1) (-1) = n := by
  unfold Builtin.Slice.slicePlaces
  have h1 : ¬ ((-1 : Int) > 0) := by omega
  simp only [h1, if_false]
  rw [show -(-1 : Int) = 1 from rfl, Int.ediv_one]
  split <;> omega
theorem fm_congr {α β : Type} {f g : α → Option β} : ∀ {l : List α}, (∀ x ∈ l, f x = g x) → l.filterMap f = l.filterMap g
  | [], _ => rfl
  | x :: l, h => by
    rw [List.filterMap_cons, List.filterMap_cons, h x List.mem_cons_self, fm_congr fun y hy => h y (List.mem_cons_of_mem _ hy)]
theorem pick_key {α : Type} : ∀ l : List α, (List.range l.length).filterMap (fun (m : Nat) => l.reverse[m]?) = l.reverse := by
  intro l
  have : ∀ r : List α, (List.range r.length).filterMap (fun (m : Nat) => r[m]?) = r := by
    intro r
    induction r with
    | nil => rfl
    | cons x r ih =>
      rw [List.length_cons, List.range_succ_eq_map, List.filterMap_cons]
      simp only [List.getElem?_cons_zero, List.filterMap_map]
      rw [show ((fun m => (x :: r)[m]?) ∘ Nat.succ) = fun m => r[m]? from rfl, ih]
  have h := this l.reverse
  rwa [List.length_reverse] at h
theorem pick_rev {α : Type} (xs : Array α) : ((List.range xs.size).filterMap fun (m : Nat) => xs[(((xs.size : Int) - 1) + (m : Int) * (-1)).toNat]?) = xs.toList.reverse := by
  rw [← pick_key, Array.length_toList]
  refine fm_congr fun m hm => ?_
  have hm := List.mem_range.mp hm
  rw [List.getElem?_reverse (by simpa using hm), Array.length_toList, show (((xs.size : Int) - 1) + (m : Int) * (-1)).toNat = xs.size - 1 - m by omega, Array.getElem?_toList]
section
variable {prog : Program} {w : World} {A : Around} {E : Value → Shared → Prop} {s : Shared}
theorem sliceApplied_rev {sl : Addr} {t : Tok} {vl vu vs : Value} {n : Nat} {Q : Int × Int × Nat → Shared → Prop} (hs : s.heap.IsSliceOf sl vl vu vs) (pl : IsPart vl none) (pu : IsPart vu none) (ps : IsPart vs (some (-1)))
    (h : Q ((n : Int) - 1, -1, n) s) : wpAny (model prog w) A (Builtin.Slice.sliceApplied (.ref sl) (pure (n : Int))) Q E s := by
  obtain ⟨os, hos, hcs, hds⟩ := id hs
  unfold Builtin.Slice.sliceApplied Builtin.Slice.sliceFields
  refine wpAny_bind (wpAny_bind (wpAny_field hos hds (x := vl) rfl (wpAny_bind (wpAny_field hos hds (x := vu) rfl (wpAny_bind (wpAny_field hos hds (x := vs) rfl (wpAny_pure ?_)))))))
  refine wpAny_bind (HT.slicePart_ ps ?_)
  show wpAny _ _ (if ((-1 : Int) == 0) = true then _ else _) _ _ s
  rw [if_neg (by decide)]
  refine wpAny_bind (HT.slicePart_ pl (wpAny_bind (HT.slicePart_ pu (wpAny_bind (wpAny_pure ?_)))))
  show wpAny _ _ (match Builtin.Slice.sliceAdjust none none (-1) (n : Int) with | (lo, hi) => pure (lo, (-1 : Int), Builtin.Slice.slicePlaces lo hi (-1))) _ _ s
  rw [adjust_rev n]
  show wpAny _ _ (pure ((n : Int) - 1, (-1 : Int), Builtin.Slice.slicePlaces ((n : Int) - 1) (-1) (-1))) _ _ s
  rw [places_rev]
  exact wpAny_pure h
theorem getItem_tuple_rev {t sl : Addr} {items : Array Value} {vl vu vs : Value} {Q : Value → Shared → Prop} (ht : IsTup s.heap t items) (hs : s.heap.IsSliceOf sl vl vu vs) (pl : IsPart vl none) (pu : IsPart vu none) (ps : IsPart vs (some (-1)))
    (h : Q (.ref s.heap.objs.size) { s with heap := s.heap.push { cls := .type "tuple", data := .seq items.toList.reverse.toArray } })
    (hsz : items.size ≤ sizeLine) : wpAny (model prog w) A (getItem (.ref t) (.ref sl)) Q E s := by
  have htake : sizeOk (.seq items.toList.reverse.toArray) := by
    show items.toList.reverse.toArray.size ≤ sizeLine
    simpa using hsz
  obtain ⟨os, hos, hcs, hds⟩ := id hs
  have hTs : s.TypeIs (.ref sl) "slice" := ⟨os, hos, hcs⟩
  unfold getItem
  try with_reducible refine wpAny_holding ?_
  first | refine wpAny_bind (wpAny_pure ?_) | skip
  refine wpAny_bind (wpAny_sequenceKey ht.typeIs (by decide) ?_)
  refine wpAny_bind (wpAny_callSpecial?_slot (name := Str.ofString "__getitem__") ht.typeIs PyProof.Rows.slot_tuple_getitem
    (wpAny_call_entry PyProof.Rows.slot_tuple_getitem ht.typeIs PyProof.Rows.entry_tuple_getitem ?_ (PyProof.Rows.args_tuple_getitem _ _)))
  show wpAny _ _ (Builtin.Tuple.tupleItemsOf (.ref t) >>= _) _ _ s
  refine wpAny_bind (tupleItemsOf_ ht ?_)
  refine wpAny_bind (wpAny_typeOf hTs ?_)
  rw [if_pos (by decide)]
  refine wpAny_bind (sliceApplied_rev (t := 0) hs pl pu ps ?_)
  have hno : ¬ ((((items.size : Int) - 1) == 0 && (-1 : Int) == 1 && items.size == items.size) = true) := by
    intro q
    rw [Bool.and_eq_true, Bool.and_eq_true] at q
    exact absurd q.1.2 (by decide)
  show wpAny _ _ (if (((items.size : Int) - 1) == 0 && (-1 : Int) == 1 && items.size == items.size) = true then _ else _) _ _ s
  rw [if_neg hno, pick_rev]
  first
    | exact wpAny_bind (m := Builtin.Tuple.tupleExact _) (wpAny_newObj_type (wpAny_pure ⟨_, rfl, wpAny_pure h⟩) htake)
    | exact wpAny_bind (m := Builtin.Tuple.tupleExact _) (wpAny_newObj_type (wpAny_bind (wpAny_pure (wpAny_pure ⟨_, rfl, wpAny_pure h⟩))) htake)
    | exact wpAny_bind (wpAny_bind (m := Builtin.Tuple.tupleExact _) (wpAny_newObj_type (wpAny_pure (wpAny_pure ⟨_, rfl, wpAny_pure h⟩)) htake))
    | exact wpAny_bind (wpAny_bind (m := Builtin.Tuple.tupleExact _) (wpAny_newObj_type (wpAny_pure ⟨_, rfl, wpAny_pure h⟩) htake))
end
/-- e[::-1] of a list, of a tuple -/
def tRevT (K : PySem.W.Frag) (te : TE) : TE := fun σ H Q => te σ H fun x H1 => (∃ a xs, x = .ref a ∧ SqL K H1 a xs ∧ ∀ p, H1 p = none → Q (.ref p) (upd H1 p (.lst xs.reverse))) ∨
  (∃ a xs, x = .ref a ∧ SqT K H1 a xs ∧ ∀ p, H1 p = none → Q (.ref p) (upd H1 p (.tup xs.reverse)))
theorem pe_revT {X : Cx} {e : Expr} {te : TE} {k : Nat} {p1 p2 p3 pos : Pos} (he : PE X e te) : PE X (.Subscript e (.Slice none none (some (.UnaryOp .USub (.Constant (.int 1) k p1) p2)) p3) pos) (tRevT X.K te) := by
  refine ⟨fun pins s σ H Q I h => ?_⟩
  refine Subscript_ (thn (he.run pins s σ H _ I h) fun v s1 ⟨x, H1, I1, r1, q1⟩ => ?_)
  obtain ⟨a, ex⟩ : ∃ a, x = .ref a := by
    rcases q1 with ⟨a, xs, ex, _⟩ | ⟨a, xs, ex, _⟩ <;> exact ⟨a, ex⟩
  subst ex
  cases r1
  have hst : PO X (some (.UnaryOp .USub (.Constant (.int 1) k p1) p2)) (tPart (tUn (rU fun i => .int (-i)) (tC (.int 1)))) := po_some (pe_un un_neg pe_int)
  refine wpAny_Slice (thn (po_none.run pins s1 σ H1 (fun o H2 => o = none ∧ H2 = H1) I1 ⟨rfl, rfl⟩) fun vl s2 ⟨l, H2, I2, pl, el, e2⟩ => ?_)
  subst el e2
  refine thn (po_none.run pins s2 σ H2 (fun o H3 => o = none ∧ H3 = H2) I2 ⟨rfl, rfl⟩) fun vu s3 ⟨u, H3, I3, pu, eu, e3⟩ => ?_
  subst eu e3
  refine thn (hst.run pins s3 σ H3 (fun o H4 => o = some (-1) ∧ H4 = H3) I3 ⟨1, rfl, -1, rfl, rfl, rfl⟩) fun vs s4 ⟨o, H4, I4, ps, eo, e4⟩ => ?_
  subst eo e4
  have I5 : Inv X pins σ H4 { s4 with heap := s4.heap.push { cls := .type "slice", data := .fields #[vl, vu, vs] } } := I4.kept (t' := s4.toks) fun b ob q => Heap.get?_push_of_some _ q
  show wpAny (model X.prog X.w) X.A (subscriptTail e (.Slice none none (some (.UnaryOp .USub (.Constant (.int 1) k p1) p2)) p3) (.ref a) (.ref s4.heap.objs.size)) (EP X pins σ Q) X.xe { s4 with heap := s4.heap.push { cls := .type "slice", data := .fields #[vl, vu, vs] } }
  rcases q1 with ⟨a', xs, ex, hx, q⟩ | ⟨a', xs, ex, hx, q⟩
  · cases ex
    obtain ⟨its, r, ht, hz⟩ := I5.list hx
    have hlen := r.length
    refine tail_any (ops := [.ref a, .ref s4.heap.objs.size]) ht.isList.typeIs (PySem.slot_list_getitem.lookup) ?_ (by with_unfolding_all rfl)
    refine wpAny_getItem_list_slice ht.isList (Heap.IsSliceOf.new _ vl vu vs) pl pu ps (by decide) ?_ (by rw [List.size_toArray]; omega)
    rw [PySem.W.krv_pick]
    refine ⟨.ref _, _, I5.laid (t' := s4.toks) (o := .lst xs.reverse) (fun b ob q => Heap.get?_push_of_some _ q) (Nat.le_refl _) ?_, rfl, q _ (I5.hok.fresh (Nat.le_refl _))⟩
    exact ⟨by rw [List.length_reverse]; exact hz, _, 0, r.reverse, Heap.get?_push_size _ rfl⟩
  · cases ex
    obtain ⟨its, r, ht, hz⟩ := I5.tuple hx
    have hlen := r.length
    refine tail_any (ops := [.ref a, .ref s4.heap.objs.size]) ht.typeIs (PyProof.Rows.slot_tuple_getitem.lookup) ?_ (by with_unfolding_all rfl)
    refine getItem_tuple_rev ht (Heap.IsSliceOf.new _ vl vu vs) pl pu ps ?_ (by rw [List.size_toArray]; omega)
    refine ⟨.ref _, _, I5.laid (t' := s4.toks) (o := .tup xs.reverse) (fun b ob q => Heap.get?_push_of_some _ q) (Nat.le_refl _) ?_, rfl, q _ (I5.hok.fresh (Nat.le_refl _))⟩
    exact ⟨by rw [List.length_reverse]; exact hz, _, r.reverse, IsTup.new _ _⟩
end N9

set_option Elab.async false
set_option linter.all false
set_option maxRecDepth 100000
namespace N9
open PySem PySem.Spec L2 PyProof.Rows

/-! ## a dict with tuples as keys is walked: it stands locked as long -/
section
variable {X : Cx} {pins : List (Addr × Obj)} {σ : L2.St} {H : Hp} {s : Shared} {d : Addr} {o : Obj} {ys : YS}
theorem ents_at : ∀ {ys : YS} {xs : XS}, Prel ys xs → ∀ {i : Nat} {y : TK × Addr × V}, ys[i]? = some y → ∃ x, xs[i]? = some x ∧ x.2.1 = y.2.1 ∧ RelV y.2.2 x.2.2
  | _, _, .nil, i, y, h => by simp at h
  | _, _, .cons h t, 0, y, e => by simp at e; subst e; exact ⟨_, rfl, h.2.1, h.2.2⟩
  | _, _, .cons h t, i + 1, y, e => by simp at e; obtain ⟨x, h1, h2⟩ := ents_at t e; exact ⟨x, by simpa using h1, h2⟩
theorem frz_dt (I : Inv X pins σ H s) (h : H d = some (.frz o (.ext (dtPhi X.prog X.w d ys)))) :
    (d == sysModules) = false ∧ s.heap.get? d = some o ∧ o.ExactDict ∧ ys.length ≤ sizeLine ∧ ∃ (es : Array DictEntry) (ep : Nat), o.data = .dict es ep ∧ es.size = ys.length ∧
      ∀ (i : Nat) (y : TK × Addr × V), ys[i]? = some y → ∃ en : DictEntry, es[i]? = some en ∧ en.key = .ref y.2.1 ∧ RelV y.2.2 en.val := by
  obtain ⟨hd, ⟨z, hs, nd, xs, o', es, ep, rel, ho, hx, hdt, he⟩, _⟩ := I.hok d _ h
  rw [hd] at ho
  cases ho
  refine ⟨hs, hd, hx, z, es, ep, hdt, ?_, fun i y e => ?_⟩
  · have l1 : es.size = xs.length := by rw [← Array.length_toList, he, List.length_map]
    have l2 : ys.length = xs.length := Paired.length rel
    omega
  · obtain ⟨x, hb, e1, e2⟩ := ents_at rel e
    have q : es[i]? = some (entryOfKey (tupleKind (mixKind X.prog X.w)) x) := by
      rw [← Array.getElem?_toList, he, List.getElem?_map, hb]; rfl
    exact ⟨_, q, by rw [← e1]; rfl, e2⟩
end
/-- the keys of the locked dict at d -/
def Ity (φ : Addr → YS → Heap → Prop) (d : Addr) (o : Obj) (ys : YS) : It :=
  ⟨fun i H => H d = some (.frz o (.ext (φ d ys))) ∧ i < ys.length, fun i H x H' => H' = H ∧ ∃ y, ys[i]? = some y ∧ x = .ref y.2.1, fun i H => H d = some (.frz o (.ext (φ d ys))) ∧ ys.length ≤ i⟩
theorem turn_ity {P : Program} {w : World} {K : PySem.W.Frag} {tg : Expr} {d : Addr} {o : Obj} {es : Array DictEntry} {ep : Nat} {ys : YS} (it : Addr) (hod : o.data = .dict es ep) : Turn P w K tg (Ity (dtPhi P w) d o ys) [it] it (fun i h => h.IsKeyIter it d i ys.length ep) where
  mem := by simp
  obj := fun i h st b hb => by
    have e : b = it := by simpa using hb
    subst e
    obtain ⟨oi, e, c, dd⟩ := st
    exact ⟨oi, e, fun v z => by rw [dd] at z; cases z⟩
  keep := fun i h h' st k => st.at fun oi e => k it (by simp) oi e
  item := by
    intro X hP hw hK hc i pins s σ H E I hf st hg
    subst hP hw hK
    obtain ⟨hd, hi⟩ := hg
    obtain ⟨f0, f1, f2, f3, f4, f5⟩ := hf it (by simp)
    obtain ⟨hs, hgd, hx, _, es', ep', hdt, hsz, ent⟩ := frz_dt I hd
    obtain ⟨rfl, rfl⟩ := dict_ep hod hdt
    obtain ⟨y, hy⟩ : ∃ p, ys[i]? = some p := ⟨ys[i], List.getElem?_eq_getElem hi⟩
    obtain ⟨en, hen, hkey, _⟩ := ent i y hy
    refine next_key_item st hgd hdt hsz hen fun h' st' sb => ?_
    have I1 : Inv X pins σ H { s with heap := h' } := I.turned (t' := s.toks) (fun b ob hb e => (sb.2 b hb).trans e) f0 f1 f3 f4 f5
    obtain ⟨oi, e, c, dd⟩ := id st'
    exact ⟨en.key, rfl, go_of (s := { s with heap := h' }) e c dd (by decide) ⟨.ref y.2.1, H, I1, hkey, ⟨rfl, y, hy, rfl⟩, st', fun b hb => (hf b hb).1⟩⟩
  done := by
    intro X hP hw hK hc i pins s σ H E I hf st hg
    subst hP hw hK
    obtain ⟨hd, hi⟩ := hg
    obtain ⟨f0, f1, f2, f3, f4, f5⟩ := hf it (by simp)
    obtain ⟨hs, hgd, hx, _, es', ep', hdt, hsz, ent⟩ := frz_dt I hd
    obtain ⟨rfl, rfl⟩ := dict_ep hod hdt
    exact next_key_end (I.ok.hd hc) st hgd hdt hsz hi fun h' eb => ⟨rfl, I.turned (t' := s.toks) (fun b ob hb e => eb b ob hb e) f0 f1 f3 f4 f5⟩
  self := fun A i s Q E st h => by
    refine wpAny_pyIter_slot st.typeIs F.slot_dict_keyiterator_iter (wpAny_call_entry F.slot_dict_keyiterator_iter st.typeIs F.entry_dict_keyiterator_iter ?_ (F.args_dict_keyiterator_iter_1 _))
    show wpAny _ _ (ret (.ref it)) _ _ s
    exact wpAny_pure ⟨_, rfl, "dict_keyiterator", _, st.typeIs, F.slot_dict_keyiterator_next.lookup, h⟩
/-- the frozen dict, walked -/
theorem iter_ity {X : Cx} {pins : List (Addr × Obj)} {σ : L2.St} {H : Hp} {s : Shared} {d : Addr} {o : Obj} {ys : YS} {tg : Expr} {R : It → Hp → Prop} {E : Value → Shared → Prop} (I : Inv X pins σ H s) (h : H d = some (.frz o (.ext (dtPhi X.prog X.w d ys)))) (q : R (Ity (dtPhi X.prog X.w) d o ys) H) :
    wpAny (model X.prog X.w) X.A (pyIter (.ref d)) (PIE X pins σ tg R) E s := by
  obtain ⟨hs, hgd, hx, _, es, ep, hdt, hsz, ent⟩ := frz_dt I h
  refine iter_keys hs hgd hx hdt (pi_one (tk := s.toks) I _ (turn_ity _ hdt) ⟨_, Heap.get?_push_size _ rfl, rfl, ?_⟩ q)
  rw [hsz] <;> rfl
end N9

set_option Elab.async false
set_option linter.all false
set_option maxRecDepth 100000
set_option maxHeartbeats 4000000
namespace N9
open PySem PySem.Spec L2 PyProof.Rows HT TS

/-! ## sorted lists of tuples of ints of any lengths -/
theorem lexLt_swo {α : Type} (k : α → List Int) : SrtO.Swo fun v u => HT.lexLt (k v) (k u) := by
  have asym : ∀ x y : List Int, HT.lexLt x y = true → HT.lexLt y x = false := by
    intro x
    induction x with
    | nil => intro y _; cases y <;> rfl
    | cons a x ih =>
      intro y h
      cases y with
      | nil => exact absurd h (by simp [HT.lexLt])
      | cons b y =>
        rw [lexLt_cons] at h ⊢
        by_cases e : a = b
        · subst e; rw [if_pos rfl] at h ⊢; exact ih y h
        · rw [if_neg e, decide_eq_true_eq] at h; rw [if_neg (Ne.symm e)]; exact decide_eq_false (by omega)
  have tr : ∀ x y z : List Int, HT.lexLt y x = false → HT.lexLt z y = false → HT.lexLt z x = false := by
    intro x
    induction x with
    | nil => intro y z _ _; cases z <;> rfl
    | cons a x ih =>
      intro y z h1 h2
      cases y with
      | nil => exact absurd h1 (by simp [HT.lexLt])
      | cons b y =>
        cases z with
        | nil => exact absurd h2 (by simp [HT.lexLt])
        | cons c z =>
          rw [lexLt_cons] at h1 h2 ⊢
          by_cases e : b = a
          · subst e
            rw [if_pos rfl] at h1
            by_cases e2 : c = b
            · subst e2; rw [if_pos rfl] at h2 ⊢; exact ih y z h1 h2
            · rw [if_neg e2] at h2 ⊢; exact h2
          · rw [if_neg e, decide_eq_false_iff_not] at h1
            by_cases e2 : c = b
            · subst e2; rw [if_neg e]; exact decide_eq_false h1
            · rw [if_neg e2, decide_eq_false_iff_not] at h2
              rw [if_neg (by omega)]; exact decide_eq_false (by omega)
  exact ⟨fun x y h => asym _ _ h, fun x y z h1 h2 => tr _ _ _ h1 h2⟩
theorem lexLt_tri : ∀ {x y : List Int}, HT.lexLt x y = false → HT.lexLt y x = false → x = y
  | [], [], _, _ => rfl
  | [], _ :: _, h, _ => absurd h (by simp [HT.lexLt])
  | _ :: _, [], _, h => absurd h (by simp [HT.lexLt])
  | a :: x, b :: y, h1, h2 => by
    rw [lexLt_cons] at h1 h2
    by_cases e : a = b
    · subst e
      rw [if_pos rfl] at h1 h2
      rw [lexLt_tri h1 h2]
    · rw [if_neg e, decide_eq_false_iff_not] at h1
      rw [if_neg (Ne.symm e), decide_eq_false_iff_not] at h2
      omega
section
variable {prog : Program} {w : World} {A : Around} {E : Value → Shared → Prop} {s : Shared}
theorem lex_tups {Q : Bool → Shared → Prop} {b : Bool} : ∀ {xs ys : List Value} {ns ms : List Int} (i : Nat), IntsAre xs ns → IntsAre ys ms → Q (HT.lexLt ns ms) s → PySem.W.KatLex prog w A b (decide (ns.length < ms.length)) Q (xs.zip ys) i s := by
  intro xs
  induction xs with
  | nil =>
    intro ys ns ms i hx hy h
    cases hx
    refine PySem.W.kat_nil ?_
    cases hy with
    | nil => exact h
    | cons => simpa [HT.lexLt] using h
  | cons x xs ih =>
    intro ys ns ms i hx hy h
    cases hx with
    | cons p t hx =>
    cases hy with
    | nil =>
      refine PySem.W.kat_nil ?_
      simpa [HT.lexLt] using h
    | cons q u hy =>
      rename_i ns ys ms
      show PySem.W.KatLex prog w A b _ Q ((Value.int p t, Value.int q u) :: xs.zip ys) i s
      refine PySem.W.kat_cons (wpAny_eqBool_int ?_)
      rw [lexLt_cons] at h
      by_cases e : p = q
      · subst e
        rw [beq_self_eq_true]
        rw [if_pos rfl] at h
        refine PySem.W.kat_yes ?_
        have := ih (i + 1) hx hy h
        simpa using this
      · rw [show (p == q) = false from beq_eq_false_iff_ne.mpr e]
        rw [if_neg e] at h
        exact PySem.W.kat_no (oneLt_ints _ h)
theorem tup_data {h : Heap} {v : Value} {ns : List Int} (x : TupInts h v ns) : ∃ (a : Addr) (o : Obj) (xs : Array Value) (n : Nat), v = .ref a ∧ h.get? a = some o ∧ o.cls = .type "tuple" ∧ o.data = .seq xs n ∧ IntsAre xs.toList ns ∧ IsTup h a xs := by
  obtain ⟨a, xs, e, ⟨o, ho, hc, n, hd⟩, i⟩ := x
  exact ⟨a, o, xs, n, e, ho, hc, hd, i, ⟨o, ho, hc, n, hd⟩⟩
theorem cmp_tups {vs : List Value} {k : Value → List Int} {b : Bool} (hv : ∀ v ∈ vs, TupInts s.heap v (k v)) : SrtO.Cmp prog w A s (tuples' b) (fun p => p.1 ∈ vs) (SrtO.lt2 fun v u => HT.lexLt (k v) (k u)) := by
  intro p q hp hq
  obtain ⟨a, o, xs, n, e, ho, hc, hd, i, _⟩ := tup_data (hv _ hp)
  obtain ⟨a', o', xs', n', e', ho', hc', hd', i', _⟩ := tup_data (hv _ hq)
  show wpAny (model prog w) A (keyLt' (tuples' b) p.1 q.1) (fun r s' => s' = s ∧ r = HT.lexLt (k p.1) (k q.1)) (fun _ _ => False) s
  rw [show k p.1 = k p.1 from rfl]
  generalize k p.1 = x at *
  generalize k q.1 = y at *
  rw [e, e']
  refine PySem.W.kat_lt ho hd ho' hd' ?_
  have l1 := i.length
  have l2 := i'.length
  have := lex_tups (prog := prog) (w := w) (A := A) (s := s) (b := b) (Q := fun r s' => s' = s ∧ r = HT.lexLt x y) 0 i i' ⟨rfl, rfl⟩
  rwa [← l1, ← l2, Array.length_toList, Array.length_toList] at this
theorem cmp_gen {vs : List Value} {k : Value → List Int} (hu : A.units < cLine) (hv : ∀ v ∈ vs, TupInts s.heap v (k v)) : SrtO.Cmp prog w A s general' (fun p => p.1 ∈ vs) (SrtO.lt2 fun v u => HT.lexLt (k v) (k u)) := by
  intro p q hp hq
  obtain ⟨a, o, xs, n, e, ho, hc, hd, i, t⟩ := tup_data (hv _ hp)
  obtain ⟨a', o', xs', n', e', ho', hc', hd', i', t'⟩ := tup_data (hv _ hq)
  show wpAny (model prog w) A (keyLt' general' p.1 q.1) (fun r s' => s' = s ∧ r = HT.lexLt (k p.1) (k q.1)) (fun _ _ => False) s
  rw [e, e']
  show wpAny (model prog w) A (oneLt' false (.ref a) (.ref a')) _ _ s
  refine PySem.W.kat_one _ _ ?_
  refine lt_tupInts t t' i i' hu ?_
  rw [← e, ← e']
  exact ⟨rfl, rfl⟩
theorem cmp_one {vs : List Value} {k : Value → List Int} (hu : A.units < cLine) (hv : ∀ v ∈ vs, TupInts s.heap v (k v)) : SrtO.Cmp prog w A s oneType' (fun p => p.1 ∈ vs) (SrtO.lt2 fun v u => HT.lexLt (k v) (k u)) := by
  intro p q hp hq
  obtain ⟨a, o, xs, n, e, ho, hc, hd, i, t⟩ := tup_data (hv _ hp)
  obtain ⟨a', o', xs', n', e', ho', hc', hd', i', t'⟩ := tup_data (hv _ hq)
  show wpAny (model prog w) A (keyLt' oneType' p.1 q.1) (fun r s' => s' = s ∧ r = HT.lexLt (k p.1) (k q.1)) (fun _ _ => False) s
  rw [keyLt'_oneType, oneLt'_eq]
  simp only [if_true]
  rw [e, e']
  refine wpAny_bind (wpAny_cRoomFor hu ?_)
  refine wpAny_bind (wpAny_callSpecialIfBound?_slot (T := "tuple") ⟨_, ho, hc⟩ PySem.F.slot_tuple_lt ?_)
  obtain ⟨cls, dd, data, sl⟩ := o
  obtain ⟨cls2, dd2, data2, sl2⟩ := o'
  simp only at hc hd hc' hd'
  subst hc hd hc' hd'
  refine call_meets PySem.F.slot_tuple_lt ⟨_, ho, rfl⟩ PySem.F.entry_tuple_lt (PySem.F.args_tuple_lt_2 _ _) (tuple_lt_ints a a' xs xs' n n' dd dd2 sl sl2 _ _ i i') ⟨ho, ho', ?_⟩
  refine wpAny_truthy_bool ?_
  rw [← e, ← e']
  exact ⟨rfl, rfl⟩
/-- the first items of tuples of ints -/
def fstO (ns : List Int) : Bool := !ns.isEmpty
theorem firsts_tups : ∀ {vs : List Value} {k : Value → List Int} {Q : List (Option Value) → Shared → Prop}, (∀ v ∈ vs, TupInts s.heap v (k v)) →
    (∀ fs : List (Option Value), fs.map Option.isSome = vs.map (fun v => fstO (k v)) → (∀ f ∈ fs, ∀ x, f = some x → ∃ i t, x = .int i t) → Q fs s) → wpAny (model prog w) A (vs.mapM firstOfTuple') Q E s
  | [], k, Q, _, h => by rw [List.mapM_nil]; exact wpAny_pure (h [] rfl (by simp))
  | v :: vs, k, Q, hv, h => by
    obtain ⟨a, o, xs, n, e, ho, hc, hd, i, _⟩ := tup_data (hv v List.mem_cons_self)
    rw [List.mapM_cons]
    refine wpAny_bind ?_
    rw [PySem.W.kas_first_eq]
    rw [e]
    refine wpAny_bind (PySem.W.Looks.here (show PySem.W.Looks (model prog w) s.heap (typeOf (.ref a)) o.cls from (PySem.W.Looks.ld ho).andThen .now) ?_)
    rw [hc, if_neg (by first | decide | simp)]
    refine wpAny_bind (listItems_at ho hd (wpAny_pure ?_))
    refine wpAny_bind (firsts_tups (fun u hu => hv u (List.mem_cons_of_mem _ hu)) fun fs h1 h2 => wpAny_pure (h _ ?_ ?_))
    · rw [List.map_cons, List.map_cons, h1]
      congr 1
      have : xs[0]? = xs.toList[0]? := by rw [Array.getElem?_toList]
      rw [this]
      rw [e] at i
      cases hk : k (.ref a) with
      | nil =>
        rw [hk] at i
        generalize xs.toList = l at i ⊢
        cases i
        rw [e, hk]; rfl
      | cons y ys =>
        rw [hk] at i
        generalize xs.toList = l at i ⊢
        cases i
        rw [e, hk]; rfl
    · intro f hf x hx
      rcases List.mem_cons.mp hf with rfl | hf
      · have : xs[0]? = xs.toList[0]? := by rw [Array.getElem?_toList]
        rw [this] at hx
        generalize xs.toList = l at i hx
        generalize k v = kk at i
        cases i with
        | nil => simp at hx
        | cons i t _ => simp at hx; exact ⟨i, t, hx.symm⟩
      · exact h2 f hf x hx
theorem type_tup {v : Value} {ns : List Int} (x : TupInts s.heap v ns) : PySem.W.Looks (model prog w) s.heap (typeOf v) (.type "tuple") := by
  obtain ⟨a, o, xs, n, rfl, ho, hc, hd, i, _⟩ := tup_data x
  rw [← hc]
  exact (PySem.W.Looks.ld ho).andThen .now
/-- the kind of a list of tuples of ints, and how it compares -/
theorem kind_tups {vs : List Value} {k : Value → List Int} {Q : SortKind → Shared → Prop} (h2 : 0 < vs.length) (hv : ∀ v ∈ vs, TupInts s.heap v (k v)) (h : (vs.all fun v => fstO (k v)) = true → Q (tuples' true) s) (h3 : (vs.all fun v => fstO (k v)) = false → (vs.head?.map fun v => fstO (k v)) = some true → Q general' s) (h4 : (vs.all fun v => fstO (k v)) = false → (vs.head?.map fun v => fstO (k v)) = some false → Q oneType' s) :
    wpAny (model prog w) A (keyKind' vs.toArray) Q E s := by
  rw [kat_kind_eq, List.mapM_toArray, map_eq_pure_bind]
  refine wpAny_bind (wpAny_bind (firsts_tups hv fun fs e1 e2 => wpAny_pure ?_))
  have hall : (fs.toArray.all fun x => x.isSome) = (vs.all fun v => fstO (k v)) := by
    rw [List.all_toArray]
    have := congrArg (fun l => l.all id) e1
    simpa [List.all_map, Function.comp_def] using this
  have hlen : fs.length = vs.length := by simpa using congrArg List.length e1
  rw [hall]
  cases hb : vs.all fun v => fstO (k v) with
  | true =>
    rw [if_pos rfl]
    refine wpAny_bind (wpAny_rule ?_)
    have hsome : ∀ f ∈ fs, f.isSome = true := by
      intro f hf
      have : f.isSome ∈ fs.map Option.isSome := List.mem_map.mpr ⟨f, hf, rfl⟩
      rw [e1] at this
      obtain ⟨v, hv, e⟩ := List.mem_map.mp this
      rw [← e]
      exact List.all_eq_true.mp hb v hv
    obtain ⟨gs, rfl⟩ : ∃ gs : List Value, fs = gs.map some := by
      clear e1 hall hlen e2
      induction fs with
      | nil => exact ⟨[], rfl⟩
      | cons f fs ih =>
        obtain ⟨gs, rfl⟩ := ih fun g hg => hsome g (List.mem_cons_of_mem _ hg)
        obtain ⟨g, rfl⟩ := Option.isSome_iff_exists.mp (hsome f List.mem_cons_self)
        exact ⟨g :: gs, rfl⟩
    have hfm : ((gs.map some).toArray.filterMap id) = gs.toArray := by simp
    rw [hfm, oneTypeOnly'_eq, List.mapM_toArray, map_eq_pure_bind]
    refine wpAny_bind (wpAny_bind (wpAny_bind (PySem.W.kas_mapM (r := Value.type "int") _ (fun v hv Q' hq => ?_) (wpAny_pure ?_))))
    · obtain ⟨i, t, rfl⟩ := e2 (some v) (List.mem_map.mpr ⟨v, hv, rfl⟩) v rfl
      exact (PySem.W.Looks.now (M := model prog w) (h := s.heap)).here hq
    · have hne : 0 < gs.length := by rw [List.length_map] at hlen; omega
      obtain ⟨g, gr, rfl⟩ : ∃ f₁ fr, gs = f₁ :: fr := by
        match gs, hne with
        | f₁ :: fr, _ => exact ⟨f₁, fr, rfl⟩
      have hall2 : ((List.map (fun _ => Value.type "int") (g :: gr)).toArray.all fun x => x == Value.type "int") = true := by
        simp only [List.all_toArray, List.all_map, List.all_eq_true]
        intro _ _
        rfl
      have h0 : (List.map (fun _ => Value.type "int") (g :: gr)).toArray[0]? = some (Value.type "int") := by simp
      rw [h0]
      simp only [hall2, if_true]
      refine wpAny_pure (wpAny_pure ?_)
      have e : (Option.any (fun x => x != Value.type "tuple") (some (Value.type "int"))) = true := by rfl
      rw [e]
      exact h hb
  | false =>
    rw [if_neg (by simp)]
    obtain ⟨v, vr, rfl⟩ : ∃ f₁ fr, vs = f₁ :: fr := by
      match vs, h2 with
      | f₁ :: fr, _ => exact ⟨f₁, fr, rfl⟩
    obtain ⟨f, fr, rfl⟩ : ∃ f₁ fr, fs = f₁ :: fr := by
      match fs, hlen with
      | f₁ :: fr, _ => exact ⟨f₁, fr, rfl⟩
    rw [List.map_cons, List.map_cons, List.cons.injEq] at e1
    have hf : ((f :: fr).toArray[0]?.bind id).isSome = fstO (k v) := by
      rw [← e1.1]; simp
    rw [hf]
    cases hk : fstO (k v) with
    | true =>
      rw [if_pos rfl]
      exact wpAny_pure (h3 hb (by simp [hk]))
    | false =>
      rw [if_neg (by simp)]
      rw [oneTypeOnly'_eq, List.mapM_toArray, map_eq_pure_bind]
      refine wpAny_bind (wpAny_bind (wpAny_bind (PySem.W.kas_mapM (r := Value.type "tuple") _ (fun u hu Q' hq => (type_tup (hv u hu)).here hq) (wpAny_pure ?_))))
      have hall2 : ((List.map (fun _ => Value.type "tuple") (v :: vr)).toArray.all fun x => x == Value.type "tuple") = true := by
        simp only [List.all_toArray, List.all_map, List.all_eq_true]
        intro _ _
        rfl
      have h0 : (List.map (fun _ => Value.type "tuple") (v :: vr)).toArray[0]? = some (Value.type "tuple") := by simp
      rw [h0]
      simp only [hall2, if_true]
      exact wpAny_pure (wpAny_pure (h4 hb (by simp [hk])))
theorem tups_sortable {a : Addr} {vs : List Value} {k : Value → List Int} (h0 : 0 < vs.length) (hu : A.units < cLine) (hp : ∀ v ∈ vs, TupInts s.heap v (k v)) (ha : ∀ o, s.heap.get? a = some o → o.cls ≠ .type "tuple") : SrtO.SortableO prog w A s a vs fun v u => HT.lexLt (k v) (k u) := by
  intro h' keep
  have hp' : ∀ v ∈ vs, TupInts h' v (k v) := fun v hm => (hp v hm).keeps fun b o e c => keep b o (fun z => by subst z; exact ha o e c) e
  cases h1 : vs.all fun v => fstO (k v) with
  | true => exact ⟨tuples' true, fun Q E hq => kind_tups h0 hp' (fun _ => hq) (fun z => by rw [h1] at z; cases z) (fun z => by rw [h1] at z; cases z), cmp_tups hp'⟩
  | false =>
    cases h2 : vs.head?.map fun v => fstO (k v) with
    | none =>
      cases vs with
      | nil => simp at h0
      | cons => simp at h2
    | some b =>
      cases b with
      | true => exact ⟨general', fun Q E hq => kind_tups h0 hp' (fun z => by rw [h1] at z; cases z) (fun _ _ => hq) (fun _ z => by rw [h2] at z; cases z), cmp_gen hu hp'⟩
      | false => exact ⟨oneType', fun Q E hq => kind_tups h0 hp' (fun z => by rw [h1] at z; cases z) (fun _ z => by rw [h2] at z; cases z) (fun _ _ => hq), cmp_one hu hp'⟩
end
end N9

set_option Elab.async false
set_option linter.all false
set_option maxRecDepth 100000
set_option maxHeartbeats 4000000
namespace N9
open PySem PySem.Spec L2 PyProof.Rows HT TS

/-! ## sorted lists of pairs of an int and a tuple of ints -/
def PairIL (h : Heap) (v : Value) (ns : List Int) : Prop := ∃ (a : Int) (r : List Int) (p b : Addr) (o : Obj) (t : Tok) (n : Nat), ns = a :: r ∧ v = .ref p ∧ h.get? p = some o ∧ o.cls = .type "tuple" ∧ o.data = .seq #[.int a t, .ref b] n ∧ TupInts h (.ref b) r
theorem PairIL.keeps {h h' : Heap} {v : Value} {ns : List Int} (x : PairIL h v ns) (k : ∀ b o, h.get? b = some o → o.cls = .type "tuple" → h'.get? b = some o) : PairIL h' v ns := by
  obtain ⟨a, r, p, b, o, t, n, e, e2, ho, hc, hd, i⟩ := x
  exact ⟨a, r, p, b, o, t, n, e, e2, k _ _ ho hc, hc, hd, i.keeps k⟩
section
variable {prog : Program} {w : World} {A : Around} {E : Value → Shared → Prop} {s : Shared}
theorem tupKind_is {b : Addr} {r : List Int} (x : TupInts s.heap (.ref b) r) : (tupleKind (mixKind prog w)).is s.heap (r.map Sum.inl) b := by
  obtain ⟨a, xs, e, ⟨o, ho, hc, n, hd⟩, i⟩ := x
  cases e
  refine ⟨o, xs, n, ho, hc, hd, ?_⟩
  generalize xs.toList = l at i
  induction i with
  | nil => exact .nil
  | cons q t _ ih => exact .cons (by show Value.isInt q (.int q t) = true; simp [Value.isInt]) ih
theorem cmp_pairIL {vs : List Value} {k : Value → List Int} (hu : A.units + 1 < cLine) (hv : ∀ v ∈ vs, PairIL s.heap v (k v)) : SrtO.Cmp prog w A s (tuples' true) (fun p => p.1 ∈ vs) (SrtO.lt2 fun v u => HT.lexLt (k v) (k u)) := by
  intro p q hp hq
  obtain ⟨a, r, p1, b, o, t, n, e, e1, ho, hc, hd, i⟩ := hv _ hp
  obtain ⟨a', r', p1', b', o', t', n', e', e1', ho', hc', hd', i'⟩ := hv _ hq
  show wpAny (model prog w) A (keyLt' (tuples' true) p.1 q.1) (fun r s' => s' = s ∧ r = HT.lexLt (k p.1) (k q.1)) (fun _ _ => False) s
  rw [e, e', e1, e1', lexLt_cons]
  refine PySem.W.kat_lt ho hd ho' hd' ?_
  show PySem.W.KatLex prog w A true (decide (2 < 2)) _ [(.int a t, .int a' t'), (.ref b, .ref b')] 0 s
  refine PySem.W.kat_cons (wpAny_eqBool_int ?_)
  by_cases e : a = a'
  · subst e
    rw [beq_self_eq_true, if_pos rfl]
    refine PySem.W.kat_yes (PySem.W.kat_cons (wpAny_eqBool_tuple (by omega) (tupKind_is i) (tupKind_is i') ?_))
    refine PySem.W.kat_go (fun e1 => ?_) (fun e1 => ?_)
    · have er : r = r' := inl_inj (by simpa using e1)
      subst er
      exact PySem.W.kat_yes (PySem.W.kat_nil ⟨rfl, ((lexLt_swo (id : List Int → List Int)).refl r).symm⟩)
    · obtain ⟨c, xs, ec, tx, ix⟩ := i
      obtain ⟨c', xs', ec', tx', ix'⟩ := i'
      cases ec; cases ec'
      refine PySem.W.kat_no (PySem.W.kat_one _ _ ?_)
      exact lt_tupInts tx tx' ix ix' (by omega) ⟨rfl, rfl⟩
  · rw [show (a == a') = false from beq_eq_false_iff_ne.mpr e, if_neg e]
    exact PySem.W.kat_no (oneLt_ints _ ⟨rfl, rfl⟩)
theorem firsts_pairIL : ∀ {vs : List Value} {k : Value → List Int}, (∀ v ∈ vs, PairIL s.heap v (k v)) → ∃ fs : List Value, PySem.W.KatTups s.heap vs fs ∧ fs.length = vs.length ∧ ∀ f ∈ fs, ∃ i t, f = .int i t
  | [], _, _ => ⟨[], .nil, rfl, by simp⟩
  | v :: vs, k, hv => by
    obtain ⟨a, r, p, b, o, t, n, e, e1, ho, hc, hd, i⟩ := hv v List.mem_cons_self
    obtain ⟨fs, h1, h2, h3⟩ := firsts_pairIL (vs := vs) (k := k) fun u hu => hv u (List.mem_cons_of_mem _ hu)
    refine ⟨.int a t :: fs, ?_, by simp [h2], fun f hf => ?_⟩
    · rw [e1]
      exact .cons ho hc hd (by simp) h1
    · rcases List.mem_cons.mp hf with rfl | hf
      · exact ⟨_, _, rfl⟩
      · exact h3 f hf
theorem pairIL_sortable {a : Addr} {vs : List Value} {k : Value → List Int} (h0 : 0 < vs.length) (hu : A.units + 1 < cLine) (hp : ∀ v ∈ vs, PairIL s.heap v (k v)) (ha : ∀ o, s.heap.get? a = some o → o.cls ≠ .type "tuple") : SrtO.SortableO prog w A s a vs fun v u => HT.lexLt (k v) (k u) := by
  intro h' keep
  have hp' : ∀ v ∈ vs, PairIL h' v (k v) := fun v hm => (hp v hm).keeps fun b o e c => keep b o (fun z => by subst z; exact ha o e c) e
  obtain ⟨fs, h1, h2, h3⟩ := firsts_pairIL (s := { s with heap := h' }) hp'
  refine ⟨tuples' true, fun Q E hq => ?_, cmp_pairIL hu hp'⟩
  refine PySem.W.kat_kind (T := .type "int") h1 (by omega) (fun f hm => ?_) (by rfl) ?_
  · obtain ⟨x, t, rfl⟩ := h3 f hm
    exact PySem.W.Looks.now
  · have e : (Value.type "int" != Value.type "tuple") = true := by first | decide +kernel | rfl | decide
    rw [e]
    exact hq
/-- sorted(l), by keys of ints -/
theorem sorted_by {l : Addr} {vs : List Value} {k : Value → List Int} {Pr : Heap → Value → List Int → Prop} {Q : Value → Shared → Prop} (keep : ∀ {h h' : Heap} {v : Value} {ns : List Int}, Pr h v ns → (∀ b o, h.get? b = some o → o.cls = .type "tuple" → h'.get? b = some o) → Pr h' v ns)
    (srt : ∀ {s₂ : Shared} {a : Addr}, 0 < vs.length → (∀ v ∈ vs, Pr s₂.heap v (k v)) → (∀ o, s₂.heap.get? a = some o → o.cls ≠ .type "tuple") → SrtO.SortableO prog w A.in1.in1 s₂ a vs fun v u => HT.lexLt (k v) (k u))
    (hl : s.heap.IsList l vs.toArray) (hz : vs.length ≤ sizeLine) (hp : ∀ v ∈ vs, Pr s.heap v (k v))
    (h : ∀ (h' : Heap) (d : Addr) (out : List Value), SrtO.Srtd (fun v u => HT.lexLt (k v) (k u)) out → SrtO.Stb (fun v u => HT.lexLt (k v) (k u)) out vs → (∀ b o, s.heap.get? b = some o → h'.get? b = some o) → s.heap.objs.size ≤ d → (∃ n, h'.get? d = some (seqObj "list" out.toArray n)) → Q (.ref d) { s with heap := h' }) :
    wpAny (model prog w) A (call (.builtin "sorted") [.ref l]) Q E s := by
  refine SrtO.sorted_ord (lexLt_swo k) hl hz (fun h2 h₁ a ha kk => ?_) fun out hs hb => ?_
  · refine srt (s₂ := { s with heap := h₁ }) (by omega) (fun v hm => keep (hp v hm) fun b o e _ => (kk b o e).2) fun o e => ?_
    have e' : some o = some (seqObj "list" vs.toArray 0) := e.symm.trans ha
    cases e'
    intro c
    exact absurd (Value.type.inj c) (by decide)
  · exact h _ _ out hs hb (fun b o e => sortedAll_old e) (Nat.le_succ _) (sortedAll_at s.heap vs out.toArray)
end
end N9

set_option Elab.async false
set_option linter.all false
set_option maxRecDepth 100000
set_option maxHeartbeats 4000000
namespace N9
open PySem PySem.Spec L2 PyProof.Rows HT TS

/-! ## sorted, list of a dict: the rules -/
/-- items with a key of ints: tuples of ints; pairs of an int and a tuple of ints -/
def LotV (K : PySem.W.Frag) (H : Hp) (x : V) (ns : List Int) : Prop := ∃ t, x = .ref t ∧ SqT K H t (ns.map V.int)
def PairV (K : PySem.W.Frag) (H : Hp) (x : V) (ns : List Int) : Prop := ∃ t a r b, x = .ref t ∧ ns = a :: r ∧ SqT K H t [.int a, .ref b] ∧ SqT K H b (r.map V.int)
section
variable {X : Cx} {pins : List (Addr × Obj)} {σ : L2.St} {H : Hp} {s : Shared}
theorem tupI_of (I : Inv X pins σ H s) {t : Addr} {ns : List Int} (h : SqT X.K H t (ns.map V.int)) : TupInts s.heap (.ref t) ns := by
  obtain ⟨its, r, p, _⟩ := I.tuple h
  exact ⟨t, its.toArray, rfl, p, intsAre_of r⟩
theorem pairI_of (I : Inv X pins σ H s) {x : V} {ns : List Int} (h : PairV X.K H x ns) : ∃ t, x = .ref t ∧ PairIL s.heap (.ref t) ns := by
  obtain ⟨t, a, r, b, rfl, rfl, h1, h2⟩ := h
  obtain ⟨its, rv, ⟨o, ho, hc, n, hd⟩, _⟩ := I.tuple h1
  obtain ⟨u1, u2, rfl, r1, r2⟩ := vals2 rv
  obtain ⟨tk, rfl⟩ := r1
  cases r2
  exact ⟨t, rfl, a, r, t, b, o, tk, n, rfl, rfl, ho, hc, hd, tupI_of I h2⟩
def rSortBy (K : PySem.W.Frag) : List V → Hp → VK → Prop := fun vs H Q => ∃ (a : Addr) (xs : List V) (k : V → List Int), vs = [V.ref a] ∧ SqL K H a xs ∧ ((∀ x ∈ xs, LotV K H x (k x)) ∨ ∀ x ∈ xs, PairV K H x (k x)) ∧
  ∀ ys p, ys.Perm xs → ys.Pairwise (fun x y => HT.lexLt (k y) (k x) = false) → H p = none → Q (.ref p) (upd H p (.lst ys))
theorem cr_sortBy (hu : X.A.units + 64 < cLine) : CallR X (.builtin "sorted") (rSortBy X.K) := by
  intro pins s σ H vs us Q I r h
  obtain ⟨a, xs, k, rfl, hs, hx, q⟩ := h
  obtain ⟨its, rv, hl, hz⟩ := I.list hs
  obtain ⟨u, rfl, ru⟩ := vals1 r
  obtain rfl : u = Value.ref a := ru
  obtain ⟨e1, e2⟩ := refs_back rv fun x m => by
    rcases hx with hx | hx
    · obtain ⟨t, e, _⟩ := hx x m
      exact ⟨t, e⟩
    · obtain ⟨t, a, r, b, e, _⟩ := hx x m
      exact ⟨t, e⟩
  have fin : ∀ (h' : Heap) (d : Addr) (out : List Value), SrtO.Srtd (fun v u => HT.lexLt (k (backV v)) (k (backV u))) out → SrtO.Stb (fun v u => HT.lexLt (k (backV v)) (k (backV u))) out its → (∀ b o, s.heap.get? b = some o → h'.get? b = some o) → s.heap.objs.size ≤ d → (∃ n, h'.get? d = some (seqObj "list" out.toArray n)) → EP X pins σ Q (.ref d) { s with heap := h' } := by
    intro h' d out h1 h2 kp hd hn
    have h3 : ∀ u ∈ out, ∃ a, u = Value.ref a := fun u hu => e2 u (h2.perm.mem_iff.mp hu)
    obtain ⟨n, hn⟩ := hn
    have hp : (out.map backV).Perm xs := by
      rw [e1]
      exact h2.perm.map _
    refine ⟨.ref d, upd H d (.lst (out.map backV)), I.laid (t' := s.toks) kp hd ⟨?_, out, n, vals_back h3, hn⟩, rfl, q _ d hp ?_ (I.hok.fresh hd)⟩
    · rw [hp.length_eq]
      exact hz
    · exact List.pairwise_map.mpr h1
  have hmem : ∀ v ∈ its, ∃ t, v = Value.ref t ∧ V.ref t ∈ xs := fun v hv => by
    obtain ⟨t, rfl⟩ := e2 v hv
    exact ⟨t, rfl, by rw [e1]; exact List.mem_map.mpr ⟨_, hv, rfl⟩⟩
  have hz' : its.length ≤ sizeLine := by rw [← rv.length]; exact hz
  rcases hx with hx | hx
  · refine sorted_by (Pr := TupInts) (k := fun v => k (backV v)) (fun x kp => x.keeps kp) (fun h0 hp ha => tups_sortable h0 (by show X.A.units + 1 + 1 < cLine; omega) hp ha) hl.isList hz' (fun v hv => ?_) fin
    obtain ⟨t, rfl, hm⟩ := hmem v hv
    obtain ⟨t', e, ht⟩ := hx _ hm
    cases e
    exact tupI_of I ht
  · refine sorted_by (Pr := PairIL) (k := fun v => k (backV v)) (fun x kp => x.keeps kp) (fun h0 hp ha => pairIL_sortable h0 (by show X.A.units + 1 + 1 + 1 < cLine; omega) hp ha) hl.isList hz' (fun v hv => ?_) fin
    obtain ⟨t, rfl, hm⟩ := hmem v hv
    obtain ⟨t', e, ht⟩ := pairI_of I (hx _ hm)
    cases e
    exact ht
/-- the raw dict behind -/
theorem dt_raw (I : Inv X pins σ H s) {d : Addr} {ys : YS} (e : Rd H d (.ext (dtPhi X.prog X.w d ys))) : ys.length ≤ sizeLine ∧ (d == sysModules) = false ∧ ∃ (o : Obj) (es : Array DictEntry) (ep : Nat), s.heap.get? d = some o ∧ o.ExactDict ∧ o.data = .dict es ep ∧ es.size = ys.length ∧
      ∀ (i : Nat) (y : TK × Addr × V), ys[i]? = some y → ∃ en : DictEntry, es[i]? = some en ∧ en.key = .ref y.2.1 ∧ RelV y.2.2 en.val := by
  obtain ⟨⟨z, hs, nd, xs, o, es, ep, rel, ho, hx, hdt, he⟩, _, _⟩ := (show ObjOk X.prog X.w H s.heap d (.ext (dtPhi X.prog X.w d ys)) from e.ok I.hok)
  refine ⟨z, hs, o, es, ep, ho, hx, hdt, ?_, fun i y e => ?_⟩
  · have l1 : es.size = xs.length := by rw [← Array.length_toList, he, List.length_map]
    have l2 : ys.length = xs.length := Paired.length rel
    omega
  · obtain ⟨x, hb, e1, e2⟩ := ents_at rel e
    have q : es[i]? = some (entryOfKey (tupleKind (mixKind X.prog X.w)) x) := by
      rw [← Array.getElem?_toList, he, List.getElem?_map, hb]; rfl
    exact ⟨_, q, by rw [← e1]; rfl, e2⟩
theorem keys_of {ys : YS} {es : Array DictEntry} {acc : Array Value} (hz : es.size = ys.length) (ent : ∀ (i : Nat) (y : TK × Addr × V), ys[i]? = some y → ∃ en : DictEntry, es[i]? = some en ∧ en.key = .ref y.2.1 ∧ RelV y.2.2 en.val)
    (it : ItemsOf (fun i v => ∃ en : DictEntry, es[i]? = some en ∧ v = en.key) acc es.size) : acc.toList = ys.map fun y => Value.ref y.2.1 := by
  have hl : acc.toList.length = ys.length := by rw [Array.length_toList, it.1]; exact hz
  apply List.ext_getElem?
  intro j
  rw [List.getElem?_map]
  cases hj : acc.toList[j]? with
  | none =>
    have h1 := List.getElem?_eq_none_iff.mp hj
    rw [List.getElem?_eq_none (by omega)]
    rfl
  | some v =>
    obtain ⟨en, hen, hv⟩ := it.2 j v (by rw [← Array.getElem?_toList]; exact hj)
    have hlt : j < ys.length := by rw [← hl]; exact (List.getElem?_eq_some_iff.mp hj).1
    obtain ⟨en', hen', hk, _⟩ := ent j ys[j] (List.getElem?_eq_getElem hlt)
    rw [hen] at hen'; cases hen'
    rw [List.getElem?_eq_getElem hlt, hv, hk]; rfl
theorem cr_listDt (hc : X.calm = true) : CallR X (.type "list") (fun xs H Q => ∃ d ys, xs = [V.ref d] ∧ Rd H d (.ext (dtPhi X.prog X.w d ys)) ∧ ∀ p, H p = none → Q (.ref p) (upd H p (.lst (ys.map fun y => V.ref y.2.1)))) := by
  intro pins s σ H xs us Q I r h
  obtain ⟨d, ys, rfl, hd, q⟩ := h
  obtain ⟨u, rfl, rx⟩ := r.one
  cases rx
  obtain ⟨z, hs, o, es, ep, ho, hx, hdt, hsz, ent⟩ := dt_raw I hd
  refine PySem.W.kdl_call (kdl_raw hs hx hdt) (I.ok.hd hc) ho (by omega) fun h' tk acc' c' kp e it => ?_
  have ea := keys_of hsz ent it
  have eb : acc'.toList = (ys.map fun x => x.2.1).map Value.ref := by rw [ea, List.map_map]; all_goals rfl
  have rv : Vals (ys.map fun y => V.ref y.2.1) acc'.toList := by rw [eb, show (ys.map fun y => V.ref y.2.1) = (ys.map fun x => x.2.1).map V.ref by rw [List.map_map]; rfl]; exact L2.vals_refs _
  refine ⟨.ref s.heap.objs.size, _, I.laid (t' := tk) (o := .lst (ys.map fun y => V.ref y.2.1)) kp (Nat.le_refl _) ?_, rfl, q _ (I.hok.fresh (Nat.le_refl _))⟩
  exact ⟨by rw [List.length_map]; exact z, acc'.toList, c', rv, by rw [Array.toArray_toList]; exact e⟩
theorem cr_sortedDt (hc : X.calm = true) (hu : X.A.units + 64 < cLine) : CallR X (.builtin "sorted") (fun xs H Q => ∃ d ys, xs = [V.ref d] ∧ Rd H d (.ext (dtPhi X.prog X.w d ys)) ∧ (∀ y ∈ ys, SqT X.K H y.2.1 (y.1.map V.int)) ∧
    ∀ zs p, zs.Perm (ys.map fun y => V.ref y.2.1) → ∀ k : V → List Int, (∀ y ∈ ys, k (V.ref y.2.1) = y.1) → zs.Pairwise (fun x y => HT.lexLt (k y) (k x) = false) → H p = none → Q (.ref p) (upd H p (.lst zs))) := by
  intro pins s σ H xs us Q I r h
  obtain ⟨d, ys, rfl, hd, ht, q⟩ := h
  obtain ⟨u, rfl, rx⟩ := r.one
  cases rx
  obtain ⟨z, hs, o, es, ep, ho, hx, hdt, hsz, ent⟩ := dt_raw I hd
  have I0 := I
  refine Calls.call_function_entry PyProof.Rows.kind_sorted PyProof.Rows.plain_sorted PyProof.Rows.entry_sorted (PyProof.Rows.args_sorted1 _) ?_
  unfold Builtin.«sorted»
  refine wpAny_bind (m := checkCount "sorted" 1 1 _) (wpAny_pure ?_)
  refine wpAny_bind (PySem.W.kdu_collect (A := X.A.in1) (kdl_raw hs hx hdt) (I.ok.hd hc) ho (by omega) fun h' tk acc hk hacc => ?_)
  have ea := keys_of hsz ent hacc
  have I1 : Inv X pins σ H { s with heap := h', toks := tk } := I.kept hk
  -- a key for each address
  let kf : V → List Int := fun v => match ys.find? fun y => decide (V.ref y.2.1 = v) with
    | some y => y.1
    | none => []
  have hkf : ∀ y ∈ ys, kf (V.ref y.2.1) = y.1 := by
    intro y hy
    have hw : ∀ y' ∈ ys, y'.2.1 = y.2.1 → y'.1 = y.1 := by
      intro y' hy' e
      obtain ⟨a, xs, e1, t1, i1⟩ := tupI_of I (ht y hy)
      obtain ⟨b, xs', e2, t2, i2⟩ := tupI_of I (ht y' hy')
      cases e1; cases e2
      obtain ⟨o1, ho1, _, n1, d1⟩ := t1
      obtain ⟨o2, ho2, _, n2, d2⟩ := t2
      rw [e, ho1] at ho2; cases ho2
      rw [d1] at d2; cases d2
      have hints : ∀ {l : List Value} {a b : List Int}, IntsAre l a → IntsAre l b → a = b := by
        intro l a b h1
        induction h1 generalizing b with
        | nil => intro h2; cases h2; rfl
        | cons n t _ ih => intro h2; cases h2 with | cons _ _ h2 => rw [ih h2]
      exact hints i2 i1
    show (match ys.find? fun y' => decide (V.ref y'.2.1 = V.ref y.2.1) with
      | some y => y.1
      | none => []) = y.1
    cases hf : ys.find? fun y' => decide (V.ref y'.2.1 = V.ref y.2.1) with
    | none =>
      have := List.find?_eq_none.mp hf y hy
      simp at this
    | some y' =>
      have h1 := List.find?_some hf
      have h2 := List.mem_of_find?_eq_some hf
      simp only [decide_eq_true_eq, V.ref.injEq] at h1
      exact hw y' h2 h1
  have hal : acc.toList.length = ys.length := by rw [ea, List.length_map]
  refine wpAny_bind (wpAny_newList ?_ (by rw [hal]; exact z))
  have hoL : (h'.push (seqObj "list" acc.toList.toArray 0)).get? h'.objs.size = some (seqObj "list" acc.toList.toArray 0) := Heap.get?_push_size _ rfl
  show wpAny _ _ _ _ _ { s with heap := h'.push (seqObj "list" acc.toList.toArray 0), toks := tk }
  have hT : ∀ v ∈ acc.toList, TupInts (h'.push (seqObj "list" acc.toList.toArray 0)) v (kf (backV v)) := by
    intro v hv
    rw [ea] at hv
    obtain ⟨y, hy, rfl⟩ := List.mem_map.mp hv
    show TupInts _ (Value.ref y.2.1) (kf (V.ref y.2.1))
    rw [hkf y hy]
    exact (tupI_of I1 (ht y hy)).keeps fun b o e _ => Heap.get?_push_of_some _ e
  refine wpAny_bind (wpAny_holding (wpAny_call_entry PyProof.Rows.slot_list_sort ⟨_, hoL, rfl⟩ PyProof.Rows.entry_list_sort
    (SrtO.list_sort_ord (s := { s with heap := h'.push (seqObj "list" acc.toList.toArray 0), toks := tk }) (lexLt_swo fun v => kf (backV v)) hoL (by rw [hal]; exact z) (fun h2 => tups_sortable (k := fun v => kf (backV v)) (by omega) (by show X.A.units + 1 + 1 < cLine; omega) hT fun o e => by
      have e' : some o = some (seqObj "list" acc.toList.toArray 0) := e.symm.trans hoL
      cases e'
      intro c
      exact absurd (Value.type.inj c) (by decide)) fun out h1 h2 => ⟨_, rfl, ?_⟩)
    (PyProof.Rows.args_list_sort _)))
  obtain ⟨e', he'⟩ := PyProof.Rows.sortedHeap_at (vs := acc.toList) (out := out.toArray) hoL
  have h3 : ∀ u ∈ out, ∃ a, u = Value.ref a := fun u hu => by
    have := h2.perm.mem_iff.mp hu
    rw [ea] at this
    obtain ⟨y, _, rfl⟩ := List.mem_map.mp this
    exact ⟨_, rfl⟩
  have hp : (out.map backV).Perm (ys.map fun y => V.ref y.2.1) := by
    have := h2.perm.map backV
    rw [ea, List.map_map] at this
    exact this
  have hlen : (out.map backV).length ≤ sizeLine := by rw [hp.length_eq, List.length_map]; exact z
  refine wpAny_pure ⟨_, rfl, .ref h'.objs.size, upd H h'.objs.size (.lst (out.map backV)), I1.laid (t' := tk) (fun b u e => ?_) (Nat.le_refl _)
    (show ObjOk X.prog X.w _ _ _ (.lst (out.map backV)) from ⟨hlen, out, e', vals_back h3, he'⟩), rfl, q _ _ hp kf hkf (List.pairwise_map.mpr h1) (I1.hok.fresh (Nat.le_refl _))⟩
  have hb : b < h'.objs.size := Heap.lt_size e
  rw [PyProof.Rows.sortedHeap_old (Nat.ne_of_lt hb) (by rw [size_push']; exact Nat.lt_succ_of_lt hb)]
  exact Heap.get?_push_of_some _ e
end
end N9

set_option Elab.async false
set_option linter.all false
set_option maxRecDepth 100000
namespace N9
open PySem PySem.Spec L2

theorem wL_wA {X : Cx} : ∀ {es : List Expr} {σ : L2.St} {H : Hp} {Q : List V → Hp → Prop}, (∀ x ∈ es, isStar x = false) → wL X es σ H Q → wA X es σ H Q
  | [], _, _, _, _, h => wA.of pa_nil h
  | e :: es, σ, H, Q, hs, h => by
    refine wA.of (pa_cons peW paW (starCons (hs e (by simp)))) ?_
    exact wE.mono h fun v H1 h1 => wL_wA (fun x hx => hs x (by simp [hx])) h1

/-! ## built-in functions -/
def Bi.val : Bi → Value
  | .len => .builtin "len" | .sum => .builtin "sum" | .min => .builtin "min" | .max => .builtin "max" | .sorted => .builtin "sorted"
  | .sortt => .builtin "sorted" | .sortk => .builtin "sorted" | .mint => .builtin "min" | .listk => .type "list" | .any => .builtin "any" | .all => .builtin "all" | .int => .type "int" | .list => .type "list" | .tuple => .type "tuple" | .str => .type "str"
theorem Bi.boot (f : Bi) : bootBuiltins (Str.ofString f.nm) = some f.val := by
  cases f <;> decide +kernel
theorem Bi.nmOk (f : Bi) : Str.ofString f.nm ≠ "__name__" ∧ (Str.ofString f.nm == ("__debug__" : Str)) = false := by
  cases f <;> decide +kernel

theorem min3_op {X : Cx} (hc : X.calm = true) : CallR X (.builtin "min") (fun xs H Q => ∃ i j k, xs = [.int i, .int j, .int k] ∧ Q (.int (min (min i j) k)) H) := by
  intro pins s σ H xs us Q I r h
  obtain ⟨i, j, k, rfl, q⟩ := h
  cases r with
  | cons r1 r => cases r with
    | cons r2 r => cases r with
      | cons r3 r =>
        cases r
        obtain ⟨t, rfl⟩ := r1
        obtain ⟨t2, rfl⟩ := r2
        obtain ⟨t3, rfl⟩ := r3
        exact PySem.Q9M.min3_ints (I.ok.hd hc) fun h' tk y hk => ⟨.int _, H, I.kept hk, ⟨y, rfl⟩, q⟩
theorem max3_op {X : Cx} (hc : X.calm = true) : CallR X (.builtin "max") (fun xs H Q => ∃ i j k, xs = [.int i, .int j, .int k] ∧ Q (.int (max (max i j) k)) H) := by
  intro pins s σ H xs us Q I r h
  obtain ⟨i, j, k, rfl, q⟩ := h
  cases r with
  | cons r1 r => cases r with
    | cons r2 r => cases r with
      | cons r3 r =>
        cases r
        obtain ⟨t, rfl⟩ := r1
        obtain ⟨t2, rfl⟩ := r2
        obtain ⟨t3, rfl⟩ := r3
        refine max_three_ints (I.ok.hd hc) fun h' tk hk => ?_
        have e : ∃ y, (if j > i then (if k > j then Value.int k t3 else .int j t2) else (if k > i then .int k t3 else .int i t)) = .int (max (max i j) k) y := by
          by_cases h1 : j > i
          · rw [if_pos h1]
            by_cases h2 : k > j
            · rw [if_pos h2]; exact ⟨_, by rw [show max (max i j) k = k by omega]⟩
            · rw [if_neg h2]; exact ⟨_, by rw [show max (max i j) k = j by omega]⟩
          · rw [if_neg h1]
            by_cases h2 : k > i
            · rw [if_pos h2]; exact ⟨_, by rw [show max (max i j) k = k by omega]⟩
            · rw [if_neg h2]; exact ⟨_, by rw [show max (max i j) k = i by omega]⟩
        obtain ⟨y, e⟩ := e
        rw [e]
        exact ⟨.int _, H, I.kept hk, ⟨y, rfl⟩, q⟩

theorem maxL_mem : ∀ {i : Int} {is : List Int}, maxL (i :: is) ∈ i :: is ∧ ∀ y ∈ i :: is, y ≤ maxL (i :: is)
  | i, [] => by simp [maxL]
  | i, j :: is => by
    obtain ⟨h1, h2⟩ := maxL_mem (i := j) (is := is)
    have e : maxL (i :: j :: is) = max i (maxL (j :: is)) := rfl
    rw [e]
    refine ⟨?_, fun y hy => ?_⟩
    · by_cases h : i ≤ maxL (j :: is)
      · rw [show max i (maxL (j :: is)) = maxL (j :: is) by omega]; exact List.mem_cons_of_mem _ h1
      · rw [show max i (maxL (j :: is)) = i by omega]; exact List.mem_cons_self
    · rcases List.mem_cons.mp hy with rfl | hy
      · omega
      · have := h2 y hy; omega
theorem minL_mem : ∀ {i : Int} {is : List Int}, minL (i :: is) ∈ i :: is ∧ ∀ y ∈ i :: is, minL (i :: is) ≤ y
  | i, [] => by simp [minL]
  | i, j :: is => by
    obtain ⟨h1, h2⟩ := minL_mem (i := j) (is := is)
    have e : minL (i :: j :: is) = min i (minL (j :: is)) := rfl
    rw [e]
    refine ⟨?_, fun y hy => ?_⟩
    · by_cases h : minL (j :: is) ≤ i
      · rw [show min i (minL (j :: is)) = minL (j :: is) by omega]; exact List.mem_cons_of_mem _ h1
      · rw [show min i (minL (j :: is)) = i by omega]; exact List.mem_cons_self
    · rcases List.mem_cons.mp hy with rfl | hy
      · omega
      · have := h2 y hy; omega
theorem sorted_one : ∀ {l m : List Int}, l.Perm m → l.Pairwise (· ≤ ·) → m.Pairwise (· ≤ ·) → l = m
  | [], m, p, _, _ => by rw [p.nil_eq]
  | a :: l, [], p, _, _ => absurd p.symm.nil_eq (by simp)
  | a :: l, b :: m, p, h1, h2 => by
    rw [List.pairwise_cons] at h1 h2
    have e : a = b := by
      have ha : a ∈ b :: m := p.mem_iff.mp List.mem_cons_self
      have hb : b ∈ a :: l := p.mem_iff.mpr List.mem_cons_self
      rcases List.mem_cons.mp ha with e | ha
      · exact e
      · rcases List.mem_cons.mp hb with e | hb
        · exact e.symm
        · have := h1.1 b hb; have := h2.1 a ha; omega
    subst e
    rw [sorted_one (List.perm_cons a |>.mp p) h1.2 h2.2]
theorem isort_perm (l : List Int) : (isort l).Perm l := List.mergeSort_perm l _
theorem isort_sorted (l : List Int) : (isort l).Pairwise (· ≤ ·) := by
  have := List.pairwise_mergeSort (le := fun a b : Int => decide (a ≤ b)) (by intro a b c h1 h2; simp only [decide_eq_true_eq] at *; omega) (by intro a b; simp only [Bool.or_eq_true, decide_eq_true_eq]; omega) l
  exact this.imp fun h => by simpa using h

section
variable {C : Ct} {X : Cx} {ad : List Addr} {hp : Hm} {H : Hp} {E : Value → Option Addr → Hp → Prop} {Q : VK}
theorem RVs.inv1 {K : PySem.W.Frag} {vs : List V} {a : D} (r : RVs C K ad H vs [a]) : ∃ v, vs = [v] ∧ RV C K ad H v a := by
  cases r with
  | cons s r => cases r; exact ⟨_, rfl, s⟩
theorem RVs.inv2 {K : PySem.W.Frag} {vs : List V} {a b : D} (r : RVs C K ad H vs [a, b]) : ∃ v w, vs = [v, w] ∧ RV C K ad H v a ∧ RV C K ad H w b := by
  cases r with
  | cons s r => obtain ⟨w, rfl, t⟩ := r.inv1; exact ⟨_, _, rfl, s, t⟩
theorem RVs.inv3 {K : PySem.W.Frag} {vs : List V} {a b e : D} (r : RVs C K ad H vs [a, b, e]) : ∃ v w z, vs = [v, w, z] ∧ RV C K ad H v a ∧ RV C K ad H w b ∧ RV C K ad H z e := by
  cases r with
  | cons s r => obtain ⟨w, z, rfl, t, u⟩ := r.inv2; exact ⟨_, _, _, rfl, s, t, u⟩
theorem intsL {v : V} {d : D} {l : List D} {is : List Int} (R : HR C X.prog X.w X.K ad hp H) (r : RV C X.K ad H v d) (hl : listD hp d = some l) (hi : intsD l = some is) : ∃ a, v = .ref a ∧ SqL X.K H a (is.map V.int) := by
  obtain ⟨a, xs, rfl, hx, rs⟩ := listD_of R r hl
  rw [intsD_of hi] at rs
  rw [rs.of_ints] at hx
  exact ⟨a, rfl, .inl hx⟩
theorem blsD_of : ∀ {ds : List D} {bs : List Bool}, blsD ds = some bs → ds = bs.map D.bl
  | [], is, h => by simp only [blsD, Option.some.injEq] at h; subst h; rfl
  | d :: ds, is, h => by
    cases d <;> simp only [blsD, reduceCtorEq, Option.map_eq_some_iff] at h
    obtain ⟨js, e, rfl⟩ := h
    rw [blsD_of e]; rfl
theorem of_bls {K : PySem.W.Frag} : ∀ {bs : List Bool} {vs : List V}, RVs C K ad H vs (bs.map D.bl) → vs = bs.map V.bl
  | [], _, h => by cases h; rfl
  | i :: is, _, h => by
    cases h with
    | cons r t => cases r; rw [of_bls t]; rfl
theorem blsL {v : V} {d : D} {l : List D} {is : List Bool} (R : HR C X.prog X.w X.K ad hp H) (r : RV C X.K ad H v d) (hl : listD hp d = some l) (hi : blsD l = some is) : ∃ a, v = .ref a ∧ SqL X.K H a (is.map V.bl) := by
  obtain ⟨a, xs, rfl, hx, rs⟩ := listD_of R r hl
  rw [blsD_of hi] at rs
  rw [of_bls rs] at hx
  exact ⟨a, rfl, .inl hx⟩
theorem len_ok {v : V} {d : D} {n : Nat} (R : HR C X.prog X.w X.K ad hp H) (r : RV C X.K ad H v d) (h : D.len hp d = some n) (q : Q (.int n) H) : wCall X (.builtin "len") [v] H Q := by
  cases d <;> first | (cases h; done) | skip
  · cases h
    obtain ⟨a, xs, rfl, t, rs⟩ := rv_tup r
    exact wCall.of call_len_seq ⟨a, xs, rfl, .inr t.sq, by rw [rs.length]; exact q⟩
  · cases h
    cases r with | lst e _ rs => exact wCall.of call_len_seq ⟨_, _, rfl, .inl (.inl e), by rw [rs.length]; exact q⟩
  · rename_i m
    have h : (match gt hp m with
      | some (.lst l) => some l.length
      | some (.dk l) => some l.length
      | some (.dt l) => some l.length
      | _ => none) = some n := h
    cases hg : gt hp m with
    | none => rw [hg] at h; cases h
    | some ob =>
      rw [hg] at h
      rcases ob with l | l | l | l | _ | _ | _ <;> first | (cases h; done) | skip
      · cases h
        obtain ⟨a, xs, rfl, hx, rs⟩ := R.lst r hg
        exact wCall.of call_len_seq ⟨a, xs, rfl, .inl (.inl hx), by rw [rs.length]; exact q⟩
      · cases h
        obtain ⟨a, kxs, rfl, e, ek, rs⟩ := R.dk r hg
        have hl : kxs.length = l.length := by
          have := congrArg List.length ek
          unfold kInts at this
          rw [List.length_map, List.length_map] at this
          exact this
        refine fun pins s σ us I rx => ?_
        cases rx with
        | cons rx rn =>
          cases rn; cases rx
          obtain ⟨z, hd, vs, rel, dd⟩ := dk_rd I.hok e
          have h2 : kxs.length = vs.length := rel.length
          refine call_len_dict hd dd (by rw [← h2]; rw [sizeLine_eq] at z; omega) ⟨.int _, H, I.tok _, ⟨_, rfl⟩, ?_⟩
          rw [← h2, hl]; exact q
      · cases h
        obtain ⟨a, ys, rfl, e, ek, tp, rs⟩ := R.dt r hg
        have hl : ys.length = l.length := by
          have := congrArg List.length ek
          rw [List.length_map, List.length_map] at this
          exact this
        refine fun pins s σ us I rx => ?_
        cases rx with
        | cons rx rn =>
          cases rn; cases rx
          obtain ⟨z, hd, xs, rel, dd⟩ := dt_rd I e tp
          have h2 : ys.length = xs.length := Paired.length rel
          refine call_len_dictH hd dd (by rw [← h2]; rw [sizeLine_eq] at z; omega) ⟨.int _, H, I.tok _, ⟨_, rfl⟩, ?_⟩
          rw [← h2, hl]; exact q
  · cases h
    cases r with | scr t => exact wCall.of call_len_seq ⟨_, _, rfl, .inl t.sq, by rw [List.length_map]; exact q⟩
theorem tksD_of : ∀ {ds : List D} {ks : List TK}, tksD ds = some ks → ds = ks.map kD
  | [], ks, h => by simp only [tksD, Option.some.injEq] at h; subst h; rfl
  | d :: ds, ks, h => by
    unfold tksD at h
    cases h1 : tkD d with
    | none => rw [h1] at h; cases h
    | some k =>
      cases h2 : tksD ds with
      | none => rw [h1, h2] at h; cases h
      | some ks' =>
        rw [h1, h2] at h
        cases h
        rw [List.map_cons, ← tksD_of h2]
        congr 1
        cases d <;> first | (cases h1; done) | skip
        have h1 : intsD _ = some k := h1
        rw [intsD_of h1]; rfl
theorem pairsK_of : ∀ {ds : List D} {ks : List TK}, pairsK ds = some ks → ds = ks.map unpair ∧ ∀ k ∈ ks, k ≠ []
  | [], ks, h => by simp only [pairsK, Option.some.injEq] at h; subst h; exact ⟨rfl, by simp⟩
  | d :: ds, ks, h => by
    unfold pairsK at h
    cases h1 : pairK d with
    | none => rw [h1] at h; cases h
    | some k =>
      cases h2 : pairsK ds with
      | none => rw [h1, h2] at h; cases h
      | some ks' =>
        rw [h1, h2] at h
        cases h
        obtain ⟨e, e2⟩ := pairsK_of h2
        rw [List.map_cons, ← e]
        have : d = unpair k ∧ k ≠ [] := by
          unfold pairK at h1
          split at h1
          · obtain ⟨r, hr, rfl⟩ := Option.map_eq_some_iff.mp h1
            rw [intsD_of hr]; exact ⟨rfl, by simp⟩
          · cases h1
        rw [this.1]
        refine ⟨rfl, fun x hx => ?_⟩
        rcases List.mem_cons.mp hx with rfl | hx
        · exact this.2
        · exact e2 x hx
theorem ksort_perm (l : List TK) : (ksort l).Perm l := List.mergeSort_perm l _
theorem ksort_sorted (l : List TK) : (ksort l).Pairwise fun a b => HT.lexLt b a = false := by
  have O := lexLt_swo (id : List Int → List Int)
  have := List.pairwise_mergeSort (le := fun a b : TK => !HT.lexLt b a) (by
    intro a b c h1 h2
    simp only [Bool.not_eq_true'] at *
    exact O.tr a b c h1 h2) (by
    intro a b
    simp only [Bool.or_eq_true, Bool.not_eq_true']
    cases h : HT.lexLt b a with
    | false => exact .inl rfl
    | true => exact .inr (O.asym _ _ h)) l
  exact this.imp fun h => by simpa using h
theorem ksort_uniq : ∀ {l m : List TK}, l.Perm m → l.Pairwise (fun a b => HT.lexLt b a = false) → m.Pairwise (fun a b => HT.lexLt b a = false) → l = m
  | [], m, p, _, _ => by rw [p.nil_eq]
  | a :: l, [], p, _, _ => absurd p.symm.nil_eq (by simp)
  | a :: l, b :: m, p, h1, h2 => by
    rw [List.pairwise_cons] at h1 h2
    have O := lexLt_swo (id : List Int → List Int)
    have e : a = b := by
      have ha : a ∈ b :: m := p.mem_iff.mp List.mem_cons_self
      have hb : b ∈ a :: l := p.mem_iff.mpr List.mem_cons_self
      rcases List.mem_cons.mp ha with e | ha
      · exact e
      · rcases List.mem_cons.mp hb with e | hb
        · exact e.symm
        · exact lexLt_tri (h2.1 a ha) (h1.1 b hb)
    subst e
    rw [ksort_uniq (List.perm_cons a |>.mp p) h1.2 h2.2]
theorem sorted_ks {ks l : List TK} (p : l.Perm ks) (s : l.Pairwise fun a b => HT.lexLt b a = false) : l = ksort ks := ksort_uniq (p.trans (ksort_perm ks).symm) s (ksort_sorted ks)
theorem tupInts_uniq {h : Heap} {v : Value} {a b : List Int} (x : TS.TupInts h v a) (y : TS.TupInts h v b) : a = b := by
  obtain ⟨p, xs, e1, ⟨o1, ho1, _, n1, d1⟩, i1⟩ := x
  obtain ⟨q, ys, e2, ⟨o2, ho2, _, n2, d2⟩, i2⟩ := y
  cases e1; cases e2
  rw [ho1] at ho2; cases ho2
  rw [d1] at d2; cases d2
  have hints : ∀ {l : List Value} {a b : List Int}, PyProof.Rows.IntsAre l a → PyProof.Rows.IntsAre l b → a = b := by
    intro l a b h1
    induction h1 generalizing b with
    | nil => intro h2; cases h2; rfl
    | cons n t _ ih => intro h2; cases h2 with | cons _ _ h2 => rw [ih h2]
  exact hints i1 i2
theorem rvs_mem {K : PySem.W.Frag} : ∀ {vs : List V} {ds : List D} {v : V}, RVs C K ad H vs ds → v ∈ vs → ∃ d, d ∈ ds ∧ RV C K ad H v d
  | _, _, _, .nil, h => absurd h (by simp)
  | _, _, v, .cons r t, h => by
    rcases List.mem_cons.mp h with rfl | h
    · exact ⟨_, List.mem_cons_self, r⟩
    · obtain ⟨d, m, r⟩ := rvs_mem t h
      exact ⟨d, List.mem_cons_of_mem _ m, r⟩
/-- values that a function tells -/
theorem rvs_key {K : PySem.W.Frag} {f : TK → D} {k : V → TK} : ∀ {vs : List V} {ks : List TK}, RVs C K ad H vs (ks.map f) → (∀ v ∈ vs, ∀ n, RV C K ad H v (f n) → n ∈ ks → k v = n) → vs.map k = ks ∧ ∀ v ∈ vs, RV C K ad H v (f (k v))
  | [], [], _, _ => ⟨rfl, by simp⟩
  | [], _ :: _, r, _ => by cases r
  | _ :: _, [], r, _ => by cases r
  | v :: vs, n :: ks, r, h => by
    rw [List.map_cons] at r
    cases r with
    | cons r t =>
      obtain ⟨e1, e2⟩ := rvs_key (k := k) t fun v hv n r m => h v (List.mem_cons_of_mem _ hv) n r (List.mem_cons_of_mem _ m)
      have e := h v List.mem_cons_self n r List.mem_cons_self
      refine ⟨by rw [List.map_cons, e, e1], fun u hu => ?_⟩
      rcases List.mem_cons.mp hu with rfl | hu
      · rw [e]; exact r
      · exact e2 u hu
theorem rvs_map {K : PySem.W.Frag} {f : TK → D} {k : V → TK} : ∀ {vs : List V}, (∀ v ∈ vs, RV C K ad H v (f (k v))) → RVs C K ad H vs ((vs.map k).map f)
  | [], _ => .nil
  | v :: vs, h => .cons (h v List.mem_cons_self) (rvs_map fun u hu => h u (List.mem_cons_of_mem _ hu))
theorem lotV_of {K : PySem.W.Frag} {v : V} {n : TK} (r : RV C K ad H v (kD n)) : LotV K H v n := by
  obtain ⟨a, xs, rfl, t, rs⟩ := rv_tup r
  rw [rs.of_ints] at t
  exact ⟨a, rfl, t.sq⟩
theorem pairV_of {K : PySem.W.Frag} {v : V} {n : TK} (hn : n ≠ []) (r : RV C K ad H v (unpair n)) : PairV K H v n := by
  cases n with
  | nil => exact absurd rfl hn
  | cons a l =>
    obtain ⟨p, xs, rfl, t, rs⟩ := rv_tup r
    cases rs with
    | cons r1 rs =>
      cases rs with
      | cons r2 rs =>
        cases rs
        cases r1
        obtain ⟨q, zs, rfl, t2, rs2⟩ := rv_tup r2
        rw [rs2.of_ints] at t2
        exact ⟨p, a, l, q, rfl, rfl, t.sq, t2.sq⟩
theorem sorted_ok {z : Bool} {v : V} {l : List D} {ks : List TK} {f : TK → D} {a : Addr} {xs : List V} (hu : X.A.units + 64 < cLine) (R : HR C X.prog X.w X.K ad hp H) (hx : Rd H a (.lst xs)) (rs : RVs C X.K ad H xs (ks.map f))
    (hf : (∀ v ∈ xs, ∀ n ∈ ks, RV C X.K ad H v (f n) → LotV X.K H v n) ∨ ∀ v ∈ xs, ∀ n ∈ ks, RV C X.K ad H v (f n) → PairV X.K H v n)
    (p : PV C X (mkL z ((ksort ks).map f) hp) ad H E Q) : wCall X (.builtin "sorted") [.ref a] H Q := by
  intro pins s σ us I r
  classical
  rcases hf with hf | hf
  · let k : V → TK := fun v => if h : ∃ n, LotV X.K H v n then Classical.choose h else []
    have hk : ∀ v n, LotV X.K H v n → k v = n := by
      intro v n h
      have h' : ∃ n, LotV X.K H v n := ⟨n, h⟩
      have e : k v = Classical.choose h' := by simp only [k]; rw [dif_pos h']
      obtain ⟨t, rfl, h1⟩ := h
      obtain ⟨t', e2, h2⟩ := Classical.choose_spec h'
      cases e2
      rw [e]
      exact tupInts_uniq (tupI_of I h2) (tupI_of I h1)
    obtain ⟨e1, e2⟩ := rvs_key (k := k) rs fun v hv n r m => hk v n (hf v hv n m r)
    have hm : ∀ v ∈ xs, k v ∈ ks := fun v hv => by rw [← e1]; exact List.mem_map.mpr ⟨v, hv, rfl⟩
    refine (cr_sortBy hu) pins s σ H _ us Q I r ⟨a, xs, k, rfl, .inl hx, .inl fun x hx => hf x hx _ (hm x hx) (e2 x hx), fun ys q pe so hq => ?_⟩
    have es : ys.map k = ksort ks := sorted_ks (by rw [← e1]; exact pe.map k) (List.pairwise_map.mpr so)
    refine mkL_ok R ?_ p q hq
    rw [← es]
    exact rvs_map fun v hv => e2 v (pe.mem_iff.mp hv)
  · let k : V → TK := fun v => if h : ∃ n, PairV X.K H v n then Classical.choose h else []
    have hk : ∀ v n, PairV X.K H v n → k v = n := by
      intro v n h
      have h' : ∃ n, PairV X.K H v n := ⟨n, h⟩
      have e : k v = Classical.choose h' := by simp only [k]; rw [dif_pos h']
      obtain ⟨t, e3, i1⟩ := pairI_of I h
      obtain ⟨t', e2, i2⟩ := pairI_of I (Classical.choose_spec h')
      rw [e3] at e2; cases e2
      rw [e]
      obtain ⟨a1, r1, p1, b1, o1, t1, n1, f1, g1, ho1, _, d1, j1⟩ := i1
      obtain ⟨a2, r2, p2, b2, o2, t2, n2, f2, g2, ho2, _, d2, j2⟩ := i2
      cases g1; cases g2
      rw [ho1] at ho2; cases ho2
      rw [d1] at d2; cases d2
      rw [f1, f2, tupInts_uniq j1 j2]
    obtain ⟨e1, e2⟩ := rvs_key (k := k) rs fun v hv n r m => hk v n (hf v hv n m r)
    have hm : ∀ v ∈ xs, k v ∈ ks := fun v hv => by rw [← e1]; exact List.mem_map.mpr ⟨v, hv, rfl⟩
    refine (cr_sortBy hu) pins s σ H _ us Q I r ⟨a, xs, k, rfl, .inl hx, .inr fun x hx => hf x hx _ (hm x hx) (e2 x hx), fun ys q pe so hq => ?_⟩
    have es : ys.map k = ksort ks := sorted_ks (by rw [← e1]; exact pe.map k) (List.pairwise_map.mpr so)
    refine mkL_ok R ?_ p q hq
    rw [← es]
    exact rvs_map fun v hv => e2 v (pe.mem_iff.mp hv)
theorem rvs_keys {K : PySem.W.Frag} : ∀ {ys : YS} {l : List (TK × D)}, ys.map (·.1) = l.map (·.1) → (∀ y ∈ ys, TupR K ad H y.2.1 (y.1.map V.int)) → RVs C K ad H (ys.map fun y => V.ref y.2.1) (l.map fun p => kD p.1)
  | [], [], _, _ => .nil
  | [], _ :: _, h, _ => by simp at h
  | _ :: _, [], h, _ => by simp at h
  | y :: ys, q :: l, h, t => by
    simp only [List.map_cons, List.cons.injEq] at h
    rw [List.map_cons, List.map_cons]
    refine .cons ?_ (rvs_keys h.2 fun y hy => t y (List.mem_cons_of_mem _ hy))
    rw [← h.1]
    exact .tup (t y List.mem_cons_self) RVs.ints
theorem bi_ok {z : Bool} {f : Bi} {vs : List V} {ds : List D} (hc : X.calm = true) (hu : X.A.units + 64 < cLine) (R : HR C X.prog X.w X.K ad hp H) (r : RVs C X.K ad H vs ds) (p : PV C X (biD z f ds hp) ad H E Q) : wCall X f.val vs H Q := by
  have int : ∀ i : Int, PV C X (.ok (.int i) hp) ad H E Q → Q (.int i) H := fun i p => p _ H ad R (.refl _ _) (.int _)
  have bool : ∀ i : Bool, PV C X (.ok (.bl i) hp) ad H E Q → Q (.bl i) H := fun i p => p _ H ad R (.refl _ _) (.bl _)
  unfold biD at p
  split at p
  · obtain ⟨v, rfl, rr⟩ := r.inv1
    cases hn : D.len hp ‹D› with
    | none => rw [hn] at p; exact p.elim
    | some n => rw [hn] at p; exact len_ok R rr hn (int _ p)
  · obtain ⟨v, rfl, rr⟩ := r.inv1
    cases hl : listD hp ‹D› with
    | none => rw [hl] at p; exact p.elim
    | some l =>
      rw [hl] at p
      cases hi : intsD l with
      | none => simp only [hi] at p; exact p.elim
      | some is =>
        simp only [hi] at p
        obtain ⟨a, rfl, hx⟩ := intsL R rr hl hi
        exact wCall.of (cr_sum hc) ⟨a, is, rfl, hx, int _ p⟩
  · obtain ⟨_, _, rfl, r1, r2⟩ := r.inv2
    cases r1; cases r2
    refine wCall.of (call_min2 hc) ⟨_, _, rfl, ?_⟩
    have p := int _ p
    split
    · rw [show min _ _ = _ from Int.min_eq_right (by omega)] at p; exact p
    · rw [show min _ _ = _ from Int.min_eq_left (by omega)] at p; exact p
  · obtain ⟨_, _, rfl, r1, r2⟩ := r.inv2
    cases r1; cases r2
    refine wCall.of (call_max2 hc) ⟨_, _, rfl, ?_⟩
    have p := int _ p
    split
    · rw [show max _ _ = _ from Int.max_eq_right (by omega)] at p; exact p
    · rw [show max _ _ = _ from Int.max_eq_left (by omega)] at p; exact p
  · obtain ⟨_, _, _, rfl, r1, r2, r3⟩ := r.inv3
    cases r1; cases r2; cases r3
    exact wCall.of (min3_op hc) ⟨_, _, _, rfl, int _ p⟩
  · obtain ⟨_, _, _, rfl, r1, r2, r3⟩ := r.inv3
    cases r1; cases r2; cases r3
    exact wCall.of (max3_op hc) ⟨_, _, _, rfl, int _ p⟩
  · obtain ⟨v, rfl, rr⟩ := r.inv1
    cases hl : listD hp ‹D› with
    | none => rw [hl] at p; exact p.elim
    | some l =>
      simp only [hl] at p
      cases hi : intsD l with
      | none => simp only [hi] at p; exact p.elim
      | some is =>
        cases is with
        | nil => simp only [hi] at p; exact p.elim
        | cons i is =>
          simp only [hi] at p
          obtain ⟨a, rfl, hx⟩ := intsL R rr hl hi
          refine wCall.of (cr_min hc) ⟨a, _, rfl, hx, by simp, fun m hm hle => ?_⟩
          obtain ⟨e1, e2⟩ := minL_mem (i := i) (is := is)
          have := hle _ e1; have := e2 _ hm
          have p := int _ p
          rw [show minL (i :: is) = m by omega] at p
          exact p
  · obtain ⟨v, rfl, rr⟩ := r.inv1
    cases hl : listD hp ‹D› with
    | none => rw [hl] at p; exact p.elim
    | some l =>
      simp only [hl] at p
      cases hi : intsD l with
      | none => simp only [hi] at p; exact p.elim
      | some is =>
        cases is with
        | nil => simp only [hi] at p; exact p.elim
        | cons i is =>
          simp only [hi] at p
          obtain ⟨a, rfl, hx⟩ := intsL R rr hl hi
          refine wCall.of (cr_max hc) ⟨a, _, rfl, hx, by simp, fun m hm hle => ?_⟩
          obtain ⟨e1, e2⟩ := maxL_mem (i := i) (is := is)
          have := hle _ e1; have := e2 _ hm
          have p := int _ p
          rw [show maxL (i :: is) = m by omega] at p
          exact p
  · obtain ⟨v, rfl, rr⟩ := r.inv1
    cases hl : listD hp ‹D› with
    | none => rw [hl] at p; exact p.elim
    | some l =>
      simp only [hl] at p
      cases hi : intsD l with
      | none => simp only [hi] at p; exact p.elim
      | some is =>
        simp only [hi] at p
        by_cases hs : is.length ≤ sizeLine
        · rw [if_pos hs] at p
          obtain ⟨a, rfl, hx⟩ := intsL R rr hl hi
          refine wCall.of cr_sortedI ⟨a, _, rfl, hx, fun ns' q hpm hso hq => ?_⟩
          have e : ns' = isort is := sorted_one (hpm.trans (isort_perm is).symm) hso (isort_sorted is)
          subst e
          exact mkL_ok R (RVs.ints (C := C) (K := X.K) (ad := ad) (H := H) (is := isort is)) p q hq
        · rw [if_neg hs] at p; exact p.elim
  · obtain ⟨v, rfl, rr⟩ := r.inv1
    cases hl : listD hp ‹D› with
    | none => rw [hl] at p; exact p.elim
    | some l =>
      simp only [hl] at p
      cases hi : blsD l with
      | none => rw [hi] at p; exact p.elim
      | some is =>
        rw [hi] at p
        obtain ⟨a, rfl, hx⟩ := blsL R rr hl hi
        exact wCall.of (cr_any hc) ⟨a, is, rfl, hx, bool _ p⟩
  · obtain ⟨v, rfl, rr⟩ := r.inv1
    cases hl : listD hp ‹D› with
    | none => rw [hl] at p; exact p.elim
    | some l =>
      simp only [hl] at p
      cases hi : blsD l with
      | none => rw [hi] at p; exact p.elim
      | some is =>
        rw [hi] at p
        obtain ⟨a, rfl, hx⟩ := blsL R rr hl hi
        exact wCall.of (cr_all hc) ⟨a, is, rfl, hx, bool _ p⟩
  · obtain ⟨v, rfl, rr⟩ := r.inv1
    cases rr
    exact wCall.of call_int1 (.inl ⟨_, rfl, int _ p⟩)
  · obtain ⟨v, rfl, rr⟩ := r.inv1
    cases rr
    exact wCall.of call_int1 (.inr ⟨_, rfl, int _ p⟩)
  · obtain ⟨v, rfl, rr⟩ := r.inv1
    cases hl : seqD hp ‹D› with
    | none => rw [hl] at p; exact p.elim
    | some l =>
      rw [hl] at p
      obtain ⟨a, xs, rfl, hx, rs⟩ := seqD_of R rr hl
      exact wCall.of call_list_of ⟨a, xs, rfl, hx.symm, fun q hq => mkL_ok R rs p q hq⟩
  · obtain ⟨v, rfl, rr⟩ := r.inv1
    have r0 := rr
    obtain ⟨a, xs, rfl, t, rs⟩ := rv_tup rr
    exact wCall.of call_tuple_of ⟨a, xs, rfl, .inr ⟨t.sq, p _ H ad R (.refl _ _) r0⟩⟩
  · obtain ⟨v, rfl, rr⟩ := r.inv1
    cases hl : listD hp ‹D› with
    | none => rw [hl] at p; exact p.elim
    | some l =>
      rw [hl] at p
      obtain ⟨a, xs, rfl, hx, rs⟩ := listD_of R rr hl
      refine wCall.of call_tuple_of ⟨a, xs, rfl, .inl ⟨.inl hx, fun q hq => ?_⟩⟩
      obtain ⟨n1, n2, n3⟩ := new_tup R hq rs
      exact p _ _ ad n1 n2 n3
  · obtain ⟨v, rfl, rr⟩ := r.inv1
    rename_i n
    cases hg : gt hp n with
    | none => rw [hg] at p; exact p.elim
    | some ob =>
      rw [hg] at p
      cases ob <;> first | exact p.elim | skip
      obtain ⟨a, ys, rfl, e, ek, tp, rs⟩ := R.dt rr hg
      exact wCall.of (cr_listDt hc) ⟨a, ys, rfl, e, fun q hq => mkL_ok R (rvs_keys ek tp) p q hq⟩
  · obtain ⟨v, rfl, rr⟩ := r.inv1
    cases hl : listD hp ‹D› with
    | none => rw [hl] at p; exact p.elim
    | some l =>
      simp only [hl] at p
      obtain ⟨a, xs, rfl, hx, rs⟩ := listD_of R rr hl
      cases hi : tksD l with
      | some ks =>
        simp only [hi] at p
        by_cases hs : ks.length ≤ sizeLine
        · rw [if_pos hs] at p
          rw [tksD_of hi] at rs
          exact sorted_ok (v := .ref a) (l := l) hu R hx rs (.inl fun v hv n hn r => lotV_of r) p
        · rw [if_neg hs] at p; exact p.elim
      | none =>
        simp only [hi] at p
        cases hj : pairsK l with
        | none => simp only [hj] at p; exact p.elim
        | some ks =>
          simp only [hj] at p
          by_cases hs : ks.length ≤ sizeLine
          · rw [if_pos hs] at p
            obtain ⟨e, hne⟩ := pairsK_of hj
            rw [e] at rs
            exact sorted_ok (v := .ref a) (l := l) hu R hx rs (.inr fun v hv n hn r => pairV_of (hne n hn) r) p
          · rw [if_neg hs] at p; exact p.elim
  · obtain ⟨v, rfl, rr⟩ := r.inv1
    rename_i n
    cases hg : gt hp n with
    | none => rw [hg] at p; exact p.elim
    | some ob =>
      rw [hg] at p
      cases ob <;> first | exact p.elim | skip
      obtain ⟨a, ys, rfl, e, ek, tp, rs⟩ := R.dt rr hg
      rename_i l
      have p : PV C X (mkL z ((ksort (l.map (·.1))).map kD) hp) ad H E Q := p
      intro pins s σ us I ru
      classical
      let k : V → TK := fun v => if h : ∃ n, LotV X.K H v n then Classical.choose h else []
      have hk : ∀ v n, LotV X.K H v n → k v = n := by
        intro v n h
        have h' : ∃ n, LotV X.K H v n := ⟨n, h⟩
        have e : k v = Classical.choose h' := by simp only [k]; rw [dif_pos h']
        obtain ⟨t, rfl, h1⟩ := h
        obtain ⟨t', e2, h2⟩ := Classical.choose_spec h'
        cases e2
        rw [e]
        exact tupInts_uniq (tupI_of I h2) (tupI_of I h1)
      have hky : ∀ y ∈ ys, k (V.ref y.2.1) = y.1 := fun y hy => hk _ _ ⟨_, rfl, (tp y hy).sq⟩
      refine (cr_sortedDt hc hu) pins s σ H _ us Q I ru ⟨a, ys, rfl, e, fun y hy => (tp y hy).sq, fun zs q pe kf hkf so hq => ?_⟩
      have hmem : ∀ x ∈ zs, ∃ y ∈ ys, x = V.ref y.2.1 := fun x hx => by
        obtain ⟨y, hy, rfl⟩ := List.mem_map.mp (pe.mem_iff.mp hx)
        exact ⟨y, hy, rfl⟩
      have hkk : ∀ x ∈ zs, kf x = k x := fun x hx => by
        obtain ⟨y, hy, rfl⟩ := hmem x hx
        rw [hkf y hy, hky y hy]
      have e1 : (ys.map fun y => V.ref y.2.1).map k = l.map (·.1) := by
        rw [List.map_map, ← ek]
        exact List.map_congr_left fun y hy => hky y hy
      have es : zs.map k = ksort (l.map (·.1)) := by
        refine sorted_ks (by rw [← e1]; exact pe.map k) (List.pairwise_map.mpr ?_)
        exact List.Pairwise.imp_of_mem (fun hx hy h => by rw [← hkk _ hx, ← hkk _ hy]; exact h) so
      refine mkL_ok R ?_ p q hq
      rw [← es]
      refine rvs_map fun v hv => ?_
      obtain ⟨y, hy, rfl⟩ := hmem v hv
      rw [hky y hy]
      exact .tup (tp y hy) RVs.ints
  · exact p.elim
end
theorem prim_bi {z : Bool} {f : Bi} : PrimOk (.bi z f) := by
  intro T N sc W X e es σ H Q C c hX hT hp hs
  cases e <;> first | (cases hp; done) | skip
  rename_i g args kws pos
  cases g <;> first | (cases hp; done) | skip
  rename_i x p0
  cases args with
  | nil => cases hp
  | cons y ys =>
  cases kws with
  | cons _ _ => cases hp
  | nil =>
  have hp : (if (decide (x = Str.ofString f.nm) && glB sc x && T.bl.contains f.nm) = true then some (y :: ys) else none) = some es := hp
  obtain ⟨hq, rfl⟩ := if_some hp
  rw [Bool.and_eq_true, Bool.and_eq_true, decide_eq_true_eq] at hq
  obtain ⟨⟨rfl, hg⟩, hb⟩ := hq
  refine ⟨rfl, fun h => ?_⟩
  have pe : PE X (.Call (.Name (Str.ofString f.nm) p0) (y :: ys) [] pos) (tCB (wCall X f.val) (wA X (y :: ys))) := by
    have he := starCons (es := ys) (env := X.env) (hs y List.mem_cons_self)
    have hpl := noStar_any (pos := pos) (env := X.env) fun e he => hs e (List.mem_cons_of_mem _ he)
    have hm := hT.bls _ hb
    have hgl := hX.gl _ (gl_of hg)
    have hv := f.boot
    obtain ⟨n1, n2⟩ := f.nmOk
    cases f <;> first
      | exact pe_callB wCall.op hgl hm hv paW n1 n2 he hpl
      | exact pe_callTy wCall.op hgl hm hv paW n1 n2 he hpl
  refine wE.of pe (wL_wA hs (wL.mono h fun vs H1 ⟨ad, hm, ds, R, rs, p⟩ => ?_))
  exact bi_ok hX.calm (by have := hX.hu; omega) R rs p
end N9

set_option Elab.async false
set_option linter.all false
set_option maxRecDepth 100000
namespace N9
open PySem PySem.Spec L2

/-! ## slices -/
def wSl (X : Cx) : V → Option Int → Option Int → Hp → VK → Prop := fun x lo hi H Q => ∀ pins s σ v vl vu sl, Inv X pins σ H s → RelV x v → s.heap.IsSliceOf sl vl vu .none → IsPart vl lo → IsPart vu hi →
    ∃ T id, typeLookup (.type T) "__getitem__" = pure (some (.builtin id)) ∧ s.TypeIs v T ∧ wpAny (model X.prog X.w) X.A (getItem v (.ref sl)) (EP X pins σ Q) X.xe s
theorem wSl.op {X : Cx} : L2.SlR X (wSl X) := fun pins s σ H x v vl vu lo hi sl Q I rx hs pl pu h => h pins s σ v vl vu sl I rx hs pl pu
theorem wSl.of {X : Cx} {r : V → Option Int → Option Int → Hp → VK → Prop} (h : L2.SlR X r) {x : V} {lo hi : Option Int} {H : Hp} {Q : VK} (q : r x lo hi H Q) : wSl X x lo hi H Q := fun pins s σ v vl vu sl I rx hs pl pu => h pins s σ H x v vl vu lo hi sl Q I rx hs pl pu q
def PartV : V → Option Int → Prop
  | .non, o => o = none
  | .int i, o => o = some i
  | _, _ => False
theorem po_val {X : Cx} {e : Expr} {te : TE} (h : PE X e te) : PO X (some e) (fun σ H Q => te σ H fun x H1 => ∃ o, PartV x o ∧ Q o H1) := by
  refine ⟨fun pins s σ H Q I hw => ?_⟩
  rw [evalPart_some]
  refine thn (h.run pins s σ H _ I hw) fun u s1 ⟨x, H1, I1, r1, q1⟩ => ?_
  obtain ⟨o, pv, q⟩ := q1
  cases x <;> first | exact pv.elim | skip
  · cases r1
    have pv : o = none := pv
    subst pv
    exact ⟨none, H1, I1, .none, q⟩
  · obtain ⟨t, rfl⟩ := r1
    have pv : o = some _ := pv
    subst pv
    exact ⟨some _, H1, I1, .int _ t, q⟩
section
variable {C : Ct} {X : Cx} {ad : List Addr} {hp : Hm} {H : Hp} {E : Value → Option Addr → Hp → Prop} {Q : VK}
theorem partV_of {v : V} {d : D} {o : Option Int} (r : RV C X.K ad H v d) (h : partD d = some o) : PartV v o := by
  cases d <;> first | (cases h; done) | skip
  · cases h; cases r; rfl
  · cases h; cases r; rfl
theorem RVs.cut {K : PySem.W.Frag} {xs : List V} {ds : List D} (r : RVs C K ad H xs ds) (lo hi : Option Int) : RVs C K ad H (cutV xs lo hi) (cutD ds lo hi) := by
  unfold cutV cutD
  rw [r.length]
  exact (r.drop _).take _
theorem slc_ok {z : Bool} {x : V} {a : D} {lo hi : Option Int} (R : HR C X.prog X.w X.K ad hp H) (ra : RV C X.K ad H x a) (p : PV C X (slcD z a lo hi hp) ad H E Q) : wSl X x lo hi H Q := by
  by_cases ht : ∃ l, a = .tup l
  · obtain ⟨l, rfl⟩ := ht
    have p : PV C X (.ok (.tup (cutD l lo hi)) hp) ad H E Q := p
    have ra0 := ra
    obtain ⟨q, xs, rfl, t, rs⟩ := rv_tup ra
    refine wSl.of sl_tupA ⟨_, _, rfl, t.sq, fun z => ?_, fun _ q hq => ?_⟩
    · have e : cutD l lo hi = l := by
        unfold cutD
        rw [rs.length] at z
        rw [z.1, z.2, List.drop_zero, Nat.sub_zero, List.take_length]
      rw [e] at p
      exact p _ H ad R (.refl _ _) ra0
    · obtain ⟨n1, n2, n3⟩ := new_tup R hq (rs.cut lo hi)
      exact p _ _ ad n1 n2 n3
  by_cases hs : ∃ l, a = .scr l
  · obtain ⟨l, rfl⟩ := hs
    have p : PV C X (mkL z (cutD (l.map N9.D.int) lo hi) hp) ad H E Q := p
    cases ra with
    | scr t => exact wSl.of sl_list ⟨_, _, rfl, t.sq, fun q hq => mkL_ok R (RVs.ints.cut lo hi) p q hq⟩
  · have p : PV C X (match listD hp a with
      | some l => mkL z (cutD l lo hi) hp
      | none => .stk) ad H E Q := by
      cases a <;> first | exact p | exact absurd ⟨_, rfl⟩ ht | exact absurd ⟨_, rfl⟩ hs
    cases hl : listD hp a with
    | none => rw [hl] at p; exact p.elim
    | some l =>
      rw [hl] at p
      obtain ⟨q, xs, rfl, hx, rs⟩ := listD_of R ra hl
      exact wSl.of sl_list ⟨_, _, rfl, .inl hx, fun q hq => mkL_ok R (rs.cut lo hi) p q hq⟩
end
theorem prim_slc {z l h : Bool} : PrimOk (.slc z l h) := by
  intro T N sc W X e es σ H Q C c hX hT hp hs
  cases e <;> first | (cases hp; done) | skip
  rename_i x sl pos
  cases sl <;> first | (cases hp; done) | skip
  rename_i lo hi st p2
  cases st with
  | some st => cases hp
  | none =>
  refine ⟨rfl, fun hw => ?_⟩
  cases lo with
  | none =>
    cases hi with
    | none =>
      have hp : (if (l || h) = true then none else some [x]) = some es := hp
      cases l <;> cases h <;> first | (cases hp; done) | skip
      cases hp
      refine wE.of (pe_slice wSl.op peW po_none po_none) ?_
      refine wE.mono hw fun v H1 ⟨ad, hm, ds, R, rs, p⟩ => ?_
      cases rs with
      | cons r rs => cases rs; exact slc_ok R r p
    | some hi =>
      have hp : (if (l || !h) = true then none else some [x, hi]) = some es := hp
      cases l <;> cases h <;> first | (cases hp; done) | skip
      cases hp
      refine wE.of (pe_slice wSl.op peW po_none (po_val peW)) ?_
      refine wE.mono hw fun v H1 h1 => wE.mono h1 fun u H2 ⟨ad, hm, ds, R, rs, p⟩ => ?_
      cases rs with
      | cons r rs => cases rs with
        | cons r2 rs =>
          cases rs
          rename_i d d2
          have p : PV C X (match partD d2 with | some x => slcD z d none x hm | _ => .stk) ad H2 (WE W σ) Q := p
          cases ho : partD d2 with
          | none => rw [ho] at p; exact p.elim
          | some o => rw [ho] at p; exact ⟨o, partV_of r2 ho, slc_ok R r p⟩
  | some lo =>
    cases hi with
    | none =>
      have hp : (if (!l || h) = true then none else some [x, lo]) = some es := hp
      cases l <;> cases h <;> first | (cases hp; done) | skip
      cases hp
      refine wE.of (pe_slice wSl.op peW (po_val peW) po_none) ?_
      refine wE.mono hw fun v H1 h1 => wE.mono h1 fun u H2 ⟨ad, hm, ds, R, rs, p⟩ => ?_
      cases rs with
      | cons r rs => cases rs with
        | cons r2 rs =>
          cases rs
          rename_i d d2
          have p : PV C X (match partD d2 with | some x => slcD z d x none hm | _ => .stk) ad H2 (WE W σ) Q := p
          cases ho : partD d2 with
          | none => rw [ho] at p; exact p.elim
          | some o => rw [ho] at p; exact ⟨o, partV_of r2 ho, slc_ok R r p⟩
    | some hi => cases hp
end N9

set_option Elab.async false
set_option linter.all false
set_option maxRecDepth 100000
namespace N9
open PySem PySem.Spec L2

theorem attrB {o : Expr} {nm : Str} {env : PySem.Env} {whole : Sem Value} (h : isCall o = false) : attributeBase o nm env whole = whole := by
  cases o <;> first | rfl | skip
  rename_i f as ks pos
  cases f <;> first | rfl | skip
  cases as <;> first | rfl | skip
  cases ks <;> first | rfl | exact absurd h (fun z => Bool.false_ne_true z.symm)

theorem prim_rev {z : Bool} : PrimOk (.rev z) := by
  intro T N sc W X e es σ H Q C c hX hT hp hs
  cases e <;> first | (cases hp; done) | skip
  rename_i x sl pos
  have hp : (if isRev1 sl = true then some [x] else none) = some es := hp
  obtain ⟨h1, rfl⟩ := if_some hp
  obtain ⟨k, p1, p2, p3, rfl⟩ := isRev1_of h1
  refine ⟨rfl, fun h => ?_⟩
  refine wE.of (pe_revL peW) ?_
  refine wE.mono h fun v H1 ⟨ad, hm, ds, R, rs, p⟩ => ?_
  obtain ⟨d, rfl⟩ : ∃ d, ds = [d] := by
    cases rs with
    | cons r rs => cases rs; exact ⟨_, rfl⟩
  cases rs with
  | cons r rs =>
    have p : PV C X (mkO z ((listD hm d).map List.reverse) hm) ad H1 (WE W σ) Q := p
    cases hl : listD hm d with
    | none => rw [hl] at p; exact p.elim
    | some l =>
      rw [hl] at p
      obtain ⟨a, xs, rfl, hx, rx⟩ := listD_of R r hl
      exact ⟨a, xs, rfl, .inl hx, fun q hq => mkL_ok R rx.reverse p q hq⟩

theorem prim_revt : PrimOk .revt := by
  intro T N sc W X e es σ H Q C c hX hT hp hs
  cases e <;> first | (cases hp; done) | skip
  rename_i x sl pos
  have hp : (if isRev1 sl = true then some [x] else none) = some es := hp
  obtain ⟨h1, rfl⟩ := if_some hp
  obtain ⟨k, p1, p2, p3, rfl⟩ := isRev1_of h1
  refine ⟨rfl, fun h => ?_⟩
  refine wE.of (pe_revT peW) ?_
  refine wE.mono h fun v H1 ⟨ad, hm, ds, R, rs, p⟩ => ?_
  cases rs with
  | cons r rs =>
    cases rs
    rename_i d
    cases d <;> first | exact p.elim | skip
    rename_i l
    have p : PV C X (.ok (.tup l.reverse) hm) ad H1 (WE W σ) Q := p
    obtain ⟨a, xs, rfl, t, rx⟩ := rv_tup r
    refine .inr ⟨a, xs, rfl, t.sq, fun q hq => ?_⟩
    obtain ⟨n1, n2, n3⟩ := new_tup R hq rx.reverse
    exact p _ _ ad n1 n2 n3

theorem prim_bits : PrimOk .bits := by
  intro T N sc W X e es σ H Q C c hX hT hp hs
  cases e <;> first | (cases hp; done) | skip
  rename_i fe args kws pos
  cases fe <;> first | (cases hp; done) | skip
  rename_i x n ap
  cases args <;> first | (cases hp; done) | skip
  cases kws <;> first | (cases hp; done) | skip
  have hp : (if (decide (n = ("bit_length" : Str)) && !isCall x && (ap.endLine == pos.line)) = true then some [x] else none) = some es := hp
  obtain ⟨h1, rfl⟩ := if_some hp
  simp only [Bool.and_eq_true, decide_eq_true_eq, Bool.not_eq_true'] at h1
  obtain ⟨⟨rfl, h2⟩, h3⟩ := h1
  refine ⟨rfl, fun h => ?_⟩
  refine wE.of (pe_bits peW (attrB h2) h3) ?_
  refine wE.mono h fun v H1 ⟨ad, hm, ds, R, rs, p⟩ => ?_
  cases rs with
  | cons r rs =>
    cases rs
    rename_i d
    cases d <;> first | exact p.elim | skip
    cases r
    exact ⟨_, rfl, p _ H1 ad R (.refl _ _) (.int _)⟩

theorem prim_dnew {t : Bool} : PrimOk (.dnew t) := by
  intro T N sc W X e es σ H Q C c hX hT hp hs
  cases e <;> first | (cases hp; done) | skip
  rename_i ks vs pos
  cases ks <;> first | (cases hp; done) | skip
  cases vs <;> first | (cases hp; done) | skip
  cases hp
  refine ⟨rfl, fun h => ?_⟩
  obtain ⟨ad, hm, ds, R, rs, p⟩ := h
  cases rs
  cases t with
  | false =>
    refine wE.of pe_dnewK fun q hq => ?_
    obtain ⟨a, b, d⟩ := R.push (o := .dk []) (u := .dK []) hq (.dk (kxs := []) upd_same rfl .nil)
    exact p _ _ _ a b d
  | true =>
    refine fun pins s I => ?_
    have hn : H s.heap.objs.size = none := I.hok.fresh (Nat.le_refl _)
    refine wpAny_Dict_empty ⟨.ref s.heap.objs.size, _, I.laid (a := s.heap.objs.size) (o := .ext (dtPhi X.prog X.w s.heap.objs.size [])) (t' := s.toks) (fun _ _ q => Heap.get?_push_of_some _ q) (Nat.le_refl _) ?_, rfl, ?_⟩
    · refine dt_phi (xs := []) (Nat.zero_le _) (beq_eq_false_iff_ne.mpr (Ne.symm (Nat.ne_of_lt I.big))) List.nodup_nil .nil ?_
      exact ⟨_, #[], 0, Heap.get?_push_size _ rfl, ⟨rfl, rfl, rfl⟩, rfl, rfl, (fun k h => absurd h List.not_mem_nil), List.nodup_nil⟩
    · obtain ⟨a, b, d⟩ := R.push (o := .dt []) (u := .ext (dtPhi X.prog X.w s.heap.objs.size [])) hn (.dt upd_same rfl (fun y hy => absurd hy (by simp)) .nil)
      exact p _ _ _ a b d

theorem zip_lookup : ∀ {ns : List Str} {xs : List V} {i : Nat} {n : Str} {v : V}, ns.Nodup → ns[i]? = some n → xs[i]? = some v → (ns.zip xs).lookup n = some v
  | [], _, i, _, _, _, h, _ => by simp at h
  | _ :: _, [], i, _, _, _, _, h => by simp at h
  | a :: ns, x :: xs, 0, n, v, _, h, h2 => by
    simp at h h2; subst h h2
    simp [List.zip_cons_cons, List.lookup]
  | a :: ns, x :: xs, i + 1, n, v, nd, h, h2 => by
    simp at h h2
    have hne : n ≠ a := fun z => by subst z; exact (List.nodup_cons.mp nd).1 (List.mem_of_getElem? h)
    have : (n == a) = false := by simpa using hne
    simp only [List.zip_cons_cons, List.lookup, this]
    exact zip_lookup (List.nodup_cons.mp nd).2 h h2
/-- what an instance's attribute is -/
theorem HR.insAt {C : Ct} {P : Program} {w : World} {K : PySem.W.Frag} {ad : List Addr} {hp : Hm} {H : Hp} (R : HR C P w K ad hp H) {v : V} {n c : Nat} {fs : List D} (r : RV C K ad H v (.ref n)) (h : gt hp n = some (.ins c fs)) :
    ∃ a dx xs, v = .ref a ∧ H a = some (.ins (C.addr c) dx ((C.names c).zip xs)) ∧ xs.length ≤ (C.names c).length ∧ RVs C K ad H xs fs := by
  obtain ⟨o', h1, h2⟩ := gt_some h
  obtain ⟨a, rfl, _, q⟩ := R.ref r h1
  cases o' with
  | ins c' l' => cases h2; cases q with | ins e l rs => exact ⟨a, _, _, rfl, e, l, rs⟩
  | frz o =>
    have h2 : o = .ins c fs := h2
    subst h2
    cases q
  | _ => cases h2
theorem prim_att {cl i : Nat} {f : String} : PrimOk (.att cl i f) := by
  intro T N sc W X e es σ H Q C c hX hT hp hs
  cases e <;> first | (cases hp; done) | skip
  rename_i x n pos
  have hp : (if (decide (n = Str.ofString f) && !isCall x && decide ((T.cn cl)[i]? = some n) && decide (cl ∈ T.ncl) && decide (T.cn cl).Nodup) = true then some [x] else none) = some es := hp
  obtain ⟨h1, rfl⟩ := if_some hp
  simp only [Bool.and_eq_true, decide_eq_true_eq, Bool.not_eq_true'] at h1
  obtain ⟨⟨⟨⟨rfl, h2⟩, h3⟩, h4⟩, h5⟩ := h1
  refine ⟨rfl, fun h => ?_⟩
  refine wE.of (pe_fld peW (attrB h2)) ?_
  refine wE.mono h fun v H1 ⟨ad, hm, ds, R, rs, p⟩ => ?_
  obtain ⟨k1, k2, k3⟩ := hT.cls cl h4
  have fin : ∀ (a dx : Addr) (xs : List V) (fs : List D), H1 a = some (.ins (C.addr cl) dx ((C.names cl).zip xs)) → RVs C X.K ad H1 xs fs → PV C X (ofO fs[i]? hm) ad H1 (WE W σ) Q → ∃ a' C' dx fs' v', V.ref a = .ref a' ∧ H1 a' = some (.ins C' dx fs') ∧ Cls X.K C' ∧ NoAttr X.K C' (Str.ofString f) ∧ fs'.lookup (Str.ofString f) = some v' ∧ Q v' H1 := by
    intro a dx xs fs e rx p
    cases hf : fs[i]? with
    | none => rw [hf] at p; exact p.elim
    | some d =>
      rw [hf] at p
      obtain ⟨v', ev, rv⟩ := rx.getD hf
      refine ⟨a, _, dx, _, v', rfl, e, k1, k3 _ (List.mem_of_getElem? h3), ?_, p v' H1 ad R (.refl _ _) rv⟩
      rw [hT.cn]
      exact zip_lookup h5 h3 ev
  cases rs with
  | cons r rs =>
    cases rs
    rename_i d
    cases d <;> first | exact p.elim | skip
    · rename_i c' fs
      have p : PV C X (if cl = c' then ofO fs[i]? hm else .stk) ad H1 (WE W σ) Q := p
      by_cases hc : cl = c'
      · subst hc
        rw [if_pos rfl] at p
        cases r with | ins e n l rx => exact fin _ _ _ _ e rx p
      · rw [if_neg hc] at p; exact p.elim
    · rename_i n
      have p : PV C X (match gt hm n with
        | some (.ins c' fs) => if cl = c' then ofO fs[i]? hm else .stk
        | _ => .stk) ad H1 (WE W σ) Q := p
      cases hg : gt hm n with
      | none => rw [hg] at p; exact p.elim
      | some o =>
        rw [hg] at p
        cases o <;> first | exact p.elim | skip
        rename_i c' fs
        have p : PV C X (if cl = c' then ofO fs[i]? hm else .stk) ad H1 (WE W σ) Q := p
        by_cases hc : cl = c'
        · subst hc
          rw [if_pos rfl] at p
          obtain ⟨a, dx, xs, rfl, e, l, rx⟩ := R.insAt r hg
          exact fin _ _ _ _ e rx p
        · rw [if_neg hc] at p; exact p.elim

/-! ### isinstance -/
theorem Tk.boot (k : Tk) : bootBuiltins (Str.ofString k.nm) = some (.type k.nm) := by cases k <;> decide +kernel
theorem Tk.nmOk (k : Tk) : Str.ofString k.nm ≠ "__name__" ∧ (Str.ofString k.nm == ("__debug__" : Str)) = false := by cases k <;> decide +kernel
theorem isi_nm : ("isinstance" : Str) ≠ "__name__" ∧ (("isinstance" : Str) == ("__debug__" : Str)) = false ∧ bootBuiltins "isinstance" = some (.builtin "isinstance") := by decide +kernel
theorem pe_tyN {X : Cx} {x : Str} {t : String} {p : Pos} (hg : Gl X x) (hm : X.mg x = none) (hv : bootBuiltins x = some (.type t)) (hn : x ≠ "__name__") (hd : (x == ("__debug__" : Str)) = false) : PE X (.Name x p) (tC (.ty t)) :=
  ⟨fun pins s σ H Q I h => ld_blt I hg hm hv ⟨.ty t, H, I, rfl, h⟩ hn hd⟩
theorem kitOne_of {K : PySem.W.Frag} {t : String} {k : Tk} (h : t ∈ ["NoneType", "bool", "int", "str", "tuple", "list", "dict"]) : PySem.W.kitOne K (.type t) (.type k.nm) = some (t == k.nm || (t == "bool" && k.nm == "int")) := by
  simp only [List.mem_cons, List.not_mem_nil, or_false] at h
  rcases h with rfl | rfl | rfl | rfl | rfl | rfl | rfl <;> cases k <;> exact kit_ty (by decide +kernel)
theorem dict_kit {X : Cx} {pins : List (Addr × Obj)} {σ : L2.St} {H : Hp} {s : Shared} {u : Value} {k : Tk} {b : Bool} {Q : Value → Shared → Prop} {E : Value → Shared → Prop} {A : Around} (I : Inv X pins σ H s) (hd : ∃ a, u = .ref a ∧ s.TypeIs (.ref a) "dict") (e : PySem.W.kitOne X.K (.type "dict") (.type k.nm) = some b) (h : ∀ tk, Q (.bool b) { s with toks := tk }) :
    wpAny (model X.prog X.w) A (call (.builtin "isinstance") [u, .type k.nm]) Q E s := by
  obtain ⟨a, rfl, ob, h1, h2⟩ := hd
  exact PySem.W.kia_one PySem.W.kitx_dict I.kIn ⟨ob, h1, h2⟩ e (fun z => nomatch z) h

theorem prim_isi {k : Tk} : PrimOk (.isi k) := by
  intro T N sc W X e es σ H Q C c hX hT hp hs
  have key : ∃ q y q2 pos, e = .Call (.Name "isinstance" q) [y, .Name (Str.ofString k.nm) q2] [] pos ∧ glB sc "isinstance" = true ∧ T.bl.contains "isinstance" = true ∧ glB sc (Str.ofString k.nm) = true ∧ T.bl.contains k.nm = true ∧ es = [y] := by
    have hp : (match (generalizing := false) e with
      | .Call (.Name x _) [y, .Name z _] [] _ => if (decide (x = ("isinstance" : Str)) && glB sc x && T.bl.contains "isinstance" && decide (z = Str.ofString k.nm) && glB sc z && T.bl.contains k.nm) = true then some [y] else none
      | _ => none) = some es := hp
    split at hp
    · obtain ⟨h1, rfl⟩ := if_some hp
      rw [Bool.and_eq_true, Bool.and_eq_true, Bool.and_eq_true, Bool.and_eq_true, Bool.and_eq_true, decide_eq_true_eq, decide_eq_true_eq] at h1
      obtain ⟨⟨⟨⟨⟨rfl, h1⟩, h2⟩, rfl⟩, h3⟩, h4⟩ := h1
      exact ⟨_, _, _, _, rfl, h1, h2, h3, h4, rfl⟩
    · cases hp
  obtain ⟨q, y, q2, pos, rfl, g1, b1, g2, b2, rfl⟩ := key
  have hsy : isStar y = false := hs y (by simp)
  obtain ⟨n1, n2, n3⟩ := isi_nm
  obtain ⟨m1, m2⟩ := k.nmOk
  refine ⟨rfl, fun h => ?_⟩
  have pe : PE X (.Call (.Name "isinstance" q) [y, .Name (Str.ofString k.nm) q2] [] pos) _ :=
    pe_callB (wCall.op (X := X) (f := .builtin "isinstance")) (hX.gl _ (gl_of g1)) (hT.bls _ b1) n3 (pa_cons (peW (e := y)) (pa_cons (pe_tyN (hX.gl _ (gl_of g2)) (hT.bls _ b2) k.boot m1 m2) pa_nil rfl) (starCons hsy)) n1 n2 (starCons hsy) rfl
  refine wE.of pe ?_
  refine wE.mono h fun v H1 ⟨ad, hm, ds, R, rs, p⟩ => ?_
  cases rs with
  | cons r rs =>
    cases rs
    rename_i d
    have p : PV C X (ofB (isiD k hm d) hm) ad H1 (WE W σ) Q := p
    cases ht : tyD hm d with
    | none => unfold isiD at p; rw [ht] at p; exact p.elim
    | some t =>
    unfold isiD at p
    rw [ht] at p
    have q : Q (.bl (t == k.nm || (t == "bool" && k.nm == "int"))) H1 := p _ H1 ad R (.refl _ _) (.bl _)
    have base : ∀ t', t' ∈ ["NoneType", "bool", "int", "str", "tuple", "list", "dict"] → t' = t → TyX X.K H1 v (.type t) → wCall X (.builtin "isinstance") [v, .ty k.nm] H1 Q := by
      rintro t' hm rfl ty
      exact wCall.of call_isi ⟨v, .ty k.nm, .type t', .type k.nm, _, rfl, .ty _, ty, kitOne_of hm, q⟩
    have dct : t = "dict" → (∃ a, v = .ref a ∧ ∀ pins s, Inv X pins σ H1 s → s.TypeIs (.ref a) "dict") → (∀ pins s σ, Inv X pins σ H1 s → ∃ a, v = .ref a ∧ s.TypeIs (.ref a) "dict") → wCall X (.builtin "isinstance") [v, .ty k.nm] H1 Q := by
      rintro rfl _ hd
      intro pins s σ' us I r
      obtain ⟨u1, u2, rfl, r1, r2⟩ := vals2 r
      have r2 : u2 = .type k.nm := r2
      subst r2
      obtain ⟨a, rfl, hty⟩ := hd pins s σ' I
      have r1 : u1 = .ref a := r1
      subst r1
      exact dict_kit I ⟨a, rfl, hty⟩ (kitOne_of (by simp)) fun tk => ⟨.bl _, H1, I.tok tk, rfl, q⟩
    cases d <;> first | (cases ht; done) | skip
    · cases ht; cases r; exact base "NoneType" (by simp) rfl (.base .non)
    · cases ht; cases r; exact base "bool" (by simp) rfl (.base (.bl _))
    · cases ht; cases r; exact base "int" (by simp) rfl (.base (.int _))
    · cases ht; cases r; exact base "str" (by simp) rfl (.base (.str _))
    · cases ht
      obtain ⟨a, xs, rfl, t, rx⟩ := rv_tup r
      rcases t with ⟨e, _⟩ | ⟨o, its, n, e, c, _⟩
      · exact base "tuple" (by simp) rfl (.base (.tup e))
      · exact base "tuple" (by simp) rfl (.kTuple e c)
    · cases ht
      cases r with | lst e n rx =>
      rcases e with e | ⟨o, e⟩
      · exact base "list" (by simp) rfl (.base (.lst e))
      · exact base "list" (by simp) rfl (.base (.frz e))
    · rename_i n
      have ht : (match gt hm n with
        | some (.lst _) => some "list"
        | some (.dk _) => some "dict"
        | some (.dt _) => some "dict"
        | _ => none) = some t := ht
      cases hg : gt hm n with
      | none => rw [hg] at ht; cases ht
      | some ob =>
        rw [hg] at ht
        rcases ob with l | l | l | l | _ | _ | _ <;> first | (cases ht; done) | skip
        · cases ht
          obtain ⟨a, xs, rfl, e, rx⟩ := R.lst r hg
          rcases e with e | ⟨o, e⟩
          · exact base "list" (by simp) rfl (.base (.lst e))
          · exact base "list" (by simp) rfl (.base (.frz e))
        · cases ht
          obtain ⟨a, xs, rfl, e, rx⟩ := R.dk r hg
          exact dct rfl ⟨a, rfl, fun pins s I => (isD_at I (.inl ⟨_, e⟩)).1⟩ fun pins s σ I => ⟨a, rfl, (isD_at I (.inl ⟨_, e⟩)).1⟩
        · cases ht
          obtain ⟨a, xs, rfl, e, rx⟩ := R.dt r hg
          exact dct rfl ⟨a, rfl, fun pins s I => (dt_isD I e).1⟩ fun pins s σ I => ⟨a, rfl, (dt_isD I e).1⟩

theorem prim_lrng {z : Bool} : PrimOk (.lrng z) := by
  intro T N sc W X e es σ H Q C c hX hT hp hs
  have key : ∃ p0 q y z pos pos2, e = .Call (.Name "list" p0) [.Call (.Name "range" q) [y, z] [] pos2] [] pos ∧ glB sc "list" = true ∧ T.bl.contains "list" = true ∧ glB sc "range" = true ∧ T.bl.contains "range" = true ∧ es = [y, z] := by
    have h0 : (match (generalizing := false) e with
      | .Call (.Name x _) [.Call (.Name w _) [y, z] [] _] [] _ => if (decide (x = ("list" : Str)) && glB sc x && T.bl.contains "list" && decide (w = ("range" : Str)) && glB sc w && T.bl.contains "range") = true then some [y, z] else none
      | _ => none) = some es := hp
    split at h0
    · obtain ⟨h1, rfl⟩ := if_some h0
      rw [Bool.and_eq_true, Bool.and_eq_true, Bool.and_eq_true, Bool.and_eq_true, Bool.and_eq_true, decide_eq_true_eq, decide_eq_true_eq] at h1
      obtain ⟨⟨⟨⟨⟨rfl, h1⟩, h2⟩, rfl⟩, h4⟩, h5⟩ := h1
      exact ⟨_, _, _, _, _, _, rfl, h1, h2, h4, h5, rfl⟩
    · cases h0
  obtain ⟨p0, q, y, z', pos, pos2, rfl, hg, hbl, hg2, hbl2, rfl⟩ := key
  have hs1 : isStar y = false := hs y (by simp)
  have hs2 : isStar z' = false := hs z' (by simp)
  refine ⟨rfl, fun h => ?_⟩
  refine wE.of (pe_listRg hX.calm (hX.gl _ (gl_of hg)) (hT.bls _ hbl) (prg_2 (hX.gl _ (gl_of hg2)) (hT.bls _ hbl2) peW peW (starCons hs1) (starCons hs2) (by rw [starCons hs2]; rfl))) ?_
  refine wE.mono h fun v H1 h1 => wE.mono h1 fun u H2 ⟨ad, hm, ds, R, rs, p⟩ => ?_
  cases rs with
  | cons r1 rs => cases rs with
    | cons r2 rs =>
      cases rs
      rename_i d d2
      cases d <;> first | exact p.elim | skip
      rename_i i
      cases d2 <;> first | exact p.elim | skip
      rename_i j
      have p : PV C X (if rngOk i j && decide ((j - i).toNat ≤ sizeLine) then mkL z (rngL i (j - i).toNat) hm else .stk) ad H2 (WE W σ) Q := p
      by_cases hk : (rngOk i j && decide ((j - i).toNat ≤ sizeLine)) = true
      · rw [if_pos hk] at p
        rw [Bool.and_eq_true, decide_eq_true_eq] at hk
        obtain ⟨hk, hk2⟩ := hk
        have hk := @of_decide_eq_true _ (Classical.propDecidable _) hk
        cases r1; cases r2
        refine ⟨i, j, rfl, rfl, ⟨hk.1, hk.2.1, hk.2.2.1, hk.2.2.2, by rw [sizeLine_eq] at hk2; omega⟩, fun q hq => ?_⟩
        have rs : RVs C X.K ad H2 (rgV i j) (rngL i (j - i).toNat) := by
          have := RVs.ints (C := C) (K := X.K) (ad := ad) (H := H2) (is := (List.range (j - i).toNat).map fun (k : Nat) => i + (k : Int))
          rw [List.map_map, List.map_map] at this
          exact this
        exact mkL_ok R rs p q hq
      · rw [if_neg hk] at p; exact p.elim

theorem prim_all : ∀ p, PrimOk p
  | .bin _ _ => prim_bin
  | .neg => prim_neg
  | .idx => prim_idx
  | .slc _ _ _ => prim_slc
  | .rev _ => prim_rev
  | .revt => prim_revt
  | .bi _ _ => prim_bi
  | .bits => prim_bits
  | .dnew _ => prim_dnew
  | .att _ _ _ => prim_att
  | .isi _ => prim_isi
  | .lrng _ => prim_lrng
  | .revf _ | .mnd _ | .mm _ | .cnt | .ix | .get1 | .get2 | .isc _ | .ddis _ | .vls _ => fun T N sc W X e es σ H Q C c hX hT hp hs => absurd hp (by simp [prim])
end N9

set_option Elab.async false
set_option linter.all false
set_option maxRecDepth 100000
namespace N9
open PySem PySem.Spec L2

section
variable {T : Tab} {N : List Str} {C : Ct} {c : Oracle}
theorem chkA_noS : ∀ {as : IE} {sc : Scope} {es : List Expr}, chkA T N as sc es = true → as.noS = true → ∀ e ∈ es, isStar e = false
  | .nil, sc, es, h, _ => by
    have h : es.isEmpty = true := h
    cases es with
    | nil => simp
    | cons e es => exact absurd h (by simp)
  | .cons a t, sc, [], h, _ => absurd h Bool.false_ne_true
  | .cons a t, sc, e :: es, h, hs => by
    have h : (chkE T N a sc e && !isStar e && chkA T N t sc es) = true := h
    simp only [Bool.and_eq_true, Bool.not_eq_true'] at h
    intro x hx
    rcases List.mem_cons.mp hx with rfl | hx
    · exact h.1.2
    · exact chkA_noS h.2 hs x hx
  | .star a t, sc, es, h, hs => absurd hs Bool.false_ne_true
  | .unk, _, _, h, _ | .con _, _, _, h, _ | .gl _ _, _, _, h, _ | .var _, _, _, h, _ | .tupE _, _, _, h, _ | .lstE _ _, _, _, h, _ | .op _ _, _, _, h, _ | .bmt _ _ _, _, _, h, _ | .slc2 _ _ _ _, _, _, h, _ | .cmp _ _ _, _, _, h, _ | .chain _ _ _ _ _, _, _, h, _
  | .chain3 _ _ _ _ _ _ _, _, _, h, _ | .not _, _, _, h, _ | .and _ _, _, _, h, _ | .or _ _, _, _, h, _ | .ite _ _ _, _, _, h, _ | .call _ _ _, _, _, h, _ | .meth _ _ _ _ _ _, _, _, h, _ | .make _ _ _ _ _, _, _, h, _
  | .rng1 _, _, _, h, _ | .rng2 _ _, _, _, h, _ | .rng3 _ _, _, _, h, _ | .enm _, _, _, h, _ | .itm _, _, _, h, _ | .itv _, _, _, h, _ | .lc _ _ _ _ _ _, _, _, h, _ | .dc _ _ _ _ _ _ _, _, _, h, _ => absurd h Bool.false_ne_true

theorem se_op {p : Pn} {as : IE} (ha : SL T N C c as) : SE T N C c (.op p as) := by
  intro sc e W X env hp ad σ H hX hT hc R S
  have hc : (match prim T sc p e with
    | some es => as.noS && chkA T N as sc es
    | none => false) = true := hc
  cases hpr : prim T sc p e with
  | none => rw [hpr] at hc; exact absurd hc Bool.false_ne_true
  | some es =>
  rw [hpr] at hc
  simp only [Bool.and_eq_true] at hc
  have hs := chkA_noS hc.2 hc.1
  have pk := prim_all p T N sc W X e es σ H
  refine fin_both (r := (evA c as env hp).bind fun ds h1 => pr p ds h1) (pk (fun _ _ => True) C c hX hT hpr hs).1 fun Q q => ?_
  refine (pk Q C c hX hT hpr hs).2 ?_
  refine ha sc es W X env hp ad σ H hX hT hc.2 hc.1 R S _ ?_
  cases hr : evA c as env hp with
  | exc cl w h1 => rw [hr] at q; exact q
  | stk => rw [hr] at q; exact q.elim
  | ok ds h1 =>
    rw [hr] at q
    intro vs H1 ad1 R1 x1 rs
    exact ⟨ad1, h1, ds, R1, rs, Post.shift x1 q⟩

theorem se_slc2 {z : Bool} {a lo hi : IE} (ha : SE T N C c a) (hl : SE T N C c lo) (hh : SE T N C c hi) : SE T N C c (.slc2 z a lo hi) := by
  intro sc e W X env hp ad σ H hX hT hc R S
  have key : ∃ x l h p2 pos, e = .Subscript x (.Slice (some l) (some h) none p2) pos ∧ chkE T N a sc x = true ∧ chkE T N lo sc l = true ∧ chkE T N hi sc h = true := by
    have hc : (match (generalizing := false) e with
      | .Subscript x (.Slice (some l) (some h) none _) _ => chkE T N a sc x && chkE T N lo sc l && chkE T N hi sc h
      | _ => false) = true := hc
    split at hc
    · simp only [Bool.and_eq_true] at hc
      exact ⟨_, _, _, _, _, rfl, hc.1.1, hc.1.2, hc.2⟩
    · cases hc
  obtain ⟨x, l, h, p2, pos, rfl, c1, c2, c3⟩ := key
  refine fin_both (r := (ev c a false env hp).bind fun x h1 => (ev c lo false env h1).bind fun y h2 => match partD y with
    | some y => (ev c hi false env h2).bind fun w h3 => match partD w with
      | some w => slcD z x y w h3
      | none => .stk
    | none => .stk) rfl fun Q p => ?_
  refine wE.of (pe_slice wSl.op peW (po_val peW) (po_val peW)) ?_
  refine step (RR := RV C X.K) ha hX hT c1 R S p fun d1 h1 v1 H1 ad1 R1 S1 x1 r1 p1 => ?_
  refine step (RR := RV C X.K) hl hX hT c2 R1 S1 p1 fun d2 h2 v2 H2 ad2 R2 S2 x2 r2 p2 => ?_
  cases ho : partD d2 with
  | none => rw [ho] at p2; exact p2.elim
  | some o =>
    rw [ho] at p2
    refine ⟨o, partV_of r2 ho, ?_⟩
    refine step (RR := RV C X.K) hh hX hT c3 R2 S2 p2 fun d3 h3 v3 H3 ad3 R3 S3 x3 r3 p3 => ?_
    cases ho3 : partD d3 with
    | none => rw [ho3] at p3; exact p3.elim
    | some o3 =>
      rw [ho3] at p3
      exact ⟨o3, partV_of r3 ho3, slc_ok R3 ((r1.mono x2).mono x3) p3⟩
end

theorem wL.len {X : Cx} : ∀ {es : List Expr} {σ : L2.St} {H : Hp} {Q : List V → Hp → Prop}, wL X es σ H (fun vs H' => vs.length = es.length → Q vs H') → wL X es σ H Q
  | [], _, _, _, h => h rfl
  | _ :: es, _, _, _, h => wE.mono h fun v H1 h1 => wL.len (wL.mono h1 fun vs H2 q hl => q (by simp [hl]))

/-! ## built-in methods -/
def TyIs (X : Cx) (T : String) (x : V) (H : Hp) : Prop := ∀ pins s σ u, Inv X pins σ H s → RelV x u → s.TypeIs u T ∧ ∀ a, u = .ref a → ∃ o, s.heap.get? a = some o ∧ o.dict = none
def wMt (X : Cx) (id : String) : V → List V → Hp → VK → Prop := fun x xs H Q => ∀ pins s σ v us, Inv X pins σ H s → RelV x v → Vals xs us → wpAny (model X.prog X.w) X.A (call (.builtin id) (v :: us)) (EP X pins σ Q) X.xe s
theorem wMt.of {X : Cx} {id : String} {r : V → List V → Hp → VK → Prop} (h : MtM X id r) {x : V} {xs : List V} {H : Hp} {Q : VK} (q : r x xs H Q) : wMt X id x xs H Q := fun pins s σ v us I rx rs => h pins s σ H x xs v us Q I rx rs q
theorem noStar_all {pos : Pos} {env : PySem.Env} : ∀ {es : List Expr}, (∀ e ∈ es, isStar e = false) → (backTo pos (starEach es env)).all (fun x => !x.1) = true
  | [], _ => rfl
  | e :: es, h => by
    rw [starCons (h e List.mem_cons_self)]
    show (true && (backTo pos (starEach es env)).all (fun x => !x.1)) = true
    rw [Bool.true_and]
    exact noStar_all fun x hx => h x (List.mem_cons_of_mem _ hx)
theorem pe_bmG {X : Cx} {T id : String} {name : Str} {o : Expr} {es : List Expr} {apos cpos : Pos} (pa : PlainAttrs T) (slot : Slot T name id) (hty : typeOf (.builtin id) = pure (.type "method_descriptor"))
    (hs : ∀ x ∈ es, isStar x = false) (hn : es.length < 29) (hbase : attributeBase o name X.env (eval o X.env) = eval o X.env) (hline : (apos.endLine == cpos.line) = true) :
    PE X (.Call (.Attribute o name apos) es [] cpos) (fun σ H Q => wE X o σ H fun x H1 => TyIs X T x H1 ∧ wL X es σ H1 fun xs H2 => wMt X id x xs H2 Q) := by
  refine ⟨fun pins s σ H Q I h => ?_⟩
  cases es with
  | nil =>
    refine PySem.wpAny_Call_method0_late hbase hline (thn (h pins s I) fun v s1 ⟨x, H1, I1, r1, ty, q1⟩ => ?_)
    obtain ⟨h1, h2⟩ := ty pins s1 σ v I1 r1
    exact ⟨T, id, pa, slot, hty, h1, h2, Calls.callWith_builtin rfl (PySem.evalArgs_none (q1 pins s1 σ v [] I1 r1 .nil))⟩
  | cons e es =>
    have hst := starCons (es := es) (env := X.env) (hs e (by simp))
    have hplain := noStar_any (pos := cpos) (env := X.env) fun x hx => hs x (List.mem_cons_of_mem _ hx)
    refine PySem.wpAny_Call_method_late hbase ?_ hline rfl (thn (h pins s I) fun v s1 ⟨x, H1, I1, r1, ty, q1⟩ => ?_)
    · rw [noStar_all hs]
      simp only [List.length_cons] at hn
      simp only [Bool.true_and, Bool.and_eq_true, decide_eq_true_eq]
      refine ⟨rfl, ?_⟩
      simp only [List.length_cons, List.length_nil, List.isEmpty_nil, if_true]
      omega
    obtain ⟨h1, h2⟩ := ty pins s1 σ v I1 r1
    refine ⟨T, id, pa, slot, hty, h1, h2, ?_⟩
    have hA := (wL_wA hs q1) cpos pins s1 I1
    rw [hst] at hA ⊢
    refine Calls.callWith_builtin (by show (false || (backTo cpos (starEach es X.env)).any (·.1)) = false; rw [hplain] <;> rfl) (Calls.evalArgs_plain ?_)
    exact thn hA fun us s2 ⟨vs, H2, I2, r2, q2⟩ => q2 pins s2 σ v us I2 r1 r2

/-- the method's own facts -/
structure MFact (p : Pn) (T nm id : String) (ar : Nat) : Prop where
  nmOk : bmtN p = some (nm, ar)
  pa : PlainAttrs T
  slot : Slot T (Str.ofString nm) id
  hty : typeOf (.builtin id) = pure (.type "method_descriptor")
  few : ar < 29
  kind : ∀ {C : Ct} {X : Cx} {ad : List Addr} {hp : Hm} {H : Hp} {v : V} {d : D}, HR C X.prog X.w X.K ad hp H → RV C X.K ad H v d → kindOk p hp d = true → TyIs X T v H
  ok : ∀ {C : Ct} {X : Cx} {ad : List Addr} {hp : Hm} {H : Hp} {v : V} {d : D} {vs : List V} {ds : List D} {E : Value → Option Addr → Hp → Prop} {Q : VK}, X.A.units + 1 < cLine → HR C X.prog X.w X.K ad hp H → RV C X.K ad H v d → RVs C X.K ad H vs ds → vs.length = ar → PV C X (pr p (d :: ds) hp) ad H E Q → wMt X id v vs H Q

theorem kind_list {C : Ct} {X : Cx} {ad : List Addr} {hp : Hm} {H : Hp} {v : V} {d : D} {m : Mm} (R : HR C X.prog X.w X.K ad hp H) (r : RV C X.K ad H v d) (h : kindOk (.mm m) hp d = true) : TyIs X "list" v H := by
  cases d <;> first | (cases h; done) | skip
  rename_i n
  have h : (match gt hp n with | some (.lst _) => true | _ => false) = true := h
  cases hg : gt hp n with
  | none => rw [hg] at h; cases h
  | some o =>
    rw [hg] at h
    cases o <;> first | (cases h; done) | skip
    obtain ⟨a, xs, rfl, hx, rs⟩ := R.lst r hg
    intro pins s σ u I ru
    exact tyV_is I ru (.inl ⟨rfl, _, .inl hx⟩)
theorem kind_dict {C : Ct} {X : Cx} {ad : List Addr} {hp : Hm} {H : Hp} {v : V} {d : D} (R : HR C X.prog X.w X.K ad hp H) (r : RV C X.K ad H v d) (h : kindOk .get1 hp d = true) : TyIs X "dict" v H := by
  cases d <;> first | (cases h; done) | skip
  rename_i n
  have h : (match gt hp n with | some (.dk _) => true | some (.dt _) => true | _ => false) = true := h
  cases hg : gt hp n with
  | none => rw [hg] at h; cases h
  | some o =>
    rw [hg] at h
    cases o <;> first | (cases h; done) | skip
    · obtain ⟨a, xs, rfl, hx, _⟩ := R.dk r hg
      intro pins s σ u I ru
      have ru : u = .ref a := ru
      subst ru
      have := isD_at I (.inl ⟨_, hx⟩)
      exact ⟨this.1, this.2.1⟩
    · obtain ⟨a, xs, rfl, hx, _⟩ := R.dt r hg
      intro pins s σ u I ru
      have ru : u = .ref a := ru
      subst ru
      have := dt_isD I hx
      exact ⟨this.1, this.2.1⟩
theorem RVs.one {C : Ct} {K : PySem.W.Frag} {ad : List Addr} {H : Hp} {vs : List V} {ds : List D} (r : RVs C K ad H vs ds) (h : vs.length = 1) : ∃ v d, vs = [v] ∧ ds = [d] ∧ RV C K ad H v d := by
  cases r with
  | nil => cases h
  | cons r t =>
    cases t with
    | nil => exact ⟨_, _, rfl, rfl, r⟩
    | cons _ _ => simp at h
theorem RVs.two {C : Ct} {K : PySem.W.Frag} {ad : List Addr} {H : Hp} {vs : List V} {ds : List D} (r : RVs C K ad H vs ds) (h : vs.length = 2) : ∃ v d v' d', vs = [v, v'] ∧ ds = [d, d'] ∧ RV C K ad H v d ∧ RV C K ad H v' d' := by
  cases r with
  | nil => cases h
  | cons r t =>
    cases t with
    | nil => cases h
    | cons r2 t =>
      cases t with
      | nil => exact ⟨_, _, _, _, rfl, rfl, r, r2⟩
      | cons _ _ => simp at h
theorem RVs.zero {C : Ct} {K : PySem.W.Frag} {ad : List Addr} {H : Hp} {vs : List V} {ds : List D} (r : RVs C K ad H vs ds) (h : vs.length = 0) : vs = [] ∧ ds = [] := by
  cases r with
  | nil => exact ⟨rfl, rfl⟩
  | cons r t => cases h
/-- a list that is written, through its reference -/
theorem HR.lstW {C : Ct} {P : Program} {w : World} {K : PySem.W.Frag} {ad : List Addr} {hp : Hm} {H : Hp} (R : HR C P w K ad hp H) {v : V} {n : Nat} {l : List D} (r : RV C K ad H v (.ref n)) (h : hp[n]? = some (.lst l)) : ∃ a xs, v = .ref a ∧ ad[n]? = some a ∧ H a = some (.lst xs) ∧ RVs C K ad H xs l := by
  obtain ⟨a, rfl, e, q⟩ := R.ref r h
  cases q with | lst e2 rs => exact ⟨a, _, rfl, e, e2, rs⟩
theorem m_append : MFact (.mm .append) "list" "append" "list.append" 1 := ⟨rfl, PySem.F.plainAttrs_list, PySem.F.slot_list_append, PySem.F.type_list_append, by decide, kind_list, by
  intro C X ad hp H v d vs ds E Q hu R r rs hl p
  obtain ⟨v1, d1, rfl, rfl, r1⟩ := rs.one hl
  cases d <;> first | exact p.elim | skip
  rename_i n
  have p : PV C X (match hp[n]? with
    | some (.lst l) => if l.length < sizeLine then .ok .non (hp.set n (.lst (l ++ [d1]))) else .stk
    | _ => .stk) ad H E Q := p
  cases hg : hp[n]? with
  | none => rw [hg] at p; exact p.elim
  | some o =>
    rw [hg] at p
    cases o <;> first | exact p.elim | skip
    rename_i l
    obtain ⟨a, xs, rfl, ha, hx, rx⟩ := R.lstW r hg
    have p : PV C X (if l.length < sizeLine then .ok .non (hp.set n (.lst (l ++ [d1]))) else .stk) ad H E Q := p
    by_cases hz : l.length < sizeLine
    · rw [if_pos hz] at p
      have x : Ext ad H ad (upd H a (.lst (xs ++ [v1]))) := (R.write (o := .dead) ha (.dead (by rw [upd_same]; simp) (fun _ => by rw [upd_same]; simp))).2
      obtain ⟨R2, x2⟩ := R.write (u := .lst (xs ++ [v1])) ha (.lst upd_same ((rx.append (.cons r1 .nil)).mono x))
      exact wMt.of mt_append ⟨a, xs, v1, rfl, rfl, hx, by rw [rx.length]; exact hz, p .non _ ad R2 x2 .non⟩
    · rw [if_neg hz] at p; exact p.elim⟩
theorem m_pop : MFact (.mm .pop) "list" "pop" "list.pop" 0 := ⟨rfl, PySem.F.plainAttrs_list, PySem.F.slot_list_pop, PySem.F.type_list_pop, by decide, kind_list, by
  intro C X ad hp H v d vs ds E Q hu R r rs hl p
  obtain ⟨rfl, rfl⟩ := rs.zero hl
  cases d <;> first | exact p.elim | skip
  rename_i n
  have p : PV C X (match hp[n]? with
    | some (.lst l) => match l[l.length - 1]? with
      | some d => .ok d (hp.set n (.lst l.dropLast))
      | none => .stk
    | _ => .stk) ad H E Q := p
  cases hg : hp[n]? with
  | none => rw [hg] at p; exact p.elim
  | some o =>
    rw [hg] at p
    cases o <;> first | exact p.elim | skip
    rename_i l
    obtain ⟨a, xs, rfl, ha, hx, rx⟩ := R.lstW r hg
    have p : PV C X (match l[l.length - 1]? with
      | some d => .ok d (hp.set n (.lst l.dropLast))
      | none => .stk) ad H E Q := p
    cases hd : l[l.length - 1]? with
    | none => rw [hd] at p; exact p.elim
    | some d =>
      rw [hd] at p
      obtain ⟨y, ey, ry⟩ := rx.getD hd
      have x : Ext ad H ad (upd H a (.lst xs.dropLast)) := (R.write (o := .dead) ha (.dead (by rw [upd_same]; simp) (fun _ => by rw [upd_same]; simp))).2
      obtain ⟨R2, x2⟩ := R.write (u := .lst xs.dropLast) ha (.lst upd_same (rx.dropLast.mono x))
      exact wMt.of mt_pop ⟨a, xs, y, rfl, rfl, hx, by rw [rx.length]; exact ey, p y _ ad R2 x2 (ry.mono x)⟩⟩
theorem m_clear : MFact (.mm .clear) "list" "clear" "list.clear" 0 := ⟨rfl, PySem.F.plainAttrs_list, PySem.F.slot_list_clear, PySem.F.type_list_clear, by decide, kind_list, by
  intro C X ad hp H v d vs ds E Q hu R r rs hl p
  obtain ⟨rfl, rfl⟩ := rs.zero hl
  cases d <;> first | exact p.elim | skip
  rename_i n
  have p : PV C X (match hp[n]? with
    | some (.lst l) => .ok .non (hp.set n (.lst []))
    | _ => .stk) ad H E Q := p
  cases hg : hp[n]? with
  | none => rw [hg] at p; exact p.elim
  | some o =>
    rw [hg] at p
    cases o <;> first | exact p.elim | skip
    rename_i l
    obtain ⟨a, xs, rfl, ha, hx, rx⟩ := R.lstW r hg
    obtain ⟨R2, x2⟩ := R.write (o := .lst []) (u := .lst []) ha (.lst upd_same .nil)
    exact wMt.of mt_clear ⟨a, xs, rfl, rfl, hx, p .non _ ad R2 x2 .non⟩⟩
/-- what a dict's get finds -/
theorem dg_of {C : Ct} {X : Cx} {ad : List Addr} {hp : Hm} {H : Hp} {v vk : V} {a k : D} {o : Option D} (R : HR C X.prog X.w X.K ad hp H) (ra : RV C X.K ad H v a) (rk : RV C X.K ad H vk k) (h : dgD hp a k = some o) :
    (∃ q ov, v = .ref q ∧ DGet H q vk ov ∧ (o = none → ov = none) ∧ (∀ d, o = some d → ∃ z, ov = some z ∧ RV C X.K ad H z d)) ∨
    (∃ q ys b kk, v = .ref q ∧ vk = .ref b ∧ Rd H q (.ext (dtPhi X.prog X.w q ys)) ∧ (∀ y ∈ ys, TupR X.K ad H y.2.1 (y.1.map V.int)) ∧ TupR X.K ad H b (kk.map V.int) ∧ (o = none → lookY ys kk = none) ∧ (∀ d, o = some d → ∃ z, lookY ys kk = some z ∧ RV C X.K ad H z d)) := by
  cases a <;> first | (cases h; done) | skip
  rename_i n
  have h : (match gt hp n with
    | some (.dk l) => match (generalizing := false) k with
      | .int i => some (lookK l i)
      | _ => none
    | some (.dt l) => match (generalizing := false) tkD k with
      | some k => some (lookK l k)
      | none => none
    | _ => none) = some o := h
  cases hg : gt hp n with
  | none => rw [hg] at h; cases h
  | some ob =>
    rw [hg] at h
    rcases ob with l | l | l | l | _ | _ | _ <;> first | (cases h; done) | skip
    · rcases k with _ | _ | i | _ | _ | _ | _ | _ <;> first | (cases h; done) | skip
      have h : some (lookK l i) = some o := h
      cases h
      obtain ⟨q', kxs, rfl, e, ek, rs⟩ := R.dk ra hg
      cases rk
      refine .inl ⟨q', valV kxs (Sum.inl i), rfl, .inl ⟨kxs, Sum.inl i, e, rfl, rfl⟩, fun z => (dk_look (d := .non) ek rs).1 z, fun d z => (dk_look (d := d) ek rs).2 z⟩
    · have h : (match (generalizing := false) tkD k with
        | some k => some (lookK l k)
        | none => none) = some o := h
      cases hk : tkD k with
      | none => rw [hk] at h; cases h
      | some kk =>
        rw [hk] at h
        have h : some (lookK l kk) = some o := h
        cases h
        obtain ⟨q', ys, rfl, e, ek, tp, rs⟩ := R.dt ra hg
        obtain ⟨b', rfl, tk⟩ := tkD_of rk hk
        refine .inr ⟨q', ys, b', kk, rfl, rfl, e, tp, tk, ?_, ?_⟩
        · intro z
          rcases DtR.look (C := C) (K := X.K) (ad := ad) (H := H) kk ek rs with ⟨z1, z2⟩ | ⟨v, d', z1, z2, rv⟩
          · exact z1
          · rw [z] at z2; cases z2
        · intro d z
          rcases DtR.look (C := C) (K := X.K) (ad := ad) (H := H) kk ek rs with ⟨z1, z2⟩ | ⟨v, d', z1, z2, rv⟩
          · rw [z] at z2; cases z2
          · rw [z] at z2; cases z2; exact ⟨v, z1, rv⟩
theorem m_get1 : MFact .get1 "dict" "get" "dict.get" 1 := ⟨rfl, PySem.F.plainAttrs_dict, PySem.F.slot_dict_get, PySem.F.type_dict_get, by decide, kind_dict, by
  intro C X ad hp H v d vs ds E Q hu R r rs hl p
  obtain ⟨v1, d1, rfl, rfl, r1⟩ := rs.one hl
  have p : PV C X (ofO ((dgD hp d d1).map fun o => o.getD .non) hp) ad H E Q := p
  cases hd : dgD hp d d1 with
  | none => rw [hd] at p; exact p.elim
  | some o =>
    rw [hd] at p
    have q : ∀ z, RV C X.K ad H z (o.getD .non) → Q z H := fun z rz => p z H ad R (.refl _ _) rz
    have fin : ∀ ov : Option V, (o = none → ov = none) → (∀ d, o = some d → ∃ z, ov = some z ∧ RV C X.K ad H z d) → Q (ov.getD .non) H := by
      intro ov h1 h2
      cases o with
      | none => rw [h1 rfl]; exact q _ .non
      | some d => obtain ⟨z, rfl, rz⟩ := h2 d rfl; exact q z rz
    intro pins s σ u us I ru rus
    obtain ⟨u1, rfl, ru1⟩ := rus.one
    rcases dg_of R r r1 hd with ⟨q', ov, rfl, g, h1, h2⟩ | ⟨q', ys, b, kk, rfl, rfl, e, tp, tk, h1, h2⟩
    · have ru : u = .ref q' := ru
      subst ru
      exact d_get1 hu I g ru1 fun w' s' I' rw' => ⟨_, H, I', rw', fin ov h1 h2⟩
    · have ru : u = .ref q' := ru
      subst ru
      have ru1 : u1 = .ref b := ru1
      subst ru1
      exact dt_get1 hu I e tp tk fun w' s' I' rw' => ⟨_, H, I', rw', fin _ h1 h2⟩⟩
theorem m_get2 : MFact .get2 "dict" "get" "dict.get" 2 := ⟨rfl, PySem.F.plainAttrs_dict, PySem.F.slot_dict_get, PySem.F.type_dict_get, by decide, kind_dict, by
  intro C X ad hp H v d vs ds E Q hu R r rs hl p
  obtain ⟨v1, d1, v2, d2, rfl, rfl, r1, r2⟩ := rs.two hl
  have p : PV C X (ofO ((dgD hp d d1).map fun o => o.getD d2) hp) ad H E Q := p
  cases hd : dgD hp d d1 with
  | none => rw [hd] at p; exact p.elim
  | some o =>
    rw [hd] at p
    have q : ∀ z, RV C X.K ad H z (o.getD d2) → Q z H := fun z rz => p z H ad R (.refl _ _) rz
    have fin : ∀ ov : Option V, (o = none → ov = none) → (∀ d, o = some d → ∃ z, ov = some z ∧ RV C X.K ad H z d) → Q (ov.getD v2) H := by
      intro ov h1 h2
      cases o with
      | none => rw [h1 rfl]; exact q _ r2
      | some d => obtain ⟨z, rfl, rz⟩ := h2 d rfl; exact q z rz
    intro pins s σ u us I ru rus
    obtain ⟨u1, u2, rfl, ru1, ru2⟩ := rus.two
    rcases dg_of R r r1 hd with ⟨q', ov, rfl, g, h1, h2⟩ | ⟨q', ys, b, kk, rfl, rfl, e, tp, tk, h1, h2⟩
    · have ru : u = .ref q' := ru
      subst ru
      exact d_get2 hu I g ru1 ru2 fun w' s' I' rw' => ⟨_, H, I', rw', fin ov h1 h2⟩
    · have ru : u = .ref q' := ru
      subst ru
      have ru1 : u1 = .ref b := ru1
      subst ru1
      exact dt_get2 hu I e tp tk ru2 fun w' s' I' rw' => ⟨_, H, I', rw', fin _ h1 h2⟩⟩
theorem mfact {p : Pn} {q : String × Nat} (h : bmtN p = some q) : ∃ T id, MFact p T q.1 id q.2 := by
  cases p <;> first | (cases h; done) | skip
  · rename_i m
    cases m <;> cases h
    · exact ⟨_, _, m_append⟩
    · exact ⟨_, _, m_pop⟩
    · exact ⟨_, _, m_clear⟩
  · cases h; exact ⟨_, _, m_get1⟩
  · cases h; exact ⟨_, _, m_get2⟩
section
variable {T : Tab} {N : List Str} {C : Ct} {c : Oracle}
theorem se_bmt {p : Pn} {o as : IE} (ho : SE T N C c o) (ha : SL T N C c as) : SE T N C c (.bmt p o as) := by
  intro sc e W X env hp ad σ H hX hT hc R S
  have key : ∃ x n ap ys pos q, e = .Call (.Attribute x (Str.ofString n) ap) ys [] pos ∧ bmtN p = some (n, q) ∧ ys.length = q ∧ isCall x = false ∧ (ap.endLine == pos.line) = true ∧ chkE T N o sc x = true ∧ as.noS = true ∧ chkA T N as sc ys = true := by
    have hc : (match (generalizing := false) e with
      | .Call (.Attribute x n ap) ys [] cp => (match bmtN p with | some q => decide (n = Str.ofString q.1) && decide (ys.length = q.2) | none => false) && !isCall x && (ap.endLine == cp.line) && chkE T N o sc x && as.noS && chkA T N as sc ys
      | _ => false) = true := hc
    split at hc
    · rename_i x n ap ys cp
      cases hb : bmtN p with
      | none => rw [hb] at hc; simp at hc
      | some q =>
        rw [hb] at hc
        simp only [Bool.and_eq_true, decide_eq_true_eq, Bool.not_eq_true'] at hc
        obtain ⟨⟨⟨⟨⟨⟨rfl, h2⟩, h3⟩, h4⟩, h5⟩, h6⟩, h7⟩ := hc
        exact ⟨_, _, _, _, _, _, rfl, rfl, h2, h3, h4, h5, h6, h7⟩
    · cases hc
  obtain ⟨x, n, ap, ys, pos, q, rfl, hb, hlen, h3, h4, h5, h6, h7⟩ := key
  obtain ⟨ty, id, F⟩ := mfact hb
  have hs := chkA_noS h7 h6
  refine fin_both (r := (ev c o false env hp).bind fun x h1 => if kindOk p h1 x then (evA c as env h1).bind fun ds h2 => pr p (x :: ds) h2 else .stk) rfl fun Q pp => ?_
  refine wE.of (pe_bmG F.pa F.slot F.hty hs (by rw [hlen]; exact F.few) (attrB h3) h4) ?_
  refine step (RR := RV C X.K) ho hX hT h5 R S pp fun d1 h1 v1 H1 ad1 R1 S1 x1 r1 p1 => ?_
  have p1 : PV C X (if kindOk p h1 d1 = true then (evA c as env h1).bind fun ds h2 => pr p (d1 :: ds) h2 else .stk) ad1 H1 (WE W σ) Q := p1
  by_cases hk : kindOk p h1 d1 = true
  · rw [if_pos hk] at p1
    refine ⟨F.kind R1 r1 hk, ?_⟩
    refine wL.len (ha sc ys W X env h1 ad1 σ H1 hX hT h7 h6 R1 S1 _ ?_)
    cases hr : evA c as env h1 with
    | exc cl w h2 => rw [hr] at p1; exact p1
    | stk => rw [hr] at p1; exact p1.elim
    | ok ds h2 =>
      rw [hr] at p1
      intro vs H2 ad2 R2 x2 r2 hl
      exact F.ok (by have := hX.hu; omega) R2 (r1.mono x2) r2 (hl.trans hlen) (Post.shift x2 p1)
  · rw [if_neg hk] at p1; exact p1.elim
end
end N9

set_option Elab.async false
set_option linter.all false
set_option maxRecDepth 100000
namespace N9
open PySem PySem.Spec L2

/-! ## what a def has made is dropped -/
section
variable {C : Ct} {P : Program} {w : World} {K : PySem.W.Frag} {ad1 ad2 ad' : List Addr} {H1 H2 : Hp} {h1 h2 : Hm}
theorem TupR.sub {a : Addr} {xs : List V} (hs : ∀ x ∈ ad', x ∈ ad2) (t : TupR K ad2 H2 a xs) : TupR K ad' H2 a xs := t.imp (fun q => ⟨q.1, fun m => q.2 (hs _ m)⟩) id
mutual
theorem RV.subP (hs : ∀ x ∈ ad', x ∈ ad2) : ∀ {v : V} {d : D}, d.pure = true → RV C K ad2 H2 v d → RV C K ad' H2 v d
  | _, _, _, .non => .non
  | _, _, _, .bl b => .bl b
  | _, _, _, .int i => .int i
  | _, _, _, .str x => .str x
  | _, _, h, .tup r rs => .tup (r.sub hs) (RVs.subP hs h rs)
  | _, _, h, .lst r n rs => .lst r (fun m => n (hs _ m)) (RVs.subP hs h rs)
  | _, _, h, .ins r n l rs => .ins r (fun m => n (hs _ m)) l (RVs.subP hs h rs)
  | _, _, h, .ref _ => absurd h Bool.false_ne_true
  | _, _, _, .scr r => .scr (r.imp (fun q => ⟨q.1, fun m => q.2 (hs _ m)⟩) id)
theorem RVs.subP (hs : ∀ x ∈ ad', x ∈ ad2) : ∀ {v : List V} {d : List D}, D.pures d = true → RVs C K ad2 H2 v d → RVs C K ad' H2 v d
  | _, _, _, .nil => .nil
  | _, _, h, .cons r rs => by
    have h : (_ && _) = true := h
    rw [Bool.and_eq_true] at h
    exact .cons (RV.subP hs h.1 r) (RVs.subP hs h.2 rs)
end
mutual
theorem RV.sub (hs : ∀ x ∈ ad', x ∈ ad2) (p2 : ad1 <+: ad2) (p' : ad1 <+: ad') : ∀ {v v0 : V} {d : D}, RV C K ad1 H1 v0 d → RV C K ad2 H2 v d → RV C K ad' H2 v d
  | _, _, _, _, .non => .non
  | _, _, _, _, .bl b => .bl b
  | _, _, _, _, .int i => .int i
  | _, _, _, _, .str x => .str x
  | _, _, _, .tup _ r0, .tup r rs => .tup (r.sub hs) (RVs.sub hs p2 p' r0 rs)
  | _, _, _, .lst _ _ r0, .lst r n rs => .lst r (fun m => n (hs _ m)) (RVs.sub hs p2 p' r0 rs)
  | _, _, _, .ins _ _ _ r0, .ins r n l rs => .ins r (fun m => n (hs _ m)) l (RVs.sub hs p2 p' r0 rs)
  | _, _, _, .ref e0, .ref e => .ref (prefix_get p' (by rw [e0, ← prefix_get p2 e0, e]))
  | _, _, _, .scr _, .scr r => .scr (r.imp (fun q => ⟨q.1, fun m => q.2 (hs _ m)⟩) id)
theorem RVs.sub (hs : ∀ x ∈ ad', x ∈ ad2) (p2 : ad1 <+: ad2) (p' : ad1 <+: ad') : ∀ {v v0 : List V} {d : List D}, RVs C K ad1 H1 v0 d → RVs C K ad2 H2 v d → RVs C K ad' H2 v d
  | _, _, _, .nil, .nil => .nil
  | _, _, _, .cons r0 r1, .cons r rs => .cons (RV.sub hs p2 p' r0 r) (RVs.sub hs p2 p' r1 rs)
end
theorem OR.sub (hs : ∀ x ∈ ad', x ∈ ad2) (p2 : ad1 <+: ad2) (p' : ad1 <+: ad') {a a0 : Addr} {o : Ob} (r0 : OR C P w K ad1 H1 a0 o) (r : OR C P w K ad2 H2 a o) : OR C P w K ad' H2 a o := by
  cases r with
  | lst e rs => cases r0 with | lst _ r0 => exact .lst e (RVs.sub hs p2 p' r0 rs)
  | dk e k rs => cases r0 with | dk _ _ r0 => exact .dk e k (RVs.sub hs p2 p' r0 rs)
  | dt e k t rs => cases r0 with | dt _ _ _ r0 => exact .dt e k (fun y hy => (t y hy).sub hs) (RVs.sub hs p2 p' r0 rs)
  | ins e l rs => cases r0 with | ins _ _ r0 => exact .ins e l (RVs.sub hs p2 p' r0 rs)
  | frzL e rs => cases r0 with | frzL _ r0 => exact .frzL e (RVs.sub hs p2 p' r0 rs)
  | frzK e k rs => cases r0 with | frzK _ _ r0 => exact .frzK e k (RVs.sub hs p2 p' r0 rs)
  | frzT e k t rs => cases r0 with | frzT _ _ _ r0 => exact .frzT e k (fun y hy => (t y hy).sub hs) (RVs.sub hs p2 p' r0 rs)
  | dead e t => exact .dead e t
theorem pures_map {α : Type} : ∀ {l : List (α × D)}, (l.all fun p => p.2.pure) = true → D.pures (l.map (·.2)) = true
  | [], _ => rfl
  | p :: l, h => by
    rw [List.all_cons, Bool.and_eq_true] at h
    show (p.2.pure && D.pures (l.map (·.2))) = true
    rw [h.1, pures_map h.2]; rfl
theorem OR.subP (hs : ∀ x ∈ ad', x ∈ ad2) {a : Addr} {o : Ob} (h : o.pure = true) (r : OR C P w K ad2 H2 a o) : OR C P w K ad' H2 a o := by
  cases r with
  | lst e rs => exact .lst e (RVs.subP hs h rs)
  | dk e k rs => exact .dk e k (RVs.subP hs (pures_map h) rs)
  | dt e k t rs => exact .dt e k (fun y hy => (t y hy).sub hs) (RVs.subP hs (pures_map h) rs)
  | ins e l rs => exact .ins e l (RVs.subP hs h rs)
  | _ => exact absurd h Bool.false_ne_true
/-- the old things, behind -/
theorem old_or (R1 : HR C P w K ad1 h1 H1) (R2 : HR C P w K ad2 h2 H2) (x : Ext ad1 H1 ad2 H2) (hs : ∀ x ∈ ad', x ∈ ad2) (p' : ad1 <+: ad') (ok : oldOk h1 h2) : ∀ (n : Nat) (a : Addr) (o : Ob), n < h1.length → ad1[n]? = some a → h2[n]? = some o → OR C P w K ad' H2 a o := by
  intro n a o hn ha ho
  have r2 := R2.at_ n a o (prefix_get x.pre ha) ho
  rcases ok.2 n hn with e | ⟨o', e, hp⟩
  · rw [ho] at e
    exact OR.sub hs x.pre p' (R1.at_ n a o ha e.symm) r2
  · rw [ho] at e
    cases e
    exact OR.subP hs hp r2
theorem ext_back (x : Ext ad1 H1 ad2 H2) : Ext ad1 H1 ad1 H2 := ⟨List.prefix_refl _, x.keep, x.there, fun a m => .inl m, x.fz⟩
theorem hr_back (R1 : HR C P w K ad1 h1 H1) (R2 : HR C P w K ad2 h2 H2) (x : Ext ad1 H1 ad2 H2) (ok : oldOk h1 h2) : HR C P w K ad1 (h2.take h1.length) H2 := by
  refine ⟨by rw [List.length_take, R1.len]; have := ok.1; omega, R1.nd, fun n a o ha ho => ?_⟩
  have hn : n < h1.length := by rw [← R1.len]; exact (List.getElem?_eq_some_iff.mp ha).1
  rw [List.getElem?_take_of_lt hn] at ho
  exact old_or R1 R2 x (fun y hy => x.pre.subset hy) (List.prefix_refl _) ok n a o hn ha ho
/-- a later thing's address is none of the old ones -/
theorem late_nin (R2 : HR C P w K ad2 h2 H2) (x : Ext ad1 H1 ad2 H2) {n : Nat} {a : Addr} (hn : ad1.length ≤ n) (ha : ad2[n]? = some a) : a ∉ ad1 := fun m => by
  obtain ⟨i, hi, e⟩ := List.mem_iff_getElem.mp m
  have h1 : ad1[i]? = some a := by rw [List.getElem?_eq_getElem hi, e]
  have h2 := prefix_get x.pre h1
  obtain ⟨p1, e1⟩ := List.getElem?_eq_some_iff.mp h2
  obtain ⟨p2, e2⟩ := List.getElem?_eq_some_iff.mp ha
  have := (List.getElem_inj R2.nd).mp (e1.trans e2.symm)
  omega
open Classical in
theorem gc_okP {X : Cx} {v : V} {d : D} {E : Value → Option Addr → Hp → Prop} {Q : VK} (R1 : HR C X.prog X.w X.K ad1 h1 H1) (R2 : HR C X.prog X.w X.K ad2 h2 H2) (x : Ext ad1 H1 ad2 H2) (r : RV C X.K ad2 H2 v d)
    (p : Post C X.prog X.w X.K (RV C X.K) (if oldOk h1 h2 ∧ d.pure = true then .ok d (h2.take h1.length) else .stk) ad1 H1 E Q) : Q v H2 := by
  by_cases hk : oldOk h1 h2 ∧ d.pure = true
  · rw [if_pos hk] at p
    exact p v H2 ad1 (hr_back R1 R2 x hk.1) (ext_back x) (r.subP (fun y hy => x.pre.subset hy) hk.2)
  · rw [if_neg hk] at p; exact p.elim
open Classical in
theorem gc_ok {X : Cx} {m : Gc} {v : V} {d : D} {E : Value → Option Addr → Hp → Prop} {Q : VK} (R1 : HR C X.prog X.w X.K ad1 h1 H1) (R2 : HR C X.prog X.w X.K ad2 h2 H2) (x : Ext ad1 H1 ad2 H2) (r : RV C X.K ad2 H2 v d)
    (p : Post C X.prog X.w X.K (RV C X.K) (gcR m h1 d h2) ad1 H1 E Q) : Q v H2 := by
  cases m with
  | keep => exact p v H2 ad2 R2 x r
  | pure =>
    have p : Post C X.prog X.w X.K (RV C X.K) (if oldOk h1 h2 ∧ d.pure = true then .ok d (h2.take h1.length) else .stk) ad1 H1 E Q := p
    by_cases hk : oldOk h1 h2 ∧ d.pure = true
    · rw [if_pos hk] at p
      exact p v H2 ad1 (hr_back R1 R2 x hk.1) (ext_back x) (r.subP (fun y hy => x.pre.subset hy) hk.2)
    · rw [if_neg hk] at p; exact p.elim
  | one =>
    by_cases hd : ∃ n, d = .ref n
    case neg => exact gc_okP R1 R2 x r (by cases d <;> first | exact p | exact absurd ⟨_, rfl⟩ hd)
    obtain ⟨n, rfl⟩ := hd
    have p : Post C X.prog X.w X.K (RV C X.K) (match h2[n]? with
      | some o => if oldOk h1 h2 ∧ h1.length ≤ n ∧ o.pure = true then .ok (.ref h1.length) (h2.take h1.length ++ [o]) else .stk
      | none => .stk) ad1 H1 E Q := p
    cases ho : h2[n]? with
    | none => rw [ho] at p; exact p.elim
    | some o =>
      rw [ho] at p
      by_cases hk : oldOk h1 h2 ∧ h1.length ≤ n ∧ o.pure = true
      · have p : Post C X.prog X.w X.K (RV C X.K) (if oldOk h1 h2 ∧ h1.length ≤ n ∧ o.pure = true then .ok (.ref h1.length) (h2.take h1.length ++ [o]) else .stk) ad1 H1 E Q := p
        rw [if_pos hk] at p
        cases r with
        | ref ha =>
          rename_i a
          have hnin := late_nin R2 x (by rw [R1.len]; exact hk.2.1) ha
          have hs : ∀ y ∈ ad1 ++ [a], y ∈ ad2 := fun y hy => by
            rcases List.mem_append.mp hy with hy | hy
            · exact x.pre.subset hy
            · rw [List.mem_singleton] at hy; subst hy; exact List.mem_of_getElem? ha
          have hlt : (h2.take h1.length).length = h1.length := by rw [List.length_take]; have := hk.1.1; omega
          have hR : HR C X.prog X.w X.K (ad1 ++ [a]) (h2.take h1.length ++ [o]) H2 := by
            refine ⟨by rw [List.length_append, List.length_append, hlt, R1.len]; rfl, ?_, fun i b o' hb ho' => ?_⟩
            · rw [List.nodup_append]
              refine ⟨R1.nd, by simp, fun b hb b' hb' => ?_⟩
              rw [List.mem_singleton] at hb'
              subst hb'
              intro z; subst z; exact hnin hb
            · by_cases hi : i < h1.length
              · rw [List.getElem?_append_left (by rw [R1.len]; exact hi)] at hb
                rw [List.getElem?_append_left (by rw [hlt]; exact hi), List.getElem?_take_of_lt hi] at ho'
                exact old_or R1 R2 x hs (List.prefix_append _ _) hk.1 i b o' hi hb ho'
              · rw [List.getElem?_append_right (by rw [R1.len]; omega)] at hb
                rw [List.getElem?_append_right (by rw [hlt]; omega)] at ho'
                rw [R1.len] at hb
                rw [hlt] at ho'
                cases hz : i - h1.length with
                | zero =>
                  rw [hz] at hb ho'
                  simp at hb ho'
                  subst hb ho'
                  exact OR.subP hs hk.2.2 (R2.at_ n a o ha ho)
                | succ j => rw [hz] at hb; simp at hb
          refine p _ H2 (ad1 ++ [a]) hR ⟨List.prefix_append _ _, x.keep, x.there, fun b hb => ?_, x.fz⟩ (.ref ?_)
          · exact x.new b (hs b hb)
          · rw [← R1.len]; simp
      · have p : Post C X.prog X.w X.K (RV C X.K) (if oldOk h1 h2 ∧ h1.length ≤ n ∧ o.pure = true then .ok (.ref h1.length) (h2.take h1.length ++ [o]) else .stk) ad1 H1 E Q := p
        rw [if_neg hk] at p; exact p.elim
  | frz =>
    by_cases hd : ∃ n, d = .ref n
    case neg => exact gc_okP R1 R2 x r (by cases d <;> first | exact p | exact absurd ⟨_, rfl⟩ hd)
    obtain ⟨n, rfl⟩ := hd
    have p : Post C X.prog X.w X.K (RV C X.K) (match h2[n]? with
      | some (.lst l) => if oldOk h1 h2 ∧ h1.length ≤ n ∧ D.pures l = true then .ok (.lst l) (h2.take h1.length) else .stk
      | some (.ins c l) => if oldOk h1 h2 ∧ h1.length ≤ n ∧ D.pures l = true then .ok (.ins c l) (h2.take h1.length) else .stk
      | _ => .stk) ad1 H1 E Q := p
    have hs : ∀ y ∈ ad1, y ∈ ad2 := fun y hy => x.pre.subset hy
    cases ho : h2[n]? with
    | none => rw [ho] at p; exact p.elim
    | some o =>
      rw [ho] at p
      cases r with
      | ref ha =>
      have oo := R2.at_ n _ o ha ho
      cases o <;> first | exact p.elim | skip
      · rename_i l
        have p : Post C X.prog X.w X.K (RV C X.K) (if oldOk h1 h2 ∧ h1.length ≤ n ∧ D.pures l = true then .ok (.lst l) (h2.take h1.length) else .stk) ad1 H1 E Q := p
        by_cases hk : oldOk h1 h2 ∧ h1.length ≤ n ∧ D.pures l = true
        · rw [if_pos hk] at p
          have hnin := late_nin R2 x (by rw [R1.len]; exact hk.2.1) ha
          cases oo with
          | lst e rs => exact p _ H2 ad1 (hr_back R1 R2 x hk.1) (ext_back x) (.lst (.inl e) hnin (rs.subP hs hk.2.2))
        · rw [if_neg hk] at p; exact p.elim
      · rename_i c l
        have p : Post C X.prog X.w X.K (RV C X.K) (if oldOk h1 h2 ∧ h1.length ≤ n ∧ D.pures l = true then .ok (.ins c l) (h2.take h1.length) else .stk) ad1 H1 E Q := p
        by_cases hk : oldOk h1 h2 ∧ h1.length ≤ n ∧ D.pures l = true
        · rw [if_pos hk] at p
          have hnin := late_nin R2 x (by rw [R1.len]; exact hk.2.1) ha
          cases oo with
          | ins e hl rs => exact p _ H2 ad1 (hr_back R1 R2 x hk.1) (ext_back x) (.ins e hnin hl (rs.subP hs hk.2.2))
        · rw [if_neg hk] at p; exact p.elim
end
end N9

set_option Elab.async false
set_option linter.all false
set_option maxRecDepth 100000
namespace N9
open PySem PySem.Spec L2

/-! ## calls -/
section
variable {X : Cx} {pos : Pos}
theorem kwNames : ∀ {kws : List Keyword}, (backToKw pos (keywordEach kws X.env)).map (·.1) = kws.map (·.arg)
  | [] => rfl
  | ⟨a, b, d⟩ :: kws => by
    show a :: (backToKw pos (keywordEach kws X.env)).map (·.1) = _
    rw [kwNames]; rfl
theorem kw_all {kws : List Keyword} (h : kws.all (·.arg.isSome) = true) : (backToKw pos (keywordEach kws X.env)).all (·.1.isSome) = true := by
  have h1 : ((backToKw pos (keywordEach kws X.env)).map (·.1)).all Option.isSome = true := by rw [kwNames, List.all_map]; exact h
  rw [List.all_map] at h1; exact h1
theorem kw_any {kws : List Keyword} (h : kws.all (·.arg.isSome) = true) : (backToKw pos (keywordEach kws X.env)).any (·.1.isNone) = false := by
  have h0 := kw_all (X := X) (pos := pos) h
  rw [List.all_eq_true] at h0
  rw [List.any_eq_false]
  intro x hx
  have := h0 x hx
  cases hq : x.1 <;> simp_all
theorem kw_names {kws : List Keyword} : (backToKw pos (keywordEach kws X.env)).filterMap (·.1) = kws.filterMap (·.arg) := by
  have h1 : ((backToKw pos (keywordEach kws X.env)).map (·.1)).filterMap id = (kws.map (·.arg)).filterMap id := by rw [kwNames]
  rw [List.filterMap_map, List.filterMap_map] at h1; exact h1
theorem kw_len : ∀ {kws : List Keyword}, kws.all (·.arg.isSome) = true → (kws.filterMap (·.arg)).length = kws.length
  | [], _ => rfl
  | ⟨some a, b, d⟩ :: kws, h => by
    have h : (true && kws.all (·.arg.isSome)) = true := h
    rw [Bool.true_and] at h
    show (a :: kws.filterMap (·.arg)).length = _
    rw [List.length_cons, List.length_cons, kw_len h]
  | ⟨none, b, d⟩ :: kws, h => absurd h (by simp)
theorem pk_wL : ∀ {kws : List Keyword}, PK X kws (fun σ H Q => wL X (kws.map (·.value)) σ H Q)
  | [] => pk_nil
  | ⟨nm, e, kp⟩ :: kws => pk_cons (te := wE X e) peW (pk_wL (kws := kws))
theorem callWith_G {f : Value} {first : List Value} {es : List Expr} {kws : List Keyword} {Q : Value → Shared → Prop} {Q' : List V → Hp → Prop} {pins : List (Addr × Obj)} {s : Shared} {σ : L2.St} {H : Hp} (hk : PySem.W.keepIn X.K f = true) (hs : ∀ x ∈ es, isStar x = false) (hkw : kws.all (·.arg.isSome) = true)
    (I : Inv X pins σ H s) (h : wL X (es ++ kws.map (·.value)) σ H Q')
    (hq : ∀ vs H1 s1 us ws, Q' vs H1 → Inv X pins σ H1 s1 → Vals vs (us ++ ws) → us.length = es.length → ws.length = kws.length → wpAny (model X.prog X.w) X.A (call f (first ++ us) ((kws.filterMap (·.arg)).zip ws)) Q X.xe s1) :
    wpAny (model X.prog X.w) X.A (callWith pos f first (backTo pos (starEach es X.env)) (backToKw pos (keywordEach kws X.env))) Q X.xe s := by
  have h := wL.app h
  have fin : ∀ us vs H1 s1, us.length = es.length → Vals vs us → Inv X pins σ H1 s1 → wL X (kws.map (·.value)) σ H1 (fun zs H2 => zs.length = (kws.map (·.value)).length ∧ Q' (vs ++ zs) H2) →
      wpAny (model X.prog X.w) X.A (evalAll ((backToKw pos (keywordEach kws X.env)).map (·.2))) (fun ks s₂ => X.K.In s₂.heap ∧ wpAny (model X.prog X.w) X.A (call f (first ++ us) (((backToKw pos (keywordEach kws X.env)).filterMap (·.1)).zip ks)) Q X.xe s₂) X.xe s1 := by
    intro us vs H1 s1 hl r I1 q
    refine thn (pk_wL.run pos pins s1 σ H1 _ I1 q) fun ws s2 ⟨zs, H2, I2, rz, hz, q2⟩ => ⟨I2.kIn, ?_⟩
    rw [kw_names]
    exact hq _ H2 s2 us ws q2 I2 (r.append rz) hl (by rw [← rz.length, hz, List.length_map])
  have lenK : ∀ {H1 : Hp} {Q2 : List V → Hp → Prop}, wL X (kws.map (·.value)) σ H1 Q2 → wL X (kws.map (·.value)) σ H1 (fun zs H2 => zs.length = (kws.map (·.value)).length ∧ Q2 zs H2) := fun h => wL.len (wL.mono h fun vs H' q l => ⟨l, q⟩)
  cases es with
  | nil =>
    refine PySem.W.callWith_KW0 (h₀ := X.base) I.ok.mod.kin hk (kw_all hkw) (fin [] [] H s rfl .nil I (lenK h)) ?_
    show (false || _) = false
    rw [kw_any hkw]; rfl
  | cons e es =>
    have hst := starCons (es := es) (env := X.env) (hs e List.mem_cons_self)
    refine PySem.W.callWith_KW (h₀ := X.base) I.ok.mod.kin hk (kw_all hkw) (thn (wL_wA hs (wL.len (Q := fun vs H1 => vs.length = (e :: es).length ∧ wL X (kws.map (·.value)) σ H1 fun us H2 => Q' (vs ++ us) H2) (wL.mono h fun vs H' q l => ⟨l, q⟩)) pos pins s I) fun us s1 ⟨vs, H1, I1, r, hl, q⟩ => ?_) ?_ hst
    · exact fin us vs H1 s1 (by rw [← r.length]; exact hl) r I1 (lenK q)
    · rw [noStar_any hs, kw_any hkw]; rfl

theorem run_sh {k : Nat} {f : Addr} {fd : FuncData} {ps : List Str} {sp : Sp} {W : WX} {sh : Shp} {Q : VK} {pins : List (Addr × Obj)} {σ : L2.St} {H : Hp} {s : Shared} {us ws : List Value} {vs : List V} (F : FnOk X.prog X.w X.K X.mg X.base (L2.CX X.prog X.w) k f fd ps sp) (hr : Room k X.A) (hb : BindR X.K fd ps sh) (tk : Takes X W)
    (I : Inv X pins σ H s) (r : Vals vs (us ++ ws)) (l1 : us.length = sh.n) (l2 : ws.length = sh.ks.length) (h : ∀ zvs, zvs.length = ps.length → PermR X.K sh.pm vs zvs → sp zvs H Q (WE W σ)) :
    wpAny (model X.prog X.w) X.A (call (.ref f) us (sh.ks.zip ws)) (EP X pins σ Q) X.xe s := by
  obtain ⟨zs, zvs, hbi, hl, rz, hp⟩ := hb s us ws vs I.kIn l1 l2 r
  have hsp := h zvs (by rw [rz.length]; exact hl) hp
  refine wpAny_call (codeAny_mono (F.run X.A X.stack s H ⟨us, sh.ks.zip ws⟩ zs zvs Q (WE W σ) hr I.env0 hbi rz hsp) fun r s' hq => ?_)
  cases r with
  | error e => exact passAt tk σ pins H s e s' I hq
  | ok fl =>
    cases fl with
    | ret u => exact I.after hq
    | next => exact False.elim hq
    | brk => exact False.elim hq
    | cont => exact False.elim hq
theorem run_makeSh {k : Nat} {f Cc : Addr} {fd : FuncData} {ps : List Str} {sp : Sp} {W : WX} {sh : Shp} {Q : VK} {pins : List (Addr × Obj)} {σ : L2.St} {H : Hp} {s : Shared} {us ws : List Value} {vs : List V} (M : Mk X.K Cc f) (F : FnOk X.prog X.w X.K X.mg X.base (L2.CX X.prog X.w) k f fd ps sp) (hr : Room (k + 1) X.A) (hb : BindR X.K fd ps sh) (tk : Takes X W)
    (I : Inv X pins σ H s) (r : Vals vs (us ++ ws)) (l1 : us.length + 1 = sh.n) (l2 : ws.length = sh.ks.length)
    (h : ∀ x dx zvs, H x = none → H dx = none → dx ≠ x → zvs.length = ps.length → PermR X.K sh.pm (.ref x :: vs) zvs → sp zvs (upd (upd H dx (.own x)) x (.ins Cc dx [])) (fun v H2 => v = .non ∧ Q (.ref x) H2) (WE W σ)) :
    wpAny (model X.prog X.w) X.A (call (.ref Cc) us (sh.ks.zip ws)) (EP X pins σ Q) X.xe s := by
  have I2 := Inv.made (C := Cc) I
  have r1 : Vals (V.ref (s.heap.objs.size + 1) :: vs) ((Value.ref (s.heap.objs.size + 1) :: us) ++ ws) := .cons rfl r
  obtain ⟨zs, zvs, hbi, hl, rz, hp⟩ := hb _ (Value.ref (s.heap.objs.size + 1) :: us) ws _ I2.kIn (by simpa using l1) l2 r1
  have hq := h (s.heap.objs.size + 1) s.heap.objs.size zvs (I.hok.fresh (Nat.le_succ _)) (I.hok.fresh (Nat.le_refl _)) (Nat.ne_of_lt (Nat.lt_succ_self _)) (by rw [rz.length]; exact hl) hp
  refine wpAny_call (make_map (f := f) I.kIn M.makes M.init (beq_iff_eq.mp M.fn) (codeAny_mono (F.run _ X.stack _ _ ⟨Value.ref (s.heap.objs.size + 1) :: us, sh.ks.zip ws⟩ zs zvs _ (WE W σ) (hr.make Cc us (sh.ks.zip ws))
    (I2.env0.make Cc us (sh.ks.zip ws)) hbi rz hq) fun r s' hq' => ?_))
  cases r with
  | error e => exact passAt tk σ pins _ _ e s' I2 hq'
  | ok fl =>
    cases fl with
    | ret u =>
      obtain ⟨v, H', I3, rv, ev, q3⟩ := I2.after hq'
      subst ev
      exact ⟨rv, ⟨V.ref (s.heap.objs.size + 1), H', I3, rfl, q3⟩⟩
    | next => exact False.elim hq'
    | brk => exact False.elim hq'
    | cont => exact False.elim hq'
theorem meth_walk {o : Expr} {es : List Expr} {kws : List Keyword} {name : Str} {apos : Pos} {Q : VK} {pins : List (Addr × Obj)} {s : Shared} {σ : L2.St} {H : Hp} (hbase : attributeBase o name X.env (eval o X.env) = eval o X.env) (hline : (apos.endLine == pos.line) = true)
    (hs : ∀ x ∈ es, isStar x = false) (hkw : kws.all (·.arg.isSome) = true) (hn : es.length + kws.length < 28) (I : Inv X pins σ H s)
    (h : wE X o σ H fun x H1 => ∃ a Cc dx fs g, x = .ref a ∧ H1 a = some (.ins Cc dx fs) ∧ Cls X.K Cc ∧ Meth X.K Cc name g ∧ fs.lookup name = none ∧ wL X (es ++ kws.map (·.value)) σ H1 fun vs H2 => ∀ s2 us ws, Inv X pins σ H2 s2 → Vals vs (us ++ ws) → us.length = es.length → ws.length = kws.length →
      wpAny (model X.prog X.w) X.A (call (.ref g) (.ref a :: us) ((kws.filterMap (·.arg)).zip ws)) (EP X pins σ Q) X.xe s2) :
    wpAny (model X.prog X.w) X.A (eval (.Call (.Attribute o name apos) es kws pos) X.env) (EP X pins σ Q) X.xe s := by
  have hform : methodCallForm (es.length + kws.length) (backTo pos (starEach es X.env)) (backToKw pos (keywordEach kws X.env)) = true := by
    unfold methodCallForm
    rw [noStar_all hs, kw_all hkw]
    simp only [Bool.true_and, decide_eq_true_eq]
    split <;> omega
  have hpos : methodCallPos true o X.env apos pos = pure pos := by unfold methodCallPos; simp [hline]
  rw [PySem.arm_eval_Call, hbase]
  refine wpAny_bind (thn (h pins s I) fun ov s1 ⟨x, H1, I1, rx, a, Cc, dx, fs, g, ex, ea, cl, m, l, q⟩ => ?_)
  subst ex
  have rx : ov = .ref a := rx
  subst rx
  refine wpAny_bind (wpAny_standAt ?_)
  unfold methodCall
  rw [hform]
  refine wpAny_bind (wpAny_holding (getmeth_ok I1 ea cl m l ?_))
  exact wpAny_bind (wpAny_of_eq hpos (callWith_G (first := [.ref a]) m.kp hs hkw I1 q fun vs H2 s2 us ws q2 I2 r l1 l2 => q2 s2 us ws I2 r l1 l2))
end

theorem perm_ok {C : Ct} {K : PySem.W.Frag} {ad : List Addr} {H : Hp} {p : Pm} {vs zs : List V} {ds args : List D} (h : PermR K p vs zs) (r : RVs C K ad H vs ds) (hp : permD p ds = some args) : RVs C K ad H zs args := by
  cases p with
  | none =>
    have h : zs = vs := h
    subst h
    have hp : some ds = some args := hp
    cases hp
    exact r
  | some l =>
    have hp : permL l ds = some args := hp
    have h : Paired (fun (x : Nat ⊕ Bool) (z : V) => match x with
      | .inl i => vs[i]? = some z
      | .inr true => ∃ a, z = .ref a ∧ kTup K a []
      | .inr false => z = .non) l zs := h
    induction h generalizing args with
    | nil => cases hp; exact .nil
    | @cons x z l zs hx ht ih =>
      cases x with
      | inl i =>
        have hp : (match ds[i]? with
          | some d => match permL l ds with
            | some r => some (d :: r)
            | none => none
          | none => none) = some args := hp
        have hx : vs[i]? = some z := hx
        obtain ⟨d, hd, rd⟩ := r.get hx
        rw [hd] at hp
        cases hl : permL l ds with
        | none => simp only [hl] at hp; cases hp
        | some a' => simp only [hl] at hp; cases hp; exact .cons rd (ih ht hl hl)
      | inr b =>
        have hp : (match permL l ds with
          | some r => some ((if b then .tup [] else .non) :: r)
          | none => none) = some args := hp
        cases hl : permL l ds with
        | none => simp only [hl] at hp; cases hp
        | some a' =>
          simp only [hl] at hp
          cases hp
          refine .cons ?_ (ih ht hl hl)
          cases b with
          | true => obtain ⟨a, rfl, hk⟩ := (show ∃ a, z = .ref a ∧ kTup K a [] from hx); exact .tup (.inr hk) .nil
          | false => cases (show z = .non from hx); exact .non

section
variable {T : Tab} {N : List Str} {C : Ct} {c : Oracle}
theorem se_call {f : Nat} {p : Pm} {as : IE} (ha : SL T N C c as) : SE T N C c (.call f p as) := by
  intro sc e W X env hp ad σ H hX hT hc R S
  have key : ∃ q es kws pos, e = .Call (.Name (T.fn f) q) es kws pos ∧ glB sc (T.fn f) = true ∧ plainN (T.fn f) = true ∧ T.gf f = true ∧ (⟨f, es.length, kws.filterMap (·.arg), p⟩ : Shp) ∈ T.shs ∧ kws.all (·.arg.isSome) = true ∧ as.noS = true ∧ chkA T N as sc (es ++ kws.map (·.value)) = true := by
    have hc : (match (generalizing := false) e with
      | .Call (.Name x _) es kws _ => decide (x = T.fn f) && glB sc x && plainN x && T.gf f && T.shs.contains ⟨f, es.length, kws.filterMap (·.arg), p⟩ && kws.all (·.arg.isSome) && as.noS && chkA T N as sc (es ++ kws.map (·.value))
      | _ => false) = true := hc
    split at hc
    · rw [Bool.and_eq_true, Bool.and_eq_true, Bool.and_eq_true, Bool.and_eq_true, Bool.and_eq_true, Bool.and_eq_true, Bool.and_eq_true, decide_eq_true_eq] at hc
      obtain ⟨⟨⟨⟨⟨⟨⟨rfl, h1⟩, h2⟩, h3⟩, h4⟩, h5⟩, h6⟩, h7⟩ := hc
      exact ⟨_, _, _, _, rfl, h1, h2, h3, by simpa using h4, h5, h6, h7⟩
    · cases hc
  obtain ⟨q, es, kws, pos, rfl, hg, hpn, hgf, hsh, hall, hnS, ca⟩ := key
  obtain ⟨p1, p2, p3⟩ := plainN_of hpn
  have hns := chkA_noS ca hnS
  obtain ⟨fd, ps, k, hps, hk, hr, F, hb⟩ := hT.fns _ hsh
  refine fin_both (r := (evA c as env hp).bind fun ds h1 => match permD p ds with
    | some args => c.call f args h1
    | none => .stk) rfl fun Q pp => ?_
  intro pins s I
  refine wpAny_Call_Name_kw (ld_glob I (hX.gl _ (gl_of hg)) (hT.gf f hgf) ?_ p1)
  refine callWith_G (Q' := fun vs H1 => ∀ zvs, zvs.length = ps.length → PermR X.K p vs zvs → spF C X.prog X.w X.K (T.np f) (c.call f) zvs H1 Q (WE W σ)) hk (fun x hx => hns x (by simp [hx])) hall I ?_ fun vs H1 s1 us ws q I1 r l1 l2 => ?_
  · refine ha sc _ W X env hp ad σ H hX hT ca hnS R S _ ?_
    cases hr : evA c as env hp with
    | exc cl w h1 => rw [hr] at pp; exact pp
    | stk => rw [hr] at pp; exact pp.elim
    | ok ds h1 =>
      rw [hr] at pp
      intro vs H1 ad1 R1 x1 rs zvs hl hpm
      have pp : PV C X (match permD p ds with | some args => c.call f args h1 | none => .stk) ad H (WE W σ) Q := pp
      cases hd : permD p ds with
      | none => rw [hd] at pp; exact pp.elim
      | some args =>
        rw [hd] at pp
        exact ⟨hl.trans hps, ad1, h1, args, R1, perm_ok hpm rs hd, Post.shift x1 pp⟩
  · exact run_sh F hr hb hX.tk I1 r l1 (by rw [l2]; exact (kw_len hall).symm) q

theorem zip_none {ns : List Str} {xs : List V} {n : Str} (h : n ∉ ns) : (ns.zip xs).lookup n = none := by
  induction ns generalizing xs with
  | nil => rfl
  | cons a ns ih =>
    cases xs with
    | nil => rfl
    | cons x xs =>
      have hne : (n == a) = false := by
        have : n ≠ a := fun z => h (by rw [z]; exact List.mem_cons_self)
        simpa using this
      simp only [List.zip_cons_cons, List.lookup, hne]
      exact ih fun z => h (List.mem_cons_of_mem _ z)
theorem se_meth {cl : Nat} {m : String} {f : Nat} {p : Pm} {o as : IE} (ho : SE T N C c o) (ha : SL T N C c as) : SE T N C c (.meth cl m f p o as) := by
  intro sc e W X env hp ad σ H hX hT hc R S
  have key : ∃ x ap es kws pos, e = .Call (.Attribute x (Str.ofString m) ap) es kws pos ∧ T.mt cl m = some f ∧ cl ∈ T.ncl ∧ Str.ofString m ∉ T.cn cl ∧ (ap.endLine == pos.line) = true ∧ isCall x = false ∧ (⟨f, es.length + 1, kws.filterMap (·.arg), p⟩ : Shp) ∈ T.shs ∧ kws.all (·.arg.isSome) = true ∧ es.length + kws.length < 28 ∧ as.noS = true ∧ chkE T N o sc x = true ∧ chkA T N as sc (es ++ kws.map (·.value)) = true := by
    have hc : (match (generalizing := false) e with
      | .Call (.Attribute x n ap) es kws cp => decide (n = Str.ofString m) && decide (T.mt cl m = some f) && decide (cl ∈ T.ncl) && !(T.cn cl).contains n && (ap.endLine == cp.line) && !isCall x && T.shs.contains ⟨f, es.length + 1, kws.filterMap (·.arg), p⟩ && kws.all (·.arg.isSome) && decide (es.length + kws.length < 28) && as.noS && chkE T N o sc x && chkA T N as sc (es ++ kws.map (·.value))
      | _ => false) = true := hc
    split at hc
    · rw [Bool.and_eq_true, Bool.and_eq_true, Bool.and_eq_true, Bool.and_eq_true, Bool.and_eq_true, Bool.and_eq_true, Bool.and_eq_true, Bool.and_eq_true, Bool.and_eq_true, Bool.and_eq_true, Bool.and_eq_true, decide_eq_true_eq, decide_eq_true_eq, decide_eq_true_eq, decide_eq_true_eq, Bool.not_eq_true', Bool.not_eq_true'] at hc
      obtain ⟨⟨⟨⟨⟨⟨⟨⟨⟨⟨⟨rfl, h1⟩, h2⟩, h3⟩, h4⟩, h5⟩, h6⟩, h7⟩, h8⟩, h9⟩, ha⟩, hb⟩ := hc
      exact ⟨_, _, _, _, _, rfl, h1, h2, by simpa using h3, h4, h5, by simpa using h6, h7, h8, h9, ha, hb⟩
    · cases hc
  obtain ⟨x, ap, es, kws, pos, rfl, hmt, hcl, hnn, hline, hcall, hsh, hall, hfew, hnS, co, ca⟩ := key
  have hns := chkA_noS ca hnS
  obtain ⟨fd, ps, k, hps, hk, hr, F, hb⟩ := hT.fns _ hsh
  obtain ⟨k1, k2, k3⟩ := hT.cls cl hcl
  refine fin_both (r := (ev c o false env hp).bind fun x h1 => if insOk cl h1 x then (evA c as env h1).bind fun ds h2 => match permD p (x :: ds) with
    | some args => c.call f args h2
    | none => .stk
    else .stk) rfl fun Q pp => ?_
  intro pins s I
  refine meth_walk (attrB hcall) hline (fun y hy => hns y (by simp [hy])) hall hfew I ?_
  refine step (RR := RV C X.K) ho hX hT co R S pp fun d1 h1 v1 H1 ad1 R1 S1 x1 r1 p1 => ?_
  have p1 : PV C X (if insOk cl h1 d1 = true then (evA c as env h1).bind fun ds h2 => match permD p (d1 :: ds) with
    | some args => c.call f args h2
    | none => .stk
    else .stk) ad1 H1 (WE W σ) Q := p1
  by_cases hi : insOk cl h1 d1 = true
  · rw [if_pos hi] at p1
    have inst : ∃ a dx fs, v1 = .ref a ∧ H1 a = some (.ins (C.addr cl) dx fs) ∧ fs.lookup (Str.ofString m) = none := by
      clear p1 pp
      cases d1 <;> first | (cases hi; done) | skip
      · have hi : (_ == cl) = true := hi
        rw [beq_iff_eq] at hi
        subst hi
        cases r1 with | ins e n l rs => exact ⟨_, _, _, rfl, e, by rw [hT.cn]; exact zip_none hnn⟩
      · rename_i n
        have hi : (match gt h1 n with
          | some (.ins c _) => c == cl
          | _ => false) = true := hi
        cases hg : gt h1 n with
        | none => rw [hg] at hi; cases hi
        | some ob =>
          rw [hg] at hi
          cases ob <;> first | (cases hi; done) | skip
          have hi : (_ == cl) = true := hi
          rw [beq_iff_eq] at hi
          subst hi
          obtain ⟨a, dx, xs, rfl, e, l, rs⟩ := R1.insAt r1 hg
          exact ⟨a, dx, _, rfl, e, by rw [hT.cn]; exact zip_none hnn⟩
    obtain ⟨a, dx, fs, rfl, e, hl⟩ := inst
    refine ⟨a, _, dx, fs, _, rfl, e, k1, hT.mt cl m f hcl hmt, hl, ?_⟩
    refine wL.mono (Q := fun vs H2 => ∀ zvs, zvs.length = ps.length → PermR X.K p (.ref a :: vs) zvs → spF C X.prog X.w X.K (T.np f) (c.call f) zvs H2 Q (WE W σ)) ?_ fun vs H2 q s2 us ws I2 r l1 l2 => ?_
    · refine ha sc _ W X env h1 ad1 σ H1 hX hT ca hnS R1 S1 _ ?_
      cases hr : evA c as env h1 with
      | exc cl w h2 => rw [hr] at p1; exact p1
      | stk => rw [hr] at p1; exact p1.elim
      | ok ds h2 =>
        rw [hr] at p1
        intro vs H2 ad2 R2 x2 rs zvs hl hpm
        have p1 : PV C X (match permD p (d1 :: ds) with | some args => c.call f args h2 | none => .stk) ad1 H1 (WE W σ) Q := p1
        cases hd : permD p (d1 :: ds) with
        | none => rw [hd] at p1; exact p1.elim
        | some args =>
          rw [hd] at p1
          exact ⟨hl.trans hps, ad2, h2, args, R2, perm_ok hpm (.cons (r1.mono x2) rs) hd, Post.shift x2 p1⟩
    · exact run_sh (us := .ref a :: us) (vs := .ref a :: vs) F hr hb hX.tk I2 (.cons rfl r) (congrArg (· + 1) l1) (by rw [l2]; exact (kw_len hall).symm) q
  · rw [if_neg hi] at p1; exact p1.elim

open Classical in
theorem se_make {z : Bool} {cl f : Nat} {p : Pm} {as : IE} (ha : SL T N C c as) : SE T N C c (.make z cl f p as) := by
  intro sc e W X env hp ad σ H hX hT hc R S
  have key : ∃ q es kws pos, e = .Call (.Name (T.cname cl) q) es kws pos ∧ glB sc (T.cname cl) = true ∧ plainN (T.cname cl) = true ∧ cl ∈ T.ncl ∧ T.mt cl "__init__" = some f ∧ (⟨f, es.length + 1, kws.filterMap (·.arg), p⟩ : Shp) ∈ T.shs ∧ kws.all (·.arg.isSome) = true ∧ as.noS = true ∧ chkA T N as sc (es ++ kws.map (·.value)) = true := by
    have hc : (match (generalizing := false) e with
      | .Call (.Name x _) es kws _ => decide (x = T.cname cl) && glB sc x && plainN x && decide (cl ∈ T.ncl) && decide (T.mt cl "__init__" = some f) && T.shs.contains ⟨f, es.length + 1, kws.filterMap (·.arg), p⟩ && kws.all (·.arg.isSome) && as.noS && chkA T N as sc (es ++ kws.map (·.value))
      | _ => false) = true := hc
    split at hc
    · rw [Bool.and_eq_true, Bool.and_eq_true, Bool.and_eq_true, Bool.and_eq_true, Bool.and_eq_true, Bool.and_eq_true, Bool.and_eq_true, Bool.and_eq_true, decide_eq_true_eq, decide_eq_true_eq, decide_eq_true_eq] at hc
      obtain ⟨⟨⟨⟨⟨⟨⟨⟨rfl, h1⟩, h2⟩, h3⟩, h4⟩, h5⟩, h6⟩, h7⟩, h8⟩ := hc
      exact ⟨_, _, _, _, rfl, h1, h2, h3, h4, by simpa using h5, h6, h7, h8⟩
    · cases hc
  obtain ⟨q, es, kws, pos, rfl, hg, hpn, hcl, hini, hsh, hall, hnS, ca⟩ := key
  obtain ⟨p1, p2, p3⟩ := plainN_of hpn
  have hns := chkA_noS ca hnS
  obtain ⟨fd, ps, k, hps, hr, F, hb⟩ := hT.mks _ hsh
  obtain ⟨k1, k2, k3⟩ := hT.cls cl hcl
  have M := hT.ini cl f hcl hini
  refine fin_both (r := (evA c as env hp).bind fun ds h1 => match permD p (.ref h1.length :: ds) with
    | some args => (c.make f args (h1 ++ [.ins cl []])).bind fun r h2 => match r with
      | .non => gcR (if z then .frz else .keep) h1 (.ref h1.length) h2
      | _ => .stk
    | none => .stk) rfl fun Q pp => ?_
  intro pins s I
  refine wpAny_Call_Name_kw (ld_glob I (hX.gl _ (gl_of hg)) k2 ?_ p1)
  refine callWith_G (Q' := fun vs H1 => ∀ x dx zvs, H1 x = none → H1 dx = none → dx ≠ x → zvs.length = ps.length → PermR X.K p (.ref x :: vs) zvs → spF C X.prog X.w X.K (T.np f) (c.make f) zvs (upd (upd H1 dx (.own x)) x (.ins (C.addr cl) dx [])) (fun v H2 => v = .non ∧ Q (.ref x) H2) (WE W σ)) M.kp (fun x hx => hns x (by simp [hx])) hall I ?_ fun vs H1 s1 us ws q I1 r l1 l2 => ?_
  · refine ha sc _ W X env hp ad σ H hX hT ca hnS R S _ ?_
    cases hr : evA c as env hp with
    | exc cl w h1 => rw [hr] at pp; exact pp
    | stk => rw [hr] at pp; exact pp.elim
    | ok ds h1 =>
      rw [hr] at pp
      intro vs H1 ad1 R1 x1 rs x dx zvs hx hdx hne hl hpm
      have pp : PV C X (match permD p (.ref h1.length :: ds) with
        | some args => (c.make f args (h1 ++ [.ins cl []])).bind fun r h2 => match r with
          | .non => gcR (if z then .frz else .keep) h1 (.ref h1.length) h2
          | _ => .stk
        | none => .stk) ad1 H1 (WE W σ) Q := Post.shift x1 pp
      cases hd : permD p (.ref h1.length :: ds) with
      | none => rw [hd] at pp; exact pp.elim
      | some args =>
        rw [hd] at pp
        have s1 : ∀ a o, H1 a = some o → (upd H1 dx (.own x)) a = some o := same_upd hdx
        have hx2 : (upd H1 dx (.own x)) x = none := by rw [upd_ne hne.symm]; exact hx
        have R1' := R1.same s1
        obtain ⟨R2, x2, rv2⟩ := R1'.push (o := .ins cl []) (u := .ins (C.addr cl) dx []) hx2 (.ins (xs := []) (by rw [upd_same, List.zip_nil_right]) (Nat.zero_le _) .nil)
        have x12 : Ext ad1 H1 (ad1 ++ [x]) (upd (upd H1 dx (.own x)) x (.ins (C.addr cl) dx [])) := (Ext.same s1).trans x2
        refine ⟨hl.trans hps, ad1 ++ [x], h1 ++ [.ins cl []], args, R2, perm_ok hpm (.cons rv2 (rs.mono x12)) hd, ?_⟩
        have pp : PV C X ((c.make f args (h1 ++ [.ins cl []])).bind fun r h2 => match r with
          | .non => gcR (if z then .frz else .keep) h1 (.ref h1.length) h2
          | _ => .stk) ad1 H1 (WE W σ) Q := pp
        cases hm : c.make f args (h1 ++ [.ins cl []]) with
        | stk => rw [hm] at pp; exact pp.elim
        | exc c' w' h2 => rw [hm] at pp; exact PostX.shift x12 pp
        | ok d h2 =>
          rw [hm] at pp
          intro v H2 ad2 R2' x23 rv
          cases d <;> first | exact pp.elim | skip
          cases rv
          refine ⟨rfl, gc_ok R1 R2' (x12.trans x23) (.ref (prefix_get x23.pre (by rw [← R1.len]; simp))) pp⟩
  · exact run_makeSh M F hr hb hX.tk I1 r (congrArg (· + 1) l1) (by rw [l2]; exact (kw_len hall).symm) q
end
end N9

set_option Elab.async false
set_option linter.all false
set_option maxRecDepth 100000
namespace N9
open PySem PySem.Spec L2
open AutoSeq1 (wpAny_loadPart')

/-! ## enumerate(tuple) -/
theorem meets_enumerate_newT (l : Addr) (items : Array Value) (n : Nat) (dct : Option Addr) (sl : Array (Option Value)) :
    Meets (Builtin.«enumerate.__new__» ⟨[.type "enumerate", .ref l], []⟩) (fun _ R s => s.heap.get? l = some { cls := .type "tuple", dict := dct, data := .seq items n, slots := sl } ∧
      R (.ok (.ret (.ref (s.heap.push { cls := .type "tuple_iterator", data := .fields #[.ref l, .int 0 0] }).objs.size)))
        { s with heap := (s.heap.push { cls := .type "tuple_iterator", data := .fields #[.ref l, .int 0 0] }).push { cls := .type "enumerate", data := .fields #[.none, .bool false, .ref s.heap.objs.size, rawInt 0, .none, .none] } }) :=
  .of_wp fun prog w A R s h => by
    obtain ⟨hp, g, d, tk, os⟩ := s; obtain ⟨hl, h⟩ := h
    have hsub := sub_enumerate
    have hL : Heap.IsTuple (Shared.heap ⟨hp, g, d, tk, os⟩) l items := ⟨_, hl, rfl, n, rfl⟩
    wp_walk using wpAny_loadPart' hl
    refine wpAny_stack_any fun st => wpAny_pure ?_
    split
    · rename_i c _ _ _ _ _
      cases (c == Value.type "enumerate")
      · wp_walk using wpAny_loadPart' hl, wpAny_pyIter_tuple hL
        exact ⟨_, rfl, h⟩
      · wp_walk using wpAny_loadPart' hl, wpAny_pyIter_tuple hL
        exact ⟨_, rfl, h⟩
    · wp_walk using wpAny_loadPart' hl, wpAny_pyIter_tuple hL
      exact ⟨_, rfl, h⟩
theorem call_enumerate_tup {prog : Program} {w : World} {A : Around} {E : Value → Shared → Prop} {s : Shared} {l : Addr} {items : Array Value} {Q : Value → Shared → Prop} (hL : s.heap.IsTuple l items)
    (h : ∀ h', IsEnum h' (s.heap.objs.size + 1) s.heap.objs.size 0 .none → h'.IsTupleIter s.heap.objs.size l 0 → h'.objs.size = s.heap.objs.size + 2 →
      (∀ b o, s.heap.get? b = some o → h'.get? b = some o) → Q (.ref (s.heap.objs.size + 1)) { s with heap := h' }) :
    wpAny (model prog w) A (call (.type "enumerate") [.ref l]) Q E s := by
  obtain ⟨⟨c, dct, dt, sl⟩, hl, hc, n, hd⟩ := hL
  replace hc : c = .type "tuple" := hc
  replace hd : dt = .seq items n := hd
  subst hc hd
  refine callType_new F.called_enumerate (by decide) (F.typeCall_enumerate_1 _) (F.newCall_enumerate_1 _) (fun obj => F.args_object_init_2 obj _) F.entry_enumerate_new
    (meets_enumerate_newT l items n dct sl) ⟨hl, ?_⟩
  have hz : (s.heap.push { cls := .type "tuple_iterator", data := .fields #[.ref l, .int 0 0] }).objs.size = s.heap.objs.size + 1 := Heap.size_push ..
  show _ ∧ _
  rw [hz]
  have he : IsEnum ((s.heap.push { cls := .type "tuple_iterator", data := .fields #[.ref l, .int 0 0] }).push
      { cls := .type "enumerate", data := .fields #[.none, .bool false, .ref s.heap.objs.size, rawInt 0, .none, .none] }) (s.heap.objs.size + 1) s.heap.objs.size 0 .none := by
    have := Heap.get?_push_size (s.heap.push { cls := .type "tuple_iterator", data := .fields #[.ref l, .int 0 0] })
      (o := { cls := .type "enumerate", data := .fields #[.none, .bool false, .ref s.heap.objs.size, rawInt 0, .none, .none] }) rfl
    rw [hz] at this; exact this
  refine ⟨⟨_, he, rfl⟩, h _ he ⟨_, Heap.get?_push_of_some _ (Heap.get?_push_size _ rfl), rfl, rfl⟩ (by rw [Heap.size_push, hz]) fun b o x => Heap.get?_push_of_some _ (Heap.get?_push_of_some _ x)⟩
def IteT (K : PySem.W.Frag) (a : Addr) : It :=
  ⟨fun i H => ∃ (xs : List V) (x : V), SqT K H a xs ∧ xs[i]? = some x, fun i H v H' => ∃ T x, v = .ref T ∧ H T = none ∧ H' = upd H T (.tup [.int (i : Nat), x]) ∧ ∀ xs, SqT K H a xs → xs[i]? = some x, fun i H => ∃ xs : List V, SqT K H a xs ∧ xs.length ≤ i⟩
theorem turn_enumT {P : Program} {w : World} {K : PySem.W.Frag} {elts : List Expr} {kk : Nat} {tpos : Pos} (a e it : Addr) (hea : a ≠ e) (hia : a ≠ it) :
    Turn P w K (.Tuple elts kk tpos) (IteT K a) [e, it] e (fun i h => (∃ old, IsEnum h e it ((i : Nat) : Int) old) ∧ h.IsTupleIter it a i ∧ e ≠ it) where
  mem := by simp
  obj := fun i h st b hb => by
    obtain ⟨⟨old, he⟩, ⟨o, ho, hc, hd⟩, _⟩ := st
    have e' : b = e ∨ b = it := by simpa using hb
    rcases e' with z | z
    · rw [z]; exact ⟨_, he, fun v q => nomatch q⟩
    · rw [z]; exact ⟨o, ho, fun v q => by rw [hd] at q; cases q⟩
  keep := fun i h h' st k => let ⟨⟨old, he⟩, hi, hne⟩ := st; ⟨⟨old, k e (by simp) _ he⟩, hi.at fun o q => k it (by simp) o q, hne⟩
  item := by
    intro X hP hw hK hc i pins s σ H E I hf st hg
    subst hP hw hK
    obtain ⟨⟨old, he⟩, hit, hne⟩ := st
    obtain ⟨xs, x, hq, hx⟩ := hg
    obtain ⟨its, rv, p, hz⟩ := I.tuple hq
    obtain ⟨u, hu, ru⟩ := rv.get hx
    have hel : e < s.heap.objs.size := Heap.lt_size he
    have hil : it < s.heap.objs.size := by obtain ⟨_, q, _⟩ := hit; exact Heap.lt_size q
    have hlt : i < its.toArray.size := by
      have := (List.getElem?_eq_some_iff.mp hu).1
      simpa using this
    have D := Draws.tuple (prog := X.prog) (w := X.w) (A := X.A.in1) (I.ok.hd hc) it a hia its.toArray
    refine wpAny_pyNext_enum_itemD (i := i) (fp := [it, a]) D he ⟨hit, show s.heap.IsTuple a its.toArray from p⟩ hlt hne (by simp [hne, Ne.symm hea]) fun x' h' tk hP ho hst' hT hsz hk => ?_
    have ex : x' = u := by
      have hP : its.toArray[i]? = some x' := hP
      have : its[i]? = some x' := by simpa using hP
      rw [hu] at this; cases this; rfl
    subst ex
    have hit' := hst'.1
    refine ⟨_, rfl, wpAny_letOwnedTupleGo_enum (s := { s with heap := h', toks := tk + 1 }) ho fun h'' he' sb => ?_⟩
    have hT2 : h''.get? s.heap.objs.size = some { cls := .type "tuple", data := .seq #[.int i tk, x'] } := (sb.2 _ (Nat.ne_of_gt hel)).trans hT
    have new : ObjOk X.prog X.w (upd H s.heap.objs.size (.tup [.int (i : Nat), x])) h'' s.heap.objs.size (.tup [.int (i : Nat), x]) :=
      ⟨by show 2 ≤ sizeLine; decide, [.int i tk, x'], .cons ⟨_, rfl⟩ (.cons ru .nil), ⟨_, hT2, rfl, _, rfl⟩⟩
    have I1 : Inv X pins σ (upd H s.heap.objs.size (.tup [.int (i : Nat), x])) { s with heap := h'', toks := tk + 1 } :=
      I.turnedNew (ch := [e, it]) (fun b ob hb q => (sb.2 b (fun z => hb (by simp [z]))).trans (hk b ob (fun z => hb (by simp [z])) (fun z => hb (by simp [z])) q)) hf (Nat.le_refl _) new
    refine ⟨.ref s.heap.objs.size, _, I1, rfl, ⟨_, x, rfl, I.hok.fresh (Nat.le_refl _), rfl, fun ys hy => by rw [I.tuple_inj hy hq]; exact hx⟩, ⟨⟨x', ?_⟩, hit'.at fun o q => (sb.2 it (Ne.symm hne)).trans q, hne⟩, fun b hb => ?_⟩
    · have e1 : ((i + 1 : Nat) : Int) = (i : Int) + 1 := by omega
      rw [e1]; exact he'
    · have hb' : b < s.heap.objs.size := by
        have e' : b = e ∨ b = it := by simpa using hb
        rcases e' with z | z
        · rw [z]; exact hel
        · rw [z]; exact hil
      rw [upd_ne (Nat.ne_of_lt hb')]
      exact (hf b hb).1
  done := by
    intro X hP hw hK hc i pins s σ H E I hf st hg
    subst hP hw hK
    obtain ⟨⟨old, he⟩, hit, hne⟩ := st
    obtain ⟨xs, hq, hx⟩ := hg
    obtain ⟨its, rv, p, hz⟩ := I.tuple hq
    obtain ⟨f0, f1, f2, f3, f4, f5⟩ := hf it (by simp)
    have hl := rv.length
    have hT : s.TypeIs (.ref e) "enumerate" := ⟨_, he, rfl⟩
    unfold pyNext
    refine wpAny_bind (wpAny_attempt (wpAny_callSpecial?_slot (name := Str.ofString "__next__") hT F.slot_enumerate_next
      (wpAny_call_entry F.slot_enumerate_next hT F.entry_enumerate_next ?_ (F.args_enumerate_next_1 _))))
    show wpAny _ _ (field (.ref e) 2 >>= _) _ _ _
    refine wpAny_bind (wpAny_field he rfl (x := .ref it) rfl ?_)
    refine wpAny_bind (wpAny_nextOf_tuple_end (I.ok.hd hc) hit (show s.heap.IsTuple a its.toArray from p) (by simp; omega) fun h' x he' hx' => ?_)
    obtain ⟨o, ho, hc⟩ := hx'
    refine wpAny_bind (wpAny_isInstance (T := "StopIteration") (b := true) ⟨o, ho, hc⟩ isSubtype_stop ?_)
    exact wpAny_pure ⟨rfl, I.turned (t' := s.toks) (fun b o hb q => he' b o hb q) f0 f1 f3 f4 f5⟩
  self := fun A i s Q E st h => let ⟨⟨_, he⟩, _⟩ := st; wpAny_pyIter_enum he h
def iEnumT (K : PySem.W.Frag) (ta : TA) : TI := fun σ H R => ta σ H fun vs H1 => ∃ a xs, vs = [.ref a] ∧ ((SqL K H1 a xs ∧ R (Ite K a) H1) ∨ (SqT K H1 a xs ∧ R (IteT K a) H1))
theorem pi_enumA {X : Cx} {e : Expr} {ta : TA} {p pos tpos : Pos} {elts : List Expr} {kk : Nat} (hg : Gl X "enumerate") (hm : X.mg "enumerate" = none) (ha : PA X [e] ta) (hs : starEach [e] X.env = [(false, eval e X.env)] := by rfl) :
    PI X (.Tuple elts kk tpos) (.Call (.Name "enumerate" p) [e] [] pos) (iEnumT X.K ta) := by
  refine ⟨fun pins s σ H R I h => ?_⟩
  refine PyProof.Rows.Call_ (ld_blt I hg hm PyProof.Rows.boot_enumerate (PyProof.Rows.callWith_type1 (thn (ha.run pos pins s σ H _ I h) fun us s1 ⟨vs, H1, I1, r1, q1⟩ => ?_) hs rfl))
  obtain ⟨a, xs, ex, q⟩ := q1
  subst ex
  cases r1 with
  | cons r rr =>
    cases rr
    cases r
    have fp : ∀ b ∈ [s1.heap.objs.size + 1, s1.heap.objs.size], FpOk X pins H1 b := fun b hb => by
      have e' : b = s1.heap.objs.size + 1 ∨ b = s1.heap.objs.size := by simpa using hb
      have hle : s1.heap.objs.size ≤ b := by
        rcases e' with z | z
        · rw [z]; exact Nat.le_add_right _ _
        · rw [z]; exact Nat.le_refl _
      exact I1.fpOk hle (I1.hok.fresh hle)
    rcases q with ⟨hq, q⟩ | ⟨hq, q⟩
    · obtain ⟨its, rv, p', hz⟩ := I1.list hq
      refine call_enumerate_list p'.isList fun h' he hit hsz hk => wpAny_pyIter_enum he ?_
      have I2 : Inv X pins σ H1 { s1 with heap := h' } := I1.kept (t' := s1.toks) hk
      exact ⟨s1.heap.objs.size + 1, [s1.heap.objs.size + 1, s1.heap.objs.size], _, _, H1, rfl, I2, turn_enum a (s1.heap.objs.size + 1) s1.heap.objs.size, ⟨⟨.none, he⟩, hit, Nat.succ_ne_self _⟩, fp, q⟩
    · obtain ⟨its, rv, p', hz⟩ := I1.tuple hq
      have hal : a < s1.heap.objs.size := by obtain ⟨o, ho, _⟩ := (show s1.heap.IsTuple a its.toArray from p'); exact Heap.lt_size ho
      refine call_enumerate_tup (show s1.heap.IsTuple a its.toArray from p') fun h' he hit hsz hk => wpAny_pyIter_enum he ?_
      have I2 : Inv X pins σ H1 { s1 with heap := h' } := I1.kept (t' := s1.toks) hk
      exact ⟨s1.heap.objs.size + 1, [s1.heap.objs.size + 1, s1.heap.objs.size], _, _, H1, rfl, I2, turn_enumT a (s1.heap.objs.size + 1) s1.heap.objs.size (Nat.ne_of_lt (Nat.lt_succ_of_lt hal)) (Nat.ne_of_lt hal), ⟨⟨.none, he⟩, hit, Nat.succ_ne_self _⟩, fp, q⟩
end N9

set_option Elab.async false
set_option linter.all false
set_option maxRecDepth 100000
namespace N9
open PySem PySem.Spec L2

/-! ## what is walked -/
structure ItOk (C : Ct) (P : Program) (w : World) (K : PySem.W.Frag) (ad : List Addr) (H : Hp) (J : It) (its : Its) : Prop where
  at_ : ∀ i H2 hp2 ad2, HR C P w K ad2 hp2 H2 → Ext ad H ad2 H2 → its.g hp2 →
    (∀ d, its.l[i]? = some d → J.go i H2 ∧ ∀ y H3, J.yld i H2 y H3 → (∀ a o, H2 a = some o → H3 a = some o) ∧ RV C K ad2 H3 y d) ∧ (its.l.length ≤ i → J.stop i H2)
def PostI (C : Ct) (X : Cx) (r : Re Its) (ad : List Addr) (H : Hp) (E : Value → Option Addr → Hp → Prop) (Q : It → Hp → Prop) : Prop := match r with
  | .ok its h' => ∀ J H' ad', HR C X.prog X.w X.K ad' h' H' → Ext ad H ad' H' → ItOk C X.prog X.w X.K ad' H' J its → Q J H'
  | .exc c x h' => PostX C X.prog X.w X.K ad H E c x h'
  | .stk => False
theorem PostI.shift {C : Ct} {X : Cx} {r : Re Its} {ad ad1 : List Addr} {H H1 : Hp} {E : Value → Option Addr → Hp → Prop} {Q : It → Hp → Prop} (z : Ext ad H ad1 H1) (p : PostI C X r ad H E Q) : PostI C X r ad1 H1 E Q := by
  cases r with
  | ok d h' => exact fun J H' ad' S y q => p J H' ad' S (z.trans y) q
  | exc c x h' => exact PostX.shift z p
  | stk => exact p
def SI (T : Tab) (N : List Str) (C : Ct) (c : Oracle) (i : IE) : Prop := ∀ sc t e W X env hp ad σ H, XOk N sc W X → TabOk T C c X → chkI T N i t sc e = true → HR C X.prog X.w X.K ad hp H → SlR C X.K ad env σ H →
  ∀ Q, PostI C X (evI c i env hp) ad H (WE W σ) Q → wI X t e σ H Q

section
variable {C : Ct} {P : Program} {w : World} {K : PySem.W.Frag} {ad ad' : List Addr} {H H' : Hp} {hp : Hm}
/-- a list on the heap, as it stands -/
theorem ext_ref {a : Addr} {n : Nat} (x : Ext ad H ad' H') (h : ad[n]? = some a) : ad'[n]? = some a := prefix_get x.pre h
/-- the items of what is walked, now and later -/
theorem itV_of {X : Cx} (R : HR C X.prog X.w X.K ad hp H) {v : V} {d : D} {its : Its} (r : RV C X.K ad H v d) (h : itV d hp = some its) : ∃ a, v = .ref a ∧ (((∃ xs, SqT X.K H a xs) ∧ ∀ H2 hp2 ad2, HR C X.prog X.w X.K ad2 hp2 H2 → Ext ad H ad2 H2 → its.g hp2 → ∃ xs, SqT X.K H2 a xs ∧ RVs C X.K ad2 H2 xs its.l) ∨
    ((∃ xs, SqL X.K H a xs) ∧ ∀ H2 hp2 ad2, HR C X.prog X.w X.K ad2 hp2 H2 → Ext ad H ad2 H2 → its.g hp2 → ∃ xs, SqL X.K H2 a xs ∧ RVs C X.K ad2 H2 xs its.l)) := by
  cases d <;> first | (cases h; done) | skip
  · have h : some _ = some its := h
    cases h
    obtain ⟨a, xs, rfl, t, rs⟩ := rv_tup r
    exact ⟨a, rfl, .inl ⟨⟨xs, t.sq⟩, fun H2 hp2 ad2 R2 x _ => ⟨xs, (t.mono x).sq, rs.mono x⟩⟩⟩
  · have h : some _ = some its := h
    cases h
    cases r with
    | lst t n rs => exact ⟨_, rfl, .inr ⟨⟨_, .inl t⟩, fun H2 hp2 ad2 R2 x _ => ⟨_, .inl (rd_mono x t n).1, rs.mono x⟩⟩⟩
  · rename_i n
    have h : (match hp[n]? with
      | some (.lst l) => some (⟨l, fun h' => h'[n]? = some (.lst l)⟩ : Its)
      | some (.frz (.lst l)) => some ⟨l, fun h' => h'[n]? = some (.frz (.lst l))⟩
      | _ => none) = some its := h
    cases hn : hp[n]? with
    | none => rw [hn] at h; cases h
    | some o =>
      rw [hn] at h
      cases r with
      | ref ha =>
      rename_i a
      cases o <;> first | (cases h; done) | skip
      · rename_i l
        cases h
        have now : ∀ H2 hp2 ad2, HR C X.prog X.w X.K ad2 hp2 H2 → Ext ad H ad2 H2 → hp2[n]? = some (.lst l) → ∃ xs, SqL X.K H2 a xs ∧ RVs C X.K ad2 H2 xs l := fun H2 hp2 ad2 R2 x g => by
          have := R2.at_ n a _ (ext_ref x ha) g
          cases this with | lst e rs => exact ⟨_, SqL.of e, rs⟩
        obtain ⟨xs, q, _⟩ := now H hp ad R (.refl _ _) hn
        exact ⟨a, rfl, .inr ⟨⟨xs, q⟩, now⟩⟩
      · rename_i o
        cases o <;> first | (cases h; done) | skip
        rename_i l
        cases h
        have now : ∀ H2 hp2 ad2, HR C X.prog X.w X.K ad2 hp2 H2 → Ext ad H ad2 H2 → hp2[n]? = some (.frz (.lst l)) → ∃ xs, SqL X.K H2 a xs ∧ RVs C X.K ad2 H2 xs l := fun H2 hp2 ad2 R2 x g => by
          have := R2.at_ n a _ (ext_ref x ha) g
          cases this with | frzL e rs => exact ⟨_, .inl (.inr ⟨_, e⟩), rs⟩
        obtain ⟨xs, q, _⟩ := now H hp ad R (.refl _ _) hn
        exact ⟨a, rfl, .inr ⟨⟨xs, q⟩, now⟩⟩
  · have h : some _ = some its := h
    cases h
    cases r with
    | scr t => exact ⟨_, rfl, .inr ⟨⟨_, t.sq⟩, fun H2 hp2 ad2 R2 x _ => ⟨_, (show ScrR X.K ad2 H2 _ _ from t.imp (fun q => rd_mono x q.1 q.2) id).sq, RVs.ints⟩⟩⟩
theorem it_lst {a : Addr} {its : Its} (q : ∀ H2 hp2 ad2, HR C P w K ad2 hp2 H2 → Ext ad H ad2 H2 → its.g hp2 → ∃ xs, SqL K H2 a xs ∧ RVs C K ad2 H2 xs its.l) : ItOk C P w K ad H (Itl K a) its := by
  refine ⟨fun i H2 hp2 ad2 R2 x g => ?_⟩
  obtain ⟨xs, h, r⟩ := q H2 hp2 ad2 R2 x g
  refine ⟨fun d hd => ?_, fun hl => ⟨xs, h, by rw [r.length]; exact hl⟩⟩
  obtain ⟨y, hy, ry⟩ := r.getD hd
  refine ⟨⟨xs, y, h, hy⟩, fun z H3 hz => ?_⟩
  obtain ⟨rfl, hz⟩ := hz
  have := hz xs h
  rw [hy] at this
  cases this
  exact ⟨fun _ _ e => e, ry⟩
theorem it_tup {a : Addr} {its : Its} (q : ∀ H2 hp2 ad2, HR C P w K ad2 hp2 H2 → Ext ad H ad2 H2 → its.g hp2 → ∃ xs, SqT K H2 a xs ∧ RVs C K ad2 H2 xs its.l) : ItOk C P w K ad H (Itt K a) its := by
  refine ⟨fun i H2 hp2 ad2 R2 x g => ?_⟩
  obtain ⟨xs, h, r⟩ := q H2 hp2 ad2 R2 x g
  refine ⟨fun d hd => ?_, fun hl => ⟨xs, h, by rw [r.length]; exact hl⟩⟩
  obtain ⟨y, hy, ry⟩ := r.getD hd
  refine ⟨⟨xs, y, h, hy⟩, fun z H3 hz => ?_⟩
  obtain ⟨rfl, hz⟩ := hz
  have := hz xs h
  rw [hy] at this
  cases this
  exact ⟨fun _ _ e => e, ry⟩
theorem enmL_length : ∀ {i : Nat} {l : List D}, (enmL i l).length = l.length
  | _, [] => rfl
  | i, d :: ds => by show (enmL (i + 1) ds).length + 1 = ds.length + 1; rw [enmL_length]
theorem enmL_get : ∀ {i j : Nat} {l : List D} {d : D}, (enmL i l)[j]? = some d → ∃ x, l[j]? = some x ∧ d = .tup [.int ((i + j : Nat) : Int), x]
  | _, _, [], _, h => by simp [enmL] at h
  | i, 0, x :: l, d, h => by
    have h : some (D.tup [.int (i : Int), x]) = some d := h
    cases h
    exact ⟨x, rfl, rfl⟩
  | i, j + 1, x :: l, d, h => by
    obtain ⟨y, h1, h2⟩ := enmL_get (i := i + 1) (j := j) (l := l) (d := d) (by simpa [enmL] using h)
    refine ⟨y, by simpa using h1, ?_⟩
    rw [h2, show i + 1 + j = i + (j + 1) by omega]
theorem enm_new {H2 : Hp} {ad2 : List Addr} {hp2 : Hm} (R2 : HR C P w K ad2 hp2 H2) {i : Nat} {x : V} {d0 : D} {p : Addr} (hp : H2 p = none) (rx : RV C K ad2 H2 x d0) : (∀ b o, H2 b = some o → (upd H2 p (.tup [.int (i : Nat), x])) b = some o) ∧ RV C K ad2 (upd H2 p (.tup [.int (i : Nat), x])) (.ref p) (.tup [.int ((0 + i : Nat) : Int), d0]) := by
  refine ⟨same_upd hp, ?_⟩
  obtain ⟨_, x1, r1⟩ := new_tup R2 (xs := [.int (i : Nat), x]) (ds := [.int (i : Nat), d0]) hp (.cons (.int _) (.cons rx .nil))
  rw [Nat.zero_add]
  exact r1
theorem it_enm {a : Addr} {its : Its} (q : ∀ H2 hp2 ad2, HR C P w K ad2 hp2 H2 → Ext ad H ad2 H2 → its.g hp2 → ∃ xs, SqL K H2 a xs ∧ RVs C K ad2 H2 xs its.l) : ItOk C P w K ad H (Ite K a) ⟨enmL 0 its.l, its.g⟩ := by
  refine ⟨fun i H2 hp2 ad2 R2 x g => ?_⟩
  obtain ⟨xs, h, r⟩ := q H2 hp2 ad2 R2 x g
  refine ⟨fun d hd => ?_, fun hl => ⟨xs, h, by rw [r.length]; have hl : (enmL 0 its.l).length ≤ i := hl; rw [enmL_length] at hl; exact hl⟩⟩
  obtain ⟨d0, hd0, rfl⟩ := enmL_get (show (enmL 0 its.l)[i]? = some d from hd)
  obtain ⟨y, hy, ry⟩ := r.getD hd0
  refine ⟨⟨xs, y, h, hy⟩, fun z H3 hz => ?_⟩
  obtain ⟨p, z', rfl, hp, rfl, hz⟩ := hz
  have := hz xs h
  rw [hy] at this
  cases this
  exact enm_new R2 hp ry
theorem it_enmT {a : Addr} {its : Its} (q : ∀ H2 hp2 ad2, HR C P w K ad2 hp2 H2 → Ext ad H ad2 H2 → its.g hp2 → ∃ xs, SqT K H2 a xs ∧ RVs C K ad2 H2 xs its.l) : ItOk C P w K ad H (IteT K a) ⟨enmL 0 its.l, its.g⟩ := by
  refine ⟨fun i H2 hp2 ad2 R2 x g => ?_⟩
  obtain ⟨xs, h, r⟩ := q H2 hp2 ad2 R2 x g
  refine ⟨fun d hd => ?_, fun hl => ⟨xs, h, by rw [r.length]; have hl : (enmL 0 its.l).length ≤ i := hl; rw [enmL_length] at hl; exact hl⟩⟩
  obtain ⟨d0, hd0, rfl⟩ := enmL_get (show (enmL 0 its.l)[i]? = some d from hd)
  obtain ⟨y, hy, ry⟩ := r.getD hd0
  refine ⟨⟨xs, y, h, hy⟩, fun z H3 hz => ?_⟩
  obtain ⟨p, z', rfl, hp, rfl, hz⟩ := hz
  have := hz xs h
  rw [hy] at this
  cases this
  exact enm_new R2 hp ry
theorem it_rng {lo : Int} {n : Nat} {g : Hm → Prop} : ItOk C P w K ad H (Itr lo n) ⟨rngL lo n, g⟩ := by
  refine ⟨fun i H2 hp2 ad2 R2 x _ => ?_⟩
  have hl : (rngL lo n).length = n := by unfold rngL; simp
  refine ⟨fun d hd => ?_, fun hl' => by have hl' : (rngL lo n).length ≤ i := hl'; rw [hl] at hl'; exact hl'⟩
  have hd : (rngL lo n)[i]? = some d := hd
  have hi : i < n := by have := (List.getElem?_eq_some_iff.mp hd).1; rw [hl] at this; exact this
  refine ⟨hi, fun x H'' hy => ?_⟩
  obtain ⟨rfl, rfl⟩ := hy
  refine ⟨fun _ _ e => e, ?_⟩
  unfold rngL at hd
  rw [List.getElem?_map, List.getElem?_range hi] at hd
  simp only [Option.map_some, Option.some.injEq] at hd
  subst hd
  exact .int _
theorem it_rngD {lo : Int} {n : Nat} {g : Hm → Prop} : ItOk C P w K ad H (Itc lo (-1) n) ⟨rngD lo n, g⟩ := by
  refine ⟨fun i H2 hp2 ad2 R2 x _ => ?_⟩
  have hl : (rngD lo n).length = n := by unfold rngD; simp
  refine ⟨fun d hd => ?_, fun hl' => by have hl' : (rngD lo n).length ≤ i := hl'; rw [hl] at hl'; exact hl'⟩
  have hd : (rngD lo n)[i]? = some d := hd
  have hi : i < n := by have := (List.getElem?_eq_some_iff.mp hd).1; rw [hl] at this; exact this
  refine ⟨hi, fun x H'' hy => ?_⟩
  obtain ⟨rfl, rfl⟩ := hy
  refine ⟨fun _ _ e => e, ?_⟩
  unfold rngD at hd
  rw [List.getElem?_map, List.getElem?_range hi] at hd
  simp only [Option.map_some, Option.some.injEq] at hd
  subst hd
  have : lo + (i : Int) * (-1) = lo - i := by omega
  rw [this]
  exact .int _
end

section
variable {T : Tab} {N : List Str} {C : Ct} {c : Oracle}
/-- an item ahead, for what is walked -/
theorem stepI {a : IE} {x : Expr} {sc : Scope} {W : WX} {X : Cx} {env : Env} {hp : Hm} {ad : List Addr} {σ : L2.St} {H : Hp} {f : D → Hm → Re Its} {Q : It → Hp → Prop} {Q2 : VK}
    (ha : SE T N C c a) (hX : XOk N sc W X) (hT : TabOk T C c X) (ca : chkE T N a sc x = true) (R : HR C X.prog X.w X.K ad hp H) (S : SlR C X.K ad env σ H)
    (p : PostI C X ((ev c a false env hp).bind f) ad H (WE W σ) Q)
    (k : ∀ d h1 v H1 ad1, HR C X.prog X.w X.K ad1 h1 H1 → SlR C X.K ad1 env σ H1 → Ext ad H ad1 H1 → RV C X.K ad1 H1 v d → PostI C X (f d h1) ad1 H1 (WE W σ) Q → Q2 v H1) : wE X x σ H Q2 := by
  refine (ha sc x W X env hp ad σ H hX hT ca R S).1 Q2 ?_
  cases hr : ev c a false env hp with
  | ok d h1 =>
    rw [hr] at p
    intro v H1 ad1 R1 x1 r1
    exact k d h1 v H1 ad1 R1 (S.mono x1) x1 r1 (PostI.shift x1 p)
  | exc cl w h1 => rw [hr] at p; exact p
  | stk => rw [hr] at p; exact p.elim
theorem si_bad {i : IE} (h : ∀ t sc e, chkI T N i t sc e = false) : SI T N C c i := fun sc t e W X env hp ad σ H hX hT hc => absurd (h t sc e) (by rw [hc]; simp)
theorem si_itv {a : IE} (ha : SE T N C c a) : SI T N C c (.itv a) := by
  intro sc t e W X env hp ad σ H hX hT hc R S Q p
  have hc : chkE T N a sc e = true := hc
  have p : PostI C X ((ev c a false env hp).bind fun x h1 => match itV x h1 with
    | some i => .ok i h1
    | none => .stk) ad H (WE W σ) Q := p
  intro pins s I
  have hE : wE X e σ H (fun v H1 => ∃ a, v = .ref a ∧ (((∃ xs, SqT X.K H1 a xs) ∧ Q (Itt X.K a) H1) ∨ ((∃ xs, SqL X.K H1 a xs) ∧ Q (Itl X.K a) H1))) := by
    refine stepI ha hX hT hc R S p fun d h1 v H1 ad1 R1 S1 x1 r1 p1 => ?_
    cases hi : itV d h1 with
    | none => rw [hi] at p1; exact p1.elim
    | some its =>
      rw [hi] at p1
      obtain ⟨a, rfl, ⟨q0, q⟩ | ⟨q0, q⟩⟩ := itV_of R1 r1 hi
      · exact ⟨a, rfl, .inl ⟨q0, p1 _ H1 ad1 R1 (.refl _ _) (it_tup q)⟩⟩
      · exact ⟨a, rfl, .inr ⟨q0, p1 _ H1 ad1 R1 (.refl _ _) (it_lst q)⟩⟩
  refine thn (hE pins s I) fun u s1 ⟨v, H1, I1, r1, a, e, q⟩ => ?_
  subst e
  cases r1
  rcases q with ⟨⟨xs, hq⟩, q⟩ | ⟨⟨xs, hq⟩, q⟩
  · obtain ⟨its, rv, p, hz⟩ := I1.tuple hq
    refine wpAny_pyIter_tuple (show s1.heap.IsTuple a its.toArray from p) ?_
    refine ⟨s1.heap.objs.size, [s1.heap.objs.size], _, _, H1, rfl, I1.kept (t' := s1.toks) fun b o e => Heap.get?_push_of_some _ e, turn_tuple a _, ⟨_, Heap.get?_push_size _ rfl, rfl, rfl⟩, fun b hb => ?_, q⟩
    have e : b = s1.heap.objs.size := by simpa using hb
    subst e
    exact I1.fpOk (Nat.le_refl _) (I1.hok.fresh (Nat.le_refl _))
  · obtain ⟨its, rv, p, hz⟩ := I1.list hq
    refine wpAny_pyIter_list p.isList ?_
    refine ⟨s1.heap.objs.size, [s1.heap.objs.size], _, _, H1, rfl, I1.kept (t' := s1.toks) fun b o e => Heap.get?_push_of_some _ e, turn_list a _, ⟨_, Heap.get?_push_size _ rfl, rfl, rfl⟩, fun b hb => ?_, q⟩
    have e : b = s1.heap.objs.size := by simpa using hb
    subst e
    exact I1.fpOk (Nat.le_refl _) (I1.hok.fresh (Nat.le_refl _))
theorem si_rng1 {a : IE} (ha : SE T N C c a) : SI T N C c (.rng1 a) := by
  intro sc t e W X env hp ad σ H hX hT hc R S Q p
  have key : ∃ q y pos, e = .Call (.Name "range" q) [y] [] pos ∧ glB sc "range" = true ∧ T.bl.contains "range" = true ∧ chkE T N a sc y = true ∧ isStar y = false := by
    cases e <;> first | exact absurd hc Bool.false_ne_true | skip
    rename_i g xs ks pos
    cases g <;> first | exact absurd hc Bool.false_ne_true | skip
    rename_i x q
    match xs, ks, hc with
    | [y], [], hc =>
      have hc : (decide (x = ("range" : Str)) && glB sc x && T.bl.contains "range" && chkE T N a sc y && !isStar y) = true := hc
      rw [Bool.and_eq_true, Bool.and_eq_true, Bool.and_eq_true, Bool.and_eq_true, decide_eq_true_eq, Bool.not_eq_true'] at hc
      obtain ⟨⟨⟨⟨rfl, h1⟩, h2⟩, h3⟩, h4⟩ := hc
      exact ⟨_, _, _, rfl, h1, h2, h3, h4⟩
    | [], _, hc => exact absurd hc Bool.false_ne_true
    | [y], _ :: _, hc => exact absurd hc Bool.false_ne_true
    | _ :: _ :: _, [], hc => exact absurd hc Bool.false_ne_true
    | _ :: _ :: _, _ :: _, hc => exact absurd hc Bool.false_ne_true
  obtain ⟨q, y, pos, rfl, hg, hb, ca, hs⟩ := key
  have p : PostI C X ((ev c a false env hp).bind fun x h1 => match x with
    | .int b => if rngOk 0 b then .ok ⟨rngL 0 b.toNat, fun _ => True⟩ h1 else .stk
    | _ => .stk) ad H (WE W σ) Q := p
  refine wI.of (pi_range1 (hX.gl _ (gl_of hg)) (hT.bls _ hb) (pa_cons peW pa_nil (starCons hs)) (starCons hs)) ?_
  refine stepI ha hX hT ca R S p fun d h1 v H1 ad1 R1 S1 x1 r1 p1 => ?_
  cases d <;> first | exact p1.elim | skip
  rename_i b
  have p1 : PostI C X (if rngOk 0 b then .ok ⟨rngL 0 b.toNat, fun _ => True⟩ h1 else .stk) ad1 H1 (WE W σ) Q := p1
  split at p1
  · rename_i hk
    cases r1
    have hk := @of_decide_eq_true _ (Classical.propDecidable _) hk
    exact ⟨b, rfl, hk.2.2.1, hk.2.2.2, p1 _ H1 ad1 R1 (.refl _ _) it_rng⟩
  · exact p1.elim
theorem si_rng2 {a b : IE} (ha : SE T N C c a) (hb : SE T N C c b) : SI T N C c (.rng2 a b) := by
  intro sc t e W X env hp ad σ H hX hT hc R S Q p
  have key : ∃ q y z pos, e = .Call (.Name "range" q) [y, z] [] pos ∧ glB sc "range" = true ∧ T.bl.contains "range" = true ∧ chkE T N a sc y = true ∧ chkE T N b sc z = true ∧ isStar y = false ∧ isStar z = false := by
    cases e <;> first | exact absurd hc Bool.false_ne_true | skip
    rename_i g xs ks pos
    cases g <;> first | exact absurd hc Bool.false_ne_true | skip
    rename_i x q
    match xs, ks, hc with
    | [y, z], [], hc =>
      have hc : (decide (x = ("range" : Str)) && glB sc x && T.bl.contains "range" && chkE T N a sc y && chkE T N b sc z && !isStar y && !isStar z) = true := hc
      rw [Bool.and_eq_true, Bool.and_eq_true, Bool.and_eq_true, Bool.and_eq_true, Bool.and_eq_true, Bool.and_eq_true, decide_eq_true_eq, Bool.not_eq_true', Bool.not_eq_true'] at hc
      obtain ⟨⟨⟨⟨⟨⟨rfl, h1⟩, h2⟩, h3⟩, h4⟩, h5⟩, h6⟩ := hc
      exact ⟨_, _, _, _, rfl, h1, h2, h3, h4, h5, h6⟩
    | [], _, hc => exact absurd hc Bool.false_ne_true
    | [y], [], hc => exact absurd hc Bool.false_ne_true
    | [y], _ :: _, hc => exact absurd hc Bool.false_ne_true
    | [_, _], _ :: _, hc => exact absurd hc Bool.false_ne_true
    | _ :: _ :: _ :: _, [], hc => exact absurd hc Bool.false_ne_true
    | _ :: _ :: _ :: _, _ :: _, hc => exact absurd hc Bool.false_ne_true
  obtain ⟨q, y, z, pos, rfl, hg, hbl, ca, cb, hs, hs2⟩ := key
  have p : PostI C X ((ev c a false env hp).bind fun x h1 => (ev c b false env h1).bind fun y h2 => match x, y with
    | .int i, .int j => if rngOk i j then .ok ⟨rngL i (j - i).toNat, fun _ => True⟩ h2 else .stk
    | _, _ => .stk) ad H (WE W σ) Q := p
  refine wI.of (pi_range2 (hX.gl _ (gl_of hg)) (hT.bls _ hbl) (pa_cons peW (pa_cons peW pa_nil (starCons hs2)) (starCons hs)) (by rw [starCons hs, starCons hs2]; rfl) (starCons hs2)) ?_
  refine stepI ha hX hT ca R S p fun d h1 v H1 ad1 R1 S1 x1 r1 p1 => ?_
  refine stepI hb hX hT cb R1 S1 p1 fun d2 h2 v2 H2 ad2 R2 S2 x2 r2 p2 => ?_
  cases d <;> first | exact p2.elim | skip
  rename_i i
  cases d2 <;> first | exact p2.elim | skip
  rename_i j
  have p2 : PostI C X (if rngOk i j then .ok ⟨rngL i (j - i).toNat, fun _ => True⟩ h2 else .stk) ad2 H2 (WE W σ) Q := p2
  split at p2
  · rename_i hk
    cases r1
    cases r2
    have hk := @of_decide_eq_true _ (Classical.propDecidable _) hk
    exact ⟨i, j, rfl, hk, p2 _ H2 ad2 R2 (.refl _ _) it_rng⟩
  · exact p2.elim
theorem si_enm {a : IE} (ha : SE T N C c a) : SI T N C c (.enm a) := by
  intro sc t e W X env hp ad σ H hX hT hc R S Q p
  have key : ∃ es k tp q y pos, t = .Tuple es k tp ∧ e = .Call (.Name "enumerate" q) [y] [] pos ∧ glB sc "enumerate" = true ∧ T.bl.contains "enumerate" = true ∧ chkE T N a sc y = true ∧ isStar y = false := by
    cases t <;> first | exact absurd hc Bool.false_ne_true | skip
    cases e <;> first | exact absurd hc Bool.false_ne_true | skip
    rename_i g xs ks pos
    cases g <;> first | exact absurd hc Bool.false_ne_true | skip
    rename_i x q
    match xs, ks, hc with
    | [y], [], hc =>
      have hc : (decide (x = ("enumerate" : Str)) && glB sc x && T.bl.contains "enumerate" && chkE T N a sc y && !isStar y) = true := hc
      rw [Bool.and_eq_true, Bool.and_eq_true, Bool.and_eq_true, Bool.and_eq_true, decide_eq_true_eq, Bool.not_eq_true'] at hc
      obtain ⟨⟨⟨⟨rfl, h1⟩, h2⟩, h3⟩, h4⟩ := hc
      exact ⟨_, _, _, _, _, _, rfl, rfl, h1, h2, h3, h4⟩
    | [], _, hc => exact absurd hc Bool.false_ne_true
    | [y], _ :: _, hc => exact absurd hc Bool.false_ne_true
    | _ :: _ :: _, [], hc => exact absurd hc Bool.false_ne_true
    | _ :: _ :: _, _ :: _, hc => exact absurd hc Bool.false_ne_true
  obtain ⟨es, k, tp, q, y, pos, rfl, rfl, hg, hb, ca, hs⟩ := key
  have p : PostI C X ((ev c a false env hp).bind fun x h1 => match itV x h1 with
    | some its => .ok ⟨enmL 0 its.l, its.g⟩ h1
    | none => .stk) ad H (WE W σ) Q := p
  refine wI.of (pi_enumA (hX.gl _ (gl_of hg)) (hT.bls _ hb) (pa_cons peW pa_nil (starCons hs)) (starCons hs)) ?_
  refine stepI ha hX hT ca R S p fun d h1 v H1 ad1 R1 S1 x1 r1 p1 => ?_
  cases hi : itV d h1 with
  | none => rw [hi] at p1; exact p1.elim
  | some its =>
    rw [hi] at p1
    obtain ⟨a, rfl, ⟨⟨xs, q0⟩, q⟩ | ⟨⟨xs, q0⟩, q⟩⟩ := itV_of R1 r1 hi
    · exact ⟨a, xs, rfl, .inr ⟨q0, p1 _ H1 ad1 R1 (.refl _ _) (it_enmT q)⟩⟩
    · exact ⟨a, xs, rfl, .inl ⟨q0, p1 _ H1 ad1 R1 (.refl _ _) (it_enm q)⟩⟩
theorem it_dt {X : Cx} {n : Nat} {l : List (TK × D)} {d : Addr} {o : Obj} {ys : YS} {ad : List Addr} {H : Hp} (ha : ad[n]? = some d) (hH : H d = some (.frz o (.ext (dtPhi X.prog X.w d ys)))) (ek : ys.map (·.1) = l.map (·.1)) (tp : ∀ y ∈ ys, TupR X.K ad H y.2.1 (y.1.map V.int)) (hfz : ∀ (H2 : Hp) (hp2 : Hm) (ad2 : List Addr), HR C X.prog X.w X.K ad2 hp2 H2 → Ext ad H ad2 H2 → hp2[n]? = some (.frz (.dt l)) → H2 d = some (.frz o (.ext (dtPhi X.prog X.w d ys)))) :
    ItOk C X.prog X.w X.K ad H (Ity (dtPhi X.prog X.w) d o ys) ⟨l.map fun p => kD p.1, fun h' => h'[n]? = some (.frz (.dt l))⟩ := by
  refine ⟨fun i H2 hp2 ad2 R2 x g => ?_⟩
  have h2 := hfz H2 hp2 ad2 R2 x g
  have hlen : ys.length = l.length := by simpa using congrArg List.length ek
  refine ⟨fun dd hd => ?_, fun hl => ⟨h2, by have hl : (l.map fun p => kD p.1).length ≤ i := hl; rw [List.length_map] at hl; omega⟩⟩
  have hd : (l.map fun p => kD p.1)[i]? = some dd := hd
  have hi : i < l.length := by have := (List.getElem?_eq_some_iff.mp hd).1; rwa [List.length_map] at this
  refine ⟨⟨h2, by omega⟩, fun z H3 hz => ?_⟩
  obtain ⟨rfl, y, hy, rfl⟩ := hz
  refine ⟨fun _ _ e => e, ?_⟩
  have hm : y ∈ ys := List.mem_of_getElem? hy
  have e1 : l[i]?.map (·.1) = some y.1 := by rw [← List.getElem?_map, ← ek, List.getElem?_map, hy]; rfl
  rw [List.getElem?_map] at hd
  rw [List.getElem?_eq_getElem hi] at hd e1
  simp only [Option.map_some, Option.some.injEq] at hd e1
  rw [← hd, e1]
  exact .tup ((tp y hm).mono x) RVs.ints
theorem si_kys {a : IE} (ha : SE T N C c a) : SI T N C c (.kys a) := by
  intro sc t e W X env hp ad σ H hX hT hc R S Q p
  have hc : chkE T N a sc e = true := hc
  have p : PostI C X ((ev c a false env hp).bind fun x h1 => kysR x h1) ad H (WE W σ) Q := p
  intro pins s I
  have hE : wE X e σ H (fun v H1 => ∃ d ys, v = .ref d ∧ ((∃ o, H1 d = some (.frz o (.ext (dtPhi X.prog X.w d ys))) ∧ Q (Ity (dtPhi X.prog X.w) d o ys) H1) ∨ (H1 d = some (.ext (dtPhi X.prog X.w d ys)) ∧ ∀ o, Q (Ity (dtPhi X.prog X.w) d o ys) (upd H1 d (.frz o (.ext (dtPhi X.prog X.w d ys))))))) := by
    refine stepI ha hX hT hc R S p fun d h1 v H1 ad1 R1 S1 x1 r1 p1 => ?_
    cases d <;> first | exact p1.elim | skip
    rename_i n
    have p1 : PostI C X (match h1[n]? with
      | some (.dt l) => .ok ⟨l.map fun p => kD p.1, fun h' => h'[n]? = some (.frz (.dt l))⟩ (h1.set n (.frz (.dt l)))
      | some (.frz (.dt l)) => .ok ⟨l.map fun p => kD p.1, fun h' => h'[n]? = some (.frz (.dt l))⟩ h1
      | _ => .stk) ad1 H1 (WE W σ) Q := p1
    cases hn : h1[n]? with
    | none => rw [hn] at p1; exact p1.elim
    | some ob =>
      rw [hn] at p1
      obtain ⟨dd, rfl, hd, q⟩ := R1.ref r1 hn
      cases ob <;> first | exact p1.elim | skip
      · rename_i l
        cases q with
        | dt e ek tp rs =>
        rename_i ys
        refine ⟨dd, ys, rfl, .inr ⟨e, fun o => ?_⟩⟩
        have xq : Ext ad1 H1 ad1 (upd H1 dd (.frz o (.ext (dtPhi X.prog X.w dd ys)))) := ⟨List.prefix_refl _, fun b u e m => by rw [upd_ne (fun z => by subst z; exact m (List.mem_of_getElem? hd))]; exact e, fun b e => by
          by_cases z : b = dd
          · subst z; rw [upd_same]; simp
          · rw [upd_ne z]; exact e, fun _ h => .inl h, fun b o' u' e' => by rw [upd_ne (fun z => by subst z; rw [e] at e'; cases e')]; exact e'⟩
        obtain ⟨R2, x2⟩ := R1.write hd (o := .frz (.dt l)) (u := .frz o (.ext (dtPhi X.prog X.w dd ys))) (.frzT upd_same ek (fun y hy => (tp y hy).mono xq) (rs.mono xq))
        exact p1 _ _ ad1 R2 x2 (it_dt hd upd_same ek (fun y hy => (tp y hy).mono xq) fun H2 hp2 ad2 R3 x3 g => x3.fz _ _ _ upd_same)
      · rename_i ob
        cases ob <;> first | exact p1.elim | skip
        rename_i l
        cases q with
        | frzT e ek tp rs =>
        rename_i o ys
        refine ⟨dd, ys, rfl, .inl ⟨o, e, ?_⟩⟩
        exact p1 _ _ ad1 R1 (.refl _ _) (it_dt hd e ek tp fun H2 hp2 ad2 R3 x3 g => x3.fz _ _ _ e)
  refine thn (hE pins s I) fun u s1 ⟨v, H1, I1, r1, d, ys, e, q⟩ => ?_
  subst e
  cases r1
  rcases q with ⟨o, hH, q⟩ | ⟨hH, q⟩
  · exact iter_ity I1 hH q
  · obtain ⟨o, I2⟩ := I1.lock hH trivial
    exact iter_ity I2 upd_same (q o)
end
end N9

set_option Elab.async false
set_option linter.all false
set_option maxRecDepth 100000
namespace N9
open PySem PySem.Spec L2

/-! ## a comprehension's block -/
section
variable {T : Tab} {N : List Str} {C : Ct} {c : Oracle} {sc scope : Scope} {W : WX} {X : Cx} {own : List Nat}
theorem blk_ok (hX : XOk N sc W X) (h : blkB N sc scope own = true) : BlkOk X.N X.env.scope scope (own.map fun p => (N.getD p default, p)) := by
  unfold blkB at h
  simp only [Bool.and_eq_true, List.all_eq_true, decide_eq_true_eq] at h
  obtain ⟨⟨⟨h1, h2⟩, h3⟩, h4⟩ := h
  refine ⟨?_, h2, fun p hp => ?_, fun y hy e => ?_, fun y hy e => ?_⟩
  · split at h1
    · assumption
    · cases h1
  · obtain ⟨q, hq, rfl⟩ := List.mem_map.mp hp
    have := h3 q hq
    rw [hX.hN]
    simp [List.getD, this]
  · have q := h4 y hy
    simp only [e] at q
    refine hX.cf y.1 ?_
    split at q <;> first | exact .inl (by assumption) | exact .inr (by assumption) | cases q
  · have q := h4 y hy
    rw [List.map_map, hX.hN]
    rcases e with e | e <;> (simp only [e, Bool.or_eq_true, decide_eq_true_eq] at q; exact q)
theorem own_snd : (own.map fun p => (N.getD p default, p)).map (·.2) = own := by rw [List.map_map]; exact List.map_id' _
theorem blk_x (hX : XOk N sc W X) (h : blkB N sc scope own = true) (s : Shared) (H : Hp) (D : Addr) (cl : List (Str × Addr)) (fp : List Addr) : XOk N scope (fun _ _ _ _ => False) (X.blk s H scope (compEnvC scope cl D X.env) fp) := by
  have kp : ∀ {x k}, k ≠ NameKind.free → scope.names.lookup x = some k → (compEnvC scope cl D X.env).scope.names.lookup x = some k := fun hk hx => lookup_relS_keep hk hx
  have fr : ∀ {x}, scope.names.lookup x = some .free → (compEnvC scope cl D X.env).scope.names.lookup x = some .cell ∨ (compEnvC scope cl D X.env).scope.names.lookup x = some .free := by
    intro x hx
    cases q : (compEnvC scope cl D X.env).scope.names.lookup x with
    | none =>
      exfalso
      have : ∀ (names : List (Str × NameKind)), names.lookup x = some .free → (names.map fun (n, k) => if (k == NameKind.free && X.env.scope.kind == .function && X.env.scope.names.lookup n == some .cell) then (n, NameKind.cell) else (n, k)).lookup x ≠ none := by
        intro names
        induction names with
        | nil => intro h; cases h
        | cons y r ih =>
          obtain ⟨n, k⟩ := y
          intro h
          show List.lookup x ((if (k == NameKind.free && X.env.scope.kind == .function && X.env.scope.names.lookup n == some .cell) = true then (n, NameKind.cell) else (n, k)) :: (r.map _)) ≠ none
          cases hx' : x == n with
          | true =>
            by_cases hc : (k == NameKind.free && X.env.scope.kind == .function && X.env.scope.names.lookup n == some .cell) = true
            · rw [if_pos hc]; simp only [List.lookup_cons, hx']; simp
            · rw [if_neg hc]; simp only [List.lookup_cons, hx']; simp
          | false =>
            simp only [List.lookup_cons, hx'] at h
            by_cases hc : (k == NameKind.free && X.env.scope.kind == .function && X.env.scope.names.lookup n == some .cell) = true
            · rw [if_pos hc]; simp only [List.lookup_cons, hx']; exact ih h
            · rw [if_neg hc]; simp only [List.lookup_cons, hx']; exact ih h
      exact this _ hx q
    | some k =>
      obtain ⟨k', e, r⟩ := lookup_relS q
      rw [hx] at e
      cases e
      rcases r with r | ⟨_, r⟩
      · subst r; exact .inr rfl
      · subst r; exact .inl rfl
  refine ⟨hX.hN, hX.nd, hX.calm, takes0, hX.hu, fun x hx => ?_, fun x hx => ?_, fun x hx => kp (by simp) hx, fun x hx => ?_⟩
  · rcases hx with hx | hx | hx
    · exact .inl (kp (by simp) hx)
    · exact .inr (.inl (kp (by simp) hx))
    · exact .inr (fr hx)
  · rcases hx with hx | hx
    · exact ⟨.inl (kp (by simp) hx), .inr (kp (by simp) hx)⟩
    · exact ⟨.inr (kp (by simp) hx), .inl (by show (scope.names.lookup x == some .cell) = true; rw [hx]; rfl)⟩
  · rcases hx with hx | hx
    · exact .inl (kp (by simp) hx)
    · exact fr hx
theorem blk_t (hT : TabOk T C c X) (s : Shared) (H : Hp) (D : Addr) (cl : List (Str × Addr)) (fp : List Addr) : TabOk T C c (X.blk s H scope (compEnvC scope cl D X.env) fp) := ⟨hT.cn, hT.gf, hT.fns, hT.mks, hT.mt, hT.cls, hT.ini, hT.cInt, hT.cStr, hT.bls⟩

/-! ## targets -/
def gNms : List Nat → TGs
  | [] => gNil
  | i :: is => gCons (gName i) (gNms is)
def gT (K : PySem.W.Frag) : Tg → TG
  | .nm i => gName i
  | .tp is => gTup K is.length (gNms is)
theorem pg_nm (hX : XOk N sc W X) {i : Nat} {x : Str} {pos : Pos} (hi : N[i]? = some x) (hl : locB sc x = true) : PG X (.Name x pos) (gName i) := by
  obtain ⟨h1, h2⟩ := hX.loc x (loc_of hl)
  exact pg_name (by rw [hX.hN]; exact hX.nd) (by rw [hX.hN]; exact hi) h1 h2
theorem pg_nms (hX : XOk N sc W X) : ∀ {is : List Nat} {es : List Expr}, is.length = es.length → ((is.zip es).all fun p => match p.2 with | .Name x _ => decide (N[p.1]? = some x) && locB sc x | _ => false) = true → PGs X es (gNms is) ∧ (assignEach es X.env).length = is.length ∧ (assignEach es X.env).findIdx? (·.1) = none
  | [], [], _, _ => ⟨pgs_nil, rfl, rfl⟩
  | [], _ :: _, h, _ => by simp at h
  | _ :: _, [], h, _ => by simp at h
  | i :: is, e :: es, hl, h => by
    rw [List.zip_cons_cons, List.all_cons, Bool.and_eq_true] at h
    obtain ⟨h1, h2⟩ := h
    obtain ⟨g1, g2, g3⟩ := pg_nms hX (is := is) (es := es) (by simpa using hl) h2
    cases e <;> first | exact absurd h1 Bool.false_ne_true | skip
    simp only [Bool.and_eq_true, decide_eq_true_eq] at h1
    refine ⟨pgs_cons (pg_nm hX h1.1 h1.2) g1, ?_, ?_⟩
    · show (assignEach es X.env).length + 1 = is.length + 1
      rw [g2]
    · show ((false, _) :: assignEach es X.env).findIdx? (·.1) = none
      rw [List.findIdx?_cons]
      simp [g3]
theorem pgT (hX : XOk N sc W X) {tg : Tg} {t : Expr} (h : tgB N sc tg t = true) : PG X t (gT X.K tg) := by
  cases tg with
  | nm i =>
    cases t <;> first | exact absurd h Bool.false_ne_true | skip
    have h : (decide _ && _) = true := h
    simp only [Bool.and_eq_true, decide_eq_true_eq] at h
    exact pg_nm hX h.1 h.2
  | tp is =>
    cases t <;> first | exact absurd h Bool.false_ne_true | skip
    rename_i es k pos
    have h : (decide (is.length = es.length) && (is.zip es).all fun p => match p.2 with | .Name x _ => decide (N[p.1]? = some x) && locB sc x | _ => false) = true := h
    rw [Bool.and_eq_true, decide_eq_true_eq] at h
    obtain ⟨g1, g2, g3⟩ := pg_nms hX h.1 h.2
    exact pg_tup hX.calm g1 g2 g3
end

section
variable {C : Ct} {K : PySem.W.Frag} {ad : List Addr} {env env' : Env} {σ : L2.St} {H H' : Hp}
theorem setSl_eq {e e' : Env} {i : Nat} {d : D} (h : setSl e i d = some e') : e' = e.set i (some d) ∧ i < e.length := by
  unfold setSl at h
  split at h
  · cases h; exact ⟨rfl, by assumption⟩
  · cases h
theorem SlR.setF {i : Nat} {v : V} {d : D} {e' : Env} (S : N9.SlR C K ad env σ H) (r : RV C K ad H v d) (h : setSl env i d = some e') : N9.SlR C K ad e' (σ.set i (some v)) H := by
  obtain ⟨rfl, hi⟩ := setSl_eq h
  refine ⟨by rw [List.length_set, List.length_set]; exact S.len, fun j d' q => ?_⟩
  by_cases hj : i = j
  · subst hj
    rw [List.getElem?_set_self hi] at q
    cases q
    exact ⟨v, by rw [List.getElem?_set_self (by rw [S.len]; exact hi)], r⟩
  · rw [List.getElem?_set_ne hj] at q
    rw [List.getElem?_set_ne hj]
    exact S.slot j d' q
theorem wipe_set {i : Nat} {x : Option V} : ∀ {vs : List Nat}, i ∈ vs → wipe (σ.set i x) vs = wipe σ vs
  | v :: vs, h => by
    unfold wipe
    by_cases hi : i ∈ vs
    · rw [wipe_set hi]
    · have hv : v = i := by rcases List.mem_cons.mp h with h | h; exact h.symm; exact absurd h hi
      subst hv
      have : ∀ {vs : List Nat}, v ∉ vs → wipe (σ.set v x) vs = (wipe σ vs).set v x := by
        intro vs
        induction vs with
        | nil => intro _; rfl
        | cons w ws ih =>
          intro hn
          simp only [List.mem_cons, not_or] at hn
          unfold wipe
          rw [ih hn.2, List.set_comm _ _ hn.1]
      rw [this hi, List.set_set]
theorem setSls_ok {vs : List V} {Q : L2.St → Hp → Prop} : ∀ {is : List Nat} {xs : List V} {ds : List D} {env e' : Env} {σ : L2.St}, N9.SlR C K ad env σ H → RVs C K ad H xs ds → setSls env is ds = some e' →
    (∀ σ', N9.SlR C K ad e' σ' H → (∀ own : List Nat, is.all own.contains = true → wipe σ' own = wipe σ own) → Q σ' H) → gNms is xs σ H Q
  | [], [], [], env, e', σ, S, .nil, h, k => ⟨rfl, by cases h; exact k σ S fun _ _ => rfl⟩
  | [], _ :: _, _ :: _, _, _, _, _, .cons _ _, h, _ => nomatch h
  | i :: is, [], [], _, _, _, _, .nil, h, _ => nomatch h
  | i :: is, v :: xs, d :: ds, env, e', σ, S, .cons r rs, h, k => by
    have h : (match (generalizing := false) setSl env i d with | some e1 => setSls e1 is ds | none => none) = some e' := h
    cases q : setSl env i d with
    | none => rw [q] at h; cases h
    | some e1 =>
      rw [q] at h
      refine ⟨v, xs, rfl, setSls_ok (vs := vs) (S.setF r q) rs h fun σ' S' hw => k σ' S' fun own ho => ?_⟩
      rw [List.all_cons, Bool.and_eq_true] at ho
      rw [hw own ho.2, wipe_set (by simpa using ho.1)]
theorem setSls_len : ∀ {is : List Nat} {ds : List D} {env e' : Env}, setSls env is ds = some e' → ds.length = is.length := by
  intro is
  induction is with
  | nil => intro ds env e' h; cases ds <;> first | rfl | exact nomatch h
  | cons i is ih =>
    intro ds env e' h
    cases ds with
    | nil => exact nomatch h
    | cons d ds =>
      have h : (match (generalizing := false) setSl env i d with | some e1 => setSls e1 is ds | none => none) = some e' := h
      cases q : setSl env i d with
      | none => rw [q] at h; cases h
      | some e1 => rw [q] at h; simp [ih h]
/-- a value is bound -/
theorem bind_ok {tg : Tg} {v : V} {d : D} {e' : Env} {Q : L2.St → Hp → Prop} (S : N9.SlR C K ad env σ H) (r : RV C K ad H v d) (h : bindT env tg d = some e') (k : ∀ σ', N9.SlR C K ad e' σ' H → (∀ own : List Nat, tgSub own tg = true → wipe σ' own = wipe σ own) → Q σ' H) : gT K tg v σ H Q := by
  cases tg with
  | nm i => exact k _ (S.setF r h) fun own ho => wipe_set (by simpa [tgSub] using ho)
  | tp is =>
    cases d <;> first | exact absurd (show (none : Option Env) = some e' from h) (by simp) | skip
    obtain ⟨a, xs, rfl, hx, rs⟩ := rv_tup r
    have h : setSls env is _ = some e' := h
    refine ⟨a, xs, rfl, hx.sq, by rw [rs.length, setSls_len h], setSls_ok (vs := xs) S rs h k⟩

/-! ## wiping -/
theorem wipeE_length : ∀ {is : List Nat}, (wipeE env is).length = env.length
  | [] => rfl
  | i :: is => by unfold wipeE; rw [List.length_set, wipeE_length]
theorem wipeE_get {i : Nat} {d : D} : ∀ {is : List Nat}, (wipeE env is)[i]? = some (some d) ↔ (i ∉ is ∧ env[i]? = some (some d))
  | [] => by simp [wipeE]
  | j :: is => by
    unfold wipeE
    by_cases hj : j = i
    · subst hj
      constructor
      · intro h
        by_cases hl : j < (wipeE env is).length
        · rw [List.getElem?_set_self hl] at h; cases h
        · rw [List.getElem?_eq_none (by rw [List.length_set]; omega)] at h; cases h
      · intro h; exact absurd List.mem_cons_self h.1
    · rw [List.getElem?_set_ne hj, wipeE_get]
      simp only [List.mem_cons, not_or]
      exact ⟨fun h => ⟨⟨fun z => hj z.symm, h.1⟩, h.2⟩, fun h => ⟨h.1.2, h.2⟩⟩
theorem SlR.wipe {is : List Nat} (S : N9.SlR C K ad env σ H) : N9.SlR C K ad (wipeE env is) (L2.wipe σ is) H := by
  refine ⟨by rw [wipe_length, wipeE_length]; exact S.len, fun i d q => ?_⟩
  obtain ⟨hm, q⟩ := wipeE_get.mp q
  obtain ⟨v, e, r⟩ := S.slot i d q
  exact ⟨v, by rw [wipe_out hm]; exact e, r⟩
theorem wipe_wipe {own : List Nat} : L2.wipe (L2.wipe σ own) own = L2.wipe σ own := by
  apply List.ext_getElem?
  intro j
  by_cases hj : j ∈ own
  · have key : ∀ τ : L2.St, ∀ vs : List Nat, j ∈ vs → j < τ.length → (wipe τ vs)[j]? = some none := by
      intro τ vs
      induction vs with
      | nil => intro h; cases h
      | cons w ws ih =>
        intro h hl
        unfold wipe
        by_cases hw : w = j
        · subst hw; rw [List.getElem?_set_self (by rw [wipe_length]; exact hl)]
        · rw [List.getElem?_set_ne hw]
          exact ih ((List.mem_cons.mp h).resolve_left (fun z => hw z.symm)) hl
    by_cases hl : j < σ.length
    · rw [key _ _ hj (by rw [wipe_length]; exact hl), key _ _ hj hl]
    · rw [List.getElem?_eq_none (by rw [wipe_length, wipe_length]; omega), List.getElem?_eq_none (by rw [wipe_length]; omega)]
  · rw [wipe_out hj]
end

section
variable {T : Tab} {N : List Str} {C : Ct} {c : Oracle}
theorem con_true {cond : IE} (h : (match cond with | .con (.bl true) => true | _ => false) = true) : cond = .con (.bl true) := by
  split at h
  · rfl
  · cases h
theorem chk_lc {z : Bool} {own : List Nat} {tg : Tg} {it cond elt : IE} {sc : Scope} {e : Expr} (hc : chkE T N (.lc z own tg it cond elt) sc e = true) :
    ∃ x t i ifs scope pos, e = .ListComp x [⟨t, i, ifs, 0⟩] scope pos ∧ chkI T N it t sc i = true ∧ blkB N sc scope own = true ∧ tgB N scope tg t = true ∧ tgSub own tg = true ∧ ((ifs = [] ∧ cond = .con (.bl true)) ∨ ∃ k, ifs = [k] ∧ chkE T N cond scope k = true) ∧ chkE T N elt scope x = true ∧ isSet i = false := by
  cases e <;> first | exact absurd hc Bool.false_ne_true | skip
  rename_i x gs scope pos
  match gs, hc with
  | [], hc => exact absurd hc Bool.false_ne_true
  | ⟨t, i, ifs, a⟩ :: _ :: _, hc =>
    cases a with
    | negSucc n => exact absurd hc Bool.false_ne_true
    | ofNat n => cases n <;> exact absurd hc Bool.false_ne_true
  | [⟨t, i, ifs, a⟩], hc =>
    cases a with
    | negSucc n => exact absurd hc Bool.false_ne_true
    | ofNat n =>
      cases n with
      | succ n => exact absurd hc Bool.false_ne_true
      | zero =>
        have hc : (chkI T N it t sc i && blkB N sc scope own && tgB N scope tg t && tgSub own tg && (match (generalizing := false) ifs with | [] => (match (generalizing := false) cond with | .con (.bl true) => true | _ => false) | [k] => chkE T N cond scope k | _ => false) && chkE T N elt scope x && !isSet i) = true := hc
        rw [Bool.and_eq_true, Bool.and_eq_true, Bool.and_eq_true, Bool.and_eq_true, Bool.and_eq_true, Bool.and_eq_true, Bool.not_eq_true'] at hc
        obtain ⟨⟨⟨⟨⟨⟨h1, h2⟩, h3⟩, h4⟩, h5⟩, h6⟩, h7⟩ := hc
        refine ⟨x, t, i, ifs, scope, pos, rfl, h1, h2, h3, h4, ?_, h6, h7⟩
        match ifs, h5 with
        | [], h5 =>
          exact .inl ⟨rfl, con_true h5⟩
        | [k], h5 => exact .inr ⟨k, rfl, h5⟩
        | _ :: _ :: _, h5 => exact absurd h5 Bool.false_ne_true

theorem cloop_nil {g : Hm → Prop} {bnd : D → Option Env} {cond elt : Env → Hm → Re D} {n : Nat} {h hF : Hm} (q : cloop g bnd cond elt n [] h = some hF) : g h ∧ hF = h := by
  unfold cloop at q
  split at q
  · cases q; exact ⟨by assumption, rfl⟩
  · cases q
theorem cloop_cons {g : Hm → Prop} {bnd : D → Option Env} {cond elt : Env → Hm → Re D} {n : Nat} {d : D} {ds : List D} {h hF : Hm} (q : cloop g bnd cond elt n (d :: ds) h = some hF) : g h ∧ ∃ e1 b h2, bnd d = some e1 ∧ cond e1 h = .ok (.bl b) h2 ∧
    (b = true → ∃ x h3 acc, elt e1 h2 = .ok x h3 ∧ h3[n]? = some (.lst acc) ∧ acc.length < sizeLine ∧ cloop g bnd cond elt n ds (h3.set n (.lst (acc ++ [x]))) = some hF) ∧ (b = false → cloop g bnd cond elt n ds h2 = some hF) := by
  rw [cloop] at q
  split at q
  case isFalse => cases q
  rename_i hg
  refine ⟨hg, ?_⟩
  cases h1 : bnd d with
  | none => rw [h1] at q; cases q
  | some e1 =>
    rw [h1] at q
    simp only at q
    cases h2 : cond e1 h with
    | stk => rw [h2] at q; cases q
    | exc _ _ _ => rw [h2] at q; cases q
    | ok b h2' =>
      rw [h2] at q
      cases b <;> first | (cases q; done) | skip
      rename_i b
      refine ⟨e1, b, h2', rfl, h2, fun hb => ?_, fun hb => ?_⟩
      · subst hb
        simp only at q
        cases h3 : elt e1 h2' with
        | stk => rw [h3] at q; cases q
        | exc _ _ _ => rw [h3] at q; cases q
        | ok x h3' =>
          rw [h3] at q
          simp only at q
          cases h4 : h3'[n]? with
          | none => rw [h4] at q; cases q
          | some o =>
            rw [h4] at q
            cases o <;> first | (cases q; done) | skip
            rename_i acc
            simp only at q
            split at q
            · exact ⟨x, h3', acc, rfl, h4, by assumption, q⟩
            · cases q
      · subst hb; exact q

/-- the core of a comprehension -/
theorem lc_key {z : Bool} {own : List Nat} {tg : Tg} {it cond elt : IE} (hi : SI T N C c it) (hcd : SE T N C c cond) (he : SE T N C c elt) {sc scope : Scope} {x t i : Expr} {ifs : List Expr} {W : WX} {X : Cx} {env : Env} {hp : Hm} {ad : List Addr} {σ : L2.St} {H : Hp} (hX : XOk N sc W X) (hT : TabOk T C c X)
    (ci : chkI T N it t sc i = true) (hblk : blkB N sc scope own = true) (htg : tgB N scope tg t = true) (hsub : tgSub own tg = true) (hif : (ifs = [] ∧ cond = .con (.bl true)) ∨ ∃ k, ifs = [k] ∧ chkE T N cond scope k = true) (cel : chkE T N elt scope x = true)
    (R : HR C X.prog X.w X.K ad hp H) (S : N9.SlR C X.K ad env σ H) : ∃ (tt : TT) (te : TE), (∀ s H D cl fp, PTs (X.blk s H scope (compEnvC scope cl D X.env) fp) ifs tt) ∧ (∀ s H D cl fp, PE (X.blk s H scope (compEnvC scope cl D X.env) fp) x te) ∧
      ∀ Q : VK, PV C X ((evI c it env hp).bind fun its h1 => match cloop its.g (fun d => bindT (wipeE env own) tg d) (fun e h => ev c cond true e h) (fun e h => ev c elt false e h) h1.length its.l (h1 ++ [.lst []]) with
    | some h3 => gcR (if z then .frz else .keep) h1 (.ref h1.length) h3
    | none => .stk) ad H (WE W σ) Q → tLc (wI X t i) (gT X.K tg) tt te own σ H Q := by
  have bx : ∀ s H D cl fp, XOk N scope (fun _ _ _ _ => False) (X.blk s H scope (compEnvC scope cl D X.env) fp) := fun s H D cl fp => blk_x hX hblk s H D cl fp
  have bt : ∀ s H D cl fp, TabOk T C c (X.blk s H scope (compEnvC scope cl D X.env) fp) := fun s H D cl fp => blk_t hT s H D cl fp
  have tests : ∃ tt : TT, (∀ s H D cl fp, PTs (X.blk s H scope (compEnvC scope cl D X.env) fp) ifs tt) ∧ ∀ env hp ad σ H Q b h2, HR C X.prog X.w X.K ad hp H → N9.SlR C X.K ad env σ H → ev c cond true env hp = .ok (.bl b) h2 → (∀ H' ad', HR C X.prog X.w X.K ad' h2 H' → Ext ad H ad' H' → Q b H') → tt σ H Q := by
    rcases hif with ⟨rfl, rfl⟩ | ⟨k, rfl, ck⟩
    · refine ⟨tYes, fun s H D cl fp => pts_nil, fun env hp ad σ H Q b h2 R S hr p => ?_⟩
      have hr : (Re.ok (.bl true) hp : Re N9.D) = .ok (.bl b) h2 := hr
      cases hr
      exact p H ad R (.refl _ _)
    · refine ⟨fun σ H Q => ∀ s H0 D cl fp, wT (X.blk s H0 scope (compEnvC scope cl D X.env) fp) k σ H Q, fun s H0 D cl fp => pts_one ⟨fun pins s' σ H Q I h => h s H0 D cl fp pins s' I⟩, fun env hp ad σ H Q b h2 R S hr p s H0 D cl fp => ?_⟩
      refine (hcd scope k _ (X.blk s H0 scope (compEnvC scope cl D X.env) fp) env hp ad σ H (bx s H0 D cl fp) (bt s H0 D cl fp) ck R S).2 Q ?_
      rw [hr]
      exact p
  obtain ⟨tt, ptt, ktt⟩ := tests
  let te : TE := fun σ H Q => ∀ s H0 D cl fp, wE (X.blk s H0 scope (compEnvC scope cl D X.env) fp) x σ H Q
  have pte : ∀ s H D cl fp, PE (X.blk s H scope (compEnvC scope cl D X.env) fp) x te := fun s H0 D cl fp => ⟨fun pins s' σ H Q I h => h s H0 D cl fp pins s' I⟩
  refine ⟨tt, te, ptt, pte, fun Q p => ?_⟩
  refine hi sc t i W X env hp ad σ H hX hT ci R S _ ?_
  cases hr : evI c it env hp with
  | stk => rw [hr] at p; exact p.elim
  | exc cl w e1 => rw [hr] at p; exact p
  | ok its h1 =>
    rw [hr] at p
    have p : PV C X (match cloop its.g (fun d => bindT (wipeE env own) tg d) (fun e h => ev c cond true e h) (fun e h => ev c elt false e h) h1.length its.l (h1 ++ [.lst []]) with
      | some h3 => gcR (if z then .frz else .keep) h1 (.ref h1.length) h3
      | none => .stk) ad H (WE W σ) Q := p
    generalize hbnd : (fun (d : N9.D) => bindT (wipeE env own) tg d) = bnd at p
    cases hcl : cloop its.g bnd (fun e h => ev c cond true e h) (fun e h => ev c elt false e h) h1.length its.l (h1 ++ [.lst []]) with
    | none => rw [hcl] at p; exact p.elim
    | some hF =>
    rw [hcl] at p
    have p : PV C X (gcR (if z then .frz else .keep) h1 (.ref h1.length) hF) ad H (WE W σ) Q := p
    intro J H1 ad1 R1 x1 it1 D hD
    obtain ⟨R2, x2, _⟩ := R1.push (o := .lst []) (u := .lst []) hD (.lst (xs := []) upd_same .nil)
    refine ⟨fun i m H => m = its.l.length - i ∧ ∃ hp2 ad2, cloop its.g bnd (fun e h => ev c cond true e h) (fun e h => ev c elt false e h) h1.length (its.l.drop i) hp2 = some hF ∧ HR C X.prog X.w X.K ad2 hp2 H ∧ Ext ad1 H1 ad2 H ∧ ad2[h1.length]? = some D, ⟨its.l.length, by simp, h1 ++ [.lst []], ad1 ++ [D], by simpa using hcl, R2, x2, by rw [← R1.len]; simp⟩, ?_⟩
    rintro i m H2 ⟨rfl, hp2, ad2, hloop, R3, x3, hadD⟩
    have S3 := (S.mono x1).mono x3
    cases hd : its.l.drop i with
    | nil =>
      left
      rw [hd] at hloop
      obtain ⟨hg, rfl⟩ := cloop_nil hloop
      have itk := it1.at_ i H2 hF ad2 R3 x3 hg
      refine ⟨itk.2 (by simpa using hd), ?_⟩
      exact gc_ok R1 R3 x3 (.ref hadD) (Post.shift x1 p)
    | cons d ds =>
      right
      have hlt : i < its.l.length := by
        have : (its.l.drop i).length = ds.length + 1 := by rw [hd]; rfl
        rw [List.length_drop] at this; omega
      have hdi : its.l[i]? = some d := by
        have : (its.l.drop i)[0]? = some d := by rw [hd]; rfl
        rw [List.getElem?_drop] at this; simpa using this
      have hds : its.l.drop (i + 1) = ds := by
        have : (its.l.drop i).drop 1 = ds := by rw [hd]; rfl
        rw [List.drop_drop] at this; exact this
      rw [hd] at hloop
      obtain ⟨hg, e3, b, h4, hb1, hb2, hbt, hbf⟩ := cloop_cons hloop
      have itk := it1.at_ i H2 hp2 ad2 R3 x3 hg
      obtain ⟨jgo, jyld⟩ := itk.1 d hdi
      refine ⟨jgo, fun H' => ∃ hp2 ad2, cloop its.g bnd (fun e h => ev c cond true e h) (fun e h => ev c elt false e h) h1.length (its.l.drop (i + 1)) hp2 = some hF ∧ HR C X.prog X.w X.K ad2 hp2 H' ∧ Ext ad1 H1 ad2 H' ∧ ad2[h1.length]? = some D, fun H' h => ⟨its.l.length - (i + 1), by omega, rfl, h⟩, fun y H3 hy => ?_⟩
      obtain ⟨hsame, ry⟩ := jyld y H3 hy
      have xs3 : Ext ad2 H2 ad2 H3 := Ext.same hsame
      have R4 := R3.same hsame
      have S4 := (S3.mono xs3).wipe (is := own)
      rw [← hbnd] at hb1
      refine bind_ok S4 ry hb1 fun σ2 S5 hwp => ?_
      have hwp := hwp own hsub
      rw [wipe_wipe] at hwp
      refine ⟨hwp, ?_⟩
      refine ktt e3 hp2 ad2 σ2 H3 _ b h4 R4 S5 hb2 fun H4 ad4 R5 x5 => ?_
      have x14 : Ext ad1 H1 ad4 H4 := (x3.trans xs3).trans x5
      cases b with
      | false =>
        refine (if_neg (by simp)).mpr ?_
        exact ⟨h4, ad4, by rw [hds]; exact hbf rfl, R5, x14, prefix_get x5.pre hadD⟩
      | true =>
        refine (if_pos rfl).mpr ?_
        obtain ⟨w, h5, acc, hz, hacc, hlen, hrest⟩ := hbt rfl
        intro s H0 D0 cl fp
        refine (he scope x _ (X.blk s H0 scope (compEnvC scope cl D0 X.env) fp) e3 h4 ad4 σ2 H4 (bx s H0 D0 cl fp) (bt s H0 D0 cl fp) cel R5 (S5.mono x5)).1 _ ?_
        rw [hz]
        intro v H5 ad5 R6 x6 r6
        have hD5 : ad5[h1.length]? = some D := prefix_get x6.pre (prefix_get x5.pre hadD)
        have o5 := R6.at_ _ D _ hD5 hacc
        cases o5 with
        | lst e rs =>
          rename_i xs
          have xq : Ext ad5 H5 ad5 (upd H5 D (.lst (xs ++ [v]))) := (R6.write (o := .dead) hD5 (.dead (by rw [upd_same]; simp) (fun _ => by rw [upd_same]; simp))).2
          obtain ⟨R7, x7⟩ := R6.write (u := .lst (xs ++ [v])) hD5 (.lst upd_same ((rs.append (.cons r6 .nil)).mono xq))
          exact ⟨xs, e, by rw [rs.length]; exact hlen, _, ad5, by rw [hds]; exact hrest, R7, (x14.trans x6).trans x7, hD5⟩
theorem se_lc {z : Bool} {own : List Nat} {tg : Tg} {it cond elt : IE} (hi : SI T N C c it) (hcd : SE T N C c cond) (he : SE T N C c elt) : SE T N C c (.lc z own tg it cond elt) := by
  intro sc e W X env hp ad σ H hX hT hc R S
  obtain ⟨x, t, i, ifs, scope, pos, rfl, ci, hblk, htg, hsub, hif, cel, hset⟩ := chk_lc hc
  refine fin_both (r := (evI c it env hp).bind fun its h1 => match cloop its.g (fun d => bindT (wipeE env own) tg d) (fun e h => ev c cond true e h) (fun e h => ev c elt false e h) h1.length its.l (h1 ++ [.lst []]) with
    | some h3 => gcR (if z then .frz else .keep) h1 (.ref h1.length) h3
    | none => .stk) rfl fun Q p => ?_
  obtain ⟨tt, te, ptt, pte, k⟩ := lc_key (z := z) hi hcd he hX hT ci hblk htg hsub hif cel R S
  have hs : ∀ v, foldedSetIterable i X.env v = pure v := by
    intro v
    cases i <;> first | rfl | exact absurd hset (fun z => Bool.false_ne_true z.symm)
  have main := pe_lc (X := X) (tg := t) (g := gT X.K tg) (pos := pos) hX.calm (by rw [hX.hN]; exact hX.nd) piW (blk_ok hX hblk) (fun s H D cl fp => pgT (blk_x hX hblk s H D cl fp) htg) ptt pte hs
  rw [own_snd] at main
  exact wE.of main (k Q p)
end
end N9

set_option Elab.async false
set_option linter.all false
set_option maxRecDepth 100000
namespace N9
open PySem PySem.Spec L2
open Classical
section
variable {T : Tab} {N : List Str} {C : Ct} {c : Oracle}
theorem se_bad {ie : IE} (h : ∀ sc e, chkE T N ie sc e = false) : SE T N C c ie := fun sc e W X env hp ad σ H hX hT hc => absurd (h sc e) (by rw [hc]; simp)
theorem sa_bad {ie : IE} (h : ∀ sc e, chkA T N ie sc e = false) : SA T N C c ie := fun sc e W X env hp ad σ H hX hT hc => absurd (h sc e) (by rw [hc]; simp)
theorem sl_bad {ie : IE} (h : ∀ sc e, chkA T N ie sc e = false) : SL T N C c ie := fun sc e W X env hp ad σ H hX hT hc => absurd (h sc e) (by rw [hc]; simp)
def SAll (T : Tab) (N : List Str) (C : Ct) (c : Oracle) (ie : IE) : Prop := SE T N C c ie ∧ SA T N C c ie ∧ SL T N C c ie ∧ SI T N C c ie
theorem all_e {ie : IE} (h : SE T N C c ie) (h2 : ∀ sc e, chkA T N ie sc e = false) (h3 : ∀ t sc e, chkI T N ie t sc e = false) : SAll T N C c ie := ⟨h, sa_bad h2, sl_bad h2, si_bad h3⟩
theorem all_i {ie : IE} (h : SI T N C c ie) (h1 : ∀ sc e, chkE T N ie sc e = false) (h2 : ∀ sc e, chkA T N ie sc e = false) : SAll T N C c ie := ⟨se_bad h1, sa_bad h2, sl_bad h2, h⟩
theorem sound (ie : IE) : SAll T N C c ie := by
  induction ie with
  | unk => exact all_e se_unk (fun _ _ => rfl) (fun _ _ _ => rfl)
  | con d => exact all_e (se_con d) (fun _ _ => rfl) (fun _ _ _ => rfl)
  | gl x d => exact all_e (se_gl x d) (fun _ _ => rfl) (fun _ _ _ => rfl)
  | var i => exact all_e (se_var i) (fun _ _ => rfl) (fun _ _ _ => rfl)
  | nil => exact ⟨se_bad (fun _ _ => rfl), sa_nil, sl_nil, si_bad (fun _ _ _ => rfl)⟩
  | cons h t ih it => exact ⟨se_bad (fun _ _ => rfl), sa_cons ih.1 it.2.1, sl_cons ih.1 it.2.2.1, si_bad (fun _ _ _ => rfl)⟩
  | star h t ih it => exact ⟨se_bad (fun _ _ => rfl), sa_star ih.1 it.2.1, sl_star, si_bad (fun _ _ _ => rfl)⟩
  | tupE as ih => exact all_e (se_tup ih.2.1) (fun _ _ => rfl) (fun _ _ _ => rfl)
  | lstE z as ih => exact all_e (se_lst ih.2.1) (fun _ _ => rfl) (fun _ _ _ => rfl)
  | op p as ih => exact all_e (se_op ih.2.2.1) (fun _ _ => rfl) (fun _ _ _ => rfl)
  | bmt p o as iho iha => exact all_e (se_bmt iho.1 iha.2.2.1) (fun _ _ => rfl) (fun _ _ _ => rfl)
  | slc2 z a l h iha ihl ihh => exact all_e (se_slc2 iha.1 ihl.1 ihh.1) (fun _ _ => rfl) (fun _ _ _ => rfl)
  | cmp o a b iha ihb => exact all_e (se_cmp iha.1 ihb.1) (fun _ _ => rfl) (fun _ _ _ => rfl)
  | chain o o' a b d iha ihb ihd => exact all_e (se_chain iha.1 ihb.1 ihd.1) (fun _ _ => rfl) (fun _ _ _ => rfl)
  | chain3 o o2 o3 a b b2 d iha ihb ihb2 ihd => exact all_e (se_bad (fun _ _ => rfl)) (fun _ _ => rfl) (fun _ _ _ => rfl)
  | not a ih => exact all_e (se_not ih.1) (fun _ _ => rfl) (fun _ _ _ => rfl)
  | and a b iha ihb => exact all_e (se_and iha.1 ihb.1) (fun _ _ => rfl) (fun _ _ _ => rfl)
  | or a b iha ihb => exact all_e (se_or iha.1 ihb.1) (fun _ _ => rfl) (fun _ _ _ => rfl)
  | ite t a b iht iha ihb => exact all_e (se_ite iht.1 iha.1 ihb.1) (fun _ _ => rfl) (fun _ _ _ => rfl)
  | call f p as ih => exact all_e (se_call ih.2.2.1) (fun _ _ => rfl) (fun _ _ _ => rfl)
  | meth cl m f p o as iho iha => exact all_e (se_meth iho.1 iha.2.2.1) (fun _ _ => rfl) (fun _ _ _ => rfl)
  | make z cl f p as iha => exact all_e (se_make iha.2.2.1) (fun _ _ => rfl) (fun _ _ _ => rfl)
  | rng1 a ih => exact all_i (si_rng1 ih.1) (fun _ _ => rfl) (fun _ _ => rfl)
  | rng2 a b iha ihb => exact all_i (si_rng2 iha.1 ihb.1) (fun _ _ => rfl) (fun _ _ => rfl)
  | rng3 a b iha ihb => exact all_i (si_bad (fun _ _ _ => rfl)) (fun _ _ => rfl) (fun _ _ => rfl)
  | enm a ih => exact all_i (si_enm ih.1) (fun _ _ => rfl) (fun _ _ => rfl)
  | itm a ih => exact all_i (si_bad (fun _ _ _ => rfl)) (fun _ _ => rfl) (fun _ _ => rfl)
  | itv a ih => exact all_i (si_itv ih.1) (fun _ _ => rfl) (fun _ _ => rfl)
  | kys a ih => exact all_i (si_kys ih.1) (fun _ _ => rfl) (fun _ _ => rfl)
  | lc z own tg it cond elt ihi ihc ihe => exact all_e (se_lc ihi.2.2.2 ihc.1 ihe.1) (fun _ _ => rfl) (fun _ _ _ => rfl)
  | dc t own tg it cond k v ihi ihc ihk ihv => exact all_e (se_bad (fun _ _ => rfl)) (fun _ _ => rfl) (fun _ _ _ => rfl)
end

/-! ## statements -/
structure SOk (N : List Str) (sc : Scope) (W : WX) (X : Cx) : Prop extends XOk N sc W X where
  scp : X.env.scope = sc
  kind : sc.kind = .function
  own : PassesOwn (model X.prog X.w) X.A X.env X.xe

section
variable (C : Ct) (X : Cx)
def PostS (r : Fl) (ad : List Addr) (H : Hp) (W : WX) (D : Ends) : Prop :=
  match r with
  | .nx e h => ∀ σ' H' ad', HR C X.prog X.w X.K ad' h H' → SlR C X.K ad' e σ' H' → Ext ad H ad' H' → D.nx σ' H'
  | .brk e h => ∀ σ' H' ad', HR C X.prog X.w X.K ad' h H' → SlR C X.K ad' e σ' H' → Ext ad H ad' H' → D.bk σ' H'
  | .ct e h => ∀ σ' H' ad', HR C X.prog X.w X.K ad' h H' → SlR C X.K ad' e σ' H' → Ext ad H ad' H' → D.ct σ' H'
  | .ret d h => ∀ v H' ad', HR C X.prog X.w X.K ad' h H' → Ext ad H ad' H' → RV C X.K ad' H' v d → D.rt v H'
  | .exc c w e h => ∀ dx v σ' H' ad', HR C X.prog X.w X.K ad' h H' → SlR C X.K ad' e σ' H' → Ext ad H ad' H' → ExcAt H' dx v → RV C X.K ad' H' v w → W (.ref (C.addr c)) (some dx) σ' H'
  | .stk => False
end
section
variable {C : Ct} {X : Cx} {ad ad1 : List Addr} {env : Env} {hp : Hm} {σ σ' : L2.St} {H H1 : Hp} {W : WX} {D : Ends} {c : Oracle}
theorem PostS.shift {r : Fl} (z : Ext ad H ad1 H1) (p : PostS C X r ad H W D) : PostS C X r ad1 H1 W D := by
  cases r with
  | nx e h => exact fun σ' H' ad' R S y => p σ' H' ad' R S (z.trans y)
  | brk e h => exact fun σ' H' ad' R S y => p σ' H' ad' R S (z.trans y)
  | ct e h => exact fun σ' H' ad' R S y => p σ' H' ad' R S (z.trans y)
  | ret d h => exact fun v H' ad' R y r => p v H' ad' R (z.trans y) r
  | exc cl w e h => exact fun dx v σ' H' ad' R S y ea r => p dx v σ' H' ad' R S (z.trans y) ea r
  | stk => exact p
theorem PostS.exc {cl : Nat} {w : N9.D} {h : Hm} (S : SlR C X.K ad env σ H) (p : PostS C X (.exc cl w env h) ad H W D) : PostX C X.prog X.w X.K ad H (WE W σ) cl w h :=
  fun dx v H' ad' R x ea r => p dx v σ H' ad' R (S.mono x) x ea r
theorem PostS.ev {α β : Type} {RR : List Addr → Hp → β → α → Prop} {r : Re α} {f : α → Hm → Fl} {Q : β → Hp → Prop} (S : SlR C X.K ad env σ H) (p : PostS C X (r.fl env f) ad H W D)
    (k : ∀ d h1 v H1 ad1, HR C X.prog X.w X.K ad1 h1 H1 → SlR C X.K ad1 env σ H1 → Ext ad H ad1 H1 → RR ad1 H1 v d → PostS C X (f d h1) ad1 H1 W D → Q v H1) : Post C X.prog X.w X.K RR r ad H (WE W σ) Q := by
  cases r with
  | ok d h1 => exact fun v H1 ad1 R1 x1 r1 => k d h1 v H1 ad1 R1 (S.mono x1) x1 r1 (PostS.shift x1 p)
  | exc cl w h1 => exact PostS.exc S p
  | stk => exact p.elim
theorem PostS.evT {r : Re N9.D} {f : N9.D → Hm → Fl} {Q : Bool → Hp → Prop} (S : SlR C X.K ad env σ H) (p : PostS C X (r.fl env f) ad H W D) (hf : ∀ d h1, (∀ b, d ≠ .bl b) → f d h1 = .stk)
    (k : ∀ b h1 H1 ad1, HR C X.prog X.w X.K ad1 h1 H1 → SlR C X.K ad1 env σ H1 → Ext ad H ad1 H1 → PostS C X (f (.bl b) h1) ad1 H1 W D → Q b H1) : PB C X r ad H (WE W σ) Q := by
  cases r with
  | ok d h1 =>
    by_cases hd : ∃ b, d = .bl b
    · obtain ⟨b, rfl⟩ := hd
      exact fun H1 ad1 R1 x1 => k b h1 H1 ad1 R1 (S.mono x1) x1 (PostS.shift x1 p)
    · have p : PostS C X (f d h1) ad H W D := p
      rw [hf d h1 (fun b z => hd ⟨b, z⟩)] at p
      exact p.elim
  | exc cl w h1 => exact PostS.exc S p
  | stk => exact p.elim
end

section
variable (T : Tab) (N : List Str) (C : Ct) (c : Oracle) (n : Nat)
def SS (i : IS) : Prop := ∀ sc st W X env hp ad σ H, SOk N sc W X → TabOk T C c X → chkS T N i sc st = true → HR C X.prog X.w X.K ad hp H → SlR C X.K ad env σ H → ∀ D, PostS C X (ex c n i env hp) ad H W D → wS X st D σ H
def SB (i : IS) : Prop := ∀ sc st W X env hp ad σ H, SOk N sc W X → TabOk T C c X → chkB T N i sc st = true → HR C X.prog X.w X.K ad hp H → SlR C X.K ad env σ H → ∀ D, PostS C X (ex c n i env hp) ad H W D → wB X st D σ H
end
section
variable {T : Tab} {N : List Str} {C : Ct} {c : Oracle} {n : Nat}
theorem ss_unk : SS T N C c n .unk := fun sc st W X env hp ad σ H hX hT hc R S D p => p.elim
theorem ss_pass : SS T N C c n .pass := by
  intro sc st W X env hp ad σ H hX hT hc R S D p
  cases st <;> first | exact absurd hc Bool.false_ne_true | skip
  exact wS.of ps_pass (p σ H ad R S (.refl _ _))
theorem ss_brk : SS T N C c n .brk := by
  intro sc st W X env hp ad σ H hX hT hc R S D p
  cases st <;> first | exact absurd hc Bool.false_ne_true | skip
  exact wS.of ps_break (p σ H ad R S (.refl _ _))
theorem ss_cont : SS T N C c n .cont := by
  intro sc st W X env hp ad σ H hX hT hc R S D p
  cases st <;> first | exact absurd hc Bool.false_ne_true | skip
  exact wS.of ps_continue (p σ H ad R S (.refl _ _))
theorem sb_nil : SB T N C c n .nil := by
  intro sc st W X env hp ad σ H hX hT hc R S D p
  have hc : st.isEmpty = true := hc
  cases st with
  | cons _ _ => exact absurd hc (by simp)
  | nil => exact wB.of pss_nil (p σ H ad R S (.refl _ _))
theorem sb_seq {a b : IS} (ha : SS T N C c n a) (hb : SB T N C c n b) : SB T N C c n (.seq a b) := by
  intro sc st W X env hp ad σ H hX hT hc R S D p
  cases st with
  | nil => exact absurd hc Bool.false_ne_true
  | cons s ss =>
    have hc : (_ && _) = true := hc
    rw [Bool.and_eq_true] at hc
    refine wB.of (pss_cons psW pbW) ?_
    refine ha sc s W X env hp ad σ H hX hT hc.1 R S _ ?_
    have p : PostS C X ((ex c n a env hp).then (ex c n b)) ad H W D := p
    cases hr : ex c n a env hp with
    | nx e1 h1 =>
      rw [hr] at p
      intro σ1 H1 ad1 R1 S1 x1
      exact hb sc ss W X e1 h1 ad1 σ1 H1 hX hT hc.2 R1 S1 D (PostS.shift x1 p)
    | brk e1 h1 => rw [hr] at p; exact p
    | ct e1 h1 => rw [hr] at p; exact p
    | ret d e1 => rw [hr] at p; exact p
    | exc cl w e1 h1 => rw [hr] at p; exact p
    | stk => rw [hr] at p; exact p
theorem ss_exp (v : IE) : SS T N C c n (.exp v) := by
  intro sc st W X env hp ad σ H hX hT hc R S D p
  cases st <;> first | exact absurd hc Bool.false_ne_true | skip
  rename_i e pos
  have hc : (chkE T N v sc e && !isComp e) = true := hc
  rw [Bool.and_eq_true, Bool.not_eq_true'] at hc
  have hs : swapsWith e none pos.line X.env = pure false := by
    cases e <;> first | rfl | exact absurd hc.2 (fun z => Bool.false_ne_true z.symm)
  refine wS.of (ps_expr peW hs) ?_
  exact ((sound v).1 sc e W X env hp ad σ H hX.toXOk hT hc.1 R S).1 _ (PostS.ev (f := fun _ h1 => .nx env h1) S p fun d h1 w H1 ad1 R1 S1 x1 r1 p1 => p1 σ H1 ad1 R1 S1 (.refl _ _))
theorem ss_ret (v : IE) : SS T N C c n (.ret v) := by
  intro sc st W X env hp ad σ H hX hT hc R S D p
  cases st <;> first | exact absurd hc Bool.false_ne_true | skip
  rename_i eo pos
  cases eo with
  | none => exact absurd hc Bool.false_ne_true
  | some e =>
    refine wS.of (ps_ret peW) ?_
    exact ((sound v).1 sc e W X env hp ad σ H hX.toXOk hT hc R S).1 _ (PostS.ev (f := fun d h1 => .ret d h1) S p fun d h1 w H1 ad1 R1 S1 x1 r1 p1 => p1 w H1 ad1 R1 (.refl _ _) r1)
theorem ss_retN : SS T N C c n .retN := by
  intro sc st W X env hp ad σ H hX hT hc R S D p
  cases st <;> first | exact absurd hc Bool.false_ne_true | skip
  rename_i eo pos
  cases eo with
  | some e => exact absurd hc Bool.false_ne_true
  | none => exact wS.of ps_retN (p .non H ad R (.refl _ _) .non)
theorem ss_ite {t : IE} {a b : IS} (ha : SB T N C c n a) (hb : SB T N C c n b) : SS T N C c n (.ite t a b) := by
  intro sc st W X env hp ad σ H hX hT hc R S D p
  cases st <;> first | exact absurd hc Bool.false_ne_true | skip
  rename_i e x y pos
  have hc : (chkE T N t sc e && chkB T N a sc x && chkB T N b sc y) = true := hc
  rw [Bool.and_eq_true, Bool.and_eq_true] at hc
  refine wS.of (ps_if ptW pbW pbW) ?_
  refine ((sound t).1 sc e W X env hp ad σ H hX.toXOk hT hc.1.1 R S).2 _ (PostS.evT (f := fun x h1 => match x with
    | .bl true => ex c n a env h1
    | .bl false => ex c n b env h1
    | _ => .stk) S p (fun d h1 hd => ?_) fun k h1 H1 ad1 R1 S1 x1 p1 => ?_)
  · cases d <;> first | rfl | exact absurd rfl (hd _)
  · cases k with
    | true => exact (if_pos rfl).mpr (ha sc x W X env h1 ad1 σ H1 hX hT hc.1.2 R1 S1 D p1)
    | false => exact (if_neg (by simp)).mpr (hb sc y W X env h1 ad1 σ H1 hX hT hc.2 R1 S1 D p1)

/-! ## loops -/
theorem wloop_succ {test : Env → Hm → Re D} {body : Env → Hm → Fl} {m : Nat} {e : Env} {h : Hm} : wloop test body (m + 1) e h = ((test e h).fl e fun b h1 => match b with
    | .bl true => match body e h1 with
      | .nx e2 h2 => wloop test body m e2 h2
      | .ct e2 h2 => wloop test body m e2 h2
      | .brk e2 h2 => .nx e2 h2
      | r => r
    | .bl false => .nx e h1
    | _ => .stk) := rfl
theorem ss_whl {t : IE} {b : IS} (hb : SB T N C c n b) : SS T N C c n (.whl t b) := by
  intro sc st W X env hp ad σ H hX hT hc R S D p
  have key : ∃ e x pos, st = .While e x [] pos ∧ chkE T N t sc e = true ∧ chkB T N b sc x = true := by
    cases st <;> first | exact absurd hc Bool.false_ne_true | skip
    rename_i e x els pos
    cases els with
    | cons _ _ => exact absurd hc Bool.false_ne_true
    | nil =>
      have hc : (_ && _) = true := hc
      rw [Bool.and_eq_true] at hc
      exact ⟨_, _, _, rfl, hc.1, hc.2⟩
  obtain ⟨e, x, pos, rfl, ce, cx⟩ := key
  refine wS.of (ps_while hX.own ptW pbW) ?_
  have p : PostS C X (wloop (fun e h => ev c t true e h) (fun e h => ex c n b e h) n env hp) ad H W D := p
  generalize hRR : wloop (fun e h => ev c t true e h) (fun e h => ex c n b e h) n env hp = RR at p
  refine ⟨fun m σ' H' => ∃ e h ad', wloop (fun e h => ev c t true e h) (fun e h => ex c n b e h) m e h = RR ∧ HR C X.prog X.w X.K ad' h H' ∧ N9.SlR C X.K ad' e σ' H' ∧ Ext ad H ad' H', ⟨n, env, hp, ad, hRR, R, S, .refl _ _⟩, ?_⟩
  rintro m σ1 H1 ⟨e1, h1, ad1, hR1, R1, S1, x1⟩
  cases m with
  | zero => have hR1 : Fl.stk = RR := hR1; rw [← hR1] at p; exact p.elim
  | succ m =>
    rw [wloop_succ] at hR1
    have p1 := PostS.shift x1 p
    refine ((sound t).1 sc e W X e1 h1 ad1 σ1 H1 hX.toXOk hT ce R1 S1).2 _ ?_
    cases hr : ev c t true e1 h1 with
    | stk => simp only [hr] at hR1; have hR1 : Fl.stk = RR := hR1; rw [← hR1] at p; exact p.elim
    | exc cl w h2 =>
      simp only [hr] at hR1
      have hR1 : Fl.exc cl w e1 h2 = RR := hR1
      rw [← hR1] at p1
      exact PostS.exc S1 p1
    | ok d h2 =>
      simp only [hr] at hR1
      have hR1 : (match (generalizing := false) d with
        | .bl true => match ex c n b e1 h2 with
          | .nx e2 h2 => wloop (fun e h => ev c t true e h) (fun e h => ex c n b e h) m e2 h2
          | .ct e2 h2 => wloop (fun e h => ev c t true e h) (fun e h => ex c n b e h) m e2 h2
          | .brk e2 h2 => .nx e2 h2
          | r => r
        | .bl false => .nx e1 h2
        | _ => .stk) = RR := hR1
      cases d with
      | bl k =>
        intro H2 ad2 R2 x2
        have S2 := S1.mono x2
        have p2 := PostS.shift x2 p1
        cases k with
        | false =>
          have hR1 : Fl.nx e1 h2 = RR := hR1
          rw [← hR1] at p2
          exact (if_neg (by simp)).mpr (p2 σ1 H2 ad2 R2 S2 (.refl _ _))
        | true =>
          have hR1 : (match ex c n b e1 h2 with
            | .nx e2 h2 => wloop (fun e h => ev c t true e h) (fun e h => ex c n b e h) m e2 h2
            | .ct e2 h2 => wloop (fun e h => ev c t true e h) (fun e h => ex c n b e h) m e2 h2
            | .brk e2 h2 => .nx e2 h2
            | r => r) = RR := hR1
          have nxt : ∀ e3 h3 σ3 H3 ad3, wloop (fun e h => ev c t true e h) (fun e h => ex c n b e h) m e3 h3 = RR → HR C X.prog X.w X.K ad3 h3 H3 → N9.SlR C X.K ad3 e3 σ3 H3 → Ext ad2 H2 ad3 H3 →
              ∃ e h ad', wloop (fun e h => ev c t true e h) (fun e h => ex c n b e h) m e h = RR ∧ HR C X.prog X.w X.K ad' h H3 ∧ N9.SlR C X.K ad' e σ3 H3 ∧ Ext ad H ad' H3 := fun e3 h3 σ3 H3 ad3 h R3 S3 x3 => ⟨e3, h3, ad3, h, R3, S3, (x1.trans x2).trans x3⟩
          refine (if_pos rfl).mpr ⟨_, fun σ' H' h => ⟨m, Nat.lt_succ_self m, h⟩, ?_⟩
          refine hb sc x W X e1 h2 ad2 σ1 H2 hX hT cx R2 S2 _ ?_
          cases hbd : ex c n b e1 h2 with
          | nx e3 h3 => rw [hbd] at hR1; exact fun σ3 H3 ad3 R3 S3 x3 => nxt e3 h3 σ3 H3 ad3 hR1 R3 S3 x3
          | ct e3 h3 => rw [hbd] at hR1; exact fun σ3 H3 ad3 R3 S3 x3 => nxt e3 h3 σ3 H3 ad3 hR1 R3 S3 x3
          | brk e3 h3 =>
            rw [hbd] at hR1
            have hR1 : Fl.nx e3 h3 = RR := hR1
            rw [← hR1] at p2
            exact p2
          | ret d e3 =>
            rw [hbd] at hR1
            have hR1 : Fl.ret d e3 = RR := hR1
            rw [← hR1] at p2
            exact p2
          | exc cl w e3 h3 =>
            rw [hbd] at hR1
            have hR1 : Fl.exc cl w e3 h3 = RR := hR1
            rw [← hR1] at p2
            exact p2
          | stk =>
            rw [hbd] at hR1
            have hR1 : Fl.stk = RR := hR1
            rw [← hR1] at p2
            exact p2
      | _ => have hR1 : Fl.stk = RR := hR1; rw [← hR1] at p; exact p.elim
theorem floop_nil {g : Hm → Prop} {bnd : Env → D → Option Env} {body : Env → Hm → Fl} {e : Env} {h : Hm} : floop g bnd body [] e h = if g h then .nx e h else .stk := rfl
theorem floop_cons {g : Hm → Prop} {bnd : Env → D → Option Env} {body : Env → Hm → Fl} {d : D} {ds : List D} {e : Env} {h : Hm} : floop g bnd body (d :: ds) e h = if g h then (match bnd e d with
    | none => .stk
    | some e1 => match body e1 h with
      | .nx e2 h2 => floop g bnd body ds e2 h2
      | .ct e2 h2 => floop g bnd body ds e2 h2
      | .brk e2 h2 => .nx e2 h2
      | r => r) else .stk := rfl
theorem chk_for {tg : Tg} {it : IE} {b : IS} {sc : Scope} {st : Stmt} (hc : chkS T N (.for tg it b) sc st = true) : ∃ t i x pos, st = .For t i x [] pos ∧ chkI T N it t sc i = true ∧ tgB N sc tg t = true ∧ chkB T N b sc x = true ∧ isSet i = false := by
  cases st <;> first | exact absurd hc Bool.false_ne_true | skip
  rename_i t i x els pos
  cases els with
  | cons _ _ => exact absurd hc Bool.false_ne_true
  | nil =>
    have hc : (chkI T N it t sc i && tgB N sc tg t && chkB T N b sc x && !isSet i) = true := hc
    rw [Bool.and_eq_true, Bool.and_eq_true, Bool.and_eq_true, Bool.not_eq_true'] at hc
    exact ⟨_, _, _, _, rfl, hc.1.1.1, hc.1.1.2, hc.1.2, hc.2⟩
theorem ss_for {tg : Tg} {it : IE} {b : IS} (hb : SB T N C c n b) : SS T N C c n (.for tg it b) := by
  intro sc st W X env hp ad σ H hX hT hc R S D p
  obtain ⟨t, i, x, pos, rfl, ci, ct, cx, hset⟩ := chk_for hc
  have hs : ∀ v, foldedSetIterable i X.env v = pure v := by
    intro v
    cases i <;> first | rfl | exact absurd hset (fun z => Bool.false_ne_true z.symm)
  refine wS.of (ps_for hX.own hX.calm piW (pgT hX.toXOk ct) pbW hs) ?_
  have p : PostS C X ((evI c it env hp).fl env fun its h1 => floop its.g (fun e d => bindT e tg d) (fun e h => ex c n b e h) its.l env h1) ad H W D := p
  refine (sound it).2.2.2 sc t i W X env hp ad σ H hX.toXOk hT ci R S _ ?_
  cases hr : evI c it env hp with
  | stk => rw [hr] at p; exact p.elim
  | exc cl w e1 => rw [hr] at p; exact PostS.exc S p
  | ok its h1 =>
    rw [hr] at p
    have p : PostS C X (floop its.g (fun e d => bindT e tg d) (fun e h => ex c n b e h) its.l env h1) ad H W D := p
    intro J H1 ad1 R1 x1 it1
    have S1 := S.mono x1
    generalize hRR : floop its.g (fun e d => bindT e tg d) (fun e h => ex c n b e h) its.l env h1 = RR at p
    refine ⟨fun j m σ' H' => m = its.l.length - j ∧ ∃ e h ad', floop its.g (fun e d => bindT e tg d) (fun e h => ex c n b e h) (its.l.drop j) e h = RR ∧ HR C X.prog X.w X.K ad' h H' ∧ N9.SlR C X.K ad' e σ' H' ∧ Ext ad1 H1 ad' H', ⟨its.l.length, by simp, env, h1, ad1, by simpa using hRR, R1, S1, .refl _ _⟩, ?_⟩
    rintro j m σ2 H2 ⟨rfl, e2, h2, ad2, hR2, R2, S2, x2⟩
    have p2 := PostS.shift (x1.trans x2) p
    cases hd : its.l.drop j with
    | nil =>
      left
      rw [hd, floop_nil] at hR2
      by_cases hg : its.g h2
      · rw [if_pos hg] at hR2
        rw [← hR2] at p2
        exact ⟨(it1.at_ j H2 h2 ad2 R2 x2 hg).2 (by simpa using hd), p2 σ2 H2 ad2 R2 S2 (.refl _ _)⟩
      · rw [if_neg hg] at hR2
        rw [← hR2] at p2
        exact p2.elim
    | cons d ds =>
      right
      have hlt : j < its.l.length := by
        have : (its.l.drop j).length = ds.length + 1 := by rw [hd]; rfl
        rw [List.length_drop] at this; omega
      have hdi : its.l[j]? = some d := by
        have : (its.l.drop j)[0]? = some d := by rw [hd]; rfl
        rw [List.getElem?_drop] at this; simpa using this
      have hds : its.l.drop (j + 1) = ds := by
        have : (its.l.drop j).drop 1 = ds := by rw [hd]; rfl
        rw [List.drop_drop] at this; exact this
      rw [hd, floop_cons] at hR2
      by_cases hg : its.g h2
      case neg => rw [if_neg hg] at hR2; rw [← hR2] at p2; exact p2.elim
      rw [if_pos hg] at hR2
      obtain ⟨jgo, jyld⟩ := (it1.at_ j H2 h2 ad2 R2 x2 hg).1 d hdi
      refine ⟨jgo, _, fun σ' H' h => ⟨its.l.length - (j + 1), by omega, rfl, h⟩, fun y H3 hy => ?_⟩
      obtain ⟨hsame, ry⟩ := jyld y H3 hy
      have xs3 : Ext ad2 H2 ad2 H3 := Ext.same hsame
      have R3 := R2.same hsame
      have S3 := S2.mono xs3
      have p3 := PostS.shift xs3 p2
      cases hb1 : bindT e2 tg d with
      | none => rw [hb1] at hR2; have hR2 : Fl.stk = RR := hR2; rw [← hR2] at p3; exact p3.elim
      | some e3 =>
      rw [hb1] at hR2
      simp only at hR2
      refine bind_ok S3 ry hb1 fun σ3 S4 _ => ?_
      have nxt : ∀ e4 h4 σ4 H4 ad4, floop its.g (fun e d => bindT e tg d) (fun e h => ex c n b e h) ds e4 h4 = RR → HR C X.prog X.w X.K ad4 h4 H4 → N9.SlR C X.K ad4 e4 σ4 H4 → Ext ad2 H3 ad4 H4 →
          ∃ e h ad', floop its.g (fun e d => bindT e tg d) (fun e h => ex c n b e h) (its.l.drop (j + 1)) e h = RR ∧ HR C X.prog X.w X.K ad' h H4 ∧ N9.SlR C X.K ad' e σ4 H4 ∧ Ext ad1 H1 ad' H4 := fun e4 h4 σ4 H4 ad4 h R4 S4 x4 => ⟨e4, h4, ad4, by rw [hds]; exact h, R4, S4, (x2.trans xs3).trans x4⟩
      refine hb sc x W X e3 h2 ad2 σ3 H3 hX hT cx R3 S4 _ ?_
      cases hbd : ex c n b e3 h2 with
      | nx e4 h4 => rw [hbd] at hR2; exact fun σ4 H4 ad4 R4 S4 x4 => nxt e4 h4 σ4 H4 ad4 hR2 R4 S4 x4
      | ct e4 h4 => rw [hbd] at hR2; exact fun σ4 H4 ad4 R4 S4 x4 => nxt e4 h4 σ4 H4 ad4 hR2 R4 S4 x4
      | brk e4 h4 =>
        rw [hbd] at hR2
        have hR2 : Fl.nx e4 h4 = RR := hR2
        rw [← hR2] at p3
        exact p3
      | ret d e4 =>
        rw [hbd] at hR2
        have hR2 : Fl.ret d e4 = RR := hR2
        rw [← hR2] at p3
        exact p3
      | exc cl w e4 h4 =>
        rw [hbd] at hR2
        have hR2 : Fl.exc cl w e4 h4 = RR := hR2
        rw [← hR2] at p3
        exact p3
      | stk =>
        rw [hbd] at hR2
        have hR2 : Fl.stk = RR := hR2
        rw [← hR2] at p3
        exact p3
end
end N9

set_option Elab.async false
set_option linter.all false
set_option maxRecDepth 100000
namespace N9
open PySem PySem.Spec L2
section
variable {T : Tab} {N : List Str} {C : Ct} {c : Oracle} {n : Nat}

theorem chk_asg {tg : Tg} {v : IE} {sc : Scope} {st : Stmt} (hc : chkS T N (.asg tg v) sc st = true) : ∃ t e pos, st = .Assign [t] e pos ∧ tgB N sc tg t = true ∧ chkE T N v sc e = true ∧ ((∃ i, tg = .nm i) ∨ (isComp e = false ∧ ∀ es k q, e ≠ .Tuple es k q)) := by
  cases st <;> first | exact absurd hc Bool.false_ne_true | skip
  rename_i ts e pos
  match ts, hc with
  | [], hc => exact absurd hc Bool.false_ne_true
  | _ :: _ :: _, hc => exact absurd hc Bool.false_ne_true
  | [t], hc =>
    have hc : (tgB N sc tg t && chkE T N v sc e && (match (generalizing := false) tg with | .nm _ => true | _ => !isComp e && (match (generalizing := false) e with | .Tuple .. => false | _ => true))) = true := hc
    rw [Bool.and_eq_true, Bool.and_eq_true] at hc
    refine ⟨t, e, pos, rfl, hc.1.1, hc.1.2, ?_⟩
    cases tg with
    | nm i => exact .inl ⟨i, rfl⟩
    | tp is =>
      right
      have h := hc.2
      have h : (!isComp e && (match (generalizing := false) e with | .Tuple .. => false | _ => true)) = true := h
      rw [Bool.and_eq_true, Bool.not_eq_true'] at h
      refine ⟨h.1, fun es k q z => ?_⟩
      subst z
      exact absurd h.2 Bool.false_ne_true
theorem sw_non {e t : Expr} {l : Nat} {X : Cx} (h : isComp e = false) : swapsWithSole [t] e l X.env = pure false := by
  cases e <;> first | rfl | exact absurd h (fun z => Bool.false_ne_true z.symm)
theorem sw_tup {e : Expr} {ts : List Expr} {k : Nat} {p : Pos} {X : Cx} (h : ∀ es k q, e ≠ .Tuple es k q) : swappedStores [.Tuple ts k p] e X.env = pure none := by
  cases e <;> first | rfl | exact absurd rfl (h _ _ _)
theorem sw_name {e : Expr} {x : Str} {p : Pos} {X : Cx} : swappedStores [.Name x p] e X.env = pure none := rfl
theorem sw_name2 {e : Expr} {x y : Str} {p q : Pos} {X : Cx} : swappedStores [.Name x p, .Name y q] e X.env = pure none := rfl
theorem sw_sub {e o i : Expr} {p : Pos} {X : Cx} : swappedStores [.Subscript o i p] e X.env = pure none := rfl
theorem sw_subF {e o i : Expr} {p : Pos} {l : Nat} {X : Cx} : swapsWithSole [.Subscript o i p] e l X.env = pure false := by
  cases e <;> rfl
theorem sw_att {e o : Expr} {f : Str} {p : Pos} {l : Nat} {X : Cx} : swapsWith e (some (.Attribute o f p)) l X.env = pure false := by
  cases e <;> rfl

theorem op_comp {p : Pn} {as : IE} {sc : Scope} {e : Expr} (h : isComp e = true) : ¬ chkE T N (.op p as) sc e = true := by
  have hp : prim T sc p e = none := by
    cases e <;> first | exact absurd h Bool.false_ne_true | (cases p <;> rfl)
  intro hc
  have hc : (match (generalizing := false) prim T sc p e with
    | some es => as.noS && chkA T N as sc es
    | none => false) = true := hc
  rw [hp] at hc
  cases hc
theorem ss_asg (tg : Tg) (v : IE) : SS T N C c n (.asg tg v) := by
  intro sc st W X env hp ad σ H hX hT hc R S D p
  obtain ⟨t, e, pos, rfl, ht, ce, hcase⟩ := chk_asg hc
  have hS := (sound (T := T) (N := N) (C := C) (c := c) v).1 sc e W X env hp ad σ H hX.toXOk hT ce R S
  cases tg with
  | nm i =>
    cases t <;> first | exact absurd ht Bool.false_ne_true | skip
    rename_i x px
    have ht : (decide (N[i]? = some x) && locB sc x) = true := ht
    rw [Bool.and_eq_true, decide_eq_true_eq] at ht
    have p : PostS C X ((ev c v false env hp).fl env fun d h1 => ofE (setSl env i d) h1) ad H W D := p
    have fin : PV C X (ev c v false env hp) ad H (WE W σ) (fun w H1 => D.nx (σ.set i (some w)) H1) := by
      refine PostS.ev S p fun d h1 w H1 ad1 R1 S1 x1 r1 p1 => ?_
      cases hs : setSl env i d with
      | none => rw [hs] at p1; exact p1.elim
      | some e2 =>
        rw [hs] at p1
        exact p1 _ _ ad1 R1 (S1.setF r1 hs) (.refl _ _)
    by_cases hcomp : isComp e = true
    · by_cases hv : ∃ z own tg it cond elt, v = .lc z own tg it cond elt
      · obtain ⟨z, own, tg, it, cond, elt, rfl⟩ := hv
        obtain ⟨x', t, i', ifs, scope, pos', rfl, ci, hblk, htg, hsub, hif, cel, hset⟩ := chk_lc ce
        obtain ⟨tt, te, ptt, pte, k⟩ := lc_key (z := z) (sound it).2.2.2 (sound cond).1 (sound elt).1 (c := c) hX.toXOk hT ci hblk htg hsub hif cel R S
        have hs : ∀ v, foldedSetIterable i' X.env v = pure v := by
          intro v
          cases i' <;> first | rfl | exact absurd hset (fun z => Bool.false_ne_true z.symm)
        have hsw : ∀ b, (X.env.blockKind == .function && X.env.kindOf x == some .local && px.line == pos'.line && !(scope.names.any fun (n, k) => n == x && (k == .local || k == .cell))) = b → swapsWith (.ListComp x' [⟨t, i', ifs, 0⟩] scope pos') (some (.Name x px)) pos.line X.env = pure b := fun b hb => by rw [← hb]; rfl
        cases hb : (X.env.blockKind == .function && X.env.kindOf x == some .local && px.line == pos'.line && !(scope.names.any fun (n, k) => n == x && (k == .local || k == .cell))) with
        | true =>
          have hl : X.env.scope.names.lookup x = some .local := by
            rw [Bool.and_eq_true, Bool.and_eq_true, Bool.and_eq_true, beq_iff_eq, beq_iff_eq] at hb
            exact hb.1.1.2
          have main := ps_setLc (X := X) (i := i) (tg := t) (g := gT X.K tg) (pos := pos') (py := px) (spos := pos) hX.calm (by rw [hX.hN]; exact hX.nd) (by rw [hX.hN]; exact ht.1) hl (hsw true hb) piW (blk_ok hX.toXOk hblk) (fun s H D cl fp => pgT (blk_x hX.toXOk hblk s H D cl fp) htg) ptt pte hs
          rw [own_snd] at main
          exact wS.of main (k _ fin)
        | false =>
          refine wS.of (ps_asg (tg := .Name x px) (e := .ListComp x' [⟨t, i', ifs, 0⟩] scope pos') (pos := pos) (g := gName i) peW (pg_nm hX.toXOk ht.1 ht.2) (hsw false hb) sw_name) ?_
          exact hS.1 _ fin
      · cases v <;> first
          | exact p.elim
          | exact absurd ⟨_, _, _, _, _, _, rfl⟩ hv
          | (cases e <;> first | exact absurd ce Bool.false_ne_true | exact absurd hcomp Bool.false_ne_true)
          | exact absurd ce (op_comp hcomp)
    · have hcomp : isComp e = false := by simpa using hcomp
      refine wS.of (ps_asg (g := gName i) peW (pg_nm hX.toXOk ht.1 ht.2) (sw_non hcomp) sw_name) ?_
      exact hS.1 _ fin
  | tp is =>
    have hcase : isComp e = false ∧ ∀ es k q, e ≠ .Tuple es k q := by
      rcases hcase with ⟨i, z⟩ | h
      · cases z
      · exact h
    have ht0 := ht
    cases t <;> first | exact absurd ht Bool.false_ne_true | skip
    have p : PostS C X ((ev c v false env hp).fl env fun d h1 => ofE (bindT env (.tp is) d) h1) ad H W D := p
    refine wS.of (ps_asg (g := gT X.K (.tp is)) peW (pgT hX.toXOk ht0) (sw_non hcase.1) (sw_tup hcase.2)) ?_
    refine hS.1 _ (PostS.ev S p fun d h1 w H1 ad1 R1 S1 x1 r1 p1 => ?_)
    cases hs : bindT env (.tp is) d with
    | none => rw [hs] at p1; exact p1.elim
    | some e2 =>
      rw [hs] at p1
      exact bind_ok S1 r1 hs fun σ2 S2 _ => p1 _ _ ad1 R1 S2 (.refl _ _)

theorem chk_asgs {is : List Nat} {v : IE} {sc : Scope} {st : Stmt} (hc : chkS T N (.asgs is v) sc st = true) : ∃ i j x px y py e pos, is = [i, j] ∧ st = .Assign [.Name x px, .Name y py] e pos ∧ N[i]? = some x ∧ N[j]? = some y ∧ locB sc x = true ∧ locB sc y = true ∧ chkE T N v sc e = true := by
  cases st <;> first | exact absurd hc Bool.false_ne_true | skip
  rename_i ts e pos
  match ts, hc with
  | [], hc => exact absurd hc Bool.false_ne_true
  | [_], hc => cases ‹Expr› <;> exact absurd hc Bool.false_ne_true
  | a :: b :: d :: _, hc => cases a <;> first | exact absurd hc Bool.false_ne_true | (cases b <;> exact absurd hc Bool.false_ne_true)
  | [a, b], hc =>
    cases a <;> first | exact absurd hc Bool.false_ne_true | skip
    cases b <;> first | exact absurd hc Bool.false_ne_true | skip
    rename_i x px y py
    match is, hc with
    | [], hc => exact absurd hc Bool.false_ne_true
    | [_], hc => exact absurd hc Bool.false_ne_true
    | _ :: _ :: _ :: _, hc => exact absurd hc Bool.false_ne_true
    | [i, j], hc =>
      have hc : (decide (N[i]? = some x) && decide (N[j]? = some y) && locB sc x && locB sc y && decide (i ≠ j) && chkE T N v sc e && (match (generalizing := false) e with | .Tuple .. => false | _ => true) && !isComp e) = true := hc
      rw [Bool.and_eq_true, Bool.and_eq_true, Bool.and_eq_true, Bool.and_eq_true, Bool.and_eq_true, Bool.and_eq_true, Bool.and_eq_true, decide_eq_true_eq, decide_eq_true_eq, decide_eq_true_eq] at hc
      obtain ⟨⟨⟨⟨⟨⟨⟨h1, h2⟩, h3⟩, h4⟩, h5⟩, h6⟩, h7⟩, h8⟩ := hc
      exact ⟨_, _, _, _, _, _, _, _, rfl, rfl, h1, h2, h3, h4, h6⟩
theorem setSls_cons {e : Env} {i : Nat} {is : List Nat} {d : D} {ds : List D} : setSls e (i :: is) (d :: ds) = (match setSl e i d with
    | some e' => setSls e' is ds
    | none => none) := rfl
theorem ss_asgs (is : List Nat) (v : IE) : SS T N C c n (.asgs is v) := by
  intro sc st W X env hp ad σ H hX hT hc R S D p
  obtain ⟨i, j, x, px, y, py, e, pos, rfl, rfl, hi, hj, lx, ly, ce⟩ := chk_asgs hc
  refine wS.of (ps_asg2 peW (pg_nm hX.toXOk hi lx) (pg_nm hX.toXOk hj ly) rfl sw_name2) ?_
  have p : PostS C X ((ev c v false env hp).fl env fun d h1 => ofE (setSls env [i, j] [d, d]) h1) ad H W D := p
  refine ((sound (T := T) (N := N) (C := C) (c := c) v).1 sc e W X env hp ad σ H hX.toXOk hT ce R S).1 _ (PostS.ev S p fun d h1 w H1 ad1 R1 S1 x1 r1 p1 => ?_)
  rw [setSls_cons] at p1
  cases h1 : setSl env i d with
  | none => rw [h1] at p1; exact p1.elim
  | some e2 =>
    rw [h1] at p1
    simp only at p1
    rw [setSls_cons] at p1
    cases h2 : setSl e2 j d with
    | none => rw [h2] at p1; exact p1.elim
    | some e3 =>
      rw [h2] at p1
      exact p1 _ _ ad1 R1 ((S1.setF r1 h1).setF r1 h2) (.refl _ _)

theorem chk_par {is : List Nat} {vs : IE} {sc : Scope} {st : Stmt} (hc : chkS T N (.par is vs) sc st = true) : ∃ i j x px y py k p1 a b k2 p2 pos, is = [i, j] ∧ st = .Assign [.Tuple [.Name x px, .Name y py] k p1] (.Tuple [a, b] k2 p2) pos ∧ N[i]? = some x ∧ N[j]? = some y ∧ i ≠ j ∧ sc.names.lookup x = some .local ∧ sc.names.lookup y = some .local ∧ px.line = py.line ∧ (chkA T N vs sc [a, b] = true ∧ vs.noS = true) ∧
    ([a, b].all (foldedForSure 8)) = false ∧ ([a, b].all (constantsAlone 8)) = false ∧ isStar a = false ∧ isStar b = false := by
  have hc : (match (generalizing := false) st with
    | .Assign [.Tuple [.Name x px, .Name y py] _ _] (.Tuple [a, b] _ _) _ => (match (generalizing := false) is with | [i, j] => decide (N[i]? = some x) && decide (N[j]? = some y) && decide (i ≠ j) && decide (sc.names.lookup x = some .local) && decide (sc.names.lookup y = some .local) && decide (px.line = py.line) && (chkA T N vs sc [a, b] && vs.noS) && !([a, b].all (foldedForSure 8)) && !([a, b].all (constantsAlone 8)) && !isStar a && !isStar b | _ => false)
    | _ => false) = true := hc
  split at hc
  · split at hc
    · rw [Bool.and_eq_true, Bool.and_eq_true, Bool.and_eq_true, Bool.and_eq_true, Bool.and_eq_true, Bool.and_eq_true, Bool.and_eq_true, Bool.and_eq_true, Bool.and_eq_true, Bool.and_eq_true, decide_eq_true_eq, decide_eq_true_eq, decide_eq_true_eq, decide_eq_true_eq, decide_eq_true_eq, decide_eq_true_eq, Bool.not_eq_true', Bool.not_eq_true', Bool.not_eq_true', Bool.not_eq_true'] at hc
      obtain ⟨⟨⟨⟨⟨⟨⟨⟨⟨⟨h1, h2⟩, h3⟩, h4⟩, h5⟩, h6⟩, h7⟩, h8⟩, h9⟩, h10⟩, h11⟩ := hc
      exact ⟨_, _, _, _, _, _, _, _, _, _, _, _, _, rfl, rfl, h1, h2, h3, h4, h5, h6, Bool.and_eq_true_iff.mp h7, h8, h9, h10, h11⟩
    · cases hc
  · cases hc
theorem kind_fn {W : WX} {X : Cx} {sc : Scope} (hX : SOk N sc W X) : X.env.blockKind = .function := by
  unfold Env.blockKind
  rw [hX.scp, hX.kind]
  rfl
theorem ss_par (is : List Nat) (vs : IE) : SS T N C c n (.par is vs) := by
  intro sc st W X env hp ad σ H hX hT hc R S D p
  obtain ⟨i, j, x, px, y, py, k, p1, a, b, k2, p2, pos, rfl, rfl, hi, hj, hij, lx, ly, hln, ⟨ca, hnb⟩, hf1, hf2, sa, sb⟩ := chk_par hc
  have hxy : x ≠ y := fun z => by
    subst z
    have h1 := (List.getElem?_eq_some_iff.mp hi)
    have h2 := (List.getElem?_eq_some_iff.mp hj)
    obtain ⟨l1, e1⟩ := h1
    obtain ⟨l2, e2⟩ := h2
    exact hij ((List.getElem_inj hX.nd).mp (e1.trans e2.symm))
  have kx : X.env.kindOf x = some .local := by show X.env.scope.names.lookup x = _; rw [hX.scp]; exact lx
  have ky : X.env.kindOf y = some .local := by show X.env.scope.names.lookup y = _; rw [hX.scp]; exact ly
  have hyx : (y == x) = false := by simp [Ne.symm hxy]
  have hsa : (match (generalizing := false) a with | .Starred .. => true | _ => false) = false := sa
  have hsb : (match (generalizing := false) b with | .Starred .. => true | _ => false) = false := sb
  have hw : swappedStores [.Tuple [.Name x px, .Name y py] k p1] (.Tuple [a, b] k2 p2) X.env = pure (some [x, y]) := by
    simp only [List.all_cons, List.all_nil, Bool.and_true] at hf1 hf2
    have hbk := kind_fn hX
    unfold swappedStores
    simp [hbk, kx, ky, hln, hsa, hsb, hf1, hf2, hyx, Expr.pos, List.eraseDups, List.eraseDupsBy, List.eraseDupsBy.loop]
    rintro (h | h)
    · exact absurd (show isStar a = true from h) (by rw [sa]; simp)
    · exact absurd (show isStar b = true from h) (by rw [sb]; simp)
  refine wS.of (ps_par hX.calm (by rw [hX.hN]; exact hX.nd) (by rw [hX.hN]; exact hi) (by rw [hX.hN]; exact hj) hij kx ky paW hw) ?_
  have p : PostS C X ((evA c vs env hp).fl env fun ds h1 => ofE (setSls env [i, j] ds) h1) ad H W D := p
  refine (sound vs).2.1 sc [a, b] W X env hp ad σ H hX.toXOk hT ca R S _ (PostS.ev S p fun ds h1 us H1 ad1 R1 S1 x1 rs p => ?_)
  match ds, us, rs, p with
  | [], _, _, p => exact p.elim
  | [d1], _, _, p =>
    rw [setSls_cons] at p
    cases h1 : setSl env i d1 <;> (rw [h1] at p; exact p.elim)
  | d1 :: d2 :: d3 :: dr, _, _, p =>
    rw [setSls_cons] at p
    cases h1 : setSl env i d1 with
    | none => rw [h1] at p; exact p.elim
    | some e2 =>
      rw [h1] at p
      simp only at p
      rw [setSls_cons] at p
      cases h2 : setSl e2 j d2 <;> (rw [h2] at p; exact p.elim)
  | [d1, d2], [u1, u2], .cons r1 (.cons r2 .nil), p =>
    rw [setSls_cons] at p
    cases h1 : setSl env i d1 with
    | none => rw [h1] at p; exact p.elim
    | some e2 =>
      rw [h1] at p
      simp only at p
      rw [setSls_cons] at p
      cases h2 : setSl e2 j d2 with
      | none => rw [h2] at p; exact p.elim
      | some e3 =>
        rw [h2] at p
        exact ⟨u1, u2, rfl, p _ _ ad1 R1 ((S1.setF r1 h1).setF r2 h2) (.refl _ _)⟩
end
end N9

set_option Elab.async false
set_option linter.all false
set_option maxRecDepth 100000
namespace N9
open PySem PySem.Spec L2

/-! ## an item, an attribute, a step -/
def wSet (X : Cx) : TSet := fun o i v H Q => ∀ pins s σ ov iv u, Inv X pins σ H s → RelV o ov → RelV i iv → RelV v u → wpAny (model X.prog X.w) X.A (setItem ov iv u) (fun _ s' => ∃ H', Inv X pins σ H' s' ∧ Q H') X.xe s
theorem wSet.op {X : Cx} : PSet X (wSet X) := fun pins s σ H o i v ov iv u Q I ro ri rv h => h pins s σ ov iv u I ro ri rv
theorem wSet.of {X : Cx} {t : TSet} (h : PSet X t) {o i v : V} {H : Hp} {Q : Hp → Prop} (q : t o i v H Q) : wSet X o i v H Q := fun pins s σ ov iv u I ro ri rv => h pins s σ H o i v ov iv u Q I ro ri rv q
section
variable {C : Ct} {K : PySem.W.Frag} {ad : List Addr} {H : Hp}
theorem put_dk : ∀ {kxs : List (Key × V)} {l : List (Int × D)} {i : Int} {v : V} {d : D}, kxs.map (·.1) = kInts l → RVs C K ad H (kxs.map (·.2)) (l.map (·.2)) → RV C K ad H v d →
    (putK kxs (Sum.inl i) v).map (·.1) = kInts (putD l i d) ∧ RVs C K ad H ((putK kxs (Sum.inl i) v).map (·.2)) ((putD l i d).map (·.2)) := by
  intro kxs l i v d ek rs r
  have hany : (kxs.any fun kv => decide (kv.1 = Sum.inl i)) = (l.any fun kv => decide (kv.1 = i)) := by
    induction kxs generalizing l with
    | nil => cases l <;> first | rfl | simp [kInts] at ek
    | cons p kxs ih =>
      cases l with
      | nil => simp [kInts] at ek
      | cons z l =>
        simp only [kInts, List.map_cons, List.cons.injEq] at ek
        rw [List.map_cons, List.map_cons] at rs
        cases rs with
        | cons _ rs =>
          rw [List.any_cons, List.any_cons, ih ek.2 rs, ek.1]
          congr 1
          simp
  unfold putK putD
  rw [hany]
  cases hb : (l.any fun kv => decide (kv.1 = i)) with
  | true =>
    simp only [if_true]
    clear hany hb
    induction kxs generalizing l with
    | nil => cases l <;> first | exact ⟨rfl, .nil⟩ | simp [kInts] at ek
    | cons p kxs ih =>
      cases l with
      | nil => simp [kInts] at ek
      | cons z l =>
        simp only [kInts, List.map_cons, List.cons.injEq] at ek
        rw [List.map_cons, List.map_cons] at rs
        cases rs with
        | cons r0 rs =>
          obtain ⟨h1, h2⟩ := ih ek.2 rs
          by_cases e : z.1 = i
          · have e' : p.1 = Sum.inl i := by rw [ek.1, e]
            simp only [List.map_cons, e, e', if_true, kInts]
            exact ⟨by rw [h1]; rfl, .cons r h2⟩
          · have e' : ¬ p.1 = Sum.inl i := by rw [ek.1]; intro z; injection z with z; exact e z
            simp only [List.map_cons, e, e', if_false, kInts]
            exact ⟨by rw [h1, ek.1]; rfl, .cons r0 h2⟩
  | false =>
    rw [if_neg Bool.false_ne_true, if_neg Bool.false_ne_true]
    rw [List.map_append, List.map_append, List.map_append, ek]
    refine ⟨by unfold kInts; rw [List.map_append]; rfl, rs.append (.cons r .nil)⟩
theorem put_dt : ∀ {ys : YS} {l : List (TK × D)} {k : TK} {b : Addr} {v : V} {d : D}, ys.map (·.1) = l.map (·.1) → (∀ y ∈ ys, TupR K ad H y.2.1 (y.1.map V.int)) → TupR K ad H b (k.map V.int) → RVs C K ad H (ys.map (·.2.2)) (l.map (·.2)) → RV C K ad H v d →
    (putY ys k b v).map (·.1) = (putD l k d).map (·.1) ∧ (∀ y ∈ putY ys k b v, TupR K ad H y.2.1 (y.1.map V.int)) ∧ RVs C K ad H ((putY ys k b v).map (·.2.2)) ((putD l k d).map (·.2)) := by
  intro ys l k b v d ek t tb rs r
  have hany : (ys.any fun kv => decide (kv.1 = k)) = (l.any fun kv => decide (kv.1 = k)) := by
    induction ys generalizing l with
    | nil => cases l <;> first | rfl | simp at ek
    | cons p ys ih =>
      cases l with
      | nil => simp at ek
      | cons z l =>
        simp only [List.map_cons, List.cons.injEq] at ek
        rw [List.map_cons, List.map_cons] at rs
        cases rs with
        | cons _ rs => rw [List.any_cons, List.any_cons, ih ek.2 (fun y hy => t y (List.mem_cons_of_mem _ hy)) rs, ek.1]
  unfold putY putD
  rw [hany]
  cases hb : (l.any fun kv => decide (kv.1 = k)) with
  | true =>
    simp only [if_true]
    clear hany hb
    induction ys generalizing l with
    | nil => cases l <;> first | exact ⟨rfl, fun y hy => absurd hy (by simp), .nil⟩ | simp at ek
    | cons p ys ih =>
      cases l with
      | nil => simp at ek
      | cons z l =>
        simp only [List.map_cons, List.cons.injEq] at ek
        rw [List.map_cons, List.map_cons] at rs
        cases rs with
        | cons r0 rs =>
          obtain ⟨h1, h2, h3⟩ := ih ek.2 (fun y hy => t y (List.mem_cons_of_mem _ hy)) rs
          have tp := t p List.mem_cons_self
          by_cases e : z.1 = k
          · have e' : p.1 = k := by rw [ek.1, e]
            simp only [List.map_cons, e, e', if_true]
            refine ⟨by rw [h1], fun y hy => ?_, .cons r h3⟩
            rcases List.mem_cons.mp hy with rfl | hy
            · rw [← e']; exact tp
            · exact h2 y hy
          · have e' : ¬ p.1 = k := by rw [ek.1]; exact e
            simp only [List.map_cons, e, e', if_false]
            refine ⟨by rw [h1, ek.1], fun y hy => ?_, .cons r0 h3⟩
            rcases List.mem_cons.mp hy with rfl | hy
            · exact tp
            · exact h2 y hy
  | false =>
    rw [if_neg Bool.false_ne_true, if_neg Bool.false_ne_true]
    refine ⟨by rw [List.map_append, List.map_append, ek]; rfl, fun y hy => ?_, by rw [List.map_append, List.map_append]; exact rs.append (.cons r .nil)⟩
    rcases List.mem_append.mp hy with hy | hy
    · exact t y hy
    · rw [List.mem_singleton] at hy; subst hy; exact tb
end
section
variable {C : Ct} {X : Cx} {ad : List Addr} {hp : Hm} {H : Hp}
theorem setK_ok {o k d : D} {h' : Hm} {ov kv dv : V} {Q : Hp → Prop} (hu : X.A.units + 1 < cLine) (R : HR C X.prog X.w X.K ad hp H) (ro : RV C X.K ad H ov o) (rk : RV C X.K ad H kv k) (rd : RV C X.K ad H dv d) (h : setK hp o k d = some h') (q : ∀ H' ad', HR C X.prog X.w X.K ad' h' H' → Ext ad H ad' H' → Q H') : wSet X ov kv dv H Q := by
  cases o <;> first | (cases h; done) | skip
  rename_i n
  have h : (match (generalizing := false) hp[n]? with
    | some (.lst l) => match (generalizing := false) k with
      | .int i => match (generalizing := false) ixN l.length i with
        | some j => some (hp.set n (.lst (l.set j d)))
        | none => none
      | _ => none
    | some (.dk l) => match (generalizing := false) k with
      | .int i => if l.length < sizeLine then some (hp.set n (.dk (putD l i d))) else none
      | _ => none
    | some (.dt l) => match (generalizing := false) tkD k with
      | some i => if l.length < sizeLine then some (hp.set n (.dt (putD l i d))) else none
      | none => none
    | _ => none) = some h' := h
  cases hn : hp[n]? with
  | none => rw [hn] at h; cases h
  | some ob =>
    rw [hn] at h
    obtain ⟨a, rfl, ha, ro'⟩ := R.ref ro hn
    have dead : (∀ o' u', H a ≠ some (.frz o' u')) → ∀ u, Ext ad H ad (upd H a u) := fun hnf u => by
      refine ⟨List.prefix_refl _, fun b o e m => by rw [upd_ne (fun z => by subst z; exact m (List.mem_of_getElem? ha))]; exact e, fun b e => ?_, fun _ h => .inl h, fun b o' u' e' => by rw [upd_ne (fun z => by subst z; exact hnf _ _ e')]; exact e'⟩
      by_cases z : b = a
      · subst z; rw [upd_same]; simp
      · rw [upd_ne z]; exact e
    cases ob <;> first | (cases h; done) | skip
    · rename_i l
      cases k <;> first | (cases h; done) | skip
      rename_i i _
      have h : (match (generalizing := false) ixN l.length i with
        | some j => some (hp.set n (.lst (l.set j d)))
        | none => none) = some h' := h
      cases hi : ixN l.length i with
      | none => rw [hi] at h; cases h
      | some j =>
        rw [hi] at h
        cases h
        cases rk
        cases ro' with
        | lst e rs =>
          rename_i xs
          obtain ⟨R2, x2⟩ := R.write (u := .lst (xs.set j dv)) ha (.lst upd_same ((rs.set j rd).mono (dead (by intro o' u' z; simp_all) _)))
          exact wSet.of set_list ⟨a, xs, i, j, rfl, rfl, e, by rw [rs.length]; exact hi, q _ _ R2 x2⟩
    · rename_i l
      cases k <;> first | (cases h; done) | skip
      rename_i i _
      have h : (if l.length < sizeLine then some (hp.set n (.dk (putD l i d))) else none) = some h' := h
      split at h
      case isFalse => cases h
      rename_i hl
      cases h
      cases rk
      cases ro' with
      | dk e ek rs =>
        rename_i kxs
        have hkl : kxs.length = l.length := by have := congrArg List.length ek; unfold kInts at this; rw [List.length_map, List.length_map] at this; exact this
        obtain ⟨h1, h2⟩ := put_dk (i := i) ek rs rd
        obtain ⟨R2, x2⟩ := R.write (u := .dK (putK kxs (Sum.inl i) dv)) ha (.dk upd_same h1 (h2.mono (dead (by intro o' u' z; simp_all) _)))
        exact wSet.of (set_dict hu) ⟨a, _, rfl, DPut.k (k := Sum.inl i) e (by rw [hkl]; exact hl), q _ _ R2 x2⟩
    · rename_i l
      have h : (match (generalizing := false) tkD k with
      | some i => if l.length < sizeLine then some (hp.set n (.dt (putD l i d))) else none
      | none => none) = some h' := h
      cases hk : tkD k with
      | none => rw [hk] at h; cases h
      | some i =>
        rw [hk] at h
        simp only at h
        split at h
        case isFalse => cases h
        rename_i hl
        cases h
        obtain ⟨b, rfl, tk⟩ := tkD_of rk hk
        cases ro' with
        | dt e ek t rs =>
          rename_i ys
          have hkl : ys.length = l.length := by have := congrArg List.length ek; rw [List.length_map, List.length_map] at this; exact this
          obtain ⟨h1, h2, h3⟩ := put_dt ek t tk rs rd
          obtain ⟨R2, x2⟩ := R.write (u := .ext (dtPhi X.prog X.w a (putY ys i b dv))) ha (.dt upd_same h1 (fun y hy => (h2 y hy).mono (dead (by intro o' u' z; simp_all) _)) (h3.mono (dead (by intro o' u' z; simp_all) _)))
          intro pins s σ ov iv u I ro2 ri2 rv2
          cases ro2
          cases ri2
          exact dt_setItem hu I e t tk (by rw [hkl]; exact hl) rv2 fun s' I' => ⟨_, I', q _ _ R2 x2⟩
end

theorem zip_putF : ∀ {ns : List Str} {xs : List V} {i : Nat} {f : Str} {y : V}, ns.Nodup → ns[i]? = some f → i ≤ xs.length → putF f y (ns.zip xs) = ns.zip (if i < xs.length then xs.set i y else xs ++ [y])
  | [], _, i, _, _, _, h, _ => by simp at h
  | a :: ns, [], i, f, y, nd, h, hl => by
    have hi : i = 0 := by simpa using hl
    subst hi
    simp at h; subst h
    simp [putF]
  | a :: ns, x :: xs, 0, f, y, nd, h, hl => by
    simp at h; subst h
    simp [putF]
  | a :: ns, x :: xs, i + 1, f, y, nd, h, hl => by
    simp at h hl
    have hne : a ≠ f := fun z => by subst z; exact (List.nodup_cons.mp nd).1 (List.mem_of_getElem? h)
    have ih := zip_putF (xs := xs) (y := y) (List.nodup_cons.mp nd).2 h hl
    simp only [List.zip_cons_cons, putF, hne, if_false, ih]
    by_cases hi : i < xs.length
    · simp [hi]
    · simp [hi]
def rExt3 : R2 := fun x y H Q => ∃ l b xs zs, x = .ref l ∧ y = .ref b ∧ H l = some (.lst xs) ∧ Rd H b (.lst zs) ∧ xs.length + zs.length ≤ sizeLine ∧ Q (.ref l) (upd H l (.lst (xs ++ zs)))
theorem iop_ext3 {X : Cx} : OpR X (inplaceOp .Add) rExt3 := by
  intro pins s σ H x y v u Q I rx ry h
  obtain ⟨l, b, xs, zs, rfl, rfl, hH, hB, hz, q⟩ := h
  cases rx
  cases ry
  obtain ⟨z, its, n, r, hl, e⟩ := I.lstM hH
  obtain ⟨z2, its2, n2, r2, e2⟩ := (show ObjOk X.prog X.w H s.heap b (.lst zs) from hB.ok I.hok)
  have hl2 := r2.length
  have hsz : its.toArray.size + its2.toArray.size ≤ sizeLine := by rw [List.size_toArray, List.size_toArray]; omega
  have hlong : ¬ (!its.toArray.isEmpty && Builtin.List.listTooLong (its.toArray.size + its2.toArray.size)) = true := by
    rw [notLongL hsz, Bool.and_false]
    exact Bool.false_ne_true
  have ln : (sizeLine : Nat) = 16777216 := sizeLine_eq
  refine iadd_road ⟨_, e, rfl⟩ ⟨_, e2, rfl⟩ (call_meets PySem.F.slot_list_iadd ⟨_, e, rfl⟩ PySem.F.entry_list_iadd (PySem.F.args_list_iadd_2 _ _)
    (AutoSeq1.list___iadd___list_list_0 l its.toArray n b its2.toArray n2 hlong (by rw [List.size_toArray]; omega) (by omega)) ⟨e, e2, ?_⟩)
  refine ⟨.ref l, _, I.lset (its' := its ++ its2) (t' := s.toks) hH e (by simp) (r.append r2) ?_, rfl, q⟩
  rw [List.length_append]
  omega
section
variable {T : Tab} {N : List Str} {C : Ct} {c : Oracle} {n : Nat}
theorem ss_setI (o k v : IE) : SS T N C c n (.setI o k v) := by
  intro sc st W X env hp ad σ H hX hT hc R S D p
  have key : ∃ x y q e pos, st = .Assign [.Subscript x y q] e pos ∧ chkE T N o sc x = true ∧ chkE T N k sc y = true ∧ chkE T N v sc e = true ∧ isSl y = false := by
    have hc : (match (generalizing := false) st with
      | .Assign [.Subscript x y _] e _ => chkE T N o sc x && chkE T N k sc y && chkE T N v sc e && !isSl y
      | _ => false) = true := hc
    split at hc
    · rw [Bool.and_eq_true, Bool.and_eq_true, Bool.and_eq_true, Bool.not_eq_true'] at hc
      obtain ⟨⟨⟨h1, h2⟩, h3⟩, h4⟩ := hc
      exact ⟨_, _, _, _, _, rfl, h1, h2, h3, h4⟩
    · cases hc
  obtain ⟨x, y, q, e, pos, rfl, co, ck, ce, hsl⟩ := key
  have ha : ∀ v, assign (.Subscript x y q) X.env v = (do
      let ov ← holding [v] (eval x X.env)
      let iv ← holding [v, ov] (eval y X.env)
      standAt q
      holding [v, ov, iv] (setItem ov iv v)
      release [v, ov, iv] []) := by
    intro v
    cases y <;> first | rfl | exact absurd hsl (fun z => Bool.false_ne_true z.symm)
  refine wS.of (ps_asg peW (pg_sub peW peW wSet.op ha) sw_subF sw_sub) ?_
  have p : PostS C X ((ev c v false env hp).fl env fun d h1 => (ev c o false env h1).fl env fun x h2 => (ev c k false env h2).fl env fun y h3 => match setK h3 x y d with
    | some h4 => .nx env h4
    | none => .stk) ad H W D := p
  refine ((sound (T := T) (N := N) (C := C) (c := c) v).1 sc e W X env hp ad σ H hX.toXOk hT ce R S).1 _ (PostS.ev S p fun d h1 dv H1 ad1 R1 S1 x1 r1 p1 => ?_)
  refine ((sound (T := T) (N := N) (C := C) (c := c) o).1 sc x W X env h1 ad1 σ H1 hX.toXOk hT co R1 S1).1 _ (PostS.ev S1 p1 fun od h2 ov H2 ad2 R2 S2 x2 r2 p2 => ?_)
  refine ((sound (T := T) (N := N) (C := C) (c := c) k).1 sc y W X env h2 ad2 σ H2 hX.toXOk hT ck R2 S2).1 _ (PostS.ev S2 p2 fun kd h3 kv H3 ad3 R3 S3 x3 r3 p3 => ?_)
  have p3 : PostS C X (match setK h3 od kd d with
    | some h4 => .nx env h4
    | none => .stk) ad3 H3 W D := p3
  cases hk : setK h3 od kd d with
  | none => rw [hk] at p3; exact p3.elim
  | some h4 =>
    rw [hk] at p3
    exact setK_ok (by have := hX.hu; omega) R3 (r2.mono x3) r3 ((r1.mono x2).mono x3) hk fun H4 ad4 R4 x4 => p3 σ H4 ad4 R4 (S3.mono x4) x4
theorem ss_setA (cl i : Nat) (f : String) (o v : IE) : SS T N C c n (.setA cl i f o v) := by
  intro sc st W X env hp ad σ H hX hT hc R S D p
  have key : ∃ x q e pos, st = .Assign [.Attribute x (Str.ofString f) q] e pos ∧ chkE T N o sc x = true ∧ chkE T N v sc e = true ∧ (T.cn cl)[i]? = some (Str.ofString f) ∧ cl ∈ T.ncl ∧ (T.cn cl).Nodup ∧ (T.cn cl).length < 1000 := by
    have hc : (match (generalizing := false) st with
      | .Assign [.Attribute x n _] e _ => decide (n = Str.ofString f) && chkE T N o sc x && chkE T N v sc e && decide ((T.cn cl)[i]? = some n) && decide (cl ∈ T.ncl) && decide (T.cn cl).Nodup && decide ((T.cn cl).length < 1000)
      | _ => false) = true := hc
    split at hc
    · simp only [Bool.and_eq_true, decide_eq_true_eq] at hc
      obtain ⟨⟨⟨⟨⟨⟨rfl, h1⟩, h2⟩, h3⟩, h4⟩, h5⟩, h6⟩ := hc
      exact ⟨_, _, _, _, rfl, h1, h2, h3, h4, h5, h6⟩
    · cases hc
  obtain ⟨x, q, e, pos, rfl, co, ce, hi, hcl, hnd, hlen⟩ := key
  refine wS.of (ps_fld peW peW sw_att) ?_
  have p : PostS C X ((ev c v false env hp).fl env fun d h1 => (ev c o false env h1).fl env fun x h2 => match x with
    | .ref n => match h2[n]? with
      | some (.ins c' fs) => if c' = cl then match setF fs i d with
          | some fs' => .nx env (h2.set n (.ins cl fs'))
          | none => .stk
        else .stk
      | _ => .stk
    | _ => .stk) ad H W D := p
  refine ((sound (T := T) (N := N) (C := C) (c := c) v).1 sc e W X env hp ad σ H hX.toXOk hT ce R S).1 _ (PostS.ev S p fun d h1 dv H1 ad1 R1 S1 x1 r1 p1 => ?_)
  refine ((sound (T := T) (N := N) (C := C) (c := c) o).1 sc x W X env h1 ad1 σ H1 hX.toXOk hT co R1 S1).1 _ (PostS.ev S1 p1 fun od h2 ov H2 ad2 R2 S2 x2 r2 p2 => ?_)
  cases od <;> first | exact p2.elim | skip
  rename_i m
  have p2 : PostS C X (match h2[m]? with
      | some (.ins c' fs) => if c' = cl then match setF fs i d with
          | some fs' => .nx env (h2.set m (.ins cl fs'))
          | none => .stk
        else .stk
      | _ => .stk) ad2 H2 W D := p2
  cases hm : h2[m]? with
  | none => rw [hm] at p2; exact p2.elim
  | some ob =>
    rw [hm] at p2
    cases ob <;> first | exact p2.elim | skip
    rename_i c' fs
    have p2 : PostS C X (if c' = cl then match setF fs i d with
          | some fs' => .nx env (h2.set m (.ins cl fs'))
          | none => .stk
        else .stk) ad2 H2 W D := p2
    split at p2
    case isFalse => exact p2.elim
    rename_i hcc
    subst hcc
    cases hf : setF fs i d with
    | none => rw [hf] at p2; exact p2.elim
    | some fs' =>
      rw [hf] at p2
      obtain ⟨a, rfl, ha, ro⟩ := R2.ref r2 hm
      obtain ⟨k1, k2, k3⟩ := hT.cls c' hcl
      cases ro with
      | ins ea hle rs =>
        rename_i dx xs
        have rd := r1.mono x2
        have hil : i < (T.cn c').length := (List.getElem?_eq_some_iff.mp hi).1
        have hxl := rs.length
        refine ⟨a, _, dx, _, rfl, ea, k1, k3 _ (List.mem_of_getElem? hi), ?_, ?_⟩
        · rw [List.length_zip, hT.cn]; omega
        have hz : i ≤ xs.length ∧ RVs C X.K ad2 H2 (if i < xs.length then xs.set i dv else xs ++ [dv]) fs' ∧ (if i < xs.length then xs.set i dv else xs ++ [dv]).length ≤ (T.cn c').length := by
          rw [hT.cn] at hle
          unfold setF at hf
          rw [← hxl] at hf
          by_cases hi2 : i < xs.length
          · rw [if_pos hi2] at hf ⊢
            cases hf
            exact ⟨by omega, rs.set i rd, by rw [List.length_set]; exact hle⟩
          · rw [if_neg hi2] at hf ⊢
            split at hf
            · cases hf
              exact ⟨by omega, rs.append (.cons rd .nil), by rw [List.length_append]; simp; omega⟩
            · cases hf
        obtain ⟨z1, z2, z3⟩ := hz
        rw [hT.cn, zip_putF hnd hi z1]
        have dead : Ext ad2 H2 ad2 (upd H2 a (.ins (C.addr c') dx ((T.cn c').zip (if i < xs.length then xs.set i dv else xs ++ [dv])))) := by
          refine ⟨List.prefix_refl _, fun b o e m => by rw [upd_ne (fun z => by subst z; exact m (List.mem_of_getElem? ha))]; exact e, fun b e => ?_, fun _ h => .inl h, fun b o' u' e' => by rw [upd_ne (fun z => by subst z; simp_all)]; exact e'⟩
          by_cases z : b = a
          · subst z; rw [upd_same]; simp
          · rw [upd_ne z]; exact e
        obtain ⟨R3, x3⟩ := R2.write (o := .ins c' fs') (u := .ins (C.addr c') dx ((T.cn c').zip (if i < xs.length then xs.set i dv else xs ++ [dv]))) ha (.ins (by rw [upd_same, hT.cn]) (by rw [hT.cn]; exact z3) (z2.mono dead))
        exact p2 σ _ ad2 R3 (S2.mono x3) x3
theorem ss_aug (i : Nat) (o : Bop) (v : IE) : SS T N C c n (.aug i o v) := by
  intro sc st W X env hp ad σ H hX hT hc R S D p
  have key : ∃ x px op e pos, st = .AugAssign (.Name x px) op e pos ∧ o.is op = true ∧ N[i]? = some x ∧ locB sc x = true ∧ chkE T N v sc e = true := by
    have hc : (match (generalizing := false) st with
      | .AugAssign (.Name x _) op e _ => o.is op && decide (N[i]? = some x) && locB sc x && chkE T N v sc e
      | _ => false) = true := hc
    split at hc
    · rw [Bool.and_eq_true, Bool.and_eq_true, Bool.and_eq_true, decide_eq_true_eq] at hc
      exact ⟨_, _, _, _, _, rfl, hc.1.1.1, hc.1.1.2, hc.1.2, hc.2⟩
    · cases hc
  obtain ⟨x, px, op, e, pos, rfl, ho, hi, hl, ce⟩ := key
  obtain ⟨l1, l2⟩ := hX.loc x (loc_of hl)
  have hio : PIp X op (wO X (inplaceOp op)) := wO.op
  refine wS.of (ps_aug (by rw [hX.hN]; exact hX.nd) (by rw [hX.hN]; exact hi) l1 peW hio l2) ?_
  have p : PostS C X (match env[i]? with
    | some (some d0) => (ev c v false env hp).fl env fun d h1 => match augD o d0 d h1 with
      | some (r, h2) => ofE (setSl env i r) h2
      | none => .stk
    | _ => .stk) ad H W D := p
  cases hs : env[i]? with
  | none => rw [hs] at p; exact p.elim
  | some oo =>
  cases oo with
  | none => rw [hs] at p; exact p.elim
  | some d0 =>
    rw [hs] at p
    replace p : PostS C X ((ev c v false env hp).fl env fun d h1 => match augD o d0 d h1 with
      | some (r, h2) => ofE (setSl env i r) h2
      | none => .stk) ad H W D := p
    obtain ⟨u, hu, ru⟩ := S.slot i d0 hs
    refine ⟨u, hu, ?_⟩
    refine ((sound (T := T) (N := N) (C := C) (c := c) v).1 sc e W X env hp ad σ H hX.toXOk hT ce R S).1 _ (PostS.ev S p fun d h1 w H1 ad1 R1 S1 x1 r1 p1 => ?_)
    replace ru := ru.mono x1
    cases ha : augD o d0 d h1 with
    | none => rw [ha] at p1; exact p1.elim
    | some rr =>
      obtain ⟨r, h2⟩ := rr
      rw [ha] at p1
      have p1 : PostS C X (ofE (setSl env i r) h2) ad1 H1 W D := p1
      cases hset : setSl env i r with
      | none => rw [hset] at p1; exact p1.elim
      | some e2 =>
        rw [hset] at p1
        have fin : ∀ z H2 ad2, HR C X.prog X.w X.K ad2 h2 H2 → Ext ad1 H1 ad2 H2 → RV C X.K ad2 H2 z r → D.nx (σ.set i (some z)) H2 := fun z H2 ad2 R2 x2 rz => p1 _ _ ad2 R2 ((S1.mono x2).setF rz hset) x2
        clear p1 p hs
        cases d0 <;> first | (cases ha; done) | skip
        · rename_i a
          cases d <;> first | (cases ha; done) | skip
          rename_i b
          have ha : (match (generalizing := false) o with
            | .add => some ((N9.D.int (a + b) : N9.D), h1)
            | .sub => some (.int (a - b), h1)
            | _ => none) = some (r, h2) := ha
          cases ru
          cases r1
          cases o <;> first | (cases ha; done) | skip
          all_goals (cases ha; cases op <;> simp only [Bop.is, reduceCtorEq] at ho)
          · exact wO.of iop_add ⟨_, _, rfl, rfl, fin _ _ ad1 R1 (.refl _ _) (.int _)⟩
          · exact wO.of iop_sub ⟨_, _, rfl, rfl, fin _ _ ad1 R1 (.refl _ _) (.int _)⟩
        · rename_i m
          cases o <;> first | (cases ha; done) | skip
          have ha : (match (generalizing := false) h1[m]? with
            | some (.lst l) => match listD h1 d with
              | some m' => if l.length + m'.length ≤ sizeLine then some (N9.D.ref m, h1.set m (.lst (l ++ m'))) else none
              | none => none
            | _ => none) = some (r, h2) := ha
          cases hm : h1[m]? with
          | none => rw [hm] at ha; cases ha
          | some ob =>
            rw [hm] at ha
            cases ob <;> first | (cases ha; done) | skip
            rename_i l
            have ha : (match (generalizing := false) listD h1 d with
              | some m' => if l.length + m'.length ≤ sizeLine then some (N9.D.ref m, h1.set m (.lst (l ++ m'))) else none
              | none => none) = some (r, h2) := ha
            cases hld : listD h1 d with
            | none => rw [hld] at ha; cases ha
            | some m' =>
              rw [hld] at ha
              simp only at ha
              split at ha
              case isFalse => cases ha
              rename_i hsz
              cases ha
              cases op <;> simp only [Bop.is, reduceCtorEq] at ho
              obtain ⟨a, rfl, haa, ro⟩ := R1.ref ru hm
              obtain ⟨b, zs, rfl, hb, rz⟩ := listD_of R1 r1 hld
              cases ro with
              | lst ea rs =>
                rename_i xs
                have dead : Ext ad1 H1 ad1 (upd H1 a (.lst (xs ++ zs))) := by
                  refine ⟨List.prefix_refl _, fun b o e m => by rw [upd_ne (fun z => by subst z; exact m (List.mem_of_getElem? haa))]; exact e, fun b e => ?_, fun _ h => .inl h, fun b o' u' e' => by rw [upd_ne (fun z => by subst z; simp_all)]; exact e'⟩
                  by_cases z : b = a
                  · subst z; rw [upd_same]; simp
                  · rw [upd_ne z]; exact e
                obtain ⟨R3, x3⟩ := R1.write (u := .lst (xs ++ zs)) haa (.lst upd_same ((rs.append rz).mono dead))
                exact wO.of iop_ext3 ⟨a, b, xs, zs, rfl, rfl, ea, hb, by rw [rs.length, rz.length]; exact hsz, fin _ _ ad1 R3 x3 (.ref haa)⟩
end
end N9

set_option Elab.async false
set_option linter.all false
set_option maxRecDepth 100000
namespace N9
open PySem PySem.Spec L2
section
variable {T : Tab} {N : List Str} {C : Ct} {c : Oracle} {n : Nat}
theorem ss_bad {i : IS} (h : ∀ sc st, chkS T N i sc st = false) : SS T N C c n i := fun sc st W X env hp ad σ H hX hT hc => absurd (h sc st) (by rw [hc]; simp)
theorem sb_bad {i : IS} (h : ∀ sc st, chkB T N i sc st = false) : SB T N C c n i := fun sc st W X env hp ad σ H hX hT hc => absurd (h sc st) (by rw [hc]; simp)
theorem soundS (i : IS) : SS T N C c n i ∧ SB T N C c n i := by
  induction i with
  | unk => exact ⟨ss_unk, sb_bad (fun _ _ => rfl)⟩
  | nil => exact ⟨ss_bad (fun _ _ => rfl), sb_nil⟩
  | seq a b iha ihb => exact ⟨ss_bad (fun _ _ => rfl), sb_seq iha.1 ihb.2⟩
  | pass => exact ⟨ss_pass, sb_bad (fun _ _ => rfl)⟩
  | brk => exact ⟨ss_brk, sb_bad (fun _ _ => rfl)⟩
  | cont => exact ⟨ss_cont, sb_bad (fun _ _ => rfl)⟩
  | asg tg v => exact ⟨ss_asg tg v, sb_bad (fun _ _ => rfl)⟩
  | asgs is v => exact ⟨ss_asgs is v, sb_bad (fun _ _ => rfl)⟩
  | par is vs => exact ⟨ss_par is vs, sb_bad (fun _ _ => rfl)⟩
  | setI o k v => exact ⟨ss_setI o k v, sb_bad (fun _ _ => rfl)⟩
  | setA cl i f o v => exact ⟨ss_setA cl i f o v, sb_bad (fun _ _ => rfl)⟩
  | aug i o v => exact ⟨ss_aug i o v, sb_bad (fun _ _ => rfl)⟩
  | exp v => exact ⟨ss_exp v, sb_bad (fun _ _ => rfl)⟩
  | ret v => exact ⟨ss_ret v, sb_bad (fun _ _ => rfl)⟩
  | retN => exact ⟨ss_retN, sb_bad (fun _ _ => rfl)⟩
  | ite t a b iha ihb => exact ⟨ss_ite iha.2 ihb.2, sb_bad (fun _ _ => rfl)⟩
  | whl t b ih => exact ⟨ss_whl ih.2, sb_bad (fun _ _ => rfl)⟩
  | «for» tg it b ih => exact ⟨ss_for ih.2, sb_bad (fun _ _ => rfl)⟩
  | rais cl e => exact ⟨ss_bad (fun _ _ => rfl), sb_bad (fun _ _ => rfl)⟩
  | tryx b cl i h ihb ihh => exact ⟨ss_bad (fun _ _ => rfl), sb_bad (fun _ _ => rfl)⟩
end
end N9

set_option Elab.async false
set_option linter.all false
set_option maxRecDepth 100000
namespace N9
open PySem PySem.Spec L2

/-! ## defs -/
structure FD where
  x : Str
  qual : Str
  st : Stmt
  N : List Str
  ps : List Str
  df : Df
def scB (N P : List Str) (sc : Scope) : Bool :=
  (match sc.kind with | .function => true | _ => false) && !sc.isCoroutine && !sc.isGenerator && decide N.Nodup && decide (N.take P.length = P) &&
    (P.all fun x => match sc.names.lookup x with | some .local => true | some .cell => true | _ => false) && (sc.names.all fun y => match y.2 with | .free => false | _ => true)
theorem scB_ok {N P : List Str} {sc : Scope} (h : scB N P sc = true) : FnScope N P sc := by
  unfold scB at h
  rw [Bool.and_eq_true, Bool.and_eq_true, Bool.and_eq_true, Bool.and_eq_true, Bool.and_eq_true, Bool.and_eq_true, decide_eq_true_eq, decide_eq_true_eq, Bool.not_eq_true', Bool.not_eq_true', List.all_eq_true, List.all_eq_true] at h
  obtain ⟨⟨⟨⟨⟨⟨h1, h2⟩, h3⟩, h4⟩, h5⟩, h6⟩, h7⟩ := h
  refine ⟨?_, h2, h3, h4, h5, fun x hx => ?_, fun y hy e => ?_⟩
  · split at h1
    · assumption
    · cases h1
  · have := h6 x hx
    split at this
    · exact .inl (by assumption)
    · exact .inr (by assumption)
    · cases this
  · have := h7 y hy
    rw [e] at this
    cases this
def fdB (T : Tab) (f : Nat) (d : FD) : Bool :=
  scB d.N d.ps (defScope d.st) && decide (d.df.params = d.ps.length) && decide (d.df.slots = d.N.length) && decide (T.np f = d.ps.length) && decide (d.ps.length ≤ d.N.length) && chkB T d.N d.df.body (defScope d.st) (defBody d.st)

/-! ## a program -/
/-- a def as it stands behind the top -/
structure FunG (K : PySem.W.Frag) (x qual : Str) (st : Stmt) (f : Addr) (g : FuncData) : Prop where
  ex : ∃ (oc : Value) (od : Option Addr) (dV kV doc pm : Value) (an : Option Addr) (cdv ct : Value) (osl : Array (Option Value)),
    g = PySem.W.fnOf x qual (defArgs st) (defBody st) (defScope st) dV kV doc pm an cdv ct ∧ K.lookup f = some ⟨oc, od, .func g, osl⟩ ∧ PySem.W.codeIn K cdv qual = true
theorem funG_mk {K : PySem.W.Frag} {x qual : Str} {st : Stmt} {f : Addr} {oc : Value} {od an : Option Addr} {osl : Array (Option Value)} {dV kV doc pm cdv ct : Value} (l : K.lookup f = some ⟨oc, od, .func (PySem.W.fnOf x qual (defArgs st) (defBody st) (defScope st) dV kV doc pm an cdv ct), osl⟩)
    (c : PySem.W.codeIn K cdv qual = true) : FunG K x qual st f (PySem.W.fnOf x qual (defArgs st) (defBody st) (defScope st) dV kV doc pm an cdv ct) := ⟨⟨oc, od, dV, kV, doc, pm, an, cdv, ct, osl, rfl, l, c⟩⟩
theorem FunG.okX {P : Program} {w : World} {K : PySem.W.Frag} {mg : Str → Option Value} {base : Heap} {x qual : Str} {st : Stmt} {f : Addr} {g : FuncData} {N ps : List Str} {k : Nat} {sp : Sp} (F : FunG K x qual st f g) (S : FnScope N ps (defScope st)) (len : ∀ vs H Q E, sp vs H Q E → vs.length = ps.length)
    (hbody : ∀ (cdv : Value) (A : Around) (outer : List PySem.Env) (s : Shared) (H : Hp) (vs : List V) (Q : VK) (E : XK), Room k (A.deeper (PyProof.Rows.envOfC qual (defScope st) s.heap.objs.size f cdv)) → sp vs H Q E →
      ∃ t, PSs (cxOf (L2.CX P w) P w K mg base N qual (defScope st) f cdv A outer s H E) (defBody st) t ∧ t { nx := fun _ H' => Q .non H', rt := Q } (L2.start N vs) H) : FnOk P w K mg base (L2.CX P w) (k + 1) f g ps sp := by
  obtain ⟨oc, od, dV, kV, doc, pm, an, cdv, ct, osl, rfl, lk, hcd⟩ := F.ex
  exact fn_of lk hcd S len fun A outer s H vs Q E hr hsp => hbody cdv A outer s H vs Q E hr hsp
structure Facts (T : Tab) (fs : List Nat) (lf : Nat) (lx : Str) (fd : Nat → FD) (C : Ct) (K : PySem.W.Frag) (mg : Str → Option Value) : Prop where
  cn : C.names = T.cn
  gf : ∀ f, T.gf f = true → mg (T.fn f) = some (.ref (C.faddr f))
  fn : ∀ f ∈ fs, ∃ g, FunG K (fd f).x (fd f).qual (fd f).st (C.faddr f) g ∧ (f = lf → ∀ s u, BindsTo s g ⟨[u], []⟩ [(lx, u)])
  sh : ∀ s ∈ T.shs, ∃ g, FunG K (fd s.f).x (fd s.f).qual (fd s.f).st (C.faddr s.f) g ∧ PySem.W.keepIn K (.ref (C.faddr s.f)) = true ∧ BindR K g (fd s.f).ps s
  mt : ∀ c m f, c ∈ T.ncl → T.mt c m = some f → Meth K (C.addr c) (Str.ofString m) (C.faddr f)
  cls : ∀ c, c ∈ T.ncl → Cls K (C.addr c) ∧ mg (T.cname c) = some (.ref (C.addr c)) ∧ (∀ n, n ∈ T.cn c → NoAttr K (C.addr c) n)
  ini : ∀ c f, c ∈ T.ncl → T.mt c "__init__" = some f → Mk K (C.addr c) (C.faddr f)
  cInt : ∀ n i, T.co n = some (.int i) → ∃ t, mg (Str.ofString n) = some (.int i t)
  cStr : ∀ n i, T.co n = some (.str i) → ∃ t, mg (Str.ofString n) = some (.str i t)
  bls : ∀ n, T.bl.contains n = true → mg (Str.ofString n) = none

section
variable {T : Tab} {C : Ct} {P : Program} {w : World} {K : PySem.W.Frag} {mg : Str → Option Value} {base : Heap} {fs : List Nat} {lf : Nat} {lx : Str} {fd : Nat → FD}
theorem fn_zero {d : FD} {f k : Nat} {fa : Addr} {g : FuncData} {c : List D → Hm → Re D} (hd : fdB T f d = true) (hc : ∀ ds h, c ds h = .stk) : FnOk P w K mg base (L2.CX P w) k fa g d.ps (spF C P w K (T.np f) c) := by
  unfold fdB at hd
  simp only [Bool.and_eq_true, decide_eq_true_eq] at hd
  refine ⟨fun vs H Q E h => h.1.trans hd.1.1.2, fun A outer s H args us vs Q E hr e0 hbt hv hsp => ?_⟩
  obtain ⟨_, ad, hp, ds, _, _, m⟩ := hsp
  rw [hc] at m
  exact m.elim
/-- what a level gives -/
structure Lvl (T : Tab) (C : Ct) (P : Program) (w : World) (K : PySem.W.Frag) (mg : Str → Option Value) (base : Heap) (fs : List Nat) (fd : Nat → FD) (k : Nat) (c : Oracle) : Prop where
  call : ∀ f g, f ∈ fs → FunG K (fd f).x (fd f).qual (fd f).st (C.faddr f) g → FnOk P w K mg base (L2.CX P w) (k + 1) (C.faddr f) g (fd f).ps (spF C P w K (T.np f) (c.call f))
  make : ∀ f g, f ∈ fs → FunG K (fd f).x (fd f).qual (fd f).st (C.faddr f) g → FnOk P w K mg base (L2.CX P w) k (C.faddr f) g (fd f).ps (spF C P w K (T.np f) (c.make f))
theorem np_of {f : Nat} {d : FD} (hd : fdB T f d = true) : d.ps.length = T.np f := by
  unfold fdB at hd
  simp only [Bool.and_eq_true, decide_eq_true_eq] at hd
  exact hd.1.1.2.symm
theorem fn_step {k f W : Nat} {c : Oracle} {g : FuncData} (hok : ∀ f ∈ fs, fdB T f (fd f) = true) (hsh : ∀ s ∈ T.shs, s.f ∈ fs) (X : Facts T fs lf lx fd C K mg) (L : Lvl T C P w K mg base fs fd k c) (hf : f ∈ fs) (F : FunG K (fd f).x (fd f).qual (fd f).st (C.faddr f) g) :
    FnOk P w K mg base (L2.CX P w) (k + 2) (C.faddr f) g (fd f).ps (spF C P w K (T.np f) (callF c W (fd f).df)) := by
  have hd := hok f hf
  unfold fdB at hd
  simp only [Bool.and_eq_true, decide_eq_true_eq] at hd
  obtain ⟨⟨⟨⟨⟨h1, h2⟩, h3⟩, h4⟩, h6⟩, h7⟩ := hd
  generalize hdd : fd f = d at *
  have S := scB_ok h1
  refine FunG.okX F S (fun vs H Q E h => h.1.trans h4) fun cdv A outer s H vs Q E hr hsp => ?_
  obtain ⟨hl, ad, hp, ds, R, rs, m⟩ := hsp
  have hvd := rs.length
  have hdl : ds.length = d.ps.length := by rw [← hvd, hl, h4]
  refine ⟨wB _ (defBody d.st), pbW, ?_⟩
  have hE : (startE d.df.slots ds).length = d.df.slots := by unfold startE; rw [List.length_append, List.length_map, List.length_replicate]; omega
  have hσ : (L2.start d.N vs).length = (startE d.df.slots ds).length := by rw [hE, h3]; unfold L2.start; rw [List.length_append, List.length_map, List.length_replicate]; omega
  have Sm : SlR C K ad (startE d.df.slots ds) (L2.start d.N vs) H := by
    refine ⟨hσ, fun i q h => ?_⟩
    have hq : ds[i]? = some q := by
      unfold startE at h
      by_cases hi : i < ds.length
      · rw [List.getElem?_append_left (by simpa using hi), List.getElem?_map] at h
        cases z : ds[i]? with
        | none => rw [z] at h; cases h
        | some y => rw [z] at h; cases h; rfl
      · rw [List.getElem?_append_right (by simpa using hi), List.getElem?_replicate] at h
        split at h <;> cases h
    obtain ⟨v, ev, r⟩ := rs.getD hq
    refine ⟨v, ?_, r⟩
    unfold L2.start
    have hi := (List.getElem?_eq_some_iff.mp ev).1
    rw [List.getElem?_append_left (by simpa using hi), List.getElem?_map, ev]
    rfl
  have m : Post C P w K (RV C K) (match ex c W d.df.body (startE d.df.slots ds) hp with
    | .nx e h' => gcR d.df.gc hp .non h'
    | .ret x h' => gcR d.df.gc hp x h'
    | .exc cl w e h' => .exc cl w h'
    | _ => .stk) ad H E Q := by
    have := m
    unfold callF at this
    rw [if_pos (by omega)] at this
    exact this
  refine (soundS (T := T) (N := d.N) (C := C) (c := c) (n := W) d.df.body).2 (defScope d.st) (defBody d.st) (fun cls dd _ H' => E cls dd H') (cxOf (L2.CX P w) P w K mg base d.N d.qual (defScope d.st) (C.faddr f) cdv A outer s H E) _ hp ad _ H
    ⟨⟨rfl, S.nd, rfl, takes_of rfl rfl rfl rfl, by have := hr.un; show (A.deeper _).units + 200 < cLine; omega, fun x h => h, fun x h => ⟨h, .inl rfl⟩, fun x h => h, fun x h => h⟩, rfl, S.kind, passes_of rfl⟩
    ⟨X.cn, X.gf, fun s hs => ?_, fun s hs => ?_, X.mt, X.cls, X.ini, X.cInt, X.cStr, X.bls⟩ h7 R Sm _ ?_
  · obtain ⟨g', q1, q2, q3⟩ := X.sh s hs
    exact ⟨g', (fd s.f).ps, k + 1, np_of (hok _ (hsh s hs)), q2, hr, L.call s.f g' (hsh s hs) q1, q3⟩
  · obtain ⟨g', q1, q2, q3⟩ := X.sh s hs
    exact ⟨g', (fd s.f).ps, k, np_of (hok _ (hsh s hs)), hr, L.make s.f g' (hsh s hs) q1, q3⟩
  · cases hx : ex c W d.df.body (startE d.df.slots ds) hp with
    | nx e h' =>
      rw [hx] at m
      intro σ' H' ad' R' S' x'
      exact gc_ok (X := cxOf (L2.CX P w) P w K mg base d.N d.qual (defScope d.st) (C.faddr f) cdv A outer s H E) R R' x' .non m
    | ret dv h' =>
      rw [hx] at m
      intro v H' ad' R' x' r
      exact gc_ok (X := cxOf (L2.CX P w) P w K mg base d.N d.qual (defScope d.st) (C.faddr f) cdv A outer s H E) R R' x' r m
    | exc cl wv e h' =>
      rw [hx] at m
      intro dx v σ' H' ad' R' S' x' ea r
      exact m dx v H' ad' R' x' ea r
    | brk e h' => rw [hx] at m; exact m.elim
    | ct e h' => rw [hx] at m; exact m.elim
    | stk => rw [hx] at m; exact m.elim
variable {Γ : Nat → Option Df}
theorem run_succ {W k f : Nat} (h : Γ f = some (fd f).df) : (run Γ W (k + 1)).call f = callF (run Γ W k) W (fd f).df := by
  funext ds hp
  show (match Γ f with | some d => callF (run Γ W k) W d ds hp | none => .stk) = _
  rw [h]
theorem run_make {W k f : Nat} : (run Γ W (k + 1)).make f = (run Γ W k).call f := rfl
theorem lvl_of {W : Nat} (hok : ∀ f ∈ fs, fdB T f (fd f) = true) (hsh : ∀ s ∈ T.shs, s.f ∈ fs) (hΓ : ∀ f ∈ fs, Γ f = some (fd f).df) (X : Facts T fs lf lx fd C K mg) : ∀ k, Lvl T C P w K mg base fs fd k (run Γ W k)
  | 0 => ⟨fun f g hf F => fn_zero (hok f hf) fun _ _ => rfl, fun f g hf F => fn_zero (hok f hf) fun _ _ => rfl⟩
  | k + 1 => by
    have L := lvl_of (W := W) hok hsh hΓ X k
    refine ⟨fun f g hf F => ?_, fun f g hf F => ?_⟩
    · rw [run_succ (hΓ f hf)]; exact fn_step hok hsh X L hf F
    · rw [run_make]; exact L.call f g hf F
end

/-- the law's own def -/
def spLaw (K : PySem.W.Frag) (n : Nat) : Sp := fun vs H Q _ => ∃ (a : Addr) (ns : List Int), vs = [.ref a] ∧ SqL K H a (ns.map V.int) ∧ ns.length ≤ n ∧ ∀ H', Q (.bl true) H'
theorem law_sp {C : Ct} {P : Program} {w : World} {K : PySem.W.Frag} {n : Nat} {c : List D → Hm → Re D} (h : ∀ ns : List Int, ns.length ≤ n → ∃ h', c [.scr ns] [] = .ok (.bl true) h') : ∀ vs H Q E, spLaw K n vs H Q E → spF C P w K 1 c vs H Q E := by
  rintro vs H Q E ⟨a, ns, rfl, hS, hl, q⟩
  obtain ⟨h', e⟩ := h ns hl
  refine ⟨rfl, [], [], [.scr ns], ⟨rfl, List.nodup_nil, fun n a o h => absurd h (by simp)⟩, .cons (.scr (hS.imp (fun r => ⟨r, by simp⟩) id)) .nil, ?_⟩
  rw [e]
  intro v H' ad' _ _ r
  cases r
  exact q H'
theorem walkN {l : PySem.W.OpenLaw} {n k lf W : Nat} {fs : List Nat} {Γ : Nat → Option Df} {T : Tab} {fd : Nat → FD} {q : Program} {loose : List Str} {XP : (Str → Option Value) → Heap → Prop} {YP : World → Heap → Prop} {d : DefRec} {K : Params → PySem.W.Frag} {x : Str}
    (hn : l.most = some n) (hn2 : n ≤ sizeLine) (hdf : d.params.defaults = []) (hr : Room (k + 1) callerA) (hY : ∀ (w : World) (h : Heap), YP w h → (K w.params).In h) (hf : lf ∈ fs) (hfn : d.name = T.fn lf) (hgf : T.gf lf = true) (hps : (fd lf).ps = [x])
    (hok : ∀ f ∈ fs, fdB T f (fd f) = true) (hsh : ∀ s ∈ T.shs, s.f ∈ fs) (hΓ : ∀ f ∈ fs, Γ f = some (fd f).df) (X : ∀ (w : World) (mg : Str → Option Value) (h : Heap), (K w.params).In h → h.Ns mainGlobals mg → ∃ C, Facts T fs lf x fd C (K w.params) mg)
    (law : ∀ ns : List Int, ns.length ≤ n → ∃ h', (run Γ W k).call lf [.scr ns] [] = .ok (.bl true) h') :
    PySem.W.WalkO q loose XP YP l.row.toRowW d [] (fun f vs => PySem.call f vs) := by
  refine L2.walk_of (n := n) (k := k + 1) (x := x) (CX := fun w => L2.CX l.prog w) (sp := fun w => spLaw (K w.params) n) hn hn2 hdf hr hY (fun w mg fa h KX G hmg => ?_) (fun w H a ns hl _ hS => ⟨a, ns, rfl, hS, hl, fun _ => rfl⟩) fun w H s e s' z => ?_
  · obtain ⟨C, Fx⟩ := X w mg h KX G
    obtain ⟨g, F, hb⟩ := Fx.fn lf hf
    rw [hfn, Fx.gf lf hgf] at hmg
    cases hmg
    refine ⟨g, hb rfl, fun base KB GB => ?_⟩
    have L := (lvl_of (W := W) (P := l.prog) (w := w) (base := base) hok hsh hΓ Fx k).call lf g hf F
    rw [← np_of (hok lf hf), hps] at L
    exact L.imp (law_sp law)
  · obtain ⟨_, _, _, _, _, _, _, _, _, _, _, _, z⟩ := z
    exact z

/-! ## binding -/
/-- the parameters' values: the written ones, an empty tuple, None -/
def mz (l : List (Nat ⊕ Bool)) (e : Addr) (us : List Value) : List Value := l.map fun x => match x with
  | .inl i => us.getD i .none
  | .inr true => .ref e
  | .inr false => .none
theorem bindR_of {K : PySem.W.Frag} {g : FuncData} {ps : List Str} {f n : Nat} {ks : List Str} {l : List (Nat ⊕ Bool)} (e : Addr) (hb : ∀ (s0 : Shared) (us ws : List Value), K.In s0.heap → us.length = n → ws.length = ks.length → BindsTo s0 g ⟨us, ks.zip ws⟩ (ps.zip (mz l e (us ++ ws))))
    (he : (.inr true) ∈ l → kTup K e []) (hl : l.length = ps.length) (hi : ∀ i, (.inl i) ∈ l → i < n + ks.length) : BindR K g ps ⟨f, n, ks, some l⟩ := by
  intro s0 us ws vs hK l1 l2 r
  have hlen : (us ++ ws).length = n + ks.length := by rw [List.length_append, l1, l2]
  have hvl : vs.length = n + ks.length := by rw [r.length, hlen]
  have key : ∀ l' : List (Nat ⊕ Bool), (∀ x, x ∈ l' → x ∈ l) → ∃ zvs, Vals zvs (mz l' e (us ++ ws)) ∧ PermR K (some l') vs zvs := by
    intro l' hl'
    induction l' with
    | nil => exact ⟨[], .nil, .nil⟩
    | cons x l' ih =>
      obtain ⟨zvs, h1, h2⟩ := ih fun y hy => hl' y (List.mem_cons_of_mem _ hy)
      have hx := hl' x List.mem_cons_self
      cases x with
      | inl i =>
        have hlt : i < vs.length := by rw [hvl]; exact hi i hx
        refine ⟨vs[i] :: zvs, .cons ?_ h1, .cons (show vs[i]? = some vs[i] from List.getElem?_eq_getElem hlt) h2⟩
        have hlt2 : i < (us ++ ws).length := by rw [hlen, ← hvl]; exact hlt
        have hr := Paired.get (r : Paired RelV vs (us ++ ws)) hlt hlt2
        show RelV vs[i] ((us ++ ws).getD i .none)
        rw [List.getD_eq_getElem?_getD, List.getElem?_eq_getElem hlt2, Option.getD_some]
        exact hr
      | inr b =>
        cases b with
        | true => exact ⟨.ref e :: zvs, .cons rfl h1, .cons (show ∃ a, V.ref e = .ref a ∧ kTup K a [] from ⟨e, rfl, he hx⟩) h2⟩
        | false => exact ⟨.non :: zvs, .cons rfl h1, .cons (show V.non = .non from rfl) h2⟩
  obtain ⟨zvs, h1, h2⟩ := key l fun _ h => h
  refine ⟨mz l e (us ++ ws), zvs, hb s0 us ws hK l1 l2, ?_, h1, h2⟩
  unfold mz
  rw [List.length_map, hl]
where
  Paired.get {α β : Type} {R : α → β → Prop} {as : List α} {bs : List β} {i : Nat} (r : Paired R as bs) (h1 : i < as.length) (h2 : i < bs.length) : R as[i] bs[i] := by
    induction r generalizing i with
    | nil => simp at h1
    | cons h t ih =>
      cases i with
      | zero => exact h
      | succ i => simpa using ih (by simpa using h1) (by simpa using h2)
theorem bindR_none {K : PySem.W.Frag} {g : FuncData} {ps : List Str} {f n : Nat} {ks : List Str} (hb : ∀ (s0 : Shared) (us ws : List Value), K.In s0.heap → us.length = n → ws.length = ks.length → BindsTo s0 g ⟨us, ks.zip ws⟩ (ps.zip (us ++ ws))) (hl : n + ks.length = ps.length) : BindR K g ps ⟨f, n, ks, none⟩ := by
  intro s0 us ws vs hK l1 l2 r
  exact ⟨us ++ ws, vs, hb s0 us ws hK l1 l2, by rw [List.length_append, l1, l2, hl], r, rfl⟩
/-- no default is read -/
theorem bT_eq {s0 : Shared} {g : FuncData} {a : Args} {b : List (Str × Value)} (h : bindArgs g a = pure b) : BindsTo s0 g a b := .of_eq h
/-- the tuple of the defaults is read -/
theorem bT_tup {K : PySem.W.Frag} {s0 : Shared} {g : FuncData} {a : Args} {b : List (Str × Value)} {T : Addr} {o : Obj} {its : Array Value} {n : Nat} {k : Option (Array Value) → Sem (List (Str × Value))} (X : K.In s0.heap) (lT : K.lookup T = some o) (oT : o.data = .seq its n) (h : bindArgs g a = seqItems? (.ref T) >>= k) (h2 : k (some its) = pure b) : BindsTo s0 g a b :=
  L2.BindsTo.of_looks fun M => by rw [h]; exact looks_items X lT oT (.of_pure h2)
/-- one keyword-only default is read -/
theorem bT_kw {K : PySem.W.Frag} {s0 : Shared} {g : FuncData} {a : Args} {b : List (Str × Value)} {D : Addr} {l : List (Str × Value)} (X : K.In s0.heap) (hl : ∀ q ∈ l, PySem.W.nsIn K D q.1 = some (some q.2)) (h : KwChain D l (bindArgs g a) b) : BindsTo s0 g a b :=
  L2.BindsTo.of_looks fun M => KwChain.looks X hl h
end N9

set_option Elab.async false
set_option linter.all false
set_option maxRecDepth 100000
namespace N9
/-- 0 CleanError.__init__(self, what): 0 self 1 what -/
def b_CleanError___init__ : IS := (.seq (.setA 10 0 "what" (.var 0) (.var 1)) .nil)
/-- 1 is_integer(thing): 0 thing -/
def b_is_integer : IS := (.seq (.ret (.and (.op (.isi .int) (.cons (.var 0) .nil)) (.not (.op (.isi .bool) (.cons (.var 0) .nil))))) .nil)
def b_is_ascending_L1 : IS := (.seq (.ite (.or (.not (.call 1 none (.cons (.var 3) .nil))) (.or (.cmp .le (.var 3) (.var 2)) (.cmp .ge (.var 3) (.var 1)))) (.seq (.ret (.con (.bl false))) .nil) .nil) (.seq (.asg (.nm 2) (.var 3)) .nil))
/-- 2 is_ascending(thing, size): 0 thing 1 size 2 last 3 value -/
def b_is_ascending : IS := (.seq (.ite (.not (.op (.isi .tuple) (.cons (.var 0) .nil))) (.seq (.ret (.con (.bl false))) .nil) .nil) (.seq (.asg (.nm 2) (.op .neg (.cons (.con (.int 1)) .nil))) (.seq (.for (.nm 3) (.itv (.var 0)) b_is_ascending_L1) (.seq (.ret (.con (.bl true))) .nil))))
/-- 3 is_value(graph, thing): 0 graph 1 thing -/
def b_is_value : IS := (.seq (.ret (.and (.call 1 none (.cons (.var 1) .nil)) (.chain .le .lt (.con (.int 0)) (.var 1) (.op (.att 0 2 "size") (.cons (.var 0) .nil))))) .nil)
/-- 4 judge_value(graph, thing): 0 graph 1 thing -/
def b_judge_value : IS := (.seq (.ite (.not (.call 3 none (.cons (.var 0) (.cons (.var 1) .nil)))) (.seq .unk .nil) .nil) .nil)
def b_are_recipes_of_L1 : IS := (.seq (.ite (.or (.not (.call 2 none (.cons (.var 3) (.cons (.var 1) .nil)))) (.cmp .isin (.var 3) (.var 2))) (.seq (.ret (.con (.bl false))) .nil) .nil) (.seq (.exp (.bmt (.mm .append) (.var 2) (.cons (.var 3) .nil))) .nil))
/-- 5 are_recipes_of(thing, value): 0 thing 1 value 2 seen 3 recipe -/
def b_are_recipes_of : IS := (.seq (.ite (.or (.not (.op (.isi .tuple) (.cons (.var 0) .nil))) (.not (.chain .le .le (.con (.int 1)) (.op (.bi true .len) (.cons (.var 0) .nil)) (.gl "MOST_RECIPES" (.int 4))))) (.seq (.ret (.con (.bl false))) .nil) .nil) (.seq (.asg (.nm 2) (.lstE false .nil)) (.seq (.for (.nm 3) (.itv (.var 0)) b_are_recipes_of_L1) (.seq (.ret (.con (.bl true))) .nil))))
def b_are_recipes_L1 : IS := (.seq (.ite (.not (.call 5 none (.cons (.var 2) (.cons (.var 1) .nil)))) (.seq (.ret (.con (.bl false))) .nil) .nil) .nil)
/-- 6 are_recipes(thing): 0 thing 1 value 2 row -/
def b_are_recipes : IS := (.seq (.ite (.or (.not (.op (.isi .tuple) (.cons (.var 0) .nil))) (.not (.chain .le .le (.con (.int 1)) (.op (.bi true .len) (.cons (.var 0) .nil)) (.gl "MOST_VALUES" (.int 10))))) (.seq (.ret (.con (.bl false))) .nil) .nil) (.seq (.for (.tp [1, 2]) (.enm (.var 0)) b_are_recipes_L1) (.seq (.ret (.con (.bl true))) .nil)))
def b_are_prices_L1 : IS := (.seq (.ite (.or (.not (.call 1 none (.cons (.var 2) .nil))) (.not (.chain .le .le (.con (.int 1)) (.var 2) (.gl "MOST_PRICE" (.int 9))))) (.seq (.ret (.con (.bl false))) .nil) .nil) .nil)
/-- 7 are_prices(thing, size): 0 thing 1 size 2 price -/
def b_are_prices : IS := (.seq (.ite (.or (.not (.op (.isi .tuple) (.cons (.var 0) .nil))) (.cmp .ne (.op (.bi true .len) (.cons (.var 0) .nil)) (.var 1))) (.seq (.ret (.con (.bl false))) .nil) .nil) (.seq (.for (.nm 2) (.itv (.var 0)) b_are_prices_L1) (.seq (.ret (.con (.bl true))) .nil)))
/-- 8 renamed(row, names): 0 row 1 names 2 recipe 3 part -/
def b_renamed : IS := (.seq (.ret (.op (.bi true .tuple) (.cons (.lc true [2] (.nm 2) (.itv (.var 0)) (.con (.bl true)) (.op (.bi true .tuple) (.cons (.lc true [3] (.nm 3) (.itv (.var 2)) (.con (.bl true)) (.op .idx (.cons (.var 1) (.cons (.var 3) .nil)))) .nil))) .nil))) .nil)
/-- 9 Graph.__init__(self, recipes, prices): 0 self 1 recipes 2 prices -/
def b_Graph___init__ : IS := (.seq (.ite (.not (.call 6 none (.cons (.var 1) .nil))) (.seq .unk .nil) .nil) (.seq (.ite (.cmp .isn (.var 2) (.con .non)) (.seq (.asg (.nm 2) (.op (.bin true .mul) (.cons (.tupE (.cons (.con (.int 1)) .nil)) (.cons (.op (.bi true .len) (.cons (.var 1) .nil)) .nil)))) .nil) .nil) (.seq (.ite (.not (.call 7 none (.cons (.var 2) (.cons (.op (.bi true .len) (.cons (.var 1) .nil)) .nil)))) (.seq .unk .nil) .nil) (.seq (.setA 0 0 "recipes" (.var 0) (.var 1)) (.seq (.setA 0 1 "prices" (.var 0) (.var 2)) (.seq (.setA 0 2 "size" (.var 0) (.op (.bi true .len) (.cons (.var 1) .nil))) .nil))))))
/-- 10 Graph.__eq__(self, other): 0 self 1 other -/
def b_Graph___eq__ : IS := (.seq .unk .nil)
/-- 11 Graph.__add__(self, other): 0 self 1 other 2 names 3 moved 4 value 5 row -/
def b_Graph___add__ : IS := (.seq .unk (.seq (.ite (.cmp .gt (.op (.bin true .add) (.cons (.op (.att 0 2 "size") (.cons (.var 0) .nil)) (.cons (.op (.att 0 2 "size") (.cons (.var 1) .nil)) .nil))) (.gl "MOST_VALUES" (.int 10))) (.seq .unk .nil) .nil) (.seq (.asg (.nm 2) (.lc true [4] (.nm 4) (.rng1 (.op (.att 0 2 "size") (.cons (.var 1) .nil))) (.con (.bl true)) (.op (.bin true .add) (.cons (.var 4) (.cons (.op (.att 0 2 "size") (.cons (.var 0) .nil)) .nil))))) (.seq (.asg (.nm 3) (.op (.bi true .tuple) (.cons (.lc true [5] (.nm 5) (.itv (.op (.att 0 0 "recipes") (.cons (.var 1) .nil))) (.con (.bl true)) (.call 8 none (.cons (.var 5) (.cons (.var 2) .nil)))) .nil))) (.seq (.ret (.make true 0 9 none (.cons (.op (.bin true .add) (.cons (.op (.att 0 0 "recipes") (.cons (.var 0) .nil)) (.cons (.var 3) .nil))) (.cons (.op (.bin true .add) (.cons (.op (.att 0 1 "prices") (.cons (.var 0) .nil)) (.cons (.op (.att 0 1 "prices") (.cons (.var 1) .nil)) .nil))) .nil)))) .nil)))))
/-- 12 Graph.parts_of(self, value): 0 self 1 value 2 recipe 3 part -/
def b_Graph_parts_of : IS := (.seq (.exp (.call 4 none (.cons (.var 0) (.cons (.var 1) .nil)))) (.seq .unk .nil))
/-- 13 Graph.uses_of(self, value): 0 self 1 value 2 user -/
def b_Graph_uses_of : IS := (.seq (.exp (.call 4 none (.cons (.var 0) (.cons (.var 1) .nil)))) (.seq (.ret (.lc false [2] (.nm 2) (.rng1 (.op (.att 0 2 "size") (.cons (.var 0) .nil))) (.cmp .isin (.var 1) (.meth 0 "parts_of" 12 none (.var 0) (.cons (.var 2) .nil))) (.var 2))) .nil))
/-- 14 Graph.with_prices(self, prices): 0 self 1 prices -/
def b_Graph_with_prices : IS := (.seq (.ret (.make true 0 9 none (.cons (.op (.att 0 0 "recipes") (.cons (.var 0) .nil)) (.cons (.var 1) .nil)))) .nil)
/-- 15 Graph.row(cls, n): 0 cls 1 n 2 value -/
def b_Graph_row : IS := (.seq (.ite (.or (.not (.call 1 none (.cons (.var 1) .nil))) (.not (.chain .le .le (.con (.int 1)) (.var 1) (.gl "MOST_VALUES" (.int 10))))) (.seq .unk .nil) .nil) (.seq .unk .nil))
/-- 16 is_lot(graph, thing): 0 graph 1 thing -/
def b_is_lot : IS := (.seq (.ret (.call 2 none (.cons (.var 1) (.cons (.op (.att 0 2 "size") (.cons (.var 0) .nil)) .nil)))) .nil)
/-- 17 judge_lot(graph, thing): 0 graph 1 thing -/
def b_judge_lot : IS := (.seq (.ite (.not (.call 16 none (.cons (.var 0) (.cons (.var 1) .nil)))) (.seq .unk .nil) .nil) .nil)
/-- 18 judge_rooms(thing): 0 thing -/
def b_judge_rooms : IS := (.seq (.ite (.or (.not (.call 1 none (.cons (.var 0) .nil))) (.not (.chain .le .le (.con (.int 0)) (.var 0) (.gl "MOST_ROOMS" (.int 10))))) (.seq .unk .nil) .nil) .nil)
def b_holds_L1 : IS := (.seq (.ite (.cmp .notin (.var 2) (.var 0)) (.seq (.ret (.con (.bl false))) .nil) .nil) .nil)
/-- 19 holds(lot, recipe): 0 lot 1 recipe 2 part -/
def b_holds : IS := (.seq (.for (.nm 2) (.itv (.var 1)) b_holds_L1) (.seq (.ret (.con (.bl true))) .nil))
def b_enabled_L1 : IS := (.seq (.ite (.call 19 none (.cons (.var 1) (.cons (.var 3) .nil))) (.seq (.ret (.con (.bl true))) .nil) .nil) .nil)
/-- 20 enabled(recipes, lot, value): 0 recipes 1 lot 2 value 3 recipe -/
def b_enabled : IS := (.seq (.for (.nm 3) (.itv (.op .idx (.cons (.var 0) (.cons (.var 2) .nil)))) b_enabled_L1) (.seq (.ret (.con (.bl false))) .nil))
/-- 21 toggled(lot, value): 0 lot 1 value 2 kept -/
def b_toggled : IS := (.seq (.ite (.cmp .isin (.var 1) (.var 0)) (.seq (.ret (.op (.bi true .tuple) (.cons (.lc true [2] (.nm 2) (.itv (.var 0)) (.cmp .ne (.var 2) (.var 1)) (.var 2)) .nil))) .nil) .nil) (.seq (.ret (.op (.bi true .tuple) (.cons (.op (.bi true .sorted) (.cons (.lstE true (.star (.var 0) (.cons (.var 1) .nil))) .nil)) .nil))) .nil))
/-- 22 Record.__init__(self, lots, price): 0 self 1 lots 2 price 3 lot -/
def b_Record___init__ : IS := (.seq (.setA 1 0 "lots" (.var 0) (.var 1)) (.seq (.setA 1 1 "price" (.var 0) (.var 2)) (.seq (.setA 1 2 "most" (.var 0) (.op (.bi true .max) (.cons (.lc true [3] (.nm 3) (.itv (.var 1)) (.con (.bl true)) (.op (.bi true .len) (.cons (.var 3) .nil))) .nil))) (.seq (.setA 1 3 "end" (.var 0) (.op .idx (.cons (.var 1) (.cons (.op .neg (.cons (.con (.int 1)) .nil)) .nil)))) .nil))))
/-- 23 is_list_of_deeds(thing): 0 thing -/
def b_is_list_of_deeds : IS := (.seq (.ret (.and (.op (.isi .list) (.cons (.var 0) .nil)) (.cmp .le (.op (.bi true .len) (.cons (.var 0) .nil)) (.gl "MOST_DEEDS" (.int 2000))))) .nil)
/-- 24 judge_form(program): 0 program -/
def b_judge_form : IS := (.seq (.ite (.not (.call 23 none (.cons (.var 0) .nil))) (.seq .unk .nil) .nil) .nil)
def b_walked_L1 : IS := (.seq (.ite (.or (.not (.call 3 none (.cons (.var 0) (.cons (.var 5) .nil)))) (.not (.call 20 none (.cons (.op (.att 0 0 "recipes") (.cons (.var 0) .nil)) (.cons (.op .idx (.cons (.var 3) (.cons (.op .neg (.cons (.con (.int 1)) .nil)) .nil))) (.cons (.var 5) .nil)))))) (.seq (.ret (.tupE (.cons (.var 3) (.cons (.var 4) .nil)))) .nil) .nil) (.seq (.exp (.bmt (.mm .append) (.var 3) (.cons (.call 21 none (.cons (.op .idx (.cons (.var 3) (.cons (.op .neg (.cons (.con (.int 1)) .nil)) .nil))) (.cons (.var 5) .nil))) .nil))) .nil))
/-- 25 walked(graph, program, start): 0 graph 1 program 2 start 3 lots 4 index 5 value -/
def b_walked : IS := (.seq (.asg (.nm 3) (.lstE false (.cons (.var 2) .nil))) (.seq (.for (.tp [4, 5]) (.enm (.var 1)) b_walked_L1) (.seq (.ret (.tupE (.cons (.var 3) (.cons (.con .non) .nil)))) .nil)))
/-- 26 judge_program(graph, program, start): 0 graph 1 program 2 start 3 lots 4 index -/
def b_judge_program : IS := (.seq (.exp (.call 24 none (.cons (.var 1) .nil))) (.seq (.exp (.call 17 none (.cons (.var 0) (.cons (.var 2) .nil)))) (.seq (.asg (.tp [3, 4]) (.call 25 none (.cons (.var 0) (.cons (.var 1) (.cons (.var 2) .nil))))) (.seq (.ite (.cmp .notn (.var 4) (.con .non)) (.seq .unk .nil) .nil) (.seq (.ret (.var 3)) .nil)))))
/-- 27 played(graph, program, start): 0 graph 1 program 2 start 3 lots 4 value -/
def b_played : IS := (.seq (.asg (.nm 3) (.call 26 none (.cons (.var 0) (.cons (.var 1) (.cons (.var 2) .nil))))) (.seq (.ret (.make false 1 22 none (.cons (.var 3) (.cons (.op (.bi true .sum) (.cons (.lc true [4] (.nm 4) (.itv (.var 1)) (.con (.bl true)) (.op .idx (.cons (.op (.att 0 1 "prices") (.cons (.var 0) .nil)) (.cons (.var 4) .nil)))) .nil)) .nil)))) .nil))
/-- 28 Desk.__init__(self, graph, rooms): 0 self 1 graph 2 rooms -/
def b_Desk___init__ : IS := (.seq (.exp (.call 18 none (.cons (.var 2) .nil))) (.seq (.setA 2 0 "graph" (.var 0) (.var 1)) (.seq (.setA 2 1 "room_limit" (.var 0) (.var 2)) (.seq (.setA 2 2 "lot" (.var 0) (.tupE .nil)) (.seq (.setA 2 3 "price" (.var 0) (.con (.int 0))) (.seq (.setA 2 4 "most" (.var 0) (.con (.int 0))) (.seq (.setA 2 5 "history" (.var 0) (.lstE false .nil)) (.seq (.setA 2 6 "peaks" (.var 0) (.lstE false (.cons (.con (.int 0)) .nil))) .nil))))))))
/-- 29 Desk.rooms(self): 0 self -/
def b_Desk_rooms : IS := (.seq (.ret (.op (.att 2 1 "room_limit") (.cons (.var 0) .nil))) .nil)
/-- 30 Desk.__len__(self): 0 self -/
def b_Desk___len__ : IS := (.seq (.ret (.op (.bi true .len) (.cons (.op (.att 2 5 "history") (.cons (.var 0) .nil)) .nil))) .nil)
/-- 31 Desk.__contains__(self, thing): 0 self 1 thing -/
def b_Desk___contains__ : IS := (.seq (.ret (.and (.call 3 none (.cons (.op (.att 2 0 "graph") (.cons (.var 0) .nil)) (.cons (.var 1) .nil))) (.cmp .isin (.var 1) (.op (.att 2 2 "lot") (.cons (.var 0) .nil))))) .nil)
/-- 32 Desk.is_full_for(self, lot, value): 0 self 1 lot 2 value -/
def b_Desk_is_full_for : IS := (.seq (.ret (.and (.cmp .notin (.var 2) (.var 1)) (.cmp .ge (.op (.bi true .len) (.cons (.var 1) .nil)) (.op (.att 2 1 "room_limit") (.cons (.var 0) .nil))))) .nil)
/-- 33 Desk.do(self, value): 0 self 1 value -/
def b_Desk_do : IS := (.seq (.exp (.call 4 none (.cons (.op (.att 2 0 "graph") (.cons (.var 0) .nil)) (.cons (.var 1) .nil)))) (.seq (.ite (.not (.call 20 none (.cons (.op (.att 0 0 "recipes") (.cons (.op (.att 2 0 "graph") (.cons (.var 0) .nil)) .nil)) (.cons (.op (.att 2 2 "lot") (.cons (.var 0) .nil)) (.cons (.var 1) .nil))))) (.seq .unk .nil) .nil) (.seq (.ite (.meth 2 "is_full_for" 32 none (.var 0) (.cons (.op (.att 2 2 "lot") (.cons (.var 0) .nil)) (.cons (.var 1) .nil))) (.seq .unk .nil) .nil) (.seq (.setA 2 2 "lot" (.var 0) (.call 21 none (.cons (.op (.att 2 2 "lot") (.cons (.var 0) .nil)) (.cons (.var 1) .nil)))) (.seq .unk (.seq (.setA 2 4 "most" (.var 0) (.op (.bi false .max) (.cons (.op (.att 2 4 "most") (.cons (.var 0) .nil)) (.cons (.op (.bi true .len) (.cons (.op (.att 2 2 "lot") (.cons (.var 0) .nil)) .nil)) .nil)))) (.seq (.exp (.bmt (.mm .append) (.op (.att 2 5 "history") (.cons (.var 0) .nil)) (.cons (.var 1) .nil))) (.seq (.exp (.bmt (.mm .append) (.op (.att 2 6 "peaks") (.cons (.var 0) .nil)) (.cons (.op (.att 2 4 "most") (.cons (.var 0) .nil)) .nil))) (.seq (.ret (.cmp .isin (.var 1) (.op (.att 2 2 "lot") (.cons (.var 0) .nil)))) .nil)))))))))
def b_Desk_trial_L1 : IS := (.seq (.ite (.or (.not (.call 3 none (.cons (.op (.att 2 0 "graph") (.cons (.var 0) .nil)) (.cons (.var 5) .nil)))) (.not (.call 20 none (.cons (.op (.att 0 0 "recipes") (.cons (.op (.att 2 0 "graph") (.cons (.var 0) .nil)) .nil)) (.cons (.var 2) (.cons (.var 5) .nil)))))) (.seq .unk .nil) .nil) (.seq (.ite (.meth 2 "is_full_for" 32 none (.var 0) (.cons (.var 2) (.cons (.var 5) .nil))) (.seq .unk .nil) .nil) (.seq (.asg (.nm 2) (.call 21 none (.cons (.var 2) (.cons (.var 5) .nil)))) (.seq (.aug 3 .add (.op .idx (.cons (.op (.att 0 1 "prices") (.cons (.op (.att 2 0 "graph") (.cons (.var 0) .nil)) .nil)) (.cons (.var 5) .nil)))) .nil))))
/-- 34 Desk.trial(self, program): 0 self 1 program 2 lot 3 price 4 index 5 value -/
def b_Desk_trial : IS := (.seq (.exp (.call 24 none (.cons (.var 1) .nil))) (.seq (.asg (.nm 2) (.op (.att 2 2 "lot") (.cons (.var 0) .nil))) (.seq (.asg (.nm 3) (.con (.int 0))) (.seq (.for (.tp [4, 5]) (.enm (.var 1)) b_Desk_trial_L1) (.seq (.ret (.tupE (.cons (.var 2) (.cons (.var 3) .nil)))) .nil)))))
def b_Desk___iadd___L1 : IS := (.seq (.exp (.meth 2 "do" 33 none (.var 0) (.cons (.var 2) .nil))) .nil)
/-- 35 Desk.__iadd__(self, program): 0 self 1 program 2 value -/
def b_Desk___iadd__ : IS := (.seq (.exp (.meth 2 "trial" 34 none (.var 0) (.cons (.var 1) .nil))) (.seq (.for (.nm 2) (.itv (.op (.bi true .list) (.cons (.var 1) .nil))) b_Desk___iadd___L1) (.seq (.ret (.var 0)) .nil)))
/-- 36 Graph.with_row(self, value, row): 0 self 1 value 2 row 3 recipes -/
def b_Graph_with_row : IS := (.seq (.asg (.nm 3) (.op (.bin true .add) (.cons (.op (.bin true .add) (.cons (.op (.slc true false true) (.cons (.op (.att 0 0 "recipes") (.cons (.var 0) .nil)) (.cons (.var 1) .nil))) (.cons (.tupE (.cons (.var 2) .nil)) .nil))) (.cons (.op (.slc true true false) (.cons (.op (.att 0 0 "recipes") (.cons (.var 0) .nil)) (.cons (.op (.bin true .add) (.cons (.var 1) (.cons (.con (.int 1)) .nil))) .nil))) .nil)))) (.seq (.ret (.make true 0 9 none (.cons (.var 3) (.cons (.op (.att 0 1 "prices") (.cons (.var 0) .nil)) .nil)))) .nil))
/-- 37 Graph.with_recipe(self, value, recipe): 0 self 1 value 2 recipe 3 row -/
def b_Graph_with_recipe : IS := (.seq (.exp (.call 4 none (.cons (.var 0) (.cons (.var 1) .nil)))) (.seq (.asg (.nm 3) (.op .idx (.cons (.op (.att 0 0 "recipes") (.cons (.var 0) .nil)) (.cons (.var 1) .nil)))) (.seq (.ite (.or (.not (.call 2 none (.cons (.var 2) (.cons (.var 1) .nil)))) (.or (.cmp .isin (.var 2) (.var 3)) (.cmp .ge (.op (.bi true .len) (.cons (.var 3) .nil)) (.gl "MOST_RECIPES" (.int 4))))) (.seq .unk .nil) .nil) (.seq (.ret (.meth 0 "with_row" 36 none (.var 0) (.cons (.var 1) (.cons (.op (.bin true .add) (.cons (.var 3) (.cons (.tupE (.cons (.var 2) .nil)) .nil))) .nil)))) .nil))))
/-- 38 Graph.without_recipe(self, value, recipe): 0 self 1 value 2 recipe 3 row 4 kept -/
def b_Graph_without_recipe : IS := (.seq (.exp (.call 4 none (.cons (.var 0) (.cons (.var 1) .nil)))) (.seq (.asg (.nm 3) (.op .idx (.cons (.op (.att 0 0 "recipes") (.cons (.var 0) .nil)) (.cons (.var 1) .nil)))) (.seq (.ite (.or (.not (.call 2 none (.cons (.var 2) (.cons (.var 1) .nil)))) (.or (.cmp .notin (.var 2) (.var 3)) (.cmp .eq (.op (.bi true .len) (.cons (.var 3) .nil)) (.con (.int 1))))) (.seq .unk .nil) .nil) (.seq (.ret (.meth 0 "with_row" 36 none (.var 0) (.cons (.var 1) (.cons (.op (.bi true .tuple) (.cons (.lc true [4] (.nm 4) (.itv (.var 3)) (.cmp .ne (.var 4) (.var 2)) (.var 4)) .nil)) .nil)))) .nil))))
def b_Graph_is_closed_L1 : IS := (.seq (.ite (.cmp .notin (.var 3) (.var 1)) (.seq (.ret (.con (.bl false))) .nil) .nil) .nil)
def b_Graph_is_closed_L2 : IS := (.seq (.for (.nm 3) (.itv (.meth 0 "parts_of" 12 none (.var 0) (.cons (.var 2) .nil))) b_Graph_is_closed_L1) .nil)
/-- 39 Graph.is_closed(self, lot): 0 self 1 lot 2 value 3 part -/
def b_Graph_is_closed : IS := (.seq (.for (.nm 2) (.itv (.var 1)) b_Graph_is_closed_L2) (.seq (.ret (.con (.bl true))) .nil))
/-- 40 Graph.restricted(self, lot): 0 self 1 lot 2 names 3 recipes 4 at 5 value -/
def b_Graph_restricted : IS := (.seq (.ite (.or (.not (.call 2 none (.cons (.var 1) (.cons (.op (.att 0 2 "size") (.cons (.var 0) .nil)) .nil)))) (.or (.cmp .eq (.op (.bi true .len) (.cons (.var 1) .nil)) (.con (.int 0))) (.not (.meth 0 "is_closed" 39 none (.var 0) (.cons (.var 1) .nil))))) (.seq .unk .nil) .nil) (.seq .unk (.seq (.asg (.nm 3) (.op (.bi true .tuple) (.cons (.lc true [5] (.nm 5) (.itv (.var 1)) (.con (.bl true)) (.call 8 none (.cons (.op .idx (.cons (.op (.att 0 0 "recipes") (.cons (.var 0) .nil)) (.cons (.var 5) .nil))) (.cons (.var 2) .nil)))) .nil))) (.seq (.ret (.make true 0 9 none (.cons (.var 3) (.cons (.op (.bi true .tuple) (.cons (.lc true [5] (.nm 5) (.itv (.var 1)) (.con (.bl true)) (.op .idx (.cons (.op (.att 0 1 "prices") (.cons (.var 0) .nil)) (.cons (.var 5) .nil)))) .nil)) .nil)))) .nil))))
/-- 41 ready(graph, lot, value): 0 graph 1 lot 2 value 3 recipe -/
def b_ready : IS := (.seq (.exp (.call 17 none (.cons (.var 0) (.cons (.var 1) .nil)))) (.seq (.exp (.call 4 none (.cons (.var 0) (.cons (.var 2) .nil)))) (.seq (.ret (.lc false [3] (.nm 3) (.itv (.op .idx (.cons (.op (.att 0 0 "recipes") (.cons (.var 0) .nil)) (.cons (.var 2) .nil)))) (.call 19 none (.cons (.var 1) (.cons (.var 3) .nil))) (.var 3))) .nil)))
/-- 42 can(graph, lot, value): 0 graph 1 lot 2 value -/
def b_can : IS := (.seq (.exp (.call 17 none (.cons (.var 0) (.cons (.var 1) .nil)))) (.seq (.exp (.call 4 none (.cons (.var 0) (.cons (.var 2) .nil)))) (.seq (.ret (.call 20 none (.cons (.op (.att 0 0 "recipes") (.cons (.var 0) .nil)) (.cons (.var 1) (.cons (.var 2) .nil))))) .nil)))
/-- 43 after(graph, lot, value): 0 graph 1 lot 2 value -/
def b_after : IS := (.seq (.exp (.call 17 none (.cons (.var 0) (.cons (.var 1) .nil)))) (.seq (.exp (.call 4 none (.cons (.var 0) (.cons (.var 2) .nil)))) (.seq (.ite (.not (.call 20 none (.cons (.op (.att 0 0 "recipes") (.cons (.var 0) .nil)) (.cons (.var 1) (.cons (.var 2) .nil))))) (.seq .unk .nil) .nil) (.seq (.ret (.call 21 none (.cons (.var 1) (.cons (.var 2) .nil)))) .nil))))
/-- 44 deeds(graph, lot): 0 graph 1 lot 2 value -/
def b_deeds : IS := (.seq (.exp (.call 17 none (.cons (.var 0) (.cons (.var 1) .nil)))) (.seq (.ret (.lc false [2] (.nm 2) (.rng1 (.op (.att 0 2 "size") (.cons (.var 0) .nil))) (.call 20 none (.cons (.op (.att 0 0 "recipes") (.cons (.var 0) .nil)) (.cons (.var 1) (.cons (.var 2) .nil)))) (.var 2))) .nil))
/-- 45 with_parts(graph, lot): 0 graph 1 lot 2 kept 3 value 4 recipe 5 part -/
def b_with_parts : IS := (.seq (.exp (.call 17 none (.cons (.var 0) (.cons (.var 1) .nil)))) (.seq (.asg (.nm 2) (.lc false [3] (.nm 3) (.rng1 (.op (.att 0 2 "size") (.cons (.var 0) .nil))) (.con (.bl true)) (.cmp .isin (.var 3) (.var 1)))) (.seq .unk (.seq (.ret (.op (.bi true .tuple) (.cons (.lc true [3] (.nm 3) (.rng1 (.op (.att 0 2 "size") (.cons (.var 0) .nil))) (.op .idx (.cons (.var 2) (.cons (.var 3) .nil))) (.var 3)) .nil))) .nil))))
def b_lots_within_L1 : IS := (.seq (.asg (.nm 2) (.op (.bin true .add) (.cons (.var 2) (.cons (.lc true [4] (.nm 4) (.itv (.var 2)) (.cmp .lt (.op (.bi true .len) (.cons (.var 4) .nil)) (.var 1)) (.tupE (.star (.var 4) (.cons (.var 3) .nil)))) .nil)))) .nil)
/-- 46 lots_within(size, rooms): 0 size 1 rooms 2 lots 3 value 4 lot -/
def b_lots_within : IS := (.seq (.asg (.nm 2) (.lstE true (.cons (.tupE .nil) .nil))) (.seq (.for (.nm 3) (.rng1 (.var 0)) b_lots_within_L1) (.seq (.ret (.op (.bi true .sortt) (.cons (.var 2) .nil))) .nil)))
/-- 47 all_lots(graph, rooms): 0 graph 1 rooms -/
def b_all_lots : IS := (.seq (.exp (.call 18 none (.cons (.var 1) .nil))) (.seq (.ret (.call 46 none (.cons (.op (.att 0 2 "size") (.cons (.var 0) .nil)) (.cons (.var 1) .nil)))) .nil))
/-- 48 program_fault(graph, program, start): 0 graph 1 program 2 start -/
def b_program_fault : IS := (.seq (.exp (.call 17 none (.cons (.var 0) (.cons (.var 2) .nil)))) (.seq (.ite (.not (.call 23 none (.cons (.var 1) .nil))) (.seq (.ret (.op .neg (.cons (.con (.int 1)) .nil))) .nil) .nil) (.seq (.ret (.op .idx (.cons (.call 25 none (.cons (.var 0) (.cons (.var 1) (.cons (.var 2) .nil)))) (.cons (.con (.int 1)) .nil)))) .nil)))
/-- 49 back(graph, program, start): 0 graph 1 program 2 start -/
def b_back : IS := (.seq (.exp (.call 26 none (.cons (.var 0) (.cons (.var 1) (.cons (.var 2) .nil))))) (.seq (.ret (.op (.rev false) (.cons (.var 1) .nil))) .nil))
/-- 50 deed_counts(graph, program, start): 0 graph 1 program 2 start 3 value -/
def b_deed_counts : IS := (.seq (.exp (.call 26 none (.cons (.var 0) (.cons (.var 1) (.cons (.var 2) .nil))))) (.seq .unk .nil))
/-- 51 kept_deeds(graph, program, lot, start): 0 graph 1 program 2 lot 3 start 4 value -/
def b_kept_deeds : IS := (.seq (.exp (.call 24 none (.cons (.var 1) .nil))) (.seq (.ite (.or (.not (.call 16 none (.cons (.var 0) (.cons (.var 2) .nil)))) (.not (.meth 0 "is_closed" 39 none (.var 0) (.cons (.var 2) .nil)))) (.seq .unk .nil) .nil) (.seq (.exp (.call 26 none (.cons (.var 0) (.cons (.var 1) (.cons (.var 3) .nil))))) (.seq (.ret (.lc false [4] (.nm 4) (.itv (.var 1)) (.cmp .isin (.var 4) (.var 2)) (.var 4))) .nil))))
def b_erased_L1 : IS := (.seq (.exp (.bmt (.mm .append) (.var 5) (.cons (.op .idx (.cons (.var 1) (.cons (.var 6) .nil))) .nil))) (.seq (.asg (.nm 6) (.op .idx (.cons (.var 4) (.cons (.op .idx (.cons (.var 3) (.cons (.op (.bin true .add) (.cons (.var 6) (.cons (.con (.int 1)) .nil))) .nil))) .nil)))) .nil))
def b_erased_T1 : IE := (.cmp .lt (.var 6) (.op (.bi true .len) (.cons (.var 1) .nil)))
/-- 52 erased(graph, program, start): 0 graph 1 program 2 start 3 lots 4 last 5 kept 6 index 7 lot -/
def b_erased : IS := (.seq (.asg (.nm 3) (.call 26 none (.cons (.var 0) (.cons (.var 1) (.cons (.var 2) .nil))))) (.seq .unk (.seq (.asg (.nm 5) (.lstE false .nil)) (.seq (.asg (.nm 6) (.op .idx (.cons (.var 4) (.cons (.var 2) .nil)))) (.seq (.whl b_erased_T1 b_erased_L1) (.seq (.ret (.var 5)) .nil))))))
/-- 53 judge_count(thing, low, high): 0 thing 1 low 2 high -/
def b_judge_count : IS := (.seq (.ite (.or (.not (.call 1 none (.cons (.var 0) .nil))) (.not (.chain .le .le (.var 1) (.var 0) (.var 2)))) (.seq .unk .nil) .nil) .nil)
/-- 54 row_rooms(n): 0 n -/
def b_row_rooms : IS := (.seq (.exp (.call 53 none (.cons (.var 0) (.cons (.con (.int 1)) (.cons (.gl "GREAT" (.int 1000000000000000000000000000000)) .nil))))) (.seq (.ret (.op (.bin true .add) (.cons (.op .bits (.cons (.op (.bin true .sub) (.cons (.var 0) (.cons (.con (.int 1)) .nil))) .nil)) (.cons (.con (.int 1)) .nil)))) .nil))
/-- 55 visit_rooms(n): 0 n -/
def b_visit_rooms : IS := (.seq (.exp (.call 53 none (.cons (.var 0) (.cons (.con (.int 1)) (.cons (.gl "GREAT" (.int 1000000000000000000000000000000)) .nil))))) (.seq (.ret (.op .bits (.cons (.var 0) .nil))) .nil))
/-- 56 put_run(runs, step, many): 0 runs 1 step 2 many -/
def b_put_run : IS := (.seq (.ite (.and (.var 0) (.cmp .eq (.op .idx (.cons (.op .idx (.cons (.var 0) (.cons (.op .neg (.cons (.con (.int 1)) .nil)) .nil))) (.cons (.con (.int 0)) .nil))) (.var 1))) (.seq (.setI (.var 0) (.op .neg (.cons (.con (.int 1)) .nil)) (.tupE (.cons (.var 1) (.cons (.op (.bin true .add) (.cons (.op .idx (.cons (.op .idx (.cons (.var 0) (.cons (.op .neg (.cons (.con (.int 1)) .nil)) .nil))) (.cons (.con (.int 1)) .nil))) (.cons (.var 2) .nil))) .nil)))) .nil) (.seq (.ite (.cmp .gt (.var 2) (.con (.int 0))) (.seq (.exp (.bmt (.mm .append) (.var 0) (.cons (.tupE (.cons (.var 1) (.cons (.var 2) .nil))) .nil))) .nil) .nil) .nil)) .nil)
def b_first_total_L1 : IS := (.seq (.asg (.nm 6) (.op (.bi true .min) (.cons (.var 5) (.cons (.var 3) .nil)))) (.seq (.aug 2 .add (.op (.bin true .mul) (.cons (.var 4) (.cons (.var 6) .nil)))) (.seq (.aug 3 .sub (.var 6)) .nil)))
/-- 57 first_total(runs, n): 0 runs 1 n 2 total 3 left 4 step 5 many 6 taken -/
def b_first_total : IS := (.seq (.asg (.nm 2) (.con (.int 0))) (.seq (.asg (.nm 3) (.var 1)) (.seq (.for (.tp [4, 5]) (.itv (.var 0)) b_first_total_L1) (.seq (.ite (.cmp .gt (.var 3) (.con (.int 0))) (.seq (.ret (.con .non)) .nil) .nil) (.seq (.ret (.var 2)) .nil)))))
def b_with_one_room_more_L1 : IS := (.seq (.asg (.nm 9) (.and (.cmp .lt (.var 5) (.op (.bi true .len) (.cons (.var 2) .nil))) (.cmp .lt (.var 7) (.op (.bi true .len) (.cons (.var 0) .nil))))) (.seq (.ite (.and (.cmp .lt (.var 4) (.op (.bi true .len) (.cons (.var 0) .nil))) (.or (.not (.var 9)) (.cmp .le (.op .idx (.cons (.op .idx (.cons (.var 0) (.cons (.var 4) .nil))) (.cons (.con (.int 0)) .nil))) (.op (.bin true .add) (.cons (.op .idx (.cons (.op .idx (.cons (.var 2) (.cons (.var 5) .nil))) (.cons (.con (.int 0)) .nil))) (.cons (.op .idx (.cons (.op .idx (.cons (.var 0) (.cons (.var 7) .nil))) (.cons (.con (.int 0)) .nil))) .nil)))))) (.seq (.asg (.nm 10) (.op (.bi true .min) (.cons (.op .idx (.cons (.op .idx (.cons (.var 0) (.cons (.var 4) .nil))) (.cons (.con (.int 1)) .nil))) (.cons (.var 3) .nil)))) (.seq (.exp (.call 56 none (.cons (.var 2) (.cons (.op .idx (.cons (.op .idx (.cons (.var 0) (.cons (.var 4) .nil))) (.cons (.con (.int 0)) .nil))) (.cons (.var 10) .nil))))) (.seq (.aug 4 .add (.con (.int 1))) .nil))) (.seq (.ite (.var 9) (.seq (.asg (.nm 10) (.op (.bi true .min) (.cons (.op (.bin true .sub) (.cons (.op .idx (.cons (.op .idx (.cons (.var 2) (.cons (.var 5) .nil))) (.cons (.con (.int 1)) .nil))) (.cons (.var 6) .nil))) (.cons (.op (.bin true .sub) (.cons (.op .idx (.cons (.op .idx (.cons (.var 0) (.cons (.var 7) .nil))) (.cons (.con (.int 1)) .nil))) (.cons (.var 8) .nil))) (.cons (.var 3) .nil))))) (.seq (.aug 6 .add (.var 10)) (.seq (.aug 8 .add (.var 10)) (.seq (.exp (.call 56 none (.cons (.var 2) (.cons (.op (.bin true .add) (.cons (.op .idx (.cons (.op .idx (.cons (.var 2) (.cons (.var 5) .nil))) (.cons (.con (.int 0)) .nil))) (.cons (.op .idx (.cons (.op .idx (.cons (.var 0) (.cons (.var 7) .nil))) (.cons (.con (.int 0)) .nil))) .nil))) (.cons (.var 10) .nil))))) (.seq (.ite (.cmp .eq (.var 6) (.op .idx (.cons (.op .idx (.cons (.var 2) (.cons (.var 5) .nil))) (.cons (.con (.int 1)) .nil)))) (.seq (.par [5, 6] (.cons (.op (.bin true .add) (.cons (.var 5) (.cons (.con (.int 1)) .nil))) (.cons (.con (.int 0)) .nil))) .nil) .nil) (.seq (.ite (.cmp .eq (.var 8) (.op .idx (.cons (.op .idx (.cons (.var 0) (.cons (.var 7) .nil))) (.cons (.con (.int 1)) .nil)))) (.seq (.par [7, 8] (.cons (.op (.bin true .add) (.cons (.var 7) (.cons (.con (.int 1)) .nil))) (.cons (.con (.int 0)) .nil))) .nil) .nil) .nil)))))) (.seq (.ret (.var 2)) .nil)) .nil)) (.seq (.aug 3 .sub (.var 10)) .nil)))
def b_with_one_room_more_T1 : IE := (.cmp .gt (.var 3) (.con (.int 0)))
/-- 58 with_one_room_more(lower, most): 0 lower 1 most 2 runs 3 left 4 plain 5 at 6 used 7 below 8 low_used 9 has_sum 10 many -/
def b_with_one_room_more : IS := (.seq (.asg (.nm 2) (.lstE false .nil)) (.seq (.asg (.nm 3) (.var 1)) (.seq (.asg (.nm 4) (.con (.int 0))) (.seq (.asgs [5, 6] (.con (.int 0))) (.seq (.asgs [7, 8] (.con (.int 0))) (.seq (.whl b_with_one_room_more_T1 b_with_one_room_more_L1) (.seq (.ret (.var 2)) .nil)))))))
def b_row_pair_L1 : IS := (.seq (.par [2, 3] (.cons (.var 3) (.cons (.call 58 none (.cons (.var 3) (.cons (.var 1) .nil))) .nil))) .nil)
/-- 59 row_pair(rooms, most): 0 rooms 1 most 2 lower 3 runs 4 _ -/
def b_row_pair : IS := (.seq (.asg (.nm 2) (.lstE true .nil)) (.seq (.asg (.nm 3) (.lstE true (.cons (.tupE (.cons (.con (.int 1)) (.cons (.con (.int 1)) .nil))) .nil))) (.seq (.for (.nm 4) (.rng1 (.op (.bin true .sub) (.cons (.var 0) (.cons (.con (.int 1)) .nil)))) b_row_pair_L1) (.seq (.ret (.tupE (.cons (.var 2) (.cons (.var 3) .nil)))) .nil))))
/-- 60 row_deeds(n, rooms): 0 n 1 rooms -/
def b_row_deeds : IS := (.seq (.exp (.call 53 none (.cons (.var 0) (.cons (.con (.int 1)) (.cons (.gl "MOST" (.int 1000000000000)) .nil))))) (.seq (.exp (.call 53 none (.cons (.var 1) (.cons (.con (.int 1)) (.cons (.gl "MOST_ROOMS" (.int 60)) .nil))))) (.seq (.ret (.call 57 none (.cons (.op .idx (.cons (.call 59 none (.cons (.var 1) (.cons (.var 0) .nil))) (.cons (.con (.int 1)) .nil))) (.cons (.var 0) .nil)))) .nil)))
def b_merged_L1 : IS := (.seq (.ite (.or (.cmp .eq (.var 6) (.op (.bi true .len) (.cons (.var 1) .nil))) (.and (.cmp .lt (.var 5) (.op (.bi true .len) (.cons (.var 0) .nil))) (.cmp .le (.op .idx (.cons (.op .idx (.cons (.var 0) (.cons (.var 5) .nil))) (.cons (.con (.int 0)) .nil))) (.op .idx (.cons (.op .idx (.cons (.var 1) (.cons (.var 6) .nil))) (.cons (.con (.int 0)) .nil)))))) (.seq (.asg (.tp [7, 8]) (.op .idx (.cons (.var 0) (.cons (.var 5) .nil)))) (.seq (.aug 5 .add (.con (.int 1))) .nil)) (.seq (.asg (.tp [7, 8]) (.op .idx (.cons (.var 1) (.cons (.var 6) .nil)))) (.seq (.aug 6 .add (.con (.int 1))) .nil))) (.seq (.exp (.call 56 none (.cons (.var 3) (.cons (.var 7) (.cons (.op (.bi true .min) (.cons (.var 8) (.cons (.var 4) .nil))) .nil))))) (.seq (.aug 4 .sub (.op (.bi true .min) (.cons (.var 8) (.cons (.var 4) .nil)))) .nil)))
def b_merged_T1 : IE := (.and (.cmp .gt (.var 4) (.con (.int 0))) (.or (.cmp .lt (.var 5) (.op (.bi true .len) (.cons (.var 0) .nil))) (.cmp .lt (.var 6) (.op (.bi true .len) (.cons (.var 1) .nil)))))
/-- 61 merged(first, second, most): 0 first 1 second 2 most 3 runs 4 left 5 at 6 other 7 step 8 many -/
def b_merged : IS := (.seq (.asg (.nm 3) (.lstE false .nil)) (.seq (.asg (.nm 4) (.var 2)) (.seq (.asgs [5, 6] (.con (.int 0))) (.seq (.whl b_merged_T1 b_merged_L1) (.seq (.ret (.var 3)) .nil)))))
def b_visit_trio_L1 : IS := (.seq (.asg (.nm 2) (.call 58 none (.cons (.var 2) (.cons (.var 1) .nil)))) (.seq (.par [3, 4] (.cons (.var 4) (.cons (.call 61 none (.cons (.var 2) (.cons (.var 4) (.cons (.var 1) .nil)))) .nil))) .nil))
/-- 62 visit_trio(rooms, most): 0 rooms 1 most 2 runs 3 lower 4 visits 5 _ -/
def b_visit_trio : IS := (.seq (.asg (.nm 2) (.lstE true (.cons (.tupE (.cons (.con (.int 1)) (.cons (.con (.int 1)) .nil))) .nil))) (.seq (.asg (.nm 3) (.lstE true .nil)) (.seq (.asg (.nm 4) (.lstE true (.cons (.tupE (.cons (.con (.int 1)) (.cons (.con (.int 1)) .nil))) .nil))) (.seq (.for (.nm 5) (.rng1 (.op (.bin true .sub) (.cons (.var 0) (.cons (.con (.int 1)) .nil)))) b_visit_trio_L1) (.seq (.ret (.tupE (.cons (.var 2) (.cons (.var 3) (.cons (.var 4) .nil))))) .nil)))))
/-- 63 visit_deeds(n, rooms): 0 n 1 rooms -/
def b_visit_deeds : IS := (.seq (.exp (.call 53 none (.cons (.var 0) (.cons (.con (.int 1)) (.cons (.gl "MOST" (.int 1000000000000)) .nil))))) (.seq (.exp (.call 53 none (.cons (.var 1) (.cons (.con (.int 1)) (.cons (.gl "MOST_ROOMS" (.int 60)) .nil))))) (.seq (.ret (.call 57 none (.cons (.op .idx (.cons (.call 62 none (.cons (.var 1) (.cons (.var 0) .nil))) (.cons (.con (.int 2)) .nil))) (.cons (.var 0) .nil)))) .nil)))
def b_cut_runs_L1 : IS := (.seq (.asg (.nm 7) (.op (.bi true .max) (.cons (.var 1) (.cons (.op (.bin true .add) (.cons (.var 4) (.cons (.con (.int 1)) .nil))) .nil)))) (.seq (.asg (.nm 8) (.op (.bi true .min) (.cons (.var 2) (.cons (.op (.bin true .add) (.cons (.var 4) (.cons (.var 6) .nil))) .nil)))) (.seq (.ite (.cmp .le (.var 7) (.var 8)) (.seq (.aug 3 .add (.op (.bin true .mul) (.cons (.lstE true (.cons (.var 5) .nil)) (.cons (.op (.bin true .add) (.cons (.op (.bin true .sub) (.cons (.var 8) (.cons (.var 7) .nil))) (.cons (.con (.int 1)) .nil))) .nil)))) .nil) .nil) (.seq (.aug 4 .add (.var 6)) .nil))))
/-- 64 cut_runs(runs, first, last): 0 runs 1 first 2 last 3 steps 4 before 5 step 6 many 7 low 8 high -/
def b_cut_runs : IS := (.seq (.asg (.nm 3) (.lstE false .nil)) (.seq (.asg (.nm 4) (.con (.int 0))) (.seq (.for (.tp [5, 6]) (.itv (.var 0)) b_cut_runs_L1) (.seq (.ret (.var 3)) .nil))))
/-- 65 judge_stretch(first, last, many): 0 first 1 last 2 many -/
def b_judge_stretch : IS := (.seq (.exp (.call 53 none (.cons (.var 0) (.cons (.con (.int 1)) (.cons (.op (.bi true .min) (.cons (.gl "MOST" (.int 1000000000000)) (.cons (.var 2) .nil))) .nil))))) (.seq (.exp (.call 53 none (.cons (.var 1) (.cons (.var 0) (.cons (.op (.bi true .min) (.cons (.op (.bin true .sub) (.cons (.op (.bin true .add) (.cons (.var 0) (.cons (.gl "MOST_STEPS" (.int 200)) .nil))) (.cons (.con (.int 1)) .nil))) (.cons (.gl "MOST" (.int 1000000000000)) (.cons (.var 2) .nil)))) .nil))))) .nil))
/-- 66 row_steps(rooms, first, last): 0 rooms 1 first 2 last -/
def b_row_steps : IS := (.seq (.exp (.call 53 none (.cons (.var 0) (.cons (.con (.int 1)) (.cons (.gl "MOST_ROOMS" (.int 60)) .nil))))) (.seq (.exp (.call 65 none (.cons (.var 1) (.cons (.var 2) (.cons (.op (.bin true .shl) (.cons (.con (.int 1)) (.cons (.op (.bin true .sub) (.cons (.var 0) (.cons (.con (.int 1)) .nil))) .nil))) .nil))))) (.seq (.ret (.call 64 none (.cons (.op .idx (.cons (.call 59 none (.cons (.var 0) (.cons (.var 2) .nil))) (.cons (.con (.int 1)) .nil))) (.cons (.var 1) (.cons (.var 2) .nil))))) .nil)))
/-- 67 visit_steps(rooms, first, last): 0 rooms 1 first 2 last -/
def b_visit_steps : IS := (.seq (.exp (.call 53 none (.cons (.var 0) (.cons (.con (.int 1)) (.cons (.gl "MOST_ROOMS" (.int 60)) .nil))))) (.seq (.exp (.call 65 none (.cons (.var 1) (.cons (.var 2) (.cons (.op (.bin true .sub) (.cons (.op (.bin true .shl) (.cons (.con (.int 1)) (.cons (.var 0) .nil))) (.cons (.con (.int 1)) .nil))) .nil))))) (.seq (.ret (.call 64 none (.cons (.op .idx (.cons (.call 62 none (.cons (.var 0) (.cons (.var 2) .nil))) (.cons (.con (.int 2)) .nil))) (.cons (.var 1) (.cons (.var 2) .nil))))) .nil)))
/-- 68 row_runs(rooms, most): 0 rooms 1 most -/
def b_row_runs : IS := (.seq (.exp (.call 53 none (.cons (.var 0) (.cons (.con (.int 1)) (.cons (.gl "MOST_ROOMS" (.int 60)) .nil))))) (.seq (.exp (.call 53 none (.cons (.var 1) (.cons (.con (.int 1)) (.cons (.gl "MOST" (.int 1000000000000)) .nil))))) (.seq (.ret (.op .idx (.cons (.call 59 none (.cons (.var 0) (.cons (.var 1) .nil))) (.cons (.con (.int 1)) .nil)))) .nil)))
/-- 69 visit_runs(rooms, most): 0 rooms 1 most -/
def b_visit_runs : IS := (.seq (.exp (.call 53 none (.cons (.var 0) (.cons (.con (.int 1)) (.cons (.gl "MOST_ROOMS" (.int 60)) .nil))))) (.seq (.exp (.call 53 none (.cons (.var 1) (.cons (.con (.int 1)) (.cons (.gl "MOST" (.int 1000000000000)) .nil))))) (.seq (.ret (.op .idx (.cons (.call 62 none (.cons (.var 0) (.cons (.var 1) .nil))) (.cons (.con (.int 2)) .nil)))) .nil)))
/-- 70 how_many(runs): 0 runs 1 step 2 many -/
def b_how_many : IS := (.seq (.ret (.op (.bi true .sum) (.cons (.lc true [1, 2] (.tp [1, 2]) (.itv (.var 0)) (.con (.bl true)) (.var 2)) .nil))) .nil)
/-- 71 count_below(runs, bound): 0 runs 1 bound 2 step 3 many -/
def b_count_below : IS := (.seq (.ret (.op (.bi true .sum) (.cons (.lc true [2, 3] (.tp [2, 3]) (.itv (.var 0)) (.cmp .lt (.var 2) (.var 1)) (.var 3)) .nil))) .nil)
def b_step_at_L1 : IS := (.seq (.ite (.cmp .le (.var 2) (.var 4)) (.seq (.ret (.var 3)) .nil) .nil) (.seq (.aug 2 .sub (.var 4)) .nil))
/-- 72 step_at(runs, n): 0 runs 1 n 2 left 3 step 4 many -/
def b_step_at : IS := (.seq (.asg (.nm 2) (.var 1)) (.seq (.for (.tp [3, 4]) (.itv (.var 0)) b_step_at_L1) (.seq (.ret (.con (.int 0))) .nil)))
def b_paired_L1 : IS := (.seq (.asg (.nm 9) (.op (.bi true .min) (.cons (.op (.bin true .sub) (.cons (.op .idx (.cons (.op .idx (.cons (.var 0) (.cons (.var 5) .nil))) (.cons (.con (.int 1)) .nil))) (.cons (.var 6) .nil))) (.cons (.op (.bin true .sub) (.cons (.op .idx (.cons (.op .idx (.cons (.var 1) (.cons (.var 7) .nil))) (.cons (.con (.int 1)) .nil))) (.cons (.var 8) .nil))) (.cons (.var 4) .nil))))) (.seq (.exp (.call 56 none (.cons (.var 3) (.cons (.op (.bin true .add) (.cons (.op .idx (.cons (.op .idx (.cons (.var 0) (.cons (.var 5) .nil))) (.cons (.con (.int 0)) .nil))) (.cons (.op .idx (.cons (.op .idx (.cons (.var 1) (.cons (.var 7) .nil))) (.cons (.con (.int 0)) .nil))) .nil))) (.cons (.var 9) .nil))))) (.seq (.aug 4 .sub (.var 9)) (.seq (.aug 6 .add (.var 9)) (.seq (.aug 8 .add (.var 9)) (.seq (.ite (.cmp .eq (.var 6) (.op .idx (.cons (.op .idx (.cons (.var 0) (.cons (.var 5) .nil))) (.cons (.con (.int 1)) .nil)))) (.seq (.par [5, 6] (.cons (.op (.bin true .add) (.cons (.var 5) (.cons (.con (.int 1)) .nil))) (.cons (.con (.int 0)) .nil))) .nil) .nil) (.seq (.ite (.cmp .eq (.var 8) (.op .idx (.cons (.op .idx (.cons (.var 1) (.cons (.var 7) .nil))) (.cons (.con (.int 1)) .nil)))) (.seq (.par [7, 8] (.cons (.op (.bin true .add) (.cons (.var 7) (.cons (.con (.int 1)) .nil))) (.cons (.con (.int 0)) .nil))) .nil) .nil) .nil)))))))
def b_paired_T1 : IE := (.and (.cmp .gt (.var 4) (.con (.int 0))) (.and (.cmp .lt (.var 5) (.op (.bi true .len) (.cons (.var 0) .nil))) (.cmp .lt (.var 7) (.op (.bi true .len) (.cons (.var 1) .nil)))))
/-- 73 paired(upper, lower, most): 0 upper 1 lower 2 most 3 runs 4 left 5 at 6 used 7 below 8 low_used 9 many -/
def b_paired : IS := (.seq (.asg (.nm 3) (.lstE false .nil)) (.seq (.asg (.nm 4) (.var 2)) (.seq (.asgs [5, 6] (.con (.int 0))) (.seq (.asgs [7, 8] (.con (.int 0))) (.seq (.whl b_paired_T1 b_paired_L1) (.seq (.ret (.var 3)) .nil))))))
/-- 74 best_cuts(first, second, step, n): 0 first 1 second 2 step 3 n 4 least 5 greatest -/
def b_best_cuts : IS := (.seq (.asg (.nm 4) (.op (.bi true .max) (.cons (.con (.int 1)) (.cons (.call 71 none (.cons (.var 0) (.cons (.var 2) .nil))) (.cons (.op (.bin true .sub) (.cons (.var 3) (.cons (.call 71 none (.cons (.var 1) (.cons (.op (.bin true .add) (.cons (.var 2) (.cons (.con (.int 1)) .nil))) .nil))) .nil))) .nil))))) (.seq (.asg (.nm 5) (.op (.bi true .min) (.cons (.op (.bin true .sub) (.cons (.var 3) (.cons (.con (.int 1)) .nil))) (.cons (.call 71 none (.cons (.var 0) (.cons (.op (.bin true .add) (.cons (.var 2) (.cons (.con (.int 1)) .nil))) .nil))) (.cons (.op (.bin true .sub) (.cons (.var 3) (.cons (.call 71 none (.cons (.var 1) (.cons (.var 2) .nil))) .nil))) .nil))))) (.seq (.ret (.tupE (.cons (.var 4) (.cons (.var 5) .nil)))) .nil)))
/-- 75 cuts_of_row(n, rooms): 0 n 1 rooms 2 lower 3 runs -/
def b_cuts_of_row : IS := (.seq (.asg (.tp [2, 3]) (.call 59 none (.cons (.var 1) (.cons (.var 0) .nil)))) (.seq (.ite (.cmp .lt (.call 70 none (.cons (.var 3) .nil)) (.var 0)) (.seq (.ret (.con .non)) .nil) .nil) (.seq (.ret (.call 74 none (.cons (.call 73 none (.cons (.var 3) (.cons (.var 2) (.cons (.op (.bin true .sub) (.cons (.var 0) (.cons (.con (.int 1)) .nil))) .nil)))) (.cons (.var 2) (.cons (.call 72 none (.cons (.var 3) (.cons (.var 0) .nil))) (.cons (.var 0) .nil)))))) .nil)))
/-- 76 cuts_of_visit(n, rooms): 0 n 1 rooms 2 runs 3 lower 4 visits -/
def b_cuts_of_visit : IS := (.seq (.asg (.tp [2, 3, 4]) (.call 62 none (.cons (.var 1) (.cons (.var 0) .nil)))) (.seq (.ite (.cmp .lt (.call 70 none (.cons (.var 4) .nil)) (.var 0)) (.seq (.ret (.con .non)) .nil) .nil) (.seq (.ret (.call 74 none (.cons (.var 2) (.cons (.var 3) (.cons (.call 72 none (.cons (.var 4) (.cons (.var 0) .nil))) (.cons (.var 0) .nil)))))) .nil)))
/-- 77 row_cuts(n, rooms): 0 n 1 rooms -/
def b_row_cuts : IS := (.seq (.exp (.call 53 none (.cons (.var 0) (.cons (.con (.int 2)) (.cons (.gl "MOST" (.int 1000000000000)) .nil))))) (.seq (.exp (.call 53 none (.cons (.var 1) (.cons (.con (.int 1)) (.cons (.gl "MOST_ROOMS" (.int 60)) .nil))))) (.seq (.ret (.call 75 none (.cons (.var 0) (.cons (.var 1) .nil)))) .nil)))
/-- 78 visit_cuts(n, rooms): 0 n 1 rooms -/
def b_visit_cuts : IS := (.seq (.exp (.call 53 none (.cons (.var 0) (.cons (.con (.int 2)) (.cons (.gl "MOST" (.int 1000000000000)) .nil))))) (.seq (.exp (.call 53 none (.cons (.var 1) (.cons (.con (.int 1)) (.cons (.gl "MOST_ROOMS" (.int 60)) .nil))))) (.seq (.ret (.call 76 none (.cons (.var 0) (.cons (.var 1) .nil)))) .nil)))
/-- 79 row_walk(n, rooms): 0 n 1 rooms 2 cut 3 rest 4 value -/
def b_row_walk : IS := (.seq (.ite (.cmp .eq (.var 0) (.con (.int 1))) (.seq (.ret (.lstE true (.cons (.con (.int 0)) .nil))) .nil) .nil) (.seq (.asg (.nm 2) (.op .idx (.cons (.call 75 none (.cons (.var 0) (.cons (.var 1) .nil))) (.cons (.con (.int 0)) .nil)))) (.seq (.asg (.nm 3) (.lc true [4] (.nm 4) (.itv (.call 79 none (.cons (.op (.bin true .sub) (.cons (.var 0) (.cons (.var 2) .nil))) (.cons (.op (.bin true .sub) (.cons (.var 1) (.cons (.con (.int 1)) .nil))) .nil)))) (.con (.bl true)) (.op (.bin true .add) (.cons (.var 4) (.cons (.var 2) .nil))))) (.seq (.ret (.op (.bin true .add) (.cons (.op (.bin true .add) (.cons (.call 79 none (.cons (.var 2) (.cons (.var 1) .nil))) (.cons (.var 3) .nil))) (.cons (.op (.rev true) (.cons (.call 79 none (.cons (.var 2) (.cons (.op (.bin true .sub) (.cons (.var 1) (.cons (.con (.int 1)) .nil))) .nil))) .nil)) .nil)))) .nil))))
/-- 80 visit_walk(n, rooms): 0 n 1 rooms 2 cut 3 value -/
def b_visit_walk : IS := (.seq (.ite (.cmp .eq (.var 0) (.con (.int 1))) (.seq (.ret (.lstE true (.cons (.con (.int 0)) .nil))) .nil) .nil) (.seq (.asg (.nm 2) (.op .idx (.cons (.call 76 none (.cons (.var 0) (.cons (.var 1) .nil))) (.cons (.con (.int 0)) .nil)))) (.seq (.ret (.op (.bin true .add) (.cons (.call 79 none (.cons (.var 2) (.cons (.var 1) .nil))) (.cons (.lc true [3] (.nm 3) (.itv (.call 80 none (.cons (.op (.bin true .sub) (.cons (.var 0) (.cons (.var 2) .nil))) (.cons (.op (.bin true .sub) (.cons (.var 1) (.cons (.con (.int 1)) .nil))) .nil)))) (.con (.bl true)) (.op (.bin true .add) (.cons (.var 3) (.cons (.var 2) .nil)))) .nil)))) .nil)))
/-- 81 row_program(n, rooms): 0 n 1 rooms -/
def b_row_program : IS := (.seq (.exp (.call 53 none (.cons (.var 0) (.cons (.con (.int 1)) (.cons (.gl "MOST_WALK" (.int 40)) .nil))))) (.seq (.exp (.call 53 none (.cons (.var 1) (.cons (.con (.int 1)) (.cons (.gl "MOST_ROOMS" (.int 60)) .nil))))) (.seq (.ite (.cmp .lt (.var 1) (.call 54 none (.cons (.var 0) .nil))) (.seq (.ret (.con .non)) .nil) .nil) (.seq (.ret (.call 79 none (.cons (.var 0) (.cons (.var 1) .nil)))) .nil))))
/-- 82 visit_program(n, rooms): 0 n 1 rooms -/
def b_visit_program : IS := (.seq (.exp (.call 53 none (.cons (.var 0) (.cons (.con (.int 1)) (.cons (.gl "MOST_WALK" (.int 40)) .nil))))) (.seq (.exp (.call 53 none (.cons (.var 1) (.cons (.con (.int 1)) (.cons (.gl "MOST_ROOMS" (.int 60)) .nil))))) (.seq (.ite (.cmp .lt (.var 1) (.call 55 none (.cons (.var 0) .nil))) (.seq (.ret (.con .non)) .nil) .nil) (.seq (.ret (.call 80 none (.cons (.var 0) (.cons (.var 1) .nil)))) .nil))))
def b_reach_of_L1 : IS := (.seq (.asg (.nm 6) (.op (.bi true .min) (.cons (.var 5) (.cons (.op (.bin true .fdiv) (.cons (.var 3) (.cons (.var 4) .nil))) .nil)))) (.seq (.aug 2 .add (.var 6)) (.seq (.aug 3 .sub (.op (.bin true .mul) (.cons (.var 4) (.cons (.var 6) .nil)))) (.seq (.ite (.cmp .lt (.var 6) (.var 5)) (.seq (.ret (.var 2)) .nil) .nil) .nil))))
/-- 83 reach_of(runs, deeds): 0 runs 1 deeds 2 reach 3 left 4 step 5 many 6 taken -/
def b_reach_of : IS := (.seq (.asg (.nm 2) (.con (.int 0))) (.seq (.asg (.nm 3) (.var 1)) (.seq (.for (.tp [4, 5]) (.itv (.var 0)) b_reach_of_L1) (.seq (.ret (.var 2)) .nil))))
/-- 84 row_reach(rooms, deeds): 0 rooms 1 deeds -/
def b_row_reach : IS := (.seq (.exp (.call 53 none (.cons (.var 0) (.cons (.con (.int 1)) (.cons (.gl "MOST_ROOMS" (.int 60)) .nil))))) (.seq (.exp (.call 53 none (.cons (.var 1) (.cons (.con (.int 0)) (.cons (.gl "MOST" (.int 1000000000000)) .nil))))) (.seq (.ret (.call 83 none (.cons (.op .idx (.cons (.call 59 none (.cons (.var 0) (.cons (.op (.bi true .max) (.cons (.con (.int 1)) (.cons (.var 1) .nil))) .nil))) (.cons (.con (.int 1)) .nil))) (.cons (.var 1) .nil)))) .nil)))
/-- 85 visit_reach(rooms, deeds): 0 rooms 1 deeds -/
def b_visit_reach : IS := (.seq (.exp (.call 53 none (.cons (.var 0) (.cons (.con (.int 1)) (.cons (.gl "MOST_ROOMS" (.int 60)) .nil))))) (.seq (.exp (.call 53 none (.cons (.var 1) (.cons (.con (.int 0)) (.cons (.gl "MOST" (.int 1000000000000)) .nil))))) (.seq (.ret (.call 83 none (.cons (.op .idx (.cons (.call 62 none (.cons (.var 0) (.cons (.op (.bi true .max) (.cons (.con (.int 1)) (.cons (.var 1) .nil))) .nil))) (.cons (.con (.int 2)) .nil))) (.cons (.var 1) .nil)))) .nil)))
/-- 86 row_saves(n, rooms): 0 n 1 rooms 2 now -/
def b_row_saves : IS := (.seq (.exp (.call 53 none (.cons (.var 0) (.cons (.con (.int 1)) (.cons (.gl "MOST" (.int 1000000000000)) .nil))))) (.seq (.exp (.call 53 none (.cons (.var 1) (.cons (.con (.int 1)) (.cons (.op (.bin true .sub) (.cons (.gl "MOST_ROOMS" (.int 60)) (.cons (.con (.int 1)) .nil))) .nil))))) (.seq (.asg (.nm 2) (.call 60 none (.cons (.var 0) (.cons (.var 1) .nil)))) (.seq (.ite (.cmp .isn (.var 2) (.con .non)) (.seq (.ret (.con .non)) .nil) .nil) (.seq (.ret (.op (.bin true .sub) (.cons (.var 2) (.cons (.call 60 none (.cons (.var 0) (.cons (.op (.bin true .add) (.cons (.var 1) (.cons (.con (.int 1)) .nil))) .nil))) .nil)))) .nil)))))
/-- 87 judge_rooms(thing): 0 thing -/
def b_judge_rooms_87 : IS := (.seq (.ite (.or (.not (.call 1 none (.cons (.var 0) .nil))) (.not (.chain .le .le (.con (.int 0)) (.var 0) (.gl "MOST_ROOMS_lots" (.int 10))))) (.seq .unk .nil) .nil) .nil)
/-- 88 row_deeds(n, rooms): 0 n 1 rooms -/
def b_row_deeds_88 : IS := (.seq (.exp (.call 53 none (.cons (.var 0) (.cons (.con (.int 1)) (.cons (.gl "MOST" (.int 1000000000000)) .nil))))) (.seq (.exp (.call 53 none (.cons (.var 1) (.cons (.con (.int 1)) (.cons (.gl "MOST_ROOMS_rows" (.int 60)) .nil))))) (.seq (.ret (.call 57 none (.cons (.op .idx (.cons (.call 59 none (.cons (.var 1) (.cons (.var 0) .nil))) (.cons (.con (.int 1)) .nil))) (.cons (.var 0) .nil)))) .nil)))
/-- 89 visit_deeds(n, rooms): 0 n 1 rooms -/
def b_visit_deeds_89 : IS := (.seq (.exp (.call 53 none (.cons (.var 0) (.cons (.con (.int 1)) (.cons (.gl "MOST" (.int 1000000000000)) .nil))))) (.seq (.exp (.call 53 none (.cons (.var 1) (.cons (.con (.int 1)) (.cons (.gl "MOST_ROOMS_rows" (.int 60)) .nil))))) (.seq (.ret (.call 57 none (.cons (.op .idx (.cons (.call 62 none (.cons (.var 1) (.cons (.var 0) .nil))) (.cons (.con (.int 2)) .nil))) (.cons (.var 0) .nil)))) .nil)))
/-- 90 row_steps(rooms, first, last): 0 rooms 1 first 2 last -/
def b_row_steps_90 : IS := (.seq (.exp (.call 53 none (.cons (.var 0) (.cons (.con (.int 1)) (.cons (.gl "MOST_ROOMS_rows" (.int 60)) .nil))))) (.seq (.exp (.call 65 none (.cons (.var 1) (.cons (.var 2) (.cons (.op (.bin true .shl) (.cons (.con (.int 1)) (.cons (.op (.bin true .sub) (.cons (.var 0) (.cons (.con (.int 1)) .nil))) .nil))) .nil))))) (.seq (.ret (.call 64 none (.cons (.op .idx (.cons (.call 59 none (.cons (.var 0) (.cons (.var 2) .nil))) (.cons (.con (.int 1)) .nil))) (.cons (.var 1) (.cons (.var 2) .nil))))) .nil)))
/-- 91 visit_steps(rooms, first, last): 0 rooms 1 first 2 last -/
def b_visit_steps_91 : IS := (.seq (.exp (.call 53 none (.cons (.var 0) (.cons (.con (.int 1)) (.cons (.gl "MOST_ROOMS_rows" (.int 60)) .nil))))) (.seq (.exp (.call 65 none (.cons (.var 1) (.cons (.var 2) (.cons (.op (.bin true .sub) (.cons (.op (.bin true .shl) (.cons (.con (.int 1)) (.cons (.var 0) .nil))) (.cons (.con (.int 1)) .nil))) .nil))))) (.seq (.ret (.call 64 none (.cons (.op .idx (.cons (.call 62 none (.cons (.var 0) (.cons (.var 2) .nil))) (.cons (.con (.int 2)) .nil))) (.cons (.var 1) (.cons (.var 2) .nil))))) .nil)))
/-- 92 row_runs(rooms, most): 0 rooms 1 most -/
def b_row_runs_92 : IS := (.seq (.exp (.call 53 none (.cons (.var 0) (.cons (.con (.int 1)) (.cons (.gl "MOST_ROOMS_rows" (.int 60)) .nil))))) (.seq (.exp (.call 53 none (.cons (.var 1) (.cons (.con (.int 1)) (.cons (.gl "MOST" (.int 1000000000000)) .nil))))) (.seq (.ret (.op .idx (.cons (.call 59 none (.cons (.var 0) (.cons (.var 1) .nil))) (.cons (.con (.int 1)) .nil)))) .nil)))
/-- 93 visit_runs(rooms, most): 0 rooms 1 most -/
def b_visit_runs_93 : IS := (.seq (.exp (.call 53 none (.cons (.var 0) (.cons (.con (.int 1)) (.cons (.gl "MOST_ROOMS_rows" (.int 60)) .nil))))) (.seq (.exp (.call 53 none (.cons (.var 1) (.cons (.con (.int 1)) (.cons (.gl "MOST" (.int 1000000000000)) .nil))))) (.seq (.ret (.op .idx (.cons (.call 62 none (.cons (.var 0) (.cons (.var 1) .nil))) (.cons (.con (.int 2)) .nil)))) .nil)))
/-- 94 row_cuts(n, rooms): 0 n 1 rooms -/
def b_row_cuts_94 : IS := (.seq (.exp (.call 53 none (.cons (.var 0) (.cons (.con (.int 2)) (.cons (.gl "MOST" (.int 1000000000000)) .nil))))) (.seq (.exp (.call 53 none (.cons (.var 1) (.cons (.con (.int 1)) (.cons (.gl "MOST_ROOMS_rows" (.int 60)) .nil))))) (.seq (.ret (.call 75 none (.cons (.var 0) (.cons (.var 1) .nil)))) .nil)))
/-- 95 visit_cuts(n, rooms): 0 n 1 rooms -/
def b_visit_cuts_95 : IS := (.seq (.exp (.call 53 none (.cons (.var 0) (.cons (.con (.int 2)) (.cons (.gl "MOST" (.int 1000000000000)) .nil))))) (.seq (.exp (.call 53 none (.cons (.var 1) (.cons (.con (.int 1)) (.cons (.gl "MOST_ROOMS_rows" (.int 60)) .nil))))) (.seq (.ret (.call 76 none (.cons (.var 0) (.cons (.var 1) .nil)))) .nil)))
/-- 96 row_program(n, rooms): 0 n 1 rooms -/
def b_row_program_96 : IS := (.seq (.exp (.call 53 none (.cons (.var 0) (.cons (.con (.int 1)) (.cons (.gl "MOST_WALK" (.int 40)) .nil))))) (.seq (.exp (.call 53 none (.cons (.var 1) (.cons (.con (.int 1)) (.cons (.gl "MOST_ROOMS_rows" (.int 60)) .nil))))) (.seq (.ite (.cmp .lt (.var 1) (.call 54 none (.cons (.var 0) .nil))) (.seq (.ret (.con .non)) .nil) .nil) (.seq (.ret (.call 79 none (.cons (.var 0) (.cons (.var 1) .nil)))) .nil))))
/-- 97 visit_program(n, rooms): 0 n 1 rooms -/
def b_visit_program_97 : IS := (.seq (.exp (.call 53 none (.cons (.var 0) (.cons (.con (.int 1)) (.cons (.gl "MOST_WALK" (.int 40)) .nil))))) (.seq (.exp (.call 53 none (.cons (.var 1) (.cons (.con (.int 1)) (.cons (.gl "MOST_ROOMS_rows" (.int 60)) .nil))))) (.seq (.ite (.cmp .lt (.var 1) (.call 55 none (.cons (.var 0) .nil))) (.seq (.ret (.con .non)) .nil) .nil) (.seq (.ret (.call 80 none (.cons (.var 0) (.cons (.var 1) .nil)))) .nil))))
/-- 98 row_reach(rooms, deeds): 0 rooms 1 deeds -/
def b_row_reach_98 : IS := (.seq (.exp (.call 53 none (.cons (.var 0) (.cons (.con (.int 1)) (.cons (.gl "MOST_ROOMS_rows" (.int 60)) .nil))))) (.seq (.exp (.call 53 none (.cons (.var 1) (.cons (.con (.int 0)) (.cons (.gl "MOST" (.int 1000000000000)) .nil))))) (.seq (.ret (.call 83 none (.cons (.op .idx (.cons (.call 59 none (.cons (.var 0) (.cons (.op (.bi true .max) (.cons (.con (.int 1)) (.cons (.var 1) .nil))) .nil))) (.cons (.con (.int 1)) .nil))) (.cons (.var 1) .nil)))) .nil)))
/-- 99 visit_reach(rooms, deeds): 0 rooms 1 deeds -/
def b_visit_reach_99 : IS := (.seq (.exp (.call 53 none (.cons (.var 0) (.cons (.con (.int 1)) (.cons (.gl "MOST_ROOMS_rows" (.int 60)) .nil))))) (.seq (.exp (.call 53 none (.cons (.var 1) (.cons (.con (.int 0)) (.cons (.gl "MOST" (.int 1000000000000)) .nil))))) (.seq (.ret (.call 83 none (.cons (.op .idx (.cons (.call 62 none (.cons (.var 0) (.cons (.op (.bi true .max) (.cons (.con (.int 1)) (.cons (.var 1) .nil))) .nil))) (.cons (.con (.int 2)) .nil))) (.cons (.var 1) .nil)))) .nil)))
/-- 100 row_saves(n, rooms): 0 n 1 rooms 2 now -/
def b_row_saves_100 : IS := (.seq (.exp (.call 53 none (.cons (.var 0) (.cons (.con (.int 1)) (.cons (.gl "MOST" (.int 1000000000000)) .nil))))) (.seq (.exp (.call 53 none (.cons (.var 1) (.cons (.con (.int 1)) (.cons (.op (.bin true .sub) (.cons (.gl "MOST_ROOMS_rows" (.int 60)) (.cons (.con (.int 1)) .nil))) .nil))))) (.seq (.asg (.nm 2) (.call 88 none (.cons (.var 0) (.cons (.var 1) .nil)))) (.seq (.ite (.cmp .isn (.var 2) (.con .non)) (.seq (.ret (.con .non)) .nil) .nil) (.seq (.ret (.op (.bin true .sub) (.cons (.var 2) (.cons (.call 88 none (.cons (.var 0) (.cons (.op (.bin true .add) (.cons (.var 1) (.cons (.con (.int 1)) .nil))) .nil))) .nil)))) .nil)))))
/-- 101 Desk.done(self): 0 self -/
def b_Desk_done : IS := (.seq (.ret (.op (.bi false .list) (.cons (.op (.att 2 5 "history") (.cons (.var 0) .nil)) .nil))) .nil)
/-- 102 Desk.undo(self): 0 self 1 value -/
def b_Desk_undo : IS := (.seq (.ite (.cmp .eq (.op (.bi true .len) (.cons (.op (.att 2 5 "history") (.cons (.var 0) .nil)) .nil)) (.con (.int 0))) (.seq .unk .nil) .nil) (.seq (.asg (.nm 1) (.op .idx (.cons (.op (.att 2 5 "history") (.cons (.var 0) .nil)) (.cons (.op .neg (.cons (.con (.int 1)) .nil)) .nil)))) (.seq (.ite (.meth 2 "is_full_for" 32 none (.var 0) (.cons (.op (.att 2 2 "lot") (.cons (.var 0) .nil)) (.cons (.var 1) .nil))) (.seq .unk .nil) .nil) (.seq (.exp (.bmt (.mm .pop) (.op (.att 2 5 "history") (.cons (.var 0) .nil)) .nil)) (.seq (.exp (.bmt (.mm .pop) (.op (.att 2 6 "peaks") (.cons (.var 0) .nil)) .nil)) (.seq (.setA 2 2 "lot" (.var 0) (.call 21 none (.cons (.op (.att 2 2 "lot") (.cons (.var 0) .nil)) (.cons (.var 1) .nil)))) (.seq .unk (.seq (.setA 2 4 "most" (.var 0) (.op .idx (.cons (.op (.att 2 6 "peaks") (.cons (.var 0) .nil)) (.cons (.op .neg (.cons (.con (.int 1)) .nil)) .nil)))) (.seq (.ret (.var 1)) .nil)))))))))
/-- 103 Desk.change_rooms(self, rooms): 0 self 1 rooms -/
def b_Desk_change_rooms : IS := (.seq (.exp (.call 18 none (.cons (.var 1) .nil))) (.seq (.ite (.cmp .lt (.var 1) (.op (.bi true .len) (.cons (.op (.att 2 2 "lot") (.cons (.var 0) .nil)) .nil))) (.seq .unk .nil) .nil) (.seq (.setA 2 1 "room_limit" (.var 0) (.var 1)) .nil)))
def b_Desk_watch_L1 : IS := (.seq (.exp (.meth 2 "do" 33 none (.var 0) (.cons (.var 2) .nil))) (.seq .unk .nil))
/-- 104 Desk.watch(self, program): 0 self 1 program 2 value -/
def b_Desk_watch : IS := (.seq (.exp (.meth 2 "trial" 34 none (.var 0) (.cons (.var 1) .nil))) (.seq (.for (.nm 2) (.itv (.op (.bi true .list) (.cons (.var 1) .nil))) b_Desk_watch_L1) .nil))
def b_heappush_L1 : IS := (.seq (.asg (.nm 3) (.op (.bin true .fdiv) (.cons (.op (.bin true .sub) (.cons (.var 2) (.cons (.con (.int 1)) .nil))) (.cons (.con (.int 2)) .nil)))) (.seq (.asg (.nm 4) (.op .idx (.cons (.var 0) (.cons (.var 3) .nil)))) (.seq (.setI (.var 0) (.var 3) (.op .idx (.cons (.var 0) (.cons (.var 2) .nil)))) (.seq (.setI (.var 0) (.var 2) (.var 4)) (.seq (.asg (.nm 2) (.var 3)) .nil)))))
def b_heappush_T1 : IE := (.and (.cmp .gt (.var 2) (.con (.int 0))) (.cmp .lt (.op .idx (.cons (.var 0) (.cons (.var 2) .nil))) (.op .idx (.cons (.var 0) (.cons (.op (.bin true .fdiv) (.cons (.op (.bin true .sub) (.cons (.var 2) (.cons (.con (.int 1)) .nil))) (.cons (.con (.int 2)) .nil))) .nil)))))
/-- 105 heappush(heap, item): 0 heap 1 item 2 at 3 above 4 held -/
def b_heappush : IS := (.seq (.exp (.bmt (.mm .append) (.var 0) (.cons (.var 1) .nil))) (.seq (.asg (.nm 2) (.op (.bin true .sub) (.cons (.op (.bi true .len) (.cons (.var 0) .nil)) (.cons (.con (.int 1)) .nil)))) (.seq (.whl b_heappush_T1 b_heappush_L1) .nil)))
def b_least_place_L1 : IS := (.seq (.ite (.cmp .lt (.op .idx (.cons (.var 0) (.cons (.var 3) .nil))) (.op .idx (.cons (.var 0) (.cons (.var 2) .nil)))) (.seq (.asg (.nm 2) (.var 3)) .nil) .nil) .nil)
/-- 106 least_place(heap, at): 0 heap 1 at 2 best 3 below -/
def b_least_place : IS := (.seq (.asg (.nm 2) (.var 1)) (.seq (.for (.nm 3) (.rng2 (.op (.bin true .add) (.cons (.op (.bin true .mul) (.cons (.con (.int 2)) (.cons (.var 1) .nil))) (.cons (.con (.int 1)) .nil))) (.op (.bi true .min) (.cons (.op (.bin true .add) (.cons (.op (.bin true .mul) (.cons (.con (.int 2)) (.cons (.var 1) .nil))) (.cons (.con (.int 3)) .nil))) (.cons (.op (.bi true .len) (.cons (.var 0) .nil)) .nil)))) b_least_place_L1) (.seq (.ret (.var 2)) .nil)))
def b_heappop_L1 : IS := (.seq (.asg (.nm 5) (.op .idx (.cons (.var 0) (.cons (.var 4) .nil)))) (.seq (.setI (.var 0) (.var 4) (.op .idx (.cons (.var 0) (.cons (.var 3) .nil)))) (.seq (.setI (.var 0) (.var 3) (.var 5)) (.seq (.asg (.nm 3) (.var 4)) (.seq (.asg (.nm 4) (.call 106 none (.cons (.var 0) (.cons (.var 3) .nil)))) .nil)))))
def b_heappop_T1 : IE := (.cmp .ne (.var 4) (.var 3))
/-- 107 heappop(heap): 0 heap 1 last 2 first 3 at 4 below 5 held -/
def b_heappop : IS := (.seq (.asg (.nm 1) (.bmt (.mm .pop) (.var 0) .nil)) (.seq (.ite (.cmp .eq (.op (.bi true .len) (.cons (.var 0) .nil)) (.con (.int 0))) (.seq (.ret (.var 1)) .nil) .nil) (.seq (.asg (.nm 2) (.op .idx (.cons (.var 0) (.cons (.con (.int 0)) .nil)))) (.seq (.setI (.var 0) (.con (.int 0)) (.var 1)) (.seq (.asg (.nm 3) (.con (.int 0))) (.seq (.asg (.nm 4) (.call 106 none (.cons (.var 0) (.cons (.var 3) .nil)))) (.seq (.whl b_heappop_T1 b_heappop_L1) (.seq (.ret (.var 2)) .nil))))))))
def b_neighbours_L1 : IS := (.seq (.ite (.call 20 none (.cons (.var 0) (.cons (.var 2) (.cons (.var 4) .nil)))) (.seq (.asg (.nm 5) (.call 21 none (.cons (.var 2) (.cons (.var 4) .nil)))) (.seq (.ite (.cmp .le (.op (.bi true .len) (.cons (.var 5) .nil)) (.var 1)) (.seq (.exp (.bmt (.mm .append) (.var 3) (.cons (.tupE (.cons (.var 4) (.cons (.var 5) .nil))) .nil))) .nil) .nil) .nil)) .nil) .nil)
/-- 108 neighbours(recipes, rooms, lot): 0 recipes 1 rooms 2 lot 3 pairs 4 value 5 behind -/
def b_neighbours : IS := (.seq (.asg (.nm 3) (.lstE false .nil)) (.seq (.for (.nm 4) (.rng1 (.op (.bi true .len) (.cons (.var 0) .nil))) b_neighbours_L1) (.seq (.ret (.var 3)) .nil)))
def b_distances_L1 : IS := (.seq (.ite (.cmp .notin (.var 9) (.var 4)) (.seq (.exp (.call 105 none (.cons (.var 5) (.cons (.tupE (.cons (.op (.bin true .add) (.cons (.var 6) (.cons (.op .idx (.cons (.var 1) (.cons (.var 8) .nil))) .nil))) (.cons (.var 9) .nil))) .nil)))) .nil) .nil) .nil)
def b_distances_L2 : IS := (.seq (.asg (.tp [6, 7]) (.call 107 none (.cons (.var 5) .nil))) (.seq (.ite (.cmp .notin (.var 7) (.var 4)) (.seq (.setI (.var 4) (.var 7) (.var 6)) (.seq (.for (.tp [8, 9]) (.itv (.call 108 none (.cons (.var 0) (.cons (.var 2) (.cons (.var 7) .nil))))) b_distances_L1) .nil)) .nil) .nil))
def b_distances_T2 : IE := (.var 5)
/-- 109 distances(recipes, prices, rooms, start): 0 recipes 1 prices 2 rooms 3 start 4 settled 5 queue 6 price 7 lot 8 value 9 behind -/
def b_distances : IS := (.seq (.asg (.nm 4) (.op (.dnew true) .nil)) (.seq (.asg (.nm 5) (.lstE false .nil)) (.seq (.ite (.cmp .le (.op (.bi true .len) (.cons (.var 3) .nil)) (.var 2)) (.seq (.exp (.call 105 none (.cons (.var 5) (.cons (.tupE (.cons (.con (.int 0)) (.cons (.var 3) .nil))) .nil)))) .nil) .nil) (.seq (.whl b_distances_T2 b_distances_L2) (.seq (.ret (.var 4)) .nil)))))
/-- 110 judge_ends(graph, rooms, goal, start): 0 graph 1 rooms 2 goal 3 start -/
def b_judge_ends : IS := (.seq (.exp (.call 18 none (.cons (.var 1) .nil))) (.seq (.exp (.call 17 none (.cons (.var 0) (.cons (.var 2) .nil)))) (.seq (.exp (.call 17 none (.cons (.var 0) (.cons (.var 3) .nil)))) .nil)))
/-- 111 least(graph, rooms, goal, start): 0 graph 1 rooms 2 goal 3 start -/
def b_least : IS := (.seq (.exp (.call 110 none (.cons (.var 0) (.cons (.var 1) (.cons (.var 2) (.cons (.var 3) .nil)))))) (.seq (.ret (.bmt .get1 (.call 109 none (.cons (.op (.att 0 0 "recipes") (.cons (.var 0) .nil)) (.cons (.op (.att 0 1 "prices") (.cons (.var 0) .nil)) (.cons (.var 1) (.cons (.var 3) .nil))))) (.cons (.var 2) .nil))) .nil))
/-- 112 steps_down(graph, rooms, lot, left): 0 graph 1 rooms 2 lot 3 left 4 value 5 behind -/
def b_steps_down : IS := (.seq (.ret (.lc true [4, 5] (.tp [4, 5]) (.itv (.call 108 none (.cons (.op (.att 0 0 "recipes") (.cons (.var 0) .nil)) (.cons (.var 1) (.cons (.var 2) .nil))))) (.cmp .eq (.op (.bin true .add) (.cons (.op .idx (.cons (.var 3) (.cons (.var 5) .nil))) (.cons (.op .idx (.cons (.op (.att 0 1 "prices") (.cons (.var 0) .nil)) (.cons (.var 4) .nil))) .nil))) (.op .idx (.cons (.var 3) (.cons (.var 2) .nil)))) (.tupE (.cons (.var 4) (.cons (.var 5) .nil))))) .nil)
def b_ways_to_L1 : IS := (.seq (.ite (.cmp .eq (.var 5) (.var 2)) (.seq (.setI (.var 4) (.var 5) (.con (.int 1))) .nil) (.seq (.setI (.var 4) (.var 5) (.op (.bi true .sum) (.cons (.lc true [6, 7] (.tp [6, 7]) (.itv (.call 112 none (.cons (.var 0) (.cons (.var 1) (.cons (.var 5) (.cons (.var 3) .nil)))))) (.con (.bl true)) (.op .idx (.cons (.var 4) (.cons (.var 7) .nil)))) .nil))) .nil)) .nil)
/-- 113 ways_to(graph, rooms, goal): 0 graph 1 rooms 2 goal 3 left 4 ways 5 lot 6 value 7 behind -/
def b_ways_to : IS := (.seq (.asg (.nm 3) (.call 109 none (.cons (.op (.att 0 0 "recipes") (.cons (.var 0) .nil)) (.cons (.op (.att 0 1 "prices") (.cons (.var 0) .nil)) (.cons (.var 1) (.cons (.var 2) .nil)))))) (.seq (.asg (.nm 4) (.op (.dnew true) .nil)) (.seq (.for (.nm 5) (.kys (.var 3)) b_ways_to_L1) (.seq (.ret (.tupE (.cons (.var 3) (.cons (.var 4) .nil)))) .nil))))
def b_at_L1 : IS := (.seq (.ite (.cmp .lt (.var 3) (.op .idx (.cons (.var 8) (.cons (.var 10) .nil)))) (.seq (.exp (.bmt (.mm .append) (.var 5) (.cons (.var 9) .nil))) (.seq (.asg (.nm 6) (.var 10)) (.seq .brk .nil))) .nil) (.seq (.aug 3 .sub (.op .idx (.cons (.var 8) (.cons (.var 10) .nil)))) .nil))
def b_at_L2 : IS := (.seq (.for (.tp [9, 10]) (.itv (.call 112 none (.cons (.var 0) (.cons (.var 1) (.cons (.var 6) (.cons (.var 7) .nil)))))) b_at_L1) .nil)
def b_at_T2 : IE := (.cmp .ne (.var 6) (.var 2))
/-- 114 at(graph, rooms, goal, number, start): 0 graph 1 rooms 2 goal 3 number 4 start 5 program 6 lot 7 left 8 ways 9 value 10 behind -/
def b_at : IS := (.seq (.exp (.call 110 none (.cons (.var 0) (.cons (.var 1) (.cons (.var 2) (.cons (.var 4) .nil)))))) (.seq (.asg (.tp [7, 8]) (.call 113 none (.cons (.var 0) (.cons (.var 1) (.cons (.var 2) .nil))))) (.seq (.ite (.or (.not (.call 1 none (.cons (.var 3) .nil))) (.not (.chain .le .lt (.con (.int 0)) (.var 3) (.bmt .get2 (.var 8) (.cons (.var 4) (.cons (.con (.int 0)) .nil)))))) (.seq .unk .nil) .nil) (.seq (.asg (.nm 5) (.lstE false .nil)) (.seq (.asg (.nm 6) (.var 4)) (.seq (.whl b_at_T2 b_at_L2) (.seq (.ret (.var 5)) .nil)))))))
def b_Desk_go_L1 : IS := (.seq (.exp (.meth 2 "do" 33 none (.var 0) (.cons (.var 3) .nil))) .nil)
/-- 115 Desk.go(self, goal): 0 self 1 goal 2 price 3 value -/
def b_Desk_go : IS := (.seq (.exp (.call 17 none (.cons (.op (.att 2 0 "graph") (.cons (.var 0) .nil)) (.cons (.var 1) .nil)))) (.seq (.asg (.nm 2) (.call 111 none (.cons (.op (.att 2 0 "graph") (.cons (.var 0) .nil)) (.cons (.op (.att 2 1 "room_limit") (.cons (.var 0) .nil)) (.cons (.var 1) (.cons (.op (.att 2 2 "lot") (.cons (.var 0) .nil)) .nil)))))) (.seq (.ite (.cmp .isn (.var 2) (.con .non)) (.seq .unk .nil) .nil) (.seq (.for (.nm 3) (.itv (.call 114 none (.cons (.op (.att 2 0 "graph") (.cons (.var 0) .nil)) (.cons (.op (.att 2 1 "room_limit") (.cons (.var 0) .nil)) (.cons (.var 1) (.cons (.con (.int 0)) (.cons (.op (.att 2 2 "lot") (.cons (.var 0) .nil)) .nil))))))) b_Desk_go_L1) (.seq (.ret (.var 2)) .nil)))))
/-- 116 lot_words(lot): 0 lot 1 value -/
def b_lot_words : IS := (.seq (.ite (.cmp .eq (.op (.bi true .len) (.cons (.var 0) .nil)) (.con (.int 0))) (.seq (.ret (.con (.str "-"))) .nil) .nil) (.seq .unk .nil))
/-- 117 graph_text(graph): 0 graph 1 rows 2 row 3 recipe 4 price -/
def b_graph_text : IS := (.seq .unk (.seq .unk .nil))
/-- 118 digit(word): 0 word -/
def b_digit : IS := (.seq (.ite (.cmp .ne (.op (.bi true .len) (.cons (.var 0) .nil)) (.con (.int 1))) (.seq (.ret (.op .neg (.cons (.con (.int 1)) .nil))) .nil) .nil) (.seq .unk .nil))
/-- 119 lot_of(word): 0 word 1 part -/
def b_lot_of : IS := (.seq (.ite (.cmp .eq (.var 0) (.con (.str "-"))) (.seq (.ret (.tupE .nil)) .nil) .nil) (.seq .unk .nil))
/-- 120 graph_from(text): 0 text 1 parts 2 rows 3 prices 4 row 5 sign 6 word -/
def b_graph_from : IS := (.seq (.ite (.not (.op (.isi .str) (.cons (.var 0) .nil))) (.seq .unk .nil) .nil) (.seq .unk (.seq (.ite (.cmp .ne (.op (.bi true .len) (.cons (.var 1) .nil)) (.con (.int 2))) (.seq .unk .nil) .nil) (.seq .unk (.seq (.asg (.nm 3) (.op (.bi true .tuple) (.cons (.lc true [5] (.nm 5) (.itv (.op (.bi true .list) (.cons (.op .idx (.cons (.var 1) (.cons (.con (.int 1)) .nil))) .nil))) (.con (.bl true)) (.call 118 none (.cons (.var 5) .nil))) .nil))) (.seq .unk .nil))))))
/-- 121 lot_text(graph, lot): 0 graph 1 lot -/
def b_lot_text : IS := (.seq (.exp (.call 17 none (.cons (.var 0) (.cons (.var 1) .nil)))) (.seq (.ret (.call 116 none (.cons (.var 1) .nil))) .nil))
def b_program_text_L1 : IS := (.seq (.ite (.not (.call 3 none (.cons (.var 0) (.cons (.var 3) .nil)))) (.seq .unk .nil) .nil) .nil)
/-- 122 program_text(graph, program): 0 graph 1 program 2 index 3 value -/
def b_program_text : IS := (.seq (.exp (.call 24 none (.cons (.var 1) .nil))) (.seq (.for (.tp [2, 3]) (.enm (.var 1)) b_program_text_L1) (.seq (.ite (.cmp .eq (.op (.bi true .len) (.cons (.var 1) .nil)) (.con (.int 0))) (.seq (.ret (.con (.str "-"))) .nil) .nil) (.seq .unk .nil))))
/-- 123 lot_from(graph, text): 0 graph 1 text 2 lot -/
def b_lot_from : IS := (.seq (.ite (.not (.op (.isi .str) (.cons (.var 1) .nil))) (.seq .unk .nil) .nil) (.seq (.asg (.nm 2) (.call 119 none (.cons (.var 1) .nil))) (.seq (.ite (.not (.call 16 none (.cons (.var 0) (.cons (.var 2) .nil)))) (.seq .unk .nil) .nil) (.seq (.ret (.var 2)) .nil))))
def b_program_from_L1 : IS := (.seq (.ite (.not (.call 3 none (.cons (.var 0) (.cons (.var 3) .nil)))) (.seq .unk .nil) .nil) .nil)
/-- 124 program_from(graph, text): 0 graph 1 text 2 program 3 value 4 word -/
def b_program_from : IS := (.seq (.ite (.not (.op (.isi .str) (.cons (.var 1) .nil))) (.seq .unk .nil) .nil) (.seq (.ite (.cmp .eq (.var 1) (.con (.str "-"))) (.seq (.ret (.lstE false .nil)) .nil) .nil) (.seq .unk (.seq (.ite (.cmp .gt (.op (.bi true .len) (.cons (.var 2) .nil)) (.gl "MOST_DEEDS" (.int 2000))) (.seq .unk .nil) .nil) (.seq (.for (.nm 3) (.itv (.var 2)) b_program_from_L1) (.seq (.ret (.var 2)) .nil))))))
def b_number_of_L1 : IS := (.seq (.ite (.cmp .lt (.var 11) (.var 9)) (.seq (.aug 5 .add (.op .idx (.cons (.var 7) (.cons (.var 12) .nil)))) .nil) (.seq (.ite (.cmp .eq (.var 11) (.var 9)) (.seq (.asg (.nm 10) (.con (.bl true))) .nil) .nil) .nil)) .nil)
def b_number_of_L2 : IS := (.seq (.asg (.nm 10) (.con (.bl false))) (.seq (.for (.tp [11, 12]) (.itv (.call 112 none (.cons (.var 0) (.cons (.var 1) (.cons (.op .idx (.cons (.var 4) (.cons (.var 8) .nil))) (.cons (.var 6) .nil)))))) b_number_of_L1) (.seq (.ite (.not (.var 10)) (.seq .unk .nil) .nil) .nil)))
/-- 125 number_of(graph, rooms, program, start): 0 graph 1 rooms 2 program 3 start 4 lots 5 number 6 left 7 ways 8 index 9 value 10 taken 11 other 12 behind -/
def b_number_of : IS := (.seq (.exp (.call 18 none (.cons (.var 1) .nil))) (.seq (.asg (.nm 4) (.call 26 none (.cons (.var 0) (.cons (.var 2) (.cons (.var 3) .nil))))) (.seq (.asg (.tp [6, 7]) (.call 113 none (.cons (.var 0) (.cons (.var 1) (.cons (.op .idx (.cons (.var 4) (.cons (.op .neg (.cons (.con (.int 1)) .nil)) .nil))) .nil))))) (.seq (.ite (.cmp .notin (.var 3) (.var 7)) (.seq .unk .nil) .nil) (.seq (.asg (.nm 5) (.con (.int 0))) (.seq (.for (.tp [8, 9]) (.enm (.var 2)) b_number_of_L2) (.seq (.ret (.var 5)) .nil)))))))
def b_judge_diary_L1 : IS := (.seq (.ite (.and (.cmp .notn (.var 2) (.con .non)) (.or (.not (.call 1 none (.cons (.var 2) .nil))) (.not (.chain .le .le (.con (.int 0)) (.var 2) (.gl "MOST_ROOMS" (.int 10)))))) (.seq .unk .nil) .nil) .nil)
/-- 126 judge_diary(thing): 0 thing 1 index 2 item -/
def b_judge_diary : IS := (.seq (.ite (.or (.not (.op (.isi .list) (.cons (.var 0) .nil))) (.cmp .gt (.op (.bi true .len) (.cons (.var 0) .nil)) (.gl "MOST_ITEMS" (.int 60)))) (.seq .unk .nil) .nil) (.seq (.for (.tp [1, 2]) (.enm (.var 0)) b_judge_diary_L1) .nil))
/-- 127 judge_told(graph, rooms, diary, start): 0 graph 1 rooms 2 diary 3 start -/
def b_judge_told : IS := (.seq (.exp (.call 18 none (.cons (.var 1) .nil))) (.seq (.exp (.call 126 none (.cons (.var 2) .nil))) (.seq (.exp (.call 17 none (.cons (.var 0) (.cons (.var 3) .nil)))) .nil)))
/-- 128 layer_behind(graph, rooms, layer, item): 0 graph 1 rooms 2 layer 3 item 4 found 5 lot 6 many 7 price 8 value 9 behind 10 reach 11 ways 12 low -/
def b_layer_behind : IS := (.seq (.asg (.nm 4) (.op (.dnew true) .nil)) (.seq .unk (.seq (.ret (.var 4)) .nil)))
def b_layers_of_L1 : IS := (.seq (.exp (.bmt (.mm .append) (.var 4) (.cons (.call 128 none (.cons (.var 0) (.cons (.var 1) (.cons (.op .idx (.cons (.var 4) (.cons (.op .neg (.cons (.con (.int 1)) .nil)) .nil))) (.cons (.var 5) .nil))))) .nil))) .nil)
/-- 129 layers_of(graph, rooms, diary, start): 0 graph 1 rooms 2 diary 3 start 4 layers 5 item -/
def b_layers_of : IS := (.seq (.asg (.nm 4) (.lstE false (.cons (.op (.dnew true) .nil) .nil))) (.seq (.ite (.cmp .le (.op (.bi true .len) (.cons (.var 3) .nil)) (.var 1)) (.seq .unk .nil) .nil) (.seq (.for (.nm 5) (.itv (.var 2)) b_layers_of_L1) (.seq (.ret (.var 4)) .nil))))
/-- 130 lots_that_fit(graph, rooms, diary, start): 0 graph 1 rooms 2 diary 3 start -/
def b_lots_that_fit : IS := (.seq (.exp (.call 127 none (.cons (.var 0) (.cons (.var 1) (.cons (.var 2) (.cons (.var 3) .nil)))))) (.seq (.ret (.op (.bi false .sortk) (.cons (.op .idx (.cons (.call 129 none (.cons (.var 0) (.cons (.var 1) (.cons (.var 2) (.cons (.var 3) .nil))))) (.cons (.op .neg (.cons (.con (.int 1)) .nil)) .nil))) .nil))) .nil))
/-- 131 can_be(graph, rooms, diary, start): 0 graph 1 rooms 2 diary 3 start -/
def b_can_be : IS := (.seq (.ret (.cmp .gt (.op (.bi true .len) (.cons (.call 130 none (.cons (.var 0) (.cons (.var 1) (.cons (.var 2) (.cons (.var 3) .nil))))) .nil)) (.con (.int 0)))) .nil)
/-- 132 reached(graph, rooms, start): 0 graph 1 rooms 2 start -/
def b_reached : IS := (.seq (.exp (.call 18 none (.cons (.var 1) .nil))) (.seq (.exp (.call 17 none (.cons (.var 0) (.cons (.var 2) .nil)))) (.seq (.ret (.op (.bi false .sortk) (.cons (.call 109 none (.cons (.op (.att 0 0 "recipes") (.cons (.var 0) .nil)) (.cons (.op (.att 0 1 "prices") (.cons (.var 0) .nil)) (.cons (.var 1) (.cons (.var 2) .nil))))) .nil))) .nil)))
/-- 133 reach_count(graph, rooms, start): 0 graph 1 rooms 2 start -/
def b_reach_count : IS := (.seq (.ret (.op (.bi true .len) (.cons (.call 132 none (.cons (.var 0) (.cons (.var 1) (.cons (.var 2) .nil)))) .nil))) .nil)
def b_fewest_rooms_L1 : IS := (.seq (.ite (.cmp .isin (.var 1) (.call 109 none (.cons (.op (.att 0 0 "recipes") (.cons (.var 0) .nil)) (.cons (.op (.att 0 1 "prices") (.cons (.var 0) .nil)) (.cons (.var 3) (.cons (.var 2) .nil)))))) (.seq (.ret (.var 3)) .nil) .nil) .nil)
/-- 134 fewest_rooms(graph, goal, start): 0 graph 1 goal 2 start 3 rooms -/
def b_fewest_rooms : IS := (.seq (.exp (.call 17 none (.cons (.var 0) (.cons (.var 1) .nil)))) (.seq (.exp (.call 17 none (.cons (.var 0) (.cons (.var 2) .nil)))) (.seq (.for (.nm 3) (.rng2 (.op (.bi true .max) (.cons (.op (.bi true .len) (.cons (.var 1) .nil)) (.cons (.op (.bi true .len) (.cons (.var 2) .nil)) .nil))) (.op (.att 0 2 "size") (.cons (.var 0) .nil))) b_fewest_rooms_L1) (.seq (.ret (.op (.att 0 2 "size") (.cons (.var 0) .nil))) .nil))))
def b_ladder_L1 : IS := (.seq (.asg (.nm 5) (.bmt .get1 (.call 109 none (.cons (.op (.att 0 0 "recipes") (.cons (.var 0) .nil)) (.cons (.op (.att 0 1 "prices") (.cons (.var 0) .nil)) (.cons (.var 4) (.cons (.var 2) .nil))))) (.cons (.var 1) .nil))) (.seq (.ite (.and (.cmp .notn (.var 5) (.con .non)) (.or (.not (.var 3)) (.cmp .lt (.var 5) (.op .idx (.cons (.op .idx (.cons (.var 3) (.cons (.op .neg (.cons (.con (.int 1)) .nil)) .nil))) (.cons (.con (.int 1)) .nil)))))) (.seq (.exp (.bmt (.mm .append) (.var 3) (.cons (.tupE (.cons (.var 4) (.cons (.var 5) .nil))) .nil))) .nil) .nil) .nil))
/-- 135 ladder(graph, goal, start): 0 graph 1 goal 2 start 3 rows 4 rooms 5 price -/
def b_ladder : IS := (.seq (.exp (.call 17 none (.cons (.var 0) (.cons (.var 1) .nil)))) (.seq (.exp (.call 17 none (.cons (.var 0) (.cons (.var 2) .nil)))) (.seq (.asg (.nm 3) (.lstE false .nil)) (.seq (.for (.nm 4) (.rng1 (.op (.bin true .add) (.cons (.op (.att 0 2 "size") (.cons (.var 0) .nil)) (.cons (.con (.int 1)) .nil)))) b_ladder_L1) (.seq (.ret (.var 3)) .nil)))))
def b_part_count_L1 : IS := (.seq .unk .nil)
def b_part_count_L2 : IS := (.seq (.ite (.cmp .notin (.var 4) (.var 2)) (.seq (.aug 3 .add (.con (.int 1))) (.seq (.for (.nm 5) (.kys (.call 109 none (.cons (.op (.att 0 0 "recipes") (.cons (.var 0) .nil)) (.cons (.op (.att 0 1 "prices") (.cons (.var 0) .nil)) (.cons (.var 1) (.cons (.var 4) .nil)))))) b_part_count_L1) .nil)) .nil) .nil)
/-- 136 part_count(graph, rooms): 0 graph 1 rooms 2 seen 3 parts 4 lot 5 other -/
def b_part_count : IS := (.seq (.exp (.call 18 none (.cons (.var 1) .nil))) (.seq .unk (.seq (.asg (.nm 3) (.con (.int 0))) (.seq (.for (.nm 4) (.itv (.call 46 none (.cons (.op (.att 0 2 "size") (.cons (.var 0) .nil)) (.cons (.var 1) .nil)))) b_part_count_L2) (.seq (.ret (.var 3)) .nil)))))
/-- 137 far(graph, rooms, start): 0 graph 1 rooms 2 start 3 table 4 top 5 lot -/
def b_far : IS := (.seq (.exp (.call 18 none (.cons (.var 1) .nil))) (.seq (.exp (.call 17 none (.cons (.var 0) (.cons (.var 2) .nil)))) (.seq (.asg (.nm 3) (.call 109 none (.cons (.op (.att 0 0 "recipes") (.cons (.var 0) .nil)) (.cons (.op (.att 0 1 "prices") (.cons (.var 0) .nil)) (.cons (.var 1) (.cons (.var 2) .nil)))))) (.seq (.ite (.not (.var 3)) (.seq (.ret (.con .non)) .nil) .nil) (.seq .unk (.seq (.ret (.tupE (.cons (.var 4) (.cons (.op (.bi true .min) (.cons (.lc true [5] (.nm 5) (.kys (.var 3)) (.cmp .eq (.op .idx (.cons (.var 3) (.cons (.var 5) .nil))) (.var 4)) (.var 5)) .nil)) .nil)))) .nil))))))
/-- 138 count(graph, rooms, goal, start): 0 graph 1 rooms 2 goal 3 start 4 left 5 ways -/
def b_count : IS := (.seq (.exp (.call 110 none (.cons (.var 0) (.cons (.var 1) (.cons (.var 2) (.cons (.var 3) .nil)))))) (.seq (.asg (.tp [4, 5]) (.call 113 none (.cons (.var 0) (.cons (.var 1) (.cons (.var 2) .nil))))) (.seq (.ret (.bmt .get2 (.var 5) (.cons (.var 3) (.cons (.con (.int 0)) .nil)))) .nil)))
/-- 139 count_fit(graph, rooms, diary, start): 0 graph 1 rooms 2 diary 3 start 4 many 5 price -/
def b_count_fit : IS := (.seq (.exp (.call 127 none (.cons (.var 0) (.cons (.var 1) (.cons (.var 2) (.cons (.var 3) .nil)))))) (.seq .unk .nil))
/-- 140 least_fit(graph, rooms, diary, start): 0 graph 1 rooms 2 diary 3 start 4 many 5 price -/
def b_least_fit : IS := (.seq (.exp (.call 127 none (.cons (.var 0) (.cons (.var 1) (.cons (.var 2) (.cons (.var 3) .nil)))))) (.seq .unk .nil))
/-- 141 judge_wish(graph, rooms, wish, may, start): 0 graph 1 rooms 2 wish 3 may 4 start -/
def b_judge_wish : IS := (.seq (.exp (.call 18 none (.cons (.var 1) .nil))) (.seq (.exp (.call 17 none (.cons (.var 0) (.cons (.var 2) .nil)))) (.seq (.exp (.call 17 none (.cons (.var 0) (.cons (.var 3) .nil)))) (.seq .unk (.seq (.exp (.call 17 none (.cons (.var 0) (.cons (.var 4) .nil)))) .nil)))))
def b_satisfies_L1 : IS := (.seq (.ite (.and (.cmp .notin (.var 3) (.var 1)) (.cmp .notin (.var 3) (.var 2))) (.seq (.ret (.con (.bl false))) .nil) .nil) .nil)
def b_satisfies_L2 : IS := (.seq (.ite (.cmp .notin (.var 3) (.var 0)) (.seq (.ret (.con (.bl false))) .nil) .nil) .nil)
/-- 142 satisfies(lot, wish, may): 0 lot 1 wish 2 may 3 value -/
def b_satisfies : IS := (.seq (.for (.nm 3) (.itv (.var 1)) b_satisfies_L2) (.seq (.for (.nm 3) (.itv (.var 0)) b_satisfies_L1) (.seq (.ret (.con (.bl true))) .nil)))
/-- 143 best_prices(graph, rooms, wish, may, start): 0 graph 1 rooms 2 wish 3 may 4 start 5 table 6 found 7 top 8 lot -/
def b_best_prices : IS := (.seq (.exp (.call 141 none (.cons (.var 0) (.cons (.var 1) (.cons (.var 2) (.cons (.var 3) (.cons (.var 4) .nil))))))) (.seq (.asg (.nm 5) (.call 109 none (.cons (.op (.att 0 0 "recipes") (.cons (.var 0) .nil)) (.cons (.op (.att 0 1 "prices") (.cons (.var 0) .nil)) (.cons (.var 1) (.cons (.var 4) .nil)))))) (.seq .unk (.seq .unk (.seq .unk .nil)))))
/-- 144 least_wish(graph, rooms, wish, may, start): 0 graph 1 rooms 2 wish 3 may 4 start -/
def b_least_wish : IS := (.seq .unk .nil)
/-- 145 barrier(graph, rooms, goal, start): 0 graph 1 rooms 2 goal 3 start 4 table -/
def b_barrier : IS := (.seq (.exp (.call 110 none (.cons (.var 0) (.cons (.var 1) (.cons (.var 2) (.cons (.var 3) .nil)))))) (.seq (.asg (.nm 4) (.call 109 none (.cons (.op (.att 0 0 "recipes") (.cons (.var 0) .nil)) (.cons (.op (.att 0 1 "prices") (.cons (.var 0) .nil)) (.cons (.var 1) (.cons (.var 3) .nil)))))) (.seq (.ite (.cmp .isin (.var 2) (.var 4)) (.seq (.ret (.con .non)) .nil) .nil) (.seq (.ret (.op (.bi false .sortk) (.cons (.var 4) .nil))) .nil))))
/-- 146 fits_rooms(graph, rooms, thing): 0 graph 1 rooms 2 thing -/
def b_fits_rooms : IS := (.seq (.ret (.and (.call 16 none (.cons (.var 0) (.cons (.var 2) .nil))) (.cmp .le (.op (.bi true .len) (.cons (.var 2) .nil)) (.var 1)))) .nil)
def b_barrier_fault_L1 : IS := (.seq (.ite (.cmp .notin (.var 10) (.var 5)) (.seq (.ret (.tupE (.cons (.con (.str "deed")) (.cons (.var 6) (.cons (.var 9) .nil))))) .nil) .nil) .nil)
def b_barrier_fault_L2 : IS := (.seq (.for (.tp [9, 10]) (.itv (.call 108 none (.cons (.op (.att 0 0 "recipes") (.cons (.var 0) .nil)) (.cons (.var 1) (.cons (.var 8) .nil))))) b_barrier_fault_L1) .nil)
def b_barrier_fault_L3 : IS := (.seq (.ite (.or (.not (.call 146 none (.cons (.var 0) (.cons (.var 1) (.cons (.var 7) .nil))))) (.cmp .isin (.var 7) (.var 5))) (.seq (.ret (.tupE (.cons (.con (.str "lot")) (.cons (.var 6) .nil)))) .nil) .nil) (.seq .unk .nil))
/-- 147 barrier_fault(graph, rooms, goal, lots, start): 0 graph 1 rooms 2 goal 3 lots 4 start 5 known 6 index 7 thing 8 lot 9 value 10 behind -/
def b_barrier_fault : IS := (.seq (.exp (.call 110 none (.cons (.var 0) (.cons (.var 1) (.cons (.var 2) (.cons (.var 4) .nil)))))) (.seq (.ite (.not (.op (.isi .list) (.cons (.var 3) .nil))) (.seq (.ret (.tupE (.cons (.con (.str "form")) .nil))) .nil) .nil) (.seq .unk (.seq (.for (.tp [6, 7]) (.enm (.var 3)) b_barrier_fault_L3) (.seq (.ite (.and (.cmp .le (.op (.bi true .len) (.cons (.var 4) .nil)) (.var 1)) (.cmp .notin (.var 4) (.var 5))) (.seq (.ret (.tupE (.cons (.con (.str "start")) .nil))) .nil) .nil) (.seq (.ite (.cmp .isin (.var 2) (.var 5)) (.seq (.ret (.tupE (.cons (.con (.str "goal")) .nil))) .nil) .nil) (.seq (.for (.tp [6, 8]) (.enm (.var 3)) b_barrier_fault_L2) (.seq (.ret (.con .non)) .nil))))))))
/-- 148 heights(graph, rooms, start): 0 graph 1 rooms 2 start -/
def b_heights : IS := (.seq (.exp (.call 18 none (.cons (.var 1) .nil))) (.seq (.exp (.call 17 none (.cons (.var 0) (.cons (.var 2) .nil)))) (.seq (.ret (.call 109 none (.cons (.op (.att 0 0 "recipes") (.cons (.var 0) .nil)) (.cons (.op (.att 0 1 "prices") (.cons (.var 0) .nil)) (.cons (.var 1) (.cons (.var 2) .nil)))))) .nil)))
/-- 149 judge_recipe(graph, value, recipe): 0 graph 1 value 2 recipe -/
def b_judge_recipe : IS := (.seq (.exp (.call 4 none (.cons (.var 0) (.cons (.var 1) .nil)))) (.seq (.ite (.or (.not (.call 16 none (.cons (.var 0) (.cons (.var 2) .nil)))) (.cmp .notin (.var 2) (.op .idx (.cons (.op (.att 0 0 "recipes") (.cons (.var 0) .nil)) (.cons (.var 1) .nil))))) (.seq .unk .nil) .nil) .nil))
/-- 150 struck(recipes, value, recipe): 0 recipes 1 value 2 recipe 3 row 4 kept -/
def b_struck : IS := (.seq (.asg (.nm 3) (.op (.bi true .tuple) (.cons (.lc true [4] (.nm 4) (.itv (.op .idx (.cons (.var 0) (.cons (.var 1) .nil)))) (.cmp .ne (.var 4) (.var 2)) (.var 4)) .nil))) (.seq (.ret (.tupE (.star (.op (.slc true false true) (.cons (.var 0) (.cons (.var 1) .nil))) (.cons (.var 3) (.star (.op (.slc true true false) (.cons (.var 0) (.cons (.op (.bin true .add) (.cons (.var 1) (.cons (.con (.int 1)) .nil))) .nil))) .nil))))) .nil))
/-- 151 is_needless(recipes, prices, rooms, value, recipe): 0 recipes 1 prices 2 rooms 3 value 4 recipe 5 left -/
def b_is_needless : IS := (.seq (.asg (.nm 5) (.call 150 none (.cons (.var 0) (.cons (.var 3) (.cons (.var 4) .nil))))) (.seq (.ret (.cmp .eqd (.call 109 none (.cons (.var 0) (.cons (.var 1) (.cons (.var 2) (.cons (.tupE .nil) .nil))))) (.call 109 none (.cons (.var 5) (.cons (.var 1) (.cons (.var 2) (.cons (.tupE .nil) .nil))))))) .nil))
/-- 152 needless(graph, rooms, value, recipe): 0 graph 1 rooms 2 value 3 recipe -/
def b_needless : IS := (.seq (.exp (.call 18 none (.cons (.var 1) .nil))) (.seq (.exp (.call 149 none (.cons (.var 0) (.cons (.var 2) (.cons (.var 3) .nil))))) (.seq (.ret (.call 151 none (.cons (.op (.att 0 0 "recipes") (.cons (.var 0) .nil)) (.cons (.op (.att 0 1 "prices") (.cons (.var 0) .nil)) (.cons (.var 1) (.cons (.var 2) (.cons (.var 3) .nil))))))) .nil)))
/-- 153 helps(graph, rooms, value, recipe, goal, start): 0 graph 1 rooms 2 value 3 recipe 4 goal 5 start 6 kept 7 left -/
def b_helps : IS := (.seq (.exp (.call 18 none (.cons (.var 1) .nil))) (.seq (.exp (.call 149 none (.cons (.var 0) (.cons (.var 2) (.cons (.var 3) .nil))))) (.seq (.exp (.call 110 none (.cons (.var 0) (.cons (.var 1) (.cons (.var 4) (.cons (.var 5) .nil)))))) (.seq (.asg (.nm 6) (.bmt .get1 (.call 109 none (.cons (.op (.att 0 0 "recipes") (.cons (.var 0) .nil)) (.cons (.op (.att 0 1 "prices") (.cons (.var 0) .nil)) (.cons (.var 1) (.cons (.var 5) .nil))))) (.cons (.var 4) .nil))) (.seq (.ite (.cmp .isn (.var 6) (.con .non)) (.seq (.ret (.tupE (.cons (.con (.str "never")) .nil))) .nil) .nil) (.seq (.asg (.nm 7) (.bmt .get1 (.call 109 none (.cons (.call 150 none (.cons (.op (.att 0 0 "recipes") (.cons (.var 0) .nil)) (.cons (.var 2) (.cons (.var 3) .nil)))) (.cons (.op (.att 0 1 "prices") (.cons (.var 0) .nil)) (.cons (.var 1) (.cons (.var 5) .nil))))) (.cons (.var 4) .nil))) (.seq (.ite (.cmp .isn (.var 7) (.con .non)) (.seq (.ret (.tupE (.cons (.con (.str "only")) .nil))) .nil) .nil) (.seq (.ret (.tupE (.cons (.con (.str "by")) (.cons (.op (.bin true .sub) (.cons (.var 7) (.cons (.var 6) .nil))) .nil)))) .nil))))))))
def b_first_step_L1 : IS := (.seq (.ite (.cmp .eq (.op (.bin true .add) (.cons (.op .idx (.cons (.var 3) (.cons (.var 5) .nil))) (.cons (.op .idx (.cons (.op (.att 0 1 "prices") (.cons (.var 0) .nil)) (.cons (.var 4) .nil))) .nil))) (.op .idx (.cons (.var 3) (.cons (.var 2) .nil)))) (.seq (.ret (.tupE (.cons (.var 4) (.cons (.var 5) .nil)))) .nil) .nil) .nil)
/-- 154 first_step(graph, rooms, lot, left): 0 graph 1 rooms 2 lot 3 left 4 value 5 behind -/
def b_first_step : IS := (.seq (.for (.tp [4, 5]) (.itv (.call 108 none (.cons (.op (.att 0 0 "recipes") (.cons (.var 0) .nil)) (.cons (.var 1) (.cons (.var 2) .nil))))) b_first_step_L1) (.seq (.ret (.tupE (.cons (.con .non) (.cons (.var 2) .nil)))) .nil))
def b_descent_L1 : IS := (.seq (.asg (.tp [5, 2]) (.call 154 none (.cons (.var 0) (.cons (.var 1) (.cons (.var 2) (.cons (.var 3) .nil)))))) (.seq (.exp (.bmt (.mm .append) (.var 4) (.cons (.var 5) .nil))) .nil))
def b_descent_T1 : IE := (.cmp .gt (.op .idx (.cons (.var 3) (.cons (.var 2) .nil))) (.con (.int 0)))
/-- 155 descent(graph, rooms, lot, left): 0 graph 1 rooms 2 lot 3 left 4 program 5 value -/
def b_descent : IS := (.seq (.asg (.nm 4) (.lstE false .nil)) (.seq (.whl b_descent_T1 b_descent_L1) (.seq (.ret (.var 4)) .nil)))
/-- 156 cheapest(graph, rooms, goal, start): 0 graph 1 rooms 2 goal 3 start 4 left -/
def b_cheapest : IS := (.seq (.exp (.call 110 none (.cons (.var 0) (.cons (.var 1) (.cons (.var 2) (.cons (.var 3) .nil)))))) (.seq (.asg (.nm 4) (.call 109 none (.cons (.op (.att 0 0 "recipes") (.cons (.var 0) .nil)) (.cons (.op (.att 0 1 "prices") (.cons (.var 0) .nil)) (.cons (.var 1) (.cons (.var 2) .nil)))))) (.seq (.ite (.cmp .notin (.var 3) (.var 4)) (.seq (.ret (.con .non)) .nil) .nil) (.seq (.ret (.call 155 none (.cons (.var 0) (.cons (.var 1) (.cons (.var 3) (.cons (.var 4) .nil)))))) .nil))))
/-- 157 lots_at(graph, rooms, diary, moment, start): 0 graph 1 rooms 2 diary 3 moment 4 start 5 layers 6 alive 7 layer 8 lot 9 value 10 behind -/
def b_lots_at : IS := (.seq (.exp (.call 127 none (.cons (.var 0) (.cons (.var 1) (.cons (.var 2) (.cons (.var 4) .nil)))))) (.seq (.ite (.or (.not (.call 1 none (.cons (.var 3) .nil))) (.not (.chain .le .le (.con (.int 0)) (.var 3) (.op (.bi true .len) (.cons (.var 2) .nil))))) (.seq .unk .nil) .nil) (.seq (.asg (.nm 5) (.call 129 none (.cons (.var 0) (.cons (.var 1) (.cons (.var 2) (.cons (.var 4) .nil)))))) (.seq (.asg (.nm 6) (.op .idx (.cons (.var 5) (.cons (.op .neg (.cons (.con (.int 1)) .nil)) .nil)))) (.seq .unk (.seq (.ret (.op (.bi false .sortk) (.cons (.var 6) .nil))) .nil))))))
/-- 158 is_table(graph, rooms, thing): 0 graph 1 rooms 2 thing 3 lot 4 height -/
def b_is_table : IS := (.seq (.ite (.not (.op (.isi .dict) (.cons (.var 2) .nil))) (.seq (.ret (.con (.bl false))) .nil) .nil) (.seq .unk (.seq (.ret (.con (.bl true))) .nil)))
def b_steep_deed_L1 : IS := (.seq (.ite (.cmp .gt (.op (.bin true .sub) (.cons (.op .idx (.cons (.var 2) (.cons (.var 6) .nil))) (.cons (.op .idx (.cons (.var 2) (.cons (.var 4) .nil))) .nil))) (.op .idx (.cons (.op (.att 0 1 "prices") (.cons (.var 0) .nil)) (.cons (.var 5) .nil)))) (.seq (.ret (.tupE (.cons (.var 4) (.cons (.var 5) .nil)))) .nil) .nil) .nil)
def b_steep_deed_L2 : IS := (.seq (.for (.tp [5, 6]) (.itv (.call 108 none (.cons (.op (.att 0 0 "recipes") (.cons (.var 0) .nil)) (.cons (.var 1) (.cons (.var 4) .nil))))) b_steep_deed_L1) .nil)
/-- 159 steep_deed(graph, rooms, table, lots): 0 graph 1 rooms 2 table 3 lots 4 lot 5 value 6 behind -/
def b_steep_deed : IS := (.seq (.for (.nm 4) (.itv (.var 3)) b_steep_deed_L2) (.seq (.ret (.con .non)) .nil))
def b_heights_fault_L1 : IS := (.seq (.ite (.cmp .notin (.var 7) (.var 4)) (.seq (.ret (.tupE (.cons (.con (.str "lacks")) (.cons (.var 7) .nil)))) .nil) .nil) .nil)
/-- 160 heights_fault(graph, rooms, goal, value, table, start): 0 graph 1 rooms 2 goal 3 value 4 table 5 start 6 lots 7 lot 8 steep -/
def b_heights_fault : IS := (.seq (.exp (.call 110 none (.cons (.var 0) (.cons (.var 1) (.cons (.var 2) (.cons (.var 5) .nil)))))) (.seq (.ite (.not (.call 1 none (.cons (.var 3) .nil))) (.seq .unk .nil) .nil) (.seq (.ite (.not (.call 158 none (.cons (.var 0) (.cons (.var 1) (.cons (.var 4) .nil))))) (.seq (.ret (.tupE (.cons (.con (.str "form")) .nil))) .nil) .nil) (.seq (.asg (.nm 6) (.op (.bi true .sortk) (.cons (.call 109 none (.cons (.op (.att 0 0 "recipes") (.cons (.var 0) .nil)) (.cons (.op (.att 0 1 "prices") (.cons (.var 0) .nil)) (.cons (.var 1) (.cons (.var 5) .nil))))) .nil))) (.seq (.for (.nm 7) (.itv (.var 6)) b_heights_fault_L1) (.seq .unk (.seq (.ite (.or (.cmp .notin (.var 2) (.var 6)) (.cmp .lt (.op (.bin true .sub) (.cons (.op .idx (.cons (.var 4) (.cons (.var 2) .nil))) (.cons (.op .idx (.cons (.var 4) (.cons (.var 5) .nil))) .nil))) (.var 3))) (.seq (.ret (.tupE (.cons (.con (.str "goal")) .nil))) .nil) .nil) (.seq (.ret (.con .non)) .nil))))))))
/-- 161 wish_program(graph, rooms, wish, may, start): 0 graph 1 rooms 2 wish 3 may 4 start 5 found 6 left -/
def b_wish_program : IS := (.seq (.asg (.nm 5) (.call 162 none (.cons (.var 0) (.cons (.var 1) (.cons (.var 2) (.cons (.var 3) (.cons (.var 4) .nil))))))) (.seq (.ite (.not (.var 5)) (.seq (.ret (.con .non)) .nil) .nil) (.seq (.asg (.nm 6) (.call 109 none (.cons (.op (.att 0 0 "recipes") (.cons (.var 0) .nil)) (.cons (.op (.att 0 1 "prices") (.cons (.var 0) .nil)) (.cons (.var 1) (.cons (.op .idx (.cons (.var 5) (.cons (.con (.int 0)) .nil))) .nil)))))) (.seq (.ret (.call 155 none (.cons (.var 0) (.cons (.var 1) (.cons (.var 4) (.cons (.var 6) .nil)))))) .nil))))
/-- 162 best_lots(graph, rooms, wish, may, start): 0 graph 1 rooms 2 wish 3 may 4 start -/
def b_best_lots : IS := (.seq (.ret (.op (.bi false .sortk) (.cons (.call 143 none (.cons (.var 0) (.cons (.var 1) (.cons (.var 2) (.cons (.var 3) (.cons (.var 4) .nil)))))) .nil))) .nil)
def b_core_L1 : IS := (.seq (.ite (.and (.cmp .gt (.op (.bi true .len) (.cons (.op .idx (.cons (.var 2) (.cons (.var 3) .nil))) .nil)) (.con (.int 1))) (.call 151 none (.cons (.var 2) (.cons (.op (.att 0 1 "prices") (.cons (.var 0) .nil)) (.cons (.var 1) (.cons (.var 3) (.cons (.var 4) .nil))))))) (.seq (.asg (.nm 2) (.call 150 none (.cons (.var 2) (.cons (.var 3) (.cons (.var 4) .nil))))) .nil) .nil) .nil)
def b_core_L2 : IS := (.seq (.for (.nm 4) (.itv (.op .idx (.cons (.op (.att 0 0 "recipes") (.cons (.var 0) .nil)) (.cons (.var 3) .nil)))) b_core_L1) .nil)
/-- 163 core(graph, rooms): 0 graph 1 rooms 2 recipes 3 value 4 recipe -/
def b_core : IS := (.seq (.exp (.call 18 none (.cons (.var 1) .nil))) (.seq (.asg (.nm 2) (.op (.att 0 0 "recipes") (.cons (.var 0) .nil))) (.seq (.for (.nm 3) (.rng1 (.op (.att 0 2 "size") (.cons (.var 0) .nil))) b_core_L2) (.seq (.ret (.make true 0 9 none (.cons (.var 2) (.cons (.op (.att 0 1 "prices") (.cons (.var 0) .nil)) .nil)))) .nil))))
/-- 164 sure_values(graph, rooms, diary, start): 0 graph 1 rooms 2 diary 3 start 4 lots 5 value 6 lot -/
def b_sure_values : IS := (.seq (.asg (.nm 4) (.call 130 none (.cons (.var 0) (.cons (.var 1) (.cons (.var 2) (.cons (.var 3) .nil)))))) (.seq (.ite (.not (.var 4)) (.seq (.ret (.con .non)) .nil) .nil) (.seq (.ret (.op (.bi true .tuple) (.cons (.lc true [5] (.nm 5) (.itv (.op .idx (.cons (.var 4) (.cons (.con (.int 0)) .nil)))) (.op (.bi true .all) (.cons (.lc true [6] (.nm 6) (.itv (.var 4)) (.con (.bl true)) (.cmp .isin (.var 5) (.var 6))) .nil)) (.var 5)) .nil))) .nil)))
/-- 165 fitting_program(graph, rooms, diary, lot, start): 0 graph 1 rooms 2 diary 3 lot 4 start 5 layers 6 program 7 layer 8 value 9 before -/
def b_fitting_program : IS := (.seq (.exp (.call 18 none (.cons (.var 1) .nil))) (.seq (.exp (.call 126 none (.cons (.var 2) .nil))) (.seq (.exp (.call 17 none (.cons (.var 0) (.cons (.var 3) .nil)))) (.seq (.exp (.call 17 none (.cons (.var 0) (.cons (.var 4) .nil)))) (.seq (.asg (.nm 5) (.call 129 none (.cons (.var 0) (.cons (.var 1) (.cons (.var 2) (.cons (.var 4) .nil)))))) (.seq (.ite (.cmp .notin (.var 3) (.op .idx (.cons (.var 5) (.cons (.op .neg (.cons (.con (.int 1)) .nil)) .nil)))) (.seq (.ret (.con .non)) .nil) .nil) (.seq (.asg (.nm 6) (.lstE false .nil)) (.seq .unk (.seq (.ret (.op (.rev false) (.cons (.var 6) .nil))) .nil)))))))))
def pkg : Nat → Option Df
  | 0 => some ⟨2, 2, .keep, b_CleanError___init__⟩
  | 1 => some ⟨1, 1, .pure, b_is_integer⟩
  | 2 => some ⟨2, 4, .pure, b_is_ascending⟩
  | 3 => some ⟨2, 2, .pure, b_is_value⟩
  | 4 => some ⟨2, 2, .pure, b_judge_value⟩
  | 5 => some ⟨2, 4, .pure, b_are_recipes_of⟩
  | 6 => some ⟨1, 3, .pure, b_are_recipes⟩
  | 7 => some ⟨2, 3, .pure, b_are_prices⟩
  | 8 => some ⟨2, 4, .pure, b_renamed⟩
  | 9 => some ⟨3, 3, .keep, b_Graph___init__⟩
  | 10 => some ⟨2, 2, .pure, b_Graph___eq__⟩
  | 11 => some ⟨2, 6, .pure, b_Graph___add__⟩
  | 12 => some ⟨2, 4, .one, b_Graph_parts_of⟩
  | 13 => some ⟨2, 3, .one, b_Graph_uses_of⟩
  | 14 => some ⟨2, 2, .pure, b_Graph_with_prices⟩
  | 15 => some ⟨2, 3, .pure, b_Graph_row⟩
  | 16 => some ⟨2, 2, .pure, b_is_lot⟩
  | 17 => some ⟨2, 2, .pure, b_judge_lot⟩
  | 18 => some ⟨1, 1, .pure, b_judge_rooms⟩
  | 19 => some ⟨2, 3, .pure, b_holds⟩
  | 20 => some ⟨3, 4, .pure, b_enabled⟩
  | 21 => some ⟨2, 3, .pure, b_toggled⟩
  | 22 => some ⟨3, 4, .keep, b_Record___init__⟩
  | 23 => some ⟨1, 1, .pure, b_is_list_of_deeds⟩
  | 24 => some ⟨1, 1, .pure, b_judge_form⟩
  | 25 => some ⟨3, 6, .keep, b_walked⟩
  | 26 => some ⟨3, 5, .one, b_judge_program⟩
  | 27 => some ⟨3, 5, .keep, b_played⟩
  | 28 => some ⟨3, 3, .keep, b_Desk___init__⟩
  | 29 => some ⟨1, 1, .pure, b_Desk_rooms⟩
  | 30 => some ⟨1, 1, .pure, b_Desk___len__⟩
  | 31 => some ⟨2, 2, .pure, b_Desk___contains__⟩
  | 32 => some ⟨3, 3, .pure, b_Desk_is_full_for⟩
  | 33 => some ⟨2, 2, .pure, b_Desk_do⟩
  | 34 => some ⟨2, 6, .pure, b_Desk_trial⟩
  | 35 => some ⟨2, 3, .pure, b_Desk___iadd__⟩
  | 36 => some ⟨3, 4, .pure, b_Graph_with_row⟩
  | 37 => some ⟨3, 4, .pure, b_Graph_with_recipe⟩
  | 38 => some ⟨3, 5, .pure, b_Graph_without_recipe⟩
  | 39 => some ⟨2, 4, .pure, b_Graph_is_closed⟩
  | 40 => some ⟨2, 6, .pure, b_Graph_restricted⟩
  | 41 => some ⟨3, 4, .one, b_ready⟩
  | 42 => some ⟨3, 3, .pure, b_can⟩
  | 43 => some ⟨3, 3, .pure, b_after⟩
  | 44 => some ⟨2, 3, .one, b_deeds⟩
  | 45 => some ⟨2, 6, .pure, b_with_parts⟩
  | 46 => some ⟨2, 5, .pure, b_lots_within⟩
  | 47 => some ⟨2, 2, .one, b_all_lots⟩
  | 48 => some ⟨3, 3, .pure, b_program_fault⟩
  | 49 => some ⟨3, 3, .one, b_back⟩
  | 50 => some ⟨3, 4, .one, b_deed_counts⟩
  | 51 => some ⟨4, 5, .one, b_kept_deeds⟩
  | 52 => some ⟨3, 8, .one, b_erased⟩
  | 53 => some ⟨3, 3, .pure, b_judge_count⟩
  | 54 => some ⟨1, 1, .pure, b_row_rooms⟩
  | 55 => some ⟨1, 1, .pure, b_visit_rooms⟩
  | 56 => some ⟨3, 3, .pure, b_put_run⟩
  | 57 => some ⟨2, 7, .pure, b_first_total⟩
  | 58 => some ⟨2, 11, .frz, b_with_one_room_more⟩
  | 59 => some ⟨2, 5, .pure, b_row_pair⟩
  | 60 => some ⟨2, 2, .pure, b_row_deeds⟩
  | 61 => some ⟨3, 9, .frz, b_merged⟩
  | 62 => some ⟨2, 6, .pure, b_visit_trio⟩
  | 63 => some ⟨2, 2, .pure, b_visit_deeds⟩
  | 64 => some ⟨3, 9, .frz, b_cut_runs⟩
  | 65 => some ⟨3, 3, .pure, b_judge_stretch⟩
  | 66 => some ⟨3, 3, .one, b_row_steps⟩
  | 67 => some ⟨3, 3, .one, b_visit_steps⟩
  | 68 => some ⟨2, 2, .one, b_row_runs⟩
  | 69 => some ⟨2, 2, .one, b_visit_runs⟩
  | 70 => some ⟨1, 3, .pure, b_how_many⟩
  | 71 => some ⟨2, 4, .pure, b_count_below⟩
  | 72 => some ⟨2, 5, .pure, b_step_at⟩
  | 73 => some ⟨3, 10, .frz, b_paired⟩
  | 74 => some ⟨4, 6, .pure, b_best_cuts⟩
  | 75 => some ⟨2, 4, .pure, b_cuts_of_row⟩
  | 76 => some ⟨2, 5, .pure, b_cuts_of_visit⟩
  | 77 => some ⟨2, 2, .pure, b_row_cuts⟩
  | 78 => some ⟨2, 2, .pure, b_visit_cuts⟩
  | 79 => some ⟨2, 5, .pure, b_row_walk⟩
  | 80 => some ⟨2, 4, .pure, b_visit_walk⟩
  | 81 => some ⟨2, 2, .one, b_row_program⟩
  | 82 => some ⟨2, 2, .one, b_visit_program⟩
  | 83 => some ⟨2, 7, .pure, b_reach_of⟩
  | 84 => some ⟨2, 2, .pure, b_row_reach⟩
  | 85 => some ⟨2, 2, .pure, b_visit_reach⟩
  | 86 => some ⟨2, 3, .pure, b_row_saves⟩
  | 87 => some ⟨1, 1, .pure, b_judge_rooms_87⟩
  | 88 => some ⟨2, 2, .pure, b_row_deeds_88⟩
  | 89 => some ⟨2, 2, .pure, b_visit_deeds_89⟩
  | 90 => some ⟨3, 3, .one, b_row_steps_90⟩
  | 91 => some ⟨3, 3, .one, b_visit_steps_91⟩
  | 92 => some ⟨2, 2, .one, b_row_runs_92⟩
  | 93 => some ⟨2, 2, .one, b_visit_runs_93⟩
  | 94 => some ⟨2, 2, .pure, b_row_cuts_94⟩
  | 95 => some ⟨2, 2, .pure, b_visit_cuts_95⟩
  | 96 => some ⟨2, 2, .one, b_row_program_96⟩
  | 97 => some ⟨2, 2, .one, b_visit_program_97⟩
  | 98 => some ⟨2, 2, .pure, b_row_reach_98⟩
  | 99 => some ⟨2, 2, .pure, b_visit_reach_99⟩
  | 100 => some ⟨2, 3, .pure, b_row_saves_100⟩
  | 101 => some ⟨1, 1, .one, b_Desk_done⟩
  | 102 => some ⟨1, 2, .pure, b_Desk_undo⟩
  | 103 => some ⟨2, 2, .pure, b_Desk_change_rooms⟩
  | 104 => some ⟨2, 3, .pure, b_Desk_watch⟩
  | 105 => some ⟨2, 5, .pure, b_heappush⟩
  | 106 => some ⟨2, 4, .pure, b_least_place⟩
  | 107 => some ⟨1, 6, .pure, b_heappop⟩
  | 108 => some ⟨3, 6, .frz, b_neighbours⟩
  | 109 => some ⟨4, 10, .one, b_distances⟩
  | 110 => some ⟨4, 4, .pure, b_judge_ends⟩
  | 111 => some ⟨4, 4, .pure, b_least⟩
  | 112 => some ⟨4, 6, .pure, b_steps_down⟩
  | 113 => some ⟨3, 8, .pure, b_ways_to⟩
  | 114 => some ⟨5, 11, .one, b_at⟩
  | 115 => some ⟨2, 4, .pure, b_Desk_go⟩
  | 116 => some ⟨1, 2, .pure, b_lot_words⟩
  | 117 => some ⟨1, 5, .pure, b_graph_text⟩
  | 118 => some ⟨1, 1, .pure, b_digit⟩
  | 119 => some ⟨1, 2, .pure, b_lot_of⟩
  | 120 => some ⟨1, 7, .pure, b_graph_from⟩
  | 121 => some ⟨2, 2, .pure, b_lot_text⟩
  | 122 => some ⟨2, 4, .pure, b_program_text⟩
  | 123 => some ⟨2, 3, .pure, b_lot_from⟩
  | 124 => some ⟨2, 5, .one, b_program_from⟩
  | 125 => some ⟨4, 13, .pure, b_number_of⟩
  | 126 => some ⟨1, 3, .pure, b_judge_diary⟩
  | 127 => some ⟨4, 4, .pure, b_judge_told⟩
  | 128 => some ⟨4, 13, .one, b_layer_behind⟩
  | 129 => some ⟨4, 6, .frz, b_layers_of⟩
  | 130 => some ⟨4, 4, .one, b_lots_that_fit⟩
  | 131 => some ⟨4, 4, .pure, b_can_be⟩
  | 132 => some ⟨3, 3, .one, b_reached⟩
  | 133 => some ⟨3, 3, .pure, b_reach_count⟩
  | 134 => some ⟨3, 4, .pure, b_fewest_rooms⟩
  | 135 => some ⟨3, 6, .one, b_ladder⟩
  | 136 => some ⟨2, 6, .pure, b_part_count⟩
  | 137 => some ⟨3, 6, .pure, b_far⟩
  | 138 => some ⟨4, 6, .pure, b_count⟩
  | 139 => some ⟨4, 6, .pure, b_count_fit⟩
  | 140 => some ⟨4, 6, .pure, b_least_fit⟩
  | 141 => some ⟨5, 5, .pure, b_judge_wish⟩
  | 142 => some ⟨3, 4, .pure, b_satisfies⟩
  | 143 => some ⟨5, 9, .one, b_best_prices⟩
  | 144 => some ⟨5, 5, .pure, b_least_wish⟩
  | 145 => some ⟨4, 5, .one, b_barrier⟩
  | 146 => some ⟨3, 3, .pure, b_fits_rooms⟩
  | 147 => some ⟨5, 11, .pure, b_barrier_fault⟩
  | 148 => some ⟨3, 3, .one, b_heights⟩
  | 149 => some ⟨3, 3, .pure, b_judge_recipe⟩
  | 150 => some ⟨3, 5, .pure, b_struck⟩
  | 151 => some ⟨5, 6, .pure, b_is_needless⟩
  | 152 => some ⟨4, 4, .pure, b_needless⟩
  | 153 => some ⟨6, 8, .pure, b_helps⟩
  | 154 => some ⟨4, 6, .pure, b_first_step⟩
  | 155 => some ⟨4, 6, .one, b_descent⟩
  | 156 => some ⟨4, 5, .one, b_cheapest⟩
  | 157 => some ⟨5, 11, .one, b_lots_at⟩
  | 158 => some ⟨3, 5, .pure, b_is_table⟩
  | 159 => some ⟨4, 7, .pure, b_steep_deed⟩
  | 160 => some ⟨6, 9, .pure, b_heights_fault⟩
  | 161 => some ⟨5, 7, .one, b_wish_program⟩
  | 162 => some ⟨5, 5, .one, b_best_lots⟩
  | 163 => some ⟨2, 5, .pure, b_core⟩
  | 164 => some ⟨4, 7, .pure, b_sure_values⟩
  | 165 => some ⟨5, 10, .one, b_fitting_program⟩
  | _ => none
end N9

set_option Elab.async false
set_option linter.all false
set_option maxRecDepth 100000
namespace N9
open PySem PySem.Spec L2
/-! ## equations of the evaluator; nr: no proof by rfl in simp's eyes (the kernel would unfold the evaluator, at exponential cost) -/
theorem nr {α : Sort _} {a b : α} (h : a = b) : a = b := h
section
variable {c : Oracle} {W : Nat} {e : Env} {t : Bool} {h : Hm}
@[simp] theorem bind_ok' {α β : Type} {a : α} {f : α → Hm → Re β} : (Re.ok a h).bind f = f a h := nr rfl
@[simp] theorem bind_exc' {α β : Type} {k : Nat} {w : D} {f : α → Hm → Re β} : (Re.exc k w h).bind f = .exc k w h := nr rfl
@[simp] theorem fin_f {r : Re D} : fin false r = r := nr rfl
@[simp] theorem fin_t {d : D} : fin true (.ok d h) = ofB (d.truth h) h := nr rfl
@[simp] theorem fin_bl {b : Bool} : fin t (.ok (.bl b) h) = .ok (.bl b) h := by cases t <;> rfl
@[simp] theorem fin_exc {k : Nat} {w : D} : fin t (.exc k w h) = .exc k w h := by cases t <;> rfl
@[simp] theorem fl_ok {α : Type} {a : α} {f : α → Hm → Fl} : (Re.ok a h).fl e f = f a h := nr rfl
@[simp] theorem fl_exc {α : Type} {k : Nat} {w : D} {f : α → Hm → Fl} : (Re.exc k w h).fl e f = .exc k w e h := nr rfl
@[simp] theorem then_nx {f : Env → Hm → Fl} : (Fl.nx e h).then f = f e h := nr rfl
@[simp] theorem then_ret {d : D} {f : Env → Hm → Fl} : (Fl.ret d h).then f = .ret d h := nr rfl
@[simp] theorem then_brk {f : Env → Hm → Fl} : (Fl.brk e h).then f = .brk e h := nr rfl
@[simp] theorem then_ct {f : Env → Hm → Fl} : (Fl.ct e h).then f = .ct e h := nr rfl
@[simp] theorem then_exc {k : Nat} {w : D} {f : Env → Hm → Fl} : (Fl.exc k w e h).then f = .exc k w e h := nr rfl
theorem ite_then {p : Prop} [Decidable p] {a b : Fl} {f : Env → Hm → Fl} : (if p then a else b).then f = if p then a.then f else b.then f := by split <;> rfl
@[simp] theorem ofO_some {d : D} : ofO (some d) h = .ok d h := nr rfl
@[simp] theorem ofB_some {b : Bool} : ofB (some b) h = .ok (.bl b) h := nr rfl
@[simp] theorem ofE_some : ofE (some e) h = .nx e h := nr rfl
@[simp] theorem ev_con {d : D} : ev c (.con d) t e h = fin t (.ok d h) := nr rfl
@[simp] theorem ev_gl {x : String} {d : D} : ev c (.gl x d) t e h = fin t (.ok d h) := nr rfl
@[simp] theorem ev_var {i : Nat} : ev c (.var i) t e h = fin t (match e[i]? with | some (some d) => .ok d h | _ => .stk) := nr rfl
@[simp] theorem ev_tup {as : IE} : ev c (.tupE as) t e h = fin t ((evA c as e h).bind fun ds h1 => if ds.length ≤ sizeLine then .ok (.tup ds) h1 else .stk) := nr rfl
@[simp] theorem ev_lst {z : Bool} {as : IE} : ev c (.lstE z as) t e h = fin t ((evA c as e h).bind fun ds h1 => if ds.length ≤ sizeLine then mkL z ds h1 else .stk) := nr rfl
@[simp] theorem ev_op {p : Pn} {as : IE} : ev c (.op p as) t e h = fin t ((evA c as e h).bind fun ds h1 => pr p ds h1) := nr rfl
@[simp] theorem ev_bmt {p : Pn} {o as : IE} : ev c (.bmt p o as) t e h = fin t ((ev c o false e h).bind fun x h1 => if kindOk p h1 x then (evA c as e h1).bind fun ds h2 => pr p (x :: ds) h2 else .stk) := nr rfl
@[simp] theorem ev_slc2 {z : Bool} {a lo hi : IE} : ev c (.slc2 z a lo hi) t e h = fin t ((ev c a false e h).bind fun x h1 => (ev c lo false e h1).bind fun y h2 => match partD y with
    | some y => (ev c hi false e h2).bind fun w h3 => match partD w with
      | some w => slcD z x y w h3
      | none => .stk
    | none => .stk) := nr rfl
@[simp] theorem ev_cmp {o : Cop} {a b : IE} : ev c (.cmp o a b) t e h = (ev c a false e h).bind fun x h1 => (ev c b false e h1).bind fun y h2 => ofB (cmpD o h2 x y) h2 := nr rfl
@[simp] theorem ev_chain {o o' : Cop} {a b d : IE} : ev c (.chain o o' a b d) t e h = (ev c a false e h).bind fun x h1 => (ev c b false e h1).bind fun y h2 => match cmpD o h2 x y with
    | some true => (ev c d false e h2).bind fun z h3 => ofB (cmpD o' h3 y z) h3
    | some false => .ok (.bl false) h2
    | none => .stk := nr rfl
@[simp] theorem ev_notT {a : IE} : ev c (.not a) true e h = (ev c a true e h).bind fun x h1 => match x with
    | .bl b => .ok (.bl (!b)) h1
    | _ => .stk := nr rfl
@[simp] theorem ev_notF {a : IE} : ev c (.not a) false e h = (ev c a false e h).bind fun x h1 => ofB ((x.truth h1).map (!·)) h1 := nr rfl
@[simp] theorem ev_and {a b : IE} : ev c (.and a b) t e h = (ev c a t e h).bind fun x h1 => match x with
    | .bl true => (ev c b t e h1).bind fun y h2 => match y with
      | .bl k => .ok (.bl k) h2
      | _ => .stk
    | .bl false => .ok (.bl false) h1
    | _ => .stk := nr rfl
@[simp] theorem ev_or {a b : IE} : ev c (.or a b) t e h = (ev c a t e h).bind fun x h1 => match x with
    | .bl true => .ok (.bl true) h1
    | .bl false => (ev c b t e h1).bind fun y h2 => match y with
      | .bl k => .ok (.bl k) h2
      | _ => .stk
    | _ => .stk := nr rfl
@[simp] theorem ev_ite {q a b : IE} : ev c (.ite q a b) t e h = (ev c q true e h).bind fun x h1 => match x with
    | .bl true => ev c a t e h1
    | .bl false => ev c b t e h1
    | _ => .stk := nr rfl
@[simp] theorem ev_call {f : Nat} {p : Pm} {as : IE} : ev c (.call f p as) t e h = fin t ((evA c as e h).bind fun ds h1 => match permD p ds with
    | some args => c.call f args h1
    | none => .stk) := nr rfl
@[simp] theorem ev_meth {cl : Nat} {m : String} {f : Nat} {p : Pm} {o as : IE} : ev c (.meth cl m f p o as) t e h = fin t ((ev c o false e h).bind fun x h1 => if insOk cl h1 x then (evA c as e h1).bind fun ds h2 => match permD p (x :: ds) with
    | some args => c.call f args h2
    | none => .stk
    else .stk) := nr rfl
@[simp] theorem ev_make {z : Bool} {cl f : Nat} {p : Pm} {as : IE} : ev c (.make z cl f p as) t e h = fin t ((evA c as e h).bind fun ds h1 => match permD p (.ref h1.length :: ds) with
    | some args => (c.make f args (h1 ++ [.ins cl []])).bind fun r h2 => match r with
      | .non => gcR (if z then .frz else .keep) h1 (.ref h1.length) h2
      | _ => .stk
    | none => .stk) := nr rfl
theorem ev_lc {z : Bool} {own : List Nat} {tg : Tg} {it cond elt : IE} : ev c (.lc z own tg it cond elt) t e h = fin t ((evI c it e h).bind fun its h1 => match cloop its.g (fun d => bindT (wipeE e own) tg d) (fun e h => ev c cond true e h) (fun e h => ev c elt false e h) h1.length its.l (h1 ++ [.lst []]) with
    | some h3 => gcR (if z then .frz else .keep) h1 (.ref h1.length) h3
    | none => .stk) := nr rfl
theorem evI_rng1 {a : IE} : evI c (.rng1 a) e h = (ev c a false e h).bind fun x h1 => match x with
    | .int b => if rngOk 0 b then .ok ⟨rngL 0 b.toNat, fun _ => True⟩ h1 else .stk
    | _ => .stk := nr rfl
theorem evI_rng2 {a b : IE} : evI c (.rng2 a b) e h = (ev c a false e h).bind fun x h1 => (ev c b false e h1).bind fun y h2 => match x, y with
    | .int i, .int j => if rngOk i j then .ok ⟨rngL i (j - i).toNat, fun _ => True⟩ h2 else .stk
    | _, _ => .stk := nr rfl
@[simp] theorem evI_enm {a : IE} : evI c (.enm a) e h = (ev c a false e h).bind fun x h1 => match itV x h1 with
    | some its => .ok ⟨enmL 0 its.l, its.g⟩ h1
    | none => .stk := nr rfl
@[simp] theorem evI_itv {a : IE} : evI c (.itv a) e h = (ev c a false e h).bind fun x h1 => match itV x h1 with
    | some i => .ok i h1
    | none => .stk := nr rfl
@[simp] theorem evA_nil : evA c .nil e h = .ok [] h := nr rfl
@[simp] theorem evA_cons {a r : IE} : evA c (.cons a r) e h = (ev c a false e h).bind fun d h1 => (evA c r e h1).bind fun ds h2 => .ok (d :: ds) h2 := nr rfl
@[simp] theorem evA_star {a r : IE} : evA c (.star a r) e h = (ev c a false e h).bind fun d h1 => match seqD h1 d with
    | some l => (evA c r e h1).bind fun ds h2 => .ok (l ++ ds) h2
    | none => .stk := nr rfl

/-! statements -/
@[simp] theorem ex_nil : ex c W .nil e h = .nx e h := nr rfl
@[simp] theorem ex_pass : ex c W .pass e h = .nx e h := nr rfl
@[simp] theorem ex_brk : ex c W .brk e h = .brk e h := nr rfl
@[simp] theorem ex_cont : ex c W .cont e h = .ct e h := nr rfl
@[simp] theorem ex_seq {a b : IS} : ex c W (.seq a b) e h = (ex c W a e h).then (ex c W b) := nr rfl
@[simp] theorem ex_asg {tg : Tg} {v : IE} : ex c W (.asg tg v) e h = (ev c v false e h).fl e fun d h1 => ofE (bindT e tg d) h1 := nr rfl
@[simp] theorem ex_asgs {is : List Nat} {v : IE} : ex c W (.asgs is v) e h = (ev c v false e h).fl e fun d h1 => ofE (setSls e is (is.map fun _ => d)) h1 := nr rfl
@[simp] theorem ex_par {is : List Nat} {vs : IE} : ex c W (.par is vs) e h = (evA c vs e h).fl e fun ds h1 => ofE (setSls e is ds) h1 := nr rfl
@[simp] theorem ex_setI {o k v : IE} : ex c W (.setI o k v) e h = (ev c v false e h).fl e fun d h1 => (ev c o false e h1).fl e fun x h2 => (ev c k false e h2).fl e fun y h3 => match setK h3 x y d with
    | some h4 => .nx e h4
    | none => .stk := nr rfl
@[simp] theorem ex_setA {cl i : Nat} {f : String} {o v : IE} : ex c W (.setA cl i f o v) e h = (ev c v false e h).fl e fun d h1 => (ev c o false e h1).fl e fun x h2 => match x with
    | .ref n => match h2[n]? with
      | some (.ins c' fs) => if c' = cl then match setF fs i d with
          | some fs' => .nx e (h2.set n (.ins cl fs'))
          | none => .stk
        else .stk
      | _ => .stk
    | _ => .stk := nr rfl
@[simp] theorem ex_aug {i : Nat} {o : Bop} {v : IE} : ex c W (.aug i o v) e h = (match e[i]? with
    | some (some d0) => (ev c v false e h).fl e fun d h1 => match augD o d0 d h1 with
      | some (r, h2) => ofE (setSl e i r) h2
      | none => .stk
    | _ => .stk) := nr rfl
@[simp] theorem ex_exp {v : IE} : ex c W (.exp v) e h = (ev c v false e h).fl e fun _ h1 => .nx e h1 := nr rfl
@[simp] theorem ex_ret {v : IE} : ex c W (.ret v) e h = (ev c v false e h).fl e fun d h1 => .ret d h1 := nr rfl
@[simp] theorem ex_retN : ex c W .retN e h = .ret .non h := nr rfl
@[simp] theorem ex_ite {q : IE} {a b : IS} : ex c W (.ite q a b) e h = (ev c q true e h).fl e fun x h1 => match x with
    | .bl true => ex c W a e h1
    | .bl false => ex c W b e h1
    | _ => .stk := nr rfl
/-- a for's loop, a while's loop -/
noncomputable def forL (c : Oracle) (W : Nat) (g : Hm → Prop) (tg : Tg) (b : IS) (l : List D) (e : Env) (h : Hm) : Fl := floop g (fun e d => bindT e tg d) (fun e h => ex c W b e h) l e h
noncomputable def whlL (c : Oracle) (W : Nat) (q : IE) (b : IS) (n : Nat) (e : Env) (h : Hm) : Fl := wloop (fun e h => ev c q true e h) (fun e h => ex c W b e h) n e h
@[simp] theorem ex_whl {q : IE} {b : IS} : ex c W (.whl q b) e h = whlL c W q b W e h := nr rfl
@[simp] theorem ex_for {tg : Tg} {it : IE} {b : IS} : ex c W (.for tg it b) e h = (evI c it e h).fl e fun its h1 => forL c W its.g tg b its.l e h1 := nr rfl
@[simp] theorem ex_rais {cl : Nat} {v : IE} : ex c W (.rais cl v) e h = (ev c v false e h).fl e fun d h1 => .exc cl d e h1 := nr rfl
open Classical in
theorem forL_nil {g : Hm → Prop} {tg : Tg} {b : IS} (hg : g h) : forL c W g tg b [] e h = .nx e h := by show (if _ then _ else _) = _; rw [if_pos hg]
open Classical in
theorem forL_cons {g : Hm → Prop} {tg : Tg} {b : IS} {d : D} {ds : List D} (hg : g h) : forL c W g tg b (d :: ds) e h = (match bindT e tg d with
    | none => .stk
    | some e1 => match ex c W b e1 h with
      | .nx e2 h2 => forL c W g tg b ds e2 h2
      | .ct e2 h2 => forL c W g tg b ds e2 h2
      | .brk e2 h2 => .nx e2 h2
      | r => r) := by show (if _ then _ else _) = _; rw [if_pos hg]; rfl
/-- the free walk -/
@[simp] theorem forT_nil {tg : Tg} {b : IS} : forL c W (fun _ => True) tg b [] e h = .nx e h := forL_nil trivial
@[simp] theorem forT_cons {tg : Tg} {b : IS} {d : D} {ds : List D} : forL c W (fun _ => True) tg b (d :: ds) e h = (match bindT e tg d with
    | none => .stk
    | some e1 => match ex c W b e1 h with
      | .nx e2 h2 => forL c W (fun _ => True) tg b ds e2 h2
      | .ct e2 h2 => forL c W (fun _ => True) tg b ds e2 h2
      | .brk e2 h2 => .nx e2 h2
      | r => r) := forL_cons trivial
theorem whlL_succ {q : IE} {b : IS} {n : Nat} : whlL c W q b (n + 1) e h = (ev c q true e h).fl e fun x h1 => match x with
    | .bl true => match ex c W b e h1 with
      | .nx e2 h2 => whlL c W q b n e2 h2
      | .ct e2 h2 => whlL c W q b n e2 h2
      | .brk e2 h2 => .nx e2 h2
      | r => r
    | .bl false => .nx e h1
    | _ => .stk := nr rfl

/-! primitives -/
@[simp] theorem pr_bin {z : Bool} {o : Bop} {a b : D} : pr (.bin z o) [a, b] h = binD z o a b h := nr rfl
@[simp] theorem pr_neg {i : Int} : pr .neg [.int i] h = .ok (.int (-i)) h := nr rfl
@[simp] theorem pr_idx {a i : D} : pr .idx [a, i] h = ofO (idxD h a i) h := nr rfl
@[simp] theorem pr_slcL {z : Bool} {a : D} {i : Int} : pr (.slc z true false) [a, .int i] h = slcD z a (some i) none h := nr rfl
@[simp] theorem pr_slcH {z : Bool} {a : D} {i : Int} : pr (.slc z false true) [a, .int i] h = slcD z a none (some i) h := nr rfl
@[simp] theorem pr_slcN {z : Bool} {a : D} : pr (.slc z false false) [a] h = slcD z a none none h := nr rfl
@[simp] theorem pr_rev {z : Bool} {a : D} : pr (.rev z) [a] h = mkO z ((listD h a).map List.reverse) h := nr rfl
@[simp] theorem pr_bi {z : Bool} {f : Bi} {ds : List D} : pr (.bi z f) ds h = biD z f ds h := nr rfl
@[simp] theorem pr_bits {i : Int} : pr .bits [.int i] h = .ok (.int (Builtin.Int.intBits i : Nat)) h := nr rfl
@[simp] theorem pr_mm {m : Mm} {ds : List D} : pr (.mm m) ds h = mmD m ds h := nr rfl
@[simp] theorem pr_dnew {b : Bool} : pr (.dnew b) [] h = .ok (.ref h.length) (h ++ [if b then .dt [] else .dk []]) := nr rfl
@[simp] theorem pr_get1 {a k : D} : pr .get1 [a, k] h = ofO ((dgD h a k).map fun o => o.getD .non) h := nr rfl
@[simp] theorem pr_get2 {a k d : D} : pr .get2 [a, k, d] h = ofO ((dgD h a k).map fun o => o.getD d) h := nr rfl
@[simp] theorem pr_attI {k k' i : Nat} {f : String} {fs : List D} : pr (.att k i f) [.ins k' fs] h = if k = k' then ofO fs[i]? h else .stk := nr rfl
@[simp] theorem pr_attR {k i n : Nat} {f : String} : pr (.att k i f) [.ref n] h = (match gt h n with
    | some (.ins c' fs) => if k = c' then ofO fs[i]? h else .stk
    | _ => .stk) := nr rfl
@[simp] theorem pr_isi {k : Tk} {d : D} : pr (.isi k) [d] h = ofB (isiD k h d) h := nr rfl
@[simp] theorem pr_lrng {z : Bool} {i j : Int} : pr (.lrng z) [.int i, .int j] h = if rngOk i j && decide ((j - i).toNat ≤ sizeLine) then mkL z (rngL i (j - i).toNat) h else .stk := nr rfl
@[simp] theorem kind_mm {m : Mm} {n : Nat} : kindOk (.mm m) h (.ref n) = (match gt h n with | some (.lst _) => true | _ => false) := nr rfl
@[simp] theorem kind_g1 {n : Nat} : kindOk .get1 h (.ref n) = (match gt h n with | some (.dk _) => true | some (.dt _) => true | _ => false) := nr rfl
@[simp] theorem kind_g2 {n : Nat} : kindOk .get2 h (.ref n) = (match gt h n with | some (.dk _) => true | some (.dt _) => true | _ => false) := nr rfl
@[simp] theorem bin_int {z : Bool} {o : Bop} {i j : Int} : binD z o (.int i) (.int j) h = ofO ((binI o i j).map .int) h := nr rfl
@[simp] theorem bi_add {i j : Int} : binI .add i j = some (i + j) := nr rfl
@[simp] theorem bi_sub {i j : Int} : binI .sub i j = some (i - j) := nr rfl
@[simp] theorem bi_mul {i j : Int} : binI .mul i j = if smallMul i j then some (i * j) else none := nr rfl
@[simp] theorem bi_fdiv {i j : Int} : binI .fdiv i j = if 0 < j ∧ j < 1073741824 then some (i / j) else none := by show @ite _ _ (Classical.propDecidable _) _ _ = _; congr
@[simp] theorem bi_mod {i j : Int} : binI .mod i j = if 0 < j then some (i % j) else none := by show @ite _ _ (Classical.propDecidable _) _ _ = _; congr
@[simp] theorem bi_pow {i j : Int} : binI .pow i j = if 0 ≤ j ∧ j ≤ 1000000 ∧ i.natAbs < 2 ^ 64 then some (i ^ j.toNat) else none := by show @ite _ _ (Classical.propDecidable _) _ _ = _; congr
@[simp] theorem bi_shl {i j : Int} : binI .shl i j = if 0 ≤ j ∧ j ≤ 1000000 ∧ i.natAbs < 2 ^ 64 then some (i * 2 ^ j.toNat) else none := by show @ite _ _ (Classical.propDecidable _) _ _ = _; congr
@[simp] theorem bi_shr {i j : Int} : binI .shr i j = if 0 ≤ j then some (i / 2 ^ j.toNat) else none := by show @ite _ _ (Classical.propDecidable _) _ _ = _; congr
@[simp] theorem bi_band {i j : Int} : binI .band i j = some (Builtin.bitAnd i j) := nr rfl
@[simp] theorem bin_tt {z : Bool} {x y : List D} : binD z .add (.tup x) (.tup y) h = if x.length + y.length ≤ sizeLine then .ok (.tup (x ++ y)) h else .stk := nr rfl
@[simp] theorem bin_ti {z : Bool} {x : List D} {j : Int} : binD z .mul (.tup x) (.int j) h = if -1000 ≤ j ∧ j ≤ 1000 ∧ x.length ≤ 1000 then .ok (.tup (List.replicate j.toNat x).flatten) h else .stk := nr rfl
@[simp] theorem bin_ll {z : Bool} {x y : List D} : binD z .add (.lst x) (.lst y) h = if x.length + y.length ≤ sizeLine then mkL z (x ++ y) h else .stk := nr rfl
@[simp] theorem bin_lr {z : Bool} {x : List D} {n : Nat} : binD z .add (.lst x) (.ref n) h = (match listD h (.ref n) with | some y => if x.length + y.length ≤ sizeLine then mkL z (x ++ y) h else .stk | none => .stk) := by show (match listD h (.lst x), listD h (.ref n) with | some x, some y => _ | _, _ => _) = _; show (match some x, listD h (.ref n) with | some x, some y => _ | _, _ => _) = _; cases listD h (.ref n) <;> rfl
@[simp] theorem bin_rl {z : Bool} {y : List D} {n : Nat} : binD z .add (.ref n) (.lst y) h = (match listD h (.ref n) with | some x => if x.length + y.length ≤ sizeLine then mkL z (x ++ y) h else .stk | none => .stk) := by show (match listD h (.ref n), some y with | some x, some y => _ | _, _ => _) = _; cases listD h (.ref n) <;> rfl
@[simp] theorem bin_rr {z : Bool} {m n : Nat} : binD z .add (.ref m) (.ref n) h = (match listD h (.ref m), listD h (.ref n) with | some x, some y => if x.length + y.length ≤ sizeLine then mkL z (x ++ y) h else .stk | _, _ => .stk) := nr rfl
@[simp] theorem bin_li {z : Bool} {x : List D} {j : Int} : binD z .mul (.lst x) (.int j) h = if 0 ≤ j ∧ j ≤ sizeLine ∧ x.length * j.toNat ≤ sizeLine then mkL z (List.replicate j.toNat x).flatten h else .stk := nr rfl
@[simp] theorem mkL_t {l : List D} : mkL true l h = .ok (.lst l) h := nr rfl
@[simp] theorem mkL_f {l : List D} : mkL false l h = .ok (.ref h.length) (h ++ [.lst l]) := nr rfl
@[simp] theorem mkO_s {z : Bool} {l : List D} : mkO z (some l) h = mkL z l h := nr rfl
@[simp] theorem listD_l {l : List D} : listD h (.lst l) = some l := nr rfl
@[simp] theorem listD_r {n : Nat} : listD h (.ref n) = (match gt h n with | some (.lst l) => some l | _ => none) := nr rfl
@[simp] theorem seqD_t {l : List D} : seqD h (.tup l) = some l := nr rfl
@[simp] theorem seqD_s {l : List Int} : seqD h (.scr l) = some (l.map .int) := nr rfl
@[simp] theorem seqD_l {l : List D} : seqD h (.lst l) = some l := nr rfl
@[simp] theorem seqD_r {n : Nat} : seqD h (.ref n) = listD h (.ref n) := nr rfl
@[simp] theorem cmp_eq {a b : D} : cmpD .eq h a b = D.eqv h a b := nr rfl
@[simp] theorem cmp_ne {a b : D} : cmpD .ne h a b = (D.eqv h a b).map (!·) := nr rfl
@[simp] theorem cmp_lt {i j : Int} : cmpD .lt h (.int i) (.int j) = some (decide (i < j)) := nr rfl
@[simp] theorem cmp_le {i j : Int} : cmpD .le h (.int i) (.int j) = some (decide (i ≤ j)) := nr rfl
@[simp] theorem cmp_gt {i j : Int} : cmpD .gt h (.int i) (.int j) = some (decide (j < i)) := nr rfl
@[simp] theorem cmp_ge {i j : Int} : cmpD .ge h (.int i) (.int j) = some (decide (j ≤ i)) := nr rfl
@[simp] theorem isn_non : cmpD .isn h .non .non = some true := nr rfl
@[simp] theorem notn_non : cmpD .notn h .non .non = some false := nr rfl
@[simp] theorem isn_bl {b : Bool} : cmpD .isn h (.bl b) .non = some false := nr rfl
@[simp] theorem notn_bl {b : Bool} : cmpD .notn h (.bl b) .non = some true := nr rfl
@[simp] theorem isn_int {i : Int} : cmpD .isn h (.int i) .non = some false := nr rfl
@[simp] theorem notn_int {i : Int} : cmpD .notn h (.int i) .non = some true := nr rfl
@[simp] theorem isn_str {x : Str} : cmpD .isn h (.str x) .non = some false := nr rfl
@[simp] theorem notn_str {x : Str} : cmpD .notn h (.str x) .non = some true := nr rfl
@[simp] theorem isn_tup {l : List D} : cmpD .isn h (.tup l) .non = some false := nr rfl
@[simp] theorem notn_tup {l : List D} : cmpD .notn h (.tup l) .non = some true := nr rfl
@[simp] theorem isn_lst {l : List D} : cmpD .isn h (.lst l) .non = some false := nr rfl
@[simp] theorem notn_lst {l : List D} : cmpD .notn h (.lst l) .non = some true := nr rfl
@[simp] theorem isn_ins {k : Nat} {l : List D} : cmpD .isn h (.ins k l) .non = some false := nr rfl
@[simp] theorem notn_ins {k : Nat} {l : List D} : cmpD .notn h (.ins k l) .non = some true := nr rfl
@[simp] theorem isn_ref {n : Nat} : cmpD .isn h (.ref n) .non = some false := nr rfl
@[simp] theorem notn_ref {n : Nat} : cmpD .notn h (.ref n) .non = some true := nr rfl
@[simp] theorem isn_scr {l : List Int} : cmpD .isn h (.scr l) .non = some false := nr rfl
@[simp] theorem notn_scr {l : List Int} : cmpD .notn h (.scr l) .non = some true := nr rfl
@[simp] theorem cmp_inT {a : D} {l : List D} : cmpD .isin h a (.tup l) = memD h a l := nr rfl
@[simp] theorem cmp_inL {a : D} {l : List D} : cmpD .isin h a (.lst l) = memD h a l := nr rfl
@[simp] theorem cmp_niT {a : D} {l : List D} : cmpD .notin h a (.tup l) = (memD h a l).map (!·) := nr rfl
@[simp] theorem cmp_niL {a : D} {l : List D} : cmpD .notin h a (.lst l) = (memD h a l).map (!·) := nr rfl
@[simp] theorem cmp_inR {a : D} {n : Nat} : cmpD .isin h a (.ref n) = (match gt h n with
    | some (.lst l) => memD h a l
    | some (.dk l) => match a with
      | .int i => some (lookK l i).isSome
      | _ => none
    | some (.dt l) => match tkD a with
      | some k => some (lookK l k).isSome
      | none => none
    | _ => none) := nr rfl
@[simp] theorem cmp_niR {a : D} {n : Nat} : cmpD .notin h a (.ref n) = (cmpD .isin h a (.ref n)).map (!·) := nr rfl
@[simp] theorem idx_t {l : List D} {i : Int} : idxD h (.tup l) (.int i) = atI l i := nr rfl
@[simp] theorem idx_l {l : List D} {i : Int} : idxD h (.lst l) (.int i) = atI l i := nr rfl
@[simp] theorem idx_s {l : List Int} {i : Int} : idxD h (.scr l) (.int i) = atI (l.map D.int) i := nr rfl
@[simp] theorem idx_r {n : Nat} {i : D} : idxD h (.ref n) i = (match gt h n with
    | some (.lst l) => match i with
      | .int i => atI l i
      | _ => none
    | some (.dk l) => match i with
      | .int i => lookK l i
      | _ => none
    | some (.dt l) => match tkD i with
      | some k => lookK l k
      | none => none
    | _ => none) := nr rfl
@[simp] theorem slc_t {z : Bool} {l : List D} {lo hi : Option Int} : slcD z (.tup l) lo hi h = .ok (.tup (cutD l lo hi)) h := nr rfl
@[simp] theorem slc_s {z : Bool} {l : List Int} {lo hi : Option Int} : slcD z (.scr l) lo hi h = mkL z (cutD (l.map .int) lo hi) h := nr rfl
@[simp] theorem slc_l {z : Bool} {l : List D} {lo hi : Option Int} : slcD z (.lst l) lo hi h = mkL z (cutD l lo hi) h := nr rfl
@[simp] theorem slc_r {z : Bool} {n : Nat} {lo hi : Option Int} : slcD z (.ref n) lo hi h = (match listD h (.ref n) with | some l => mkL z (cutD l lo hi) h | none => .stk) := nr rfl
@[simp] theorem bi_len {z : Bool} {d : D} : biD z .len [d] h = ofO ((d.len h).map fun n => .int (n : Int)) h := nr rfl
@[simp] theorem len_t {l : List D} : (D.tup l).len h = some l.length := nr rfl
@[simp] theorem len_l {l : List D} : (D.lst l).len h = some l.length := nr rfl
@[simp] theorem len_s {l : List Int} : (D.scr l).len h = some l.length := nr rfl
@[simp] theorem len_r {n : Nat} : (D.ref n).len h = (match gt h n with
    | some (.lst l) => some l.length
    | some (.dk l) => some l.length
    | some (.dt l) => some l.length
    | _ => none) := nr rfl
@[simp] theorem bi_sum {z : Bool} {d : D} : biD z .sum [d] h = (match listD h d with | some l => ofO ((intsD l).map fun is => .int is.sum) h | none => .stk) := nr rfl
@[simp] theorem bi_min2 {z : Bool} {a b : Int} : biD z .min [.int a, .int b] h = .ok (.int (min a b)) h := nr rfl
@[simp] theorem bi_max2 {z : Bool} {a b : Int} : biD z .max [.int a, .int b] h = .ok (.int (max a b)) h := nr rfl
@[simp] theorem bi_min3 {z : Bool} {a b k : Int} : biD z .min [.int a, .int b, .int k] h = .ok (.int (min (min a b) k)) h := nr rfl
@[simp] theorem bi_max3 {z : Bool} {a b k : Int} : biD z .max [.int a, .int b, .int k] h = .ok (.int (max (max a b) k)) h := nr rfl
@[simp] theorem bi_maxL {z : Bool} {l : List D} : biD z .max [.lst l] h = (match intsD l with | some (i :: is) => .ok (.int (maxL (i :: is))) h | _ => .stk) := nr rfl
@[simp] theorem bi_minL {z : Bool} {l : List D} : biD z .min [.lst l] h = (match intsD l with | some (i :: is) => .ok (.int (minL (i :: is))) h | _ => .stk) := nr rfl
@[simp] theorem bi_sorted {z : Bool} {d : D} : biD z .sorted [d] h = (match listD h d with
    | some l => match intsD l with
      | some is => if is.length ≤ sizeLine then mkL z ((isort is).map .int) h else .stk
      | _ => .stk
    | none => .stk) := nr rfl
@[simp] theorem bi_any {z : Bool} {d : D} : biD z .any [d] h = (match listD h d with | some l => ofO ((blsD l).map fun bs => .bl (bs.any id)) h | none => .stk) := nr rfl
@[simp] theorem bi_all {z : Bool} {d : D} : biD z .all [d] h = (match listD h d with | some l => ofO ((blsD l).map fun bs => .bl (bs.all id)) h | none => .stk) := nr rfl
@[simp] theorem bi_int {z : Bool} {i : Int} : biD z .int [.int i] h = .ok (.int i) h := nr rfl
@[simp] theorem bi_intb {z : Bool} {b : Bool} : biD z .int [.bl b] h = .ok (.int (if b then 1 else 0)) h := nr rfl
@[simp] theorem bi_list {z : Bool} {d : D} : biD z .list [d] h = mkO z (seqD h d) h := nr rfl
@[simp] theorem bi_tupT {z : Bool} {l : List D} : biD z .tuple [.tup l] h = .ok (.tup l) h := nr rfl
@[simp] theorem bi_tupL {z : Bool} {l : List D} : biD z .tuple [.lst l] h = .ok (.tup l) h := nr rfl
@[simp] theorem bi_tupR {z : Bool} {n : Nat} : biD z .tuple [.ref n] h = (match listD h (.ref n) with | some l => .ok (.tup l) h | none => .stk) := nr rfl
@[simp] theorem mm_app {n : Nat} {d : D} : mmD .append [.ref n, d] h = (match h[n]? with
    | some (.lst l) => if l.length < sizeLine then .ok .non (h.set n (.lst (l ++ [d]))) else .stk
    | _ => .stk) := nr rfl
@[simp] theorem mm_pop {n : Nat} : mmD .pop [.ref n] h = (match h[n]? with
    | some (.lst l) => match l[l.length - 1]? with
      | some d => .ok d (h.set n (.lst l.dropLast))
      | none => .stk
    | _ => .stk) := nr rfl
@[simp] theorem mm_clear {n : Nat} : mmD .clear [.ref n] h = (match h[n]? with
    | some (.lst l) => .ok .non (h.set n (.lst []))
    | _ => .stk) := nr rfl
@[simp] theorem isi_eqn {k : Tk} {d : D} : isiD k h d = (tyD h d).map fun t => t == k.nm || (t == "bool" && k.nm == "int") := nr rfl
@[simp] theorem ty_non : tyD h .non = some "NoneType" := nr rfl
@[simp] theorem ty_bl {b : Bool} : tyD h (.bl b) = some "bool" := nr rfl
@[simp] theorem ty_int {i : Int} : tyD h (.int i) = some "int" := nr rfl
@[simp] theorem ty_str {x : Str} : tyD h (.str x) = some "str" := nr rfl
@[simp] theorem ty_tup {l : List D} : tyD h (.tup l) = some "tuple" := nr rfl
@[simp] theorem ty_lst {l : List D} : tyD h (.lst l) = some "list" := nr rfl
@[simp] theorem ty_ref {n : Nat} : tyD h (.ref n) = (match gt h n with
    | some (.lst _) => some "list"
    | some (.dk _) => some "dict"
    | some (.dt _) => some "dict"
    | _ => none) := nr rfl
@[simp] theorem tr_non : D.truth h .non = some false := nr rfl
@[simp] theorem tr_bl {b : Bool} : D.truth h (.bl b) = some b := nr rfl
@[simp] theorem tr_int {i : Int} : D.truth h (.int i) = some (i != 0) := nr rfl
@[simp] theorem tr_tup {l : List D} : D.truth h (.tup l) = some (!l.isEmpty) := nr rfl
@[simp] theorem tr_lst {l : List D} : D.truth h (.lst l) = some (!l.isEmpty) := nr rfl
@[simp] theorem tr_ref {n : Nat} : D.truth h (.ref n) = (match gt h n with
    | some (.lst l) => some (!l.isEmpty)
    | some (.dk l) => some (!l.isEmpty)
    | some (.dt l) => some (!l.isEmpty)
    | _ => none) := nr rfl
@[simp] theorem itV_t {l : List D} : itV (.tup l) h = some ⟨l, fun _ => True⟩ := nr rfl
@[simp] theorem itV_l {l : List D} : itV (.lst l) h = some ⟨l, fun _ => True⟩ := nr rfl
@[simp] theorem itV_s {l : List Int} : itV (.scr l) h = some ⟨l.map .int, fun _ => True⟩ := nr rfl
@[simp] theorem itV_r {n : Nat} : itV (.ref n) h = (match h[n]? with
    | some (.lst l) => some ⟨l, fun h' => h'[n]? = some (.lst l)⟩
    | some (.frz (.lst l)) => some ⟨l, fun h' => h'[n]? = some (.frz (.lst l))⟩
    | _ => none) := nr rfl
@[simp] theorem setSl_eqn {i : Nat} {d : D} : setSl e i d = if i < e.length then some (e.set i (some d)) else none := nr rfl
@[simp] theorem setSls_nil : setSls e [] [] = some e := nr rfl
@[simp] theorem setSls_c {i : Nat} {is : List Nat} {d : D} {ds : List D} : setSls e (i :: is) (d :: ds) = (match setSl e i d with | some e' => setSls e' is ds | none => none) := nr rfl
@[simp] theorem bindT_nm {i : Nat} {d : D} : bindT e (.nm i) d = setSl e i d := nr rfl
@[simp] theorem bindT_tp {is : List Nat} {ds : List D} : bindT e (.tp is) (.tup ds) = setSls e is ds := nr rfl
@[simp] theorem wipe_nil : wipeE e [] = e := nr rfl
@[simp] theorem wipe_cons {i : Nat} {is : List Nat} : wipeE e (i :: is) = (wipeE e is).set i none := nr rfl
@[simp] theorem permL_nil {ds : List D} : permL [] ds = some [] := nr rfl
@[simp] theorem permL_l {i : Nat} {l : List (Nat ⊕ Bool)} {ds : List D} : permL (.inl i :: l) ds = (match ds[i]? with
    | some d => match permL l ds with
      | some r => some (d :: r)
      | none => none
    | none => none) := nr rfl
@[simp] theorem permL_r {b : Bool} {l : List (Nat ⊕ Bool)} {ds : List D} : permL (.inr b :: l) ds = (match permL l ds with
    | some r => some ((if b then .tup [] else .non) :: r)
    | none => none) := nr rfl
@[simp] theorem permD_n {ds : List D} : permD none ds = some ds := nr rfl
@[simp] theorem permD_s {l : List (Nat ⊕ Bool)} {ds : List D} : permD (some l) ds = permL l ds := nr rfl
@[simp] theorem insOk_i {k k' : Nat} {fs : List D} : insOk k h (.ins k' fs) = (k' == k) := nr rfl
@[simp] theorem insOk_r {k n : Nat} : insOk k h (.ref n) = (match gt h n with | some (.ins c _) => c == k | _ => false) := nr rfl
@[simp] theorem aug_ai {i j : Int} : augD .add (.int i) (.int j) h = some (.int (i + j), h) := nr rfl
@[simp] theorem aug_si {i j : Int} : augD .sub (.int i) (.int j) h = some (.int (i - j), h) := nr rfl
@[simp] theorem aug_r {n : Nat} {b : D} : augD .add (.ref n) b h = (match h[n]? with
      | some (.lst l) => match listD h b with
        | some m => if l.length + m.length ≤ sizeLine then some (.ref n, h.set n (.lst (l ++ m))) else none
        | none => none
      | _ => none) := nr rfl
@[simp] theorem setK_r {n : Nat} {k d : D} : setK h (.ref n) k d = (match h[n]? with
    | some (.lst l) => match k with
      | .int i => match ixN l.length i with
        | some j => some (h.set n (.lst (l.set j d)))
        | none => none
      | _ => none
    | some (.dk l) => match k with
      | .int i => if l.length < sizeLine then some (h.set n (.dk (putD l i d))) else none
      | _ => none
    | some (.dt l) => match tkD k with
      | some i => if l.length < sizeLine then some (h.set n (.dt (putD l i d))) else none
      | none => none
    | _ => none) := nr rfl
@[simp] theorem setF_eqn {fs : List D} {i : Nat} {d : D} : setF fs i d = if i < fs.length then some (fs.set i d) else if i = fs.length then some (fs ++ [d]) else none := nr rfl
@[simp] theorem dgD_r {n : Nat} {k : D} : dgD h (.ref n) k = (match gt h n with
    | some (.dk l) => match k with
      | .int i => some (lookK l i)
      | _ => none
    | some (.dt l) => match tkD k with
      | some k => some (lookK l k)
      | none => none
    | _ => none) := nr rfl
@[simp] theorem partD_n : partD .non = some none := nr rfl
@[simp] theorem partD_i {i : Int} : partD (.int i) = some (some i) := nr rfl
@[simp] theorem enm_nil {i : Nat} : enmL i [] = [] := nr rfl
@[simp] theorem enm_cons {i : Nat} {d : D} {ds : List D} : enmL i (d :: ds) = .tup [.int (i : Int), d] :: enmL (i + 1) ds := nr rfl

/-! the heap's things -/
@[simp] theorem strip_lst {l : List D} : Ob.strip (.lst l) = .lst l := nr rfl
@[simp] theorem strip_dk {l : List (Int × D)} : Ob.strip (.dk l) = .dk l := nr rfl
@[simp] theorem strip_dt {l : List (TK × D)} : Ob.strip (.dt l) = .dt l := nr rfl
@[simp] theorem strip_ins {k : Nat} {l : List D} : Ob.strip (.ins k l) = .ins k l := nr rfl
@[simp] theorem strip_frz {o : Ob} : Ob.strip (.frz o) = o := nr rfl
@[simp] theorem gt_eqn {n : Nat} : gt h n = (h[n]?).map Ob.strip := nr rfl
@[simp] theorem pures_nil : D.pures [] = true := nr rfl
@[simp] theorem pures_cons {d : D} {ds : List D} : D.pures (d :: ds) = (D.pure d && D.pures ds) := nr rfl
@[simp] theorem pure_tup {l : List D} : D.pure (.tup l) = D.pures l := nr rfl
@[simp] theorem pure_lst {l : List D} : D.pure (.lst l) = D.pures l := nr rfl
@[simp] theorem pure_ins {k : Nat} {l : List D} : D.pure (.ins k l) = D.pures l := nr rfl
@[simp] theorem pure_int {i : Int} : D.pure (.int i) = true := nr rfl
@[simp] theorem pure_bl {i : Bool} : D.pure (.bl i) = true := nr rfl
@[simp] theorem pure_str {i : Str} : D.pure (.str i) = true := nr rfl
@[simp] theorem pure_non : D.pure .non = true := nr rfl
@[simp] theorem pure_scr {l : List Int} : D.pure (.scr l) = true := nr rfl
@[simp] theorem opure_lst {l : List D} : Ob.pure (.lst l) = D.pures l := nr rfl
@[simp] theorem opure_ins {k : Nat} {l : List D} : Ob.pure (.ins k l) = D.pures l := nr rfl
@[simp] theorem opure_dk {l : List (Int × D)} : Ob.pure (.dk l) = l.all fun p => p.2.pure := nr rfl
@[simp] theorem opure_dt {l : List (TK × D)} : Ob.pure (.dt l) = l.all fun p => p.2.pure := nr rfl
@[simp] theorem pures_app {l m : List D} : D.pures (l ++ m) = (D.pures l && D.pures m) := by
  induction l with
  | nil => rfl
  | cons d l ih => rw [List.cons_append, pures_cons, ih, pures_cons, Bool.and_assoc]
theorem pures_of {l : List D} (q : ∀ d ∈ l, d.pure = true) : D.pures l = true := by
  induction l with
  | nil => rfl
  | cons d l ih => rw [pures_cons, q d List.mem_cons_self, ih fun x hx => q x (List.mem_cons_of_mem _ hx)]; rfl
theorem pures_mem {l : List D} (q : D.pures l = true) : ∀ d ∈ l, d.pure = true := by
  induction l with
  | nil => intro d hd; cases hd
  | cons x l ih =>
    rw [pures_cons, Bool.and_eq_true] at q
    intro d hd
    rcases List.mem_cons.mp hd with rfl | m
    · exact q.1
    · exact ih q.2 d m
theorem pures_mapF {α : Type} {l : List α} {f : α → D} (q : ∀ a, (f a).pure = true) : D.pures (l.map f) = true := pures_of fun d hd => by
  obtain ⟨a, _, rfl⟩ := List.mem_map.mp hd; exact q a
@[simp] theorem pures_ints {l : List Int} : D.pures (l.map D.int) = true := pures_mapF fun _ => rfl

/-! a call -/
@[simp] theorem start_eqn {n : Nat} {ds : List D} : startE n ds = ds.map some ++ List.replicate (n - ds.length) none := nr rfl
noncomputable def Fl.done (r : Fl) (g : Gc) (h : Hm) : Re D := match r with
  | .nx e h' => gcR g h .non h'
  | .ret d h' => gcR g h d h'
  | .exc cl w e h' => .exc cl w h'
  | _ => .stk
@[simp] theorem done_nx {g : Gc} {h' : Hm} : (Fl.nx e h').done g h = gcR g h .non h' := nr rfl
@[simp] theorem done_ret {d : D} {g : Gc} {h' : Hm} : (Fl.ret d h').done g h = gcR g h d h' := nr rfl
@[simp] theorem done_exc {k : Nat} {w : D} {g : Gc} {h' : Hm} : (Fl.exc k w e h').done g h = .exc k w h' := nr rfl
theorem ite_done {p : Prop} [Decidable p] {a b : Fl} {g : Gc} : (if p then a else b).done g h = if p then a.done g h else b.done g h := by split <;> rfl
theorem callF_eqn {p s : Nat} {g : Gc} {b : IS} {ds : List D} : callF c W ⟨p, s, g, b⟩ ds h = if ds.length = p then (ex c W b (startE s ds) h).done g h else .stk := by
  unfold callF
  by_cases q : ds.length = p
  · rw [if_pos q, if_pos q]; rfl
  · rw [if_neg q, if_neg q]
@[simp] theorem gc_keep {d : D} {h' : Hm} : gcR .keep h d h' = .ok d h' := nr rfl
theorem oldOk_refl : oldOk h h := ⟨Nat.le_refl _, fun _ _ => .inl rfl⟩
theorem oldOk_app {l : Hm} : oldOk h (h ++ l) := ⟨by simp, fun i hi => .inl (by rw [List.getElem?_append_left hi])⟩
theorem oldOk_setApp {l : Hm} {p : Nat} {o : Ob} (q : o.pure = true) : oldOk h (h.set p o ++ l) := ⟨by simp, fun i hi => by
  rw [List.getElem?_append_left (by simpa using hi)]
  by_cases z : p = i
  · subst z; exact .inr ⟨o, by rw [List.getElem?_set_self hi], q⟩
  · exact .inl (by rw [List.getElem?_set_ne z])⟩
theorem oldOk_set {p : Nat} {o : Ob} (q : o.pure = true) : oldOk h (h.set p o) := by simpa using oldOk_setApp (l := []) (h := h) (p := p) q
open Classical in
theorem gc_pureD {d : D} {h' : Hm} (q : oldOk h h') (hd : d.pure = true) : gcR .pure h d h' = .ok d (h'.take h.length) := by
  show (if _ then _ else _) = _; rw [if_pos ⟨q, hd⟩]
theorem gc_pure {d : D} (hd : d.pure = true) : gcR .pure h d h = .ok d h := by rw [gc_pureD oldOk_refl hd, List.take_length]
theorem gc_pureA {d : D} {l : Hm} (hd : d.pure = true) : gcR .pure h d (h ++ l) = .ok d h := by rw [gc_pureD oldOk_app hd, List.take_left']; rfl
theorem gc_pureS {d : D} {p : Nat} {o : Ob} (ho : o.pure = true) (hd : d.pure = true) : gcR .pure h d (h.set p o) = .ok d (h.set p o) := by rw [gc_pureD (oldOk_set ho) hd, List.take_of_length_le (by simp)]
theorem gc_pureSA {d : D} {p : Nat} {o : Ob} {l : Hm} (ho : o.pure = true) (hd : d.pure = true) : gcR .pure h d (h.set p o ++ l) = .ok d (h.set p o) := by rw [gc_pureD (oldOk_setApp ho) hd, List.take_left' (by simp)]
open Classical in
theorem gc_one_if {h' : Hm} : gcR .one h .non h' = if oldOk h h' ∧ D.pure .non = true then .ok .non (h'.take h.length) else .stk := nr rfl
open Classical in
@[simp] theorem gc_one_non : gcR .one h .non h = .ok .non h := by rw [gc_one_if, if_pos ⟨oldOk_refl, rfl⟩, List.take_length]
open Classical in
@[simp] theorem gc_one_nonA {l : Hm} : gcR .one h .non (h ++ l) = .ok .non h := by rw [gc_one_if, if_pos ⟨oldOk_app, rfl⟩, List.take_left' rfl]
theorem gc_oneP : True := trivial
open Classical in
theorem gc_oneD {n : Nat} {o : Ob} {h' : Hm} (q : oldOk h h') (hn : h.length ≤ n) (e1 : h'[n]? = some o) (ho : o.pure = true) : gcR .one h (.ref n) h' = .ok (.ref h.length) (h'.take h.length ++ [o]) := by
  show (match h'[n]? with | some o => _ | none => _) = _
  rw [e1]
  show (if _ then _ else _) = _
  rw [if_pos ⟨q, hn, ho⟩]
open Classical in
theorem gc_frzD {n : Nat} {l : List D} {h' : Hm} (q : oldOk h h') (hn : h.length ≤ n) (e1 : h'[n]? = some (.lst l)) (ho : D.pures l = true) : gcR .frz h (.ref n) h' = .ok (.lst l) (h'.take h.length) := by
  show (match h'[n]? with | some (.lst l) => _ | some (.ins c l) => _ | _ => _) = _
  rw [e1]
  show (if _ then _ else _) = _
  rw [if_pos ⟨q, hn, ho⟩]
open Classical in
theorem gc_frzI {n k : Nat} {l : List D} {h' : Hm} (q : oldOk h h') (hn : h.length ≤ n) (e1 : h'[n]? = some (.ins k l)) (ho : D.pures l = true) : gcR .frz h (.ref n) h' = .ok (.ins k l) (h'.take h.length) := by
  show (match h'[n]? with | some (.lst l) => _ | some (.ins c l) => _ | _ => _) = _
  rw [e1]
  show (if _ then _ else _) = _
  rw [if_pos ⟨q, hn, ho⟩]
/-- the thing made first behind h -/
theorem gc_one {o : Ob} {l : Hm} (ho : o.pure = true) : gcR .one h (.ref h.length) (h ++ o :: l) = .ok (.ref h.length) (h ++ [o]) := by
  rw [gc_oneD oldOk_app (Nat.le_refl _) (by simp) ho, List.take_left' rfl]
theorem gc_oneS {o o' : Ob} {l : Hm} {p : Nat} (hp : o'.pure = true) (ho : o.pure = true) : gcR .one h (.ref h.length) (h.set p o' ++ o :: l) = .ok (.ref h.length) (h.set p o' ++ [o]) := by
  rw [gc_oneD (oldOk_setApp hp) (Nat.le_refl _) (by simp) ho, List.take_left' (by simp)]
theorem gc_frz {m : List D} {l : Hm} (ho : D.pures m = true) : gcR .frz h (.ref h.length) (h ++ .lst m :: l) = .ok (.lst m) h := by
  rw [gc_frzD oldOk_app (Nat.le_refl _) (by simp) ho, List.take_left' rfl]
theorem gc_frzS {o' : Ob} {m : List D} {l : Hm} {p : Nat} (hp : o'.pure = true) (ho : D.pures m = true) : gcR .frz h (.ref h.length) (h.set p o' ++ .lst m :: l) = .ok (.lst m) (h.set p o') := by
  rw [gc_frzD (oldOk_setApp hp) (Nat.le_refl _) (by simp) ho, List.take_left' (by simp)]
theorem gc_frzIn {k : Nat} {m : List D} {l : Hm} (ho : D.pures m = true) : gcR .frz h (.ref h.length) (h ++ .ins k m :: l) = .ok (.ins k m) h := by
  rw [gc_frzI (k := k) (l := m) oldOk_app (Nat.le_refl _) (by simp) ho, List.take_left' rfl]

open Classical in
theorem gc_pureN {d : D} {h' : Hm} (hd : ¬ d.pure = true) : gcR .pure h d h' = .stk := by
  show (if _ then _ else _) = _; rw [if_neg fun q => hd q.2]
@[simp] theorem gc_pure_ {d : D} : gcR .pure h d h = if d.pure then .ok d h else .stk := by
  by_cases q : d.pure = true
  · rw [gc_pure q, if_pos q]
  · rw [gc_pureN q, if_neg q]
@[simp] theorem gc_pureA_ {d : D} {l : Hm} : gcR .pure h d (h ++ l) = if d.pure then .ok d h else .stk := by
  by_cases q : d.pure = true
  · rw [gc_pureA q, if_pos q]
  · rw [gc_pureN q, if_neg q]
open Classical in
theorem gc_oneN {n : Nat} {o : Ob} {h' : Hm} (e1 : h'[n]? = some o) (hd : ¬ o.pure = true) : gcR .one h (.ref n) h' = .stk := by
  show (match h'[n]? with | some o => _ | none => _) = _
  rw [e1]
  show (if _ then _ else _) = _; rw [if_neg fun q => hd q.2.2]
@[simp] theorem gc_one_ {o : Ob} {l : Hm} : gcR .one h (.ref h.length) (h ++ o :: l) = if o.pure then .ok (.ref h.length) (h ++ [o]) else .stk := by
  by_cases q : o.pure = true
  · rw [gc_one q, if_pos q]
  · rw [gc_oneN (o := o) (by simp) q, if_neg q]
open Classical in
theorem gc_frzN {n : Nat} {m : List D} {h' : Hm} (e1 : h'[n]? = some (.lst m)) (hd : ¬ D.pures m = true) : gcR .frz h (.ref n) h' = .stk := by
  show (match h'[n]? with | some (.lst l) => _ | some (.ins c l) => _ | _ => _) = _
  rw [e1]
  show (if _ then _ else _) = _; rw [if_neg fun q => hd q.2.2]
open Classical in
theorem gc_frzIN {n k : Nat} {m : List D} {h' : Hm} (e1 : h'[n]? = some (.ins k m)) (hd : ¬ D.pures m = true) : gcR .frz h (.ref n) h' = .stk := by
  show (match h'[n]? with | some (.lst l) => _ | some (.ins c l) => _ | _ => _) = _
  rw [e1]
  show (if _ then _ else _) = _; rw [if_neg fun q => hd q.2.2]
@[simp] theorem gc_frz_ {m : List D} {l : Hm} : gcR .frz h (.ref h.length) (h ++ .lst m :: l) = if D.pures m then .ok (.lst m) h else .stk := by
  by_cases q : D.pures m = true
  · rw [gc_frz q, if_pos q]
  · rw [gc_frzN (m := m) (by simp) q, if_neg q]
@[simp] theorem gc_frzIn_ {k : Nat} {m : List D} {l : Hm} : gcR .frz h (.ref h.length) (h ++ .ins k m :: l) = if D.pures m then .ok (.ins k m) h else .stk := by
  by_cases q : D.pures m = true
  · rw [gc_frzIn q, if_pos q]
  · rw [gc_frzIN (k := k) (m := m) (by simp) q, if_neg q]
end

/-! lookups behind h -/
section
variable {α : Type} {h l : List α} {x y : α} {p : Nat}
theorem get_app {o : α} (q : h[p]? = some o) : (h ++ l)[p]? = some o := by rw [List.getElem?_append_left (List.getElem?_eq_some_iff.mp q).1, q]
@[simp] theorem get_len : (h ++ l)[h.length]? = l[0]? := by rw [List.getElem?_append_right (Nat.le_refl _), Nat.sub_self]
@[simp] theorem get_len1 : (h ++ l)[h.length + 1]? = l[1]? := by rw [List.getElem?_append_right (by omega)]; congr 1; omega
@[simp] theorem get_len2 : (h ++ l)[h.length + 2]? = l[2]? := by rw [List.getElem?_append_right (by omega)]; congr 1; omega
@[simp] theorem set_len : (h ++ l).set h.length y = h ++ l.set 0 y := by rw [List.set_append_right _ _ (Nat.le_refl _), Nat.sub_self]
@[simp] theorem set_len1 : (h ++ l).set (h.length + 1) y = h ++ l.set 1 y := by rw [List.set_append_right _ _ (by omega)]; congr 2; omega
@[simp] theorem set_len2 : (h ++ l).set (h.length + 2) y = h ++ l.set 2 y := by rw [List.set_append_right _ _ (by omega)]; congr 2; omega
theorem set_app {o : α} (q : h[p]? = some o) : (h ++ l).set p y = h.set p y ++ l := List.set_append_left _ _ (List.getElem?_eq_some_iff.mp q).1
theorem get_set {o : α} (q : h[p]? = some o) : (h.set p y)[p]? = some y := List.getElem?_set_self (List.getElem?_eq_some_iff.mp q).1
end

/-! the oracle -/
section
variable {Γ : Nat → Option Df} {W k f : Nat} {d : Df} {ds : List D} {h : Hm}
def Pk (Γ : Nat → Option Df) : Prop := ∀ f d, pkg f = some d → Γ f = some d
/-- the table of a law: the package's defs and its own -/
def gamT (t : List (Nat × Df)) : Nat → Option Df := fun f => match pkg f with
  | some d => some d
  | none => t.lookup f
theorem pk_gamT {t : List (Nat × Df)} : Pk (gamT t) := fun f d h => by unfold gamT; rw [h]
theorem call_of (h1 : Γ f = some d) : (run Γ W (k + 1)).call f ds h = callF (run Γ W k) W d ds h := by
  show (match Γ f with | some d => callF (run Γ W k) W d ds h | none => .stk) = _
  rw [h1]
theorem call_pk (P : Pk Γ) (h1 : pkg f = some d) : (run Γ W (k + 1)).call f ds h = callF (run Γ W k) W d ds h := call_of (P f d h1)
@[simp] theorem make_call : (run Γ W (k + 1)).make f ds h = (run Γ W k).call f ds h := nr rfl
end
end N9

set_option Elab.async false
set_option linter.all false
set_option maxRecDepth 100000
namespace N9
open PySem PySem.Spec L2
/-! ## encodings -/
class Enc {α : Type} (f : α → D) (n : outParam Nat) where
  py : α → PyData
  hpy : ∀ r a, D.py r (f a) = some (py a)
  sh : ∀ a, (py a).canLay0 = true
  dp : ∀ a, (py a).depth ≤ n
  eq : ∀ a b, PyData.eqv (py a) (py b) = true ↔ a = b
  pur : ∀ a, (f a).pure = true
section
variable {α : Type} {f : α → D} {n : Nat}
theorem pys_enc [E : Enc f n] {r : Nat → Option PyData} : ∀ {l : List α}, D.pys r (l.map f) = some (l.map (Enc.py f))
  | [] => rfl
  | a :: l => by
    show (match D.py r (f a), D.pys r (l.map f) with | some x, some xs => some (x :: xs) | _, _ => none) = _
    rw [E.hpy, pys_enc]; rfl
theorem sh_all [E : Enc f n] : ∀ {l : List α}, PyData.canLayAll0 (l.map (Enc.py f)) = true
  | [] => by simp [PyData.canLayAll0]
  | a :: l => by rw [List.map_cons, PyData.canLayAll0, E.sh, sh_all]; rfl
theorem dp_all [E : Enc f n] : ∀ {l : List α}, PyData.depthAll (l.map (Enc.py f)) ≤ n
  | [] => by simp [PyData.depthAll]
  | a :: l => by rw [List.map_cons, PyData.depthAll]; exact Nat.max_le.mpr ⟨E.dp a, dp_all⟩
theorem eq_all [E : Enc f n] : ∀ {l m : List α}, PyData.eqvAll (l.map (Enc.py f)) (m.map (Enc.py f)) = true ↔ l = m
  | [], [] => by simp [PyData.eqvAll]
  | [], _ :: _ => by simp [PyData.eqvAll]
  | _ :: _, [] => by simp [PyData.eqvAll]
  | a :: l, b :: m => by
    rw [List.map_cons, List.map_cons, PyData.eqvAll, Bool.and_eq_true, E.eq, eq_all]
    simp
theorem pur_all [E : Enc f n] {l : List α} : D.pures (l.map f) = true := pures_mapF E.pur
end
instance : Enc D.int 1 where
  py := PyData.int
  hpy := fun _ _ => rfl
  sh := fun _ => by simp [PyData.canLay0]
  dp := fun _ => by simp [PyData.depth]
  eq := fun a b => by simp [PyData.eqv]
  pur := fun _ => rfl
@[reducible] def encT {α : Type} {f : α → D} {n : Nat} (E : Enc f n) : Enc (fun l : List α => D.tup (l.map f)) (n + 1) where
  py := fun l => .tuple (l.map (Enc.py f))
  hpy := fun r l => by
    show (D.pys r (l.map f)).map PyData.tuple = _
    rw [pys_enc]; rfl
  sh := fun l => by rw [PyData.canLay0]; exact sh_all
  dp := fun l => by
    rw [PyData.depth]
    have := dp_all (f := f) (l := l)
    omega
  eq := fun a b => by rw [PyData.eqv]; exact eq_all
  pur := fun l => pur_all (f := f)
/-- lots, recipes of one value, of all -/
def eL (l : List Int) : D := .tup (l.map .int)
def eR (r : List (List Int)) : D := .tup (r.map eL)
def eRR (r : List (List (List Int))) : D := .tup (r.map eR)
instance encL : Enc eL 2 := encT inferInstance
instance encR : Enc eR 3 := encT encL
instance encRR : Enc eRR 4 := encT encR

/-! equality by data -/
def eq2 : Option PyData → Option PyData → Option Bool
  | some x, some y => if SeqAt.shaped x && SeqAt.shaped y then some (PyData.eqv x y) else none
  | _, _ => none
def mem2 : Option PyData → Option (List PyData) → Option Bool
  | some p, some qs => if SeqAt.shaped p && SeqAt.shaped (.list qs) then some (qs.any fun z => PyData.eqv z p) else none
  | _, _ => none
theorem eq2_some {x y : PyData} : eq2 (some x) (some y) = if SeqAt.shaped x && SeqAt.shaped y then some (PyData.eqv x y) else none := nr rfl
theorem mem2_some {p : PyData} {qs : List PyData} : mem2 (some p) (some qs) = if SeqAt.shaped p && SeqAt.shaped (.list qs) then some (qs.any fun z => PyData.eqv z p) else none := nr rfl
section
variable {α : Type} {f : α → D} {n : Nat} {h : Hm} {r : Nat → Option PyData}
@[simp] theorem eqv_eqn {a b : D} : D.eqv h a b = eq2 (D.py (pyR h 2) a) (D.py (pyR h 2) b) := nr rfl
@[simp] theorem memD_eqn {a : D} {l : List D} : memD h a l = mem2 (D.py (pyR h 2) a) (D.pys (pyR h 2) l) := nr rfl
@[simp] theorem py_non : D.py r .non = some .none := nr rfl
@[simp] theorem py_bl {b : Bool} : D.py r (.bl b) = some (.bool b) := nr rfl
@[simp] theorem py_int {i : Int} : D.py r (.int i) = some (.int i) := nr rfl
@[simp] theorem py_str {x : Str} : D.py r (.str x) = some (.str x) := nr rfl
@[simp] theorem py_tup {l : List D} : D.py r (.tup l) = (D.pys r l).map .tuple := nr rfl
@[simp] theorem py_lst {l : List D} : D.py r (.lst l) = (D.pys r l).map .list := nr rfl
@[simp] theorem py_ref {k m : Nat} : D.py (pyR h (k + 1)) (.ref m) = (match gt h m with | some (.lst l) => (D.pys (pyR h k) l).map .list | _ => none) := nr rfl
@[simp] theorem pys_nil : D.pys r [] = some [] := nr rfl
@[simp] theorem pys_cons {d : D} {ds : List D} : D.pys r (d :: ds) = (match D.py r d, D.pys r ds with | some x, some xs => some (x :: xs) | _, _ => none) := nr rfl
@[simp] theorem py_eL {l : List Int} : D.py r (eL l) = some (Enc.py eL l) := Enc.hpy r l
@[simp] theorem py_eR {l : List (List Int)} : D.py r (eR l) = some (Enc.py eR l) := Enc.hpy r l
@[simp] theorem py_eRR {l : List (List (List Int))} : D.py r (eRR l) = some (Enc.py eRR l) := Enc.hpy r l
@[simp] theorem pys_ints {l : List Int} : D.pys r (l.map D.int) = some (l.map (Enc.py D.int)) := pys_enc
@[simp] theorem pys_eL {l : List (List Int)} : D.pys r (l.map eL) = some (l.map (Enc.py eL)) := pys_enc
@[simp] theorem pys_eR {l : List (List (List Int))} : D.pys r (l.map eR) = some (l.map (Enc.py eR)) := pys_enc
theorem shaped_enc [E : Enc f n] (hn : n ≤ 60) {a : α} : SeqAt.shaped (Enc.py f a) = true := by
  unfold SeqAt.shaped
  rw [E.sh, Bool.true_and, decide_eq_true_eq]
  exact Nat.le_trans (E.dp a) (by omega)
theorem shaped_encL [E : Enc f n] (hn : n ≤ 60) {l : List α} : SeqAt.shaped (.list (l.map (Enc.py f))) = true := by
  unfold SeqAt.shaped
  rw [Bool.and_eq_true, decide_eq_true_eq, PyData.canLay0, PyData.depth]
  have := dp_all (f := f) (l := l)
  exact ⟨sh_all, by omega⟩
theorem shaped_encT [E : Enc f n] (hn : n ≤ 60) {l : List α} : SeqAt.shaped (.tuple (l.map (Enc.py f))) = true := by
  unfold SeqAt.shaped
  rw [Bool.and_eq_true, decide_eq_true_eq, PyData.canLay0, PyData.depth]
  have := dp_all (f := f) (l := l)
  exact ⟨sh_all, by omega⟩
theorem eqv_dec [DecidableEq α] [E : Enc f n] {a b : α} : PyData.eqv (Enc.py f a) (Enc.py f b) = decide (a = b) := by
  by_cases q : a = b
  · rw [decide_eq_true q]; exact (E.eq a b).mpr q
  · rw [decide_eq_false q]
    cases z : PyData.eqv (Enc.py f a) (Enc.py f b) with
    | false => rfl
    | true => exact absurd ((E.eq a b).mp z) q
@[simp] theorem eq2_int {i j : Int} : eq2 (some (.int i)) (some (.int j)) = some (decide (i = j)) := by
  rw [eq2_some, if_pos (by simp [SeqAt.shaped, PyData.canLay0, PyData.depth]), PyData.eqv]
  simp [BEq.beq]
@[simp] theorem eq2_enc [DecidableEq α] [E : Enc f n] {a b : α} (hn : n ≤ 60) : eq2 (some (Enc.py f a)) (some (Enc.py f b)) = some (decide (a = b)) := by
  rw [eq2_some, if_pos (by rw [shaped_enc hn, shaped_enc hn]; rfl), eqv_dec]
@[simp] theorem eq2_encL [DecidableEq α] [E : Enc f n] {a b : List α} (hn : n ≤ 60) : eq2 (some (.list (a.map (Enc.py f)))) (some (.list (b.map (Enc.py f)))) = some (decide (a = b)) := by
  rw [eq2_some, if_pos (by rw [shaped_encL hn, shaped_encL hn]; rfl), PyData.eqv]
  congr 1
  rw [Bool.eq_iff_iff, eq_all, decide_eq_true_eq]
@[simp] theorem eq2_encL0 [E : Enc f n] {a : List α} (hn : n ≤ 60) : eq2 (some (.list (a.map (Enc.py f)))) (some (.list [])) = some a.isEmpty := by
  rw [eq2_some, if_pos (by rw [shaped_encL hn]; simp [SeqAt.shaped, PyData.canLay0, PyData.canLayAll0, PyData.depth, PyData.depthAll]), PyData.eqv]
  cases a <;> simp [PyData.eqvAll]
@[simp] theorem eq2_eL0 {a : List Int} : eq2 (some (Enc.py eL a)) (some (.tuple [])) = some a.isEmpty := by
  rw [eq2_some, if_pos (by rw [shaped_enc (by decide)]; simp [SeqAt.shaped, PyData.canLay0, PyData.canLayAll0, PyData.depth, PyData.depthAll])]
  show some (PyData.eqv (.tuple (a.map (Enc.py D.int))) (.tuple [])) = _
  rw [PyData.eqv]
  cases a <;> simp [PyData.eqvAll]
@[simp] theorem mem2_enc [DecidableEq α] [E : Enc f n] {a : α} {l : List α} (hn : n ≤ 60) : mem2 (some (Enc.py f a)) (some (l.map (Enc.py f))) = some (decide (a ∈ l)) := by
  rw [mem2_some, if_pos (by rw [shaped_encL hn, shaped_enc hn]; rfl)]
  congr 1
  rw [Bool.eq_iff_iff, List.any_eq_true, decide_eq_true_eq]
  constructor
  · rintro ⟨x, hx, q⟩
    obtain ⟨b, hb, rfl⟩ := List.mem_map.mp hx
    rw [eqv_dec, decide_eq_true_eq] at q
    subst q; exact hb
  · intro q
    exact ⟨_, List.mem_map.mpr ⟨a, q, rfl⟩, by rw [eqv_dec, decide_eq_true_eq]⟩
@[simp] theorem mem2_int {i : Int} {l : List Int} : mem2 (some (.int i)) (some (l.map (Enc.py D.int))) = some (decide (i ∈ l)) := mem2_enc (f := D.int) (by decide)
end
section
variable {h : Hm}
/-! lots -/
@[simp] theorem tup_ints {l : List Int} : D.tup (l.map .int) = eL l := nr rfl
@[simp] theorem len_eL {l : List Int} : (eL l).len h = some l.length := by show some (l.map D.int).length = _; rw [List.length_map]
@[simp] theorem ty_eL {l : List Int} : tyD h (eL l) = some "tuple" := nr rfl
@[simp] theorem itV_eL {l : List Int} : itV (eL l) h = some ⟨l.map .int, fun _ => True⟩ := nr rfl
@[simp] theorem seqD_eL {l : List Int} : seqD h (eL l) = some (l.map .int) := nr rfl
@[simp] theorem tr_eL {l : List Int} : D.truth h (eL l) = some (!l.isEmpty) := by cases l <;> rfl
@[simp] theorem idx_eL {l : List Int} {i : Int} : idxD h (eL l) (.int i) = atI (l.map D.int) i := nr rfl
@[simp] theorem pure_eL {l : List Int} : D.pure (eL l) = true := encL.pur l
@[simp] theorem tkD_eL {l : List Int} : tkD (eL l) = some l := by
  show intsD (l.map D.int) = _
  induction l with
  | nil => rfl
  | cons a l ih => show (intsD (l.map D.int)).map (a :: ·) = _; rw [ih]; rfl
@[simp] theorem intsD_map {l : List Int} : intsD (l.map D.int) = some l := tkD_eL
@[simp] theorem in_eL {i : Int} {l : List Int} : cmpD .isin h (.int i) (eL l) = some (decide (i ∈ l)) := by show memD h (.int i) (l.map D.int) = _; simp
@[simp] theorem notin_eL {i : Int} {l : List Int} : cmpD .notin h (.int i) (eL l) = some (!decide (i ∈ l)) := by show (memD h (.int i) (l.map D.int)).map (!·) = _; simp
@[simp] theorem bin_LL {z : Bool} {x y : List Int} : binD z .add (eL x) (eL y) h = if x.length + y.length ≤ sizeLine then .ok (eL (x ++ y)) h else .stk := by
  show (if (x.map D.int).length + (y.map D.int).length ≤ sizeLine then Re.ok (D.tup (x.map D.int ++ y.map D.int)) h else .stk) = _
  rw [List.length_map, List.length_map, ← List.map_append]; rfl
theorem flat_rep {α β : Type} {f : α → β} {x : List α} : ∀ {n : Nat}, (List.replicate n (x.map f)).flatten = ((List.replicate n x).flatten).map f
  | 0 => rfl
  | n + 1 => by rw [List.replicate_succ, List.replicate_succ, List.flatten_cons, List.flatten_cons, List.map_append, flat_rep]
@[simp] theorem bin_Lm {z : Bool} {x : List Int} {j : Int} : binD z .mul (eL x) (.int j) h = if -1000 ≤ j ∧ j ≤ 1000 ∧ x.length ≤ 1000 then .ok (eL (List.replicate j.toNat x).flatten) h else .stk := by
  show (if -1000 ≤ j ∧ j ≤ 1000 ∧ (x.map D.int).length ≤ 1000 then Re.ok (D.tup (List.replicate j.toNat (x.map D.int)).flatten) h else .stk) = _
  rw [List.length_map, flat_rep]; rfl
@[simp] theorem bi_tupE {z : Bool} {l : List Int} : biD z .tuple [eL l] h = .ok (eL l) h := nr rfl
/-! recipes of a value -/
@[simp] theorem tup_eLs {l : List (List Int)} : D.tup (l.map eL) = eR l := nr rfl
@[simp] theorem len_eR {l : List (List Int)} : (eR l).len h = some l.length := by show some (l.map eL).length = _; rw [List.length_map]
@[simp] theorem ty_eR {l : List (List Int)} : tyD h (eR l) = some "tuple" := nr rfl
@[simp] theorem itV_eR {l : List (List Int)} : itV (eR l) h = some ⟨l.map eL, fun _ => True⟩ := nr rfl
@[simp] theorem idx_eR {l : List (List Int)} {i : Int} : idxD h (eR l) (.int i) = atI (l.map eL) i := nr rfl
@[simp] theorem pure_eR {l : List (List Int)} : D.pure (eR l) = true := encR.pur l
@[simp] theorem in_eR {i : List Int} {l : List (List Int)} : cmpD .isin h (eL i) (eR l) = some (decide (i ∈ l)) := by show memD h (eL i) (l.map eL) = _; simp
@[simp] theorem notin_eR {i : List Int} {l : List (List Int)} : cmpD .notin h (eL i) (eR l) = some (!decide (i ∈ l)) := by show (memD h (eL i) (l.map eL)).map (!·) = _; simp
/-! recipes of all -/
@[simp] theorem tup_eRs {l : List (List (List Int))} : D.tup (l.map eR) = eRR l := nr rfl
@[simp] theorem len_eRR {l : List (List (List Int))} : (eRR l).len h = some l.length := by show some (l.map eR).length = _; rw [List.length_map]
@[simp] theorem ty_eRR {l : List (List (List Int))} : tyD h (eRR l) = some "tuple" := nr rfl
@[simp] theorem itV_eRR {l : List (List (List Int))} : itV (eRR l) h = some ⟨l.map eR, fun _ => True⟩ := nr rfl
@[simp] theorem idx_eRR {l : List (List (List Int))} {i : Int} : idxD h (eRR l) (.int i) = atI (l.map eR) i := nr rfl
@[simp] theorem pure_eRR {l : List (List (List Int))} : D.pure (eRR l) = true := encRR.pur l
@[simp] theorem pures_eL {l : List (List Int)} : D.pures (l.map eL) = true := pur_all
@[simp] theorem pures_eR {l : List (List (List Int))} : D.pures (l.map eR) = true := pur_all
end

/-! places -/
section
variable {α β : Type} [Inhabited α]
/-- the item at a place -/
def gI (l : List α) (i : Int) : α := l.getD i.toNat default
theorem atI_of {l : List α} {i : Int} (h0 : 0 ≤ i) (h1 : i < l.length) : atI l i = some (gI l i) := by
  unfold atI ixN gI
  rw [if_pos h0, if_pos h1]
  show l[i.toNat]? = _
  have : i.toNat < l.length := by omega
  rw [List.getElem?_eq_getElem this, List.getD_eq_getElem?_getD, List.getElem?_eq_getElem this]; rfl
@[simp] theorem atI_map {l : List α} {f : α → β} {i : Int} (h0 : 0 ≤ i) (h1 : i < l.length) : atI (l.map f) i = some (f (gI l i)) := by
  unfold atI ixN gI
  rw [if_pos h0, if_pos (by rw [List.length_map]; exact h1)]
  show (l.map f)[i.toNat]? = _
  have : i.toNat < l.length := by omega
  rw [List.getElem?_map, List.getElem?_eq_getElem this, List.getD_eq_getElem?_getD, List.getElem?_eq_getElem this]; rfl
theorem gI_mem {l : List α} {i : Int} (h0 : 0 ≤ i) (h1 : i < l.length) : gI l i ∈ l := by
  have : i.toNat < l.length := by omega
  unfold gI
  rw [List.getD_eq_getElem?_getD, List.getElem?_eq_getElem this]
  exact List.getElem_mem this
/-- the last item -/
@[simp] theorem atI_last {l : List α} {a : α} : atI (l ++ [a]) (-1) = some a := by
  unfold atI ixN
  rw [if_neg (by decide), if_pos (by simp; omega)]
  show (l ++ [a])[_]? = _
  have : (-1 + ((l ++ [a]).length : Int)).toNat = l.length := by simp; omega
  rw [this]; simp
end
@[simp] theorem atI_0 {α : Type} {x : α} {xs : List α} : atI (x :: xs) 0 = some x := by
  unfold atI ixN; rw [if_pos (by decide), if_pos (by simp only [List.length_cons]; omega)]; rfl
@[simp] theorem atI_1 {α : Type} {x y : α} {xs : List α} : atI (x :: y :: xs) 1 = some y := by
  unfold atI ixN; rw [if_pos (by decide), if_pos (by simp only [List.length_cons]; omega)]; rfl
@[simp] theorem atI_2 {α : Type} {x y z : α} {xs : List α} : atI (x :: y :: z :: xs) 2 = some z := by
  unfold atI ixN; rw [if_pos (by decide), if_pos (by simp only [List.length_cons]; omega)]; rfl
@[simp] theorem atI_3 {α : Type} {x y z w : α} {xs : List α} : atI (x :: y :: z :: w :: xs) 3 = some w := by
  unfold atI ixN; rw [if_pos (by decide), if_pos (by simp only [List.length_cons]; omega)]; rfl
@[simp] theorem atI_4 {α : Type} {x y z w v : α} {xs : List α} : atI (x :: y :: z :: w :: v :: xs) 4 = some v := by
  unfold atI ixN; rw [if_pos (by decide), if_pos (by simp only [List.length_cons]; omega)]; rfl
@[simp] theorem ixN_0 {n : Nat} : ixN (n + 1) 0 = some 0 := by unfold ixN; simp
@[simp] theorem ixN_1 {n : Nat} : ixN (n + 2) 1 = some 1 := by unfold ixN; rw [if_pos (by decide), if_pos (by omega)]; rfl
@[simp] theorem ixN_2 {n : Nat} : ixN (n + 3) 2 = some 2 := by unfold ixN; rw [if_pos (by decide), if_pos (by omega)]; rfl
@[simp] theorem ixN_3 {n : Nat} : ixN (n + 4) 3 = some 3 := by unfold ixN; rw [if_pos (by decide), if_pos (by omega)]; rfl
@[simp] theorem ixN_4 {n : Nat} : ixN (n + 5) 4 = some 4 := by unfold ixN; rw [if_pos (by decide), if_pos (by omega)]; rfl
theorem smallL {i j : Int} (h : -(2 ^ 64) < i ∧ i < 2 ^ 64) : smallMul i j = true := @decide_eq_true _ (Classical.propDecidable _) (.inl h)
theorem smallR {i j : Int} (h : -(2 ^ 64) < j ∧ j < 2 ^ 64) : smallMul i j = true := @decide_eq_true _ (Classical.propDecidable _) (.inr h)
theorem size_le {n : Nat} (h : n ≤ 16000000) : n ≤ sizeLine := by rw [sizeLine_eq]; omega
theorem size_lt {n : Nat} (h : n ≤ 16000000) : n < sizeLine := by rw [sizeLine_eq]; omega
@[simp] theorem sz0 : 0 ≤ sizeLine := Nat.zero_le _
@[simp] theorem sz1 : 1 ≤ sizeLine := size_le (by decide)
@[simp] theorem sz2 : 2 ≤ sizeLine := size_le (by decide)
@[simp] theorem sz3 : 3 ≤ sizeLine := size_le (by decide)
@[simp] theorem sz4 : 4 ≤ sizeLine := size_le (by decide)
@[simp] theorem sz5 : 5 ≤ sizeLine := size_le (by decide)
@[simp] theorem sz6 : 6 ≤ sizeLine := size_le (by decide)
@[simp] theorem sl0 : 0 < sizeLine := size_lt (by decide)
/-- a range of ints -/
def rI (lo : Int) (n : Nat) : List Int := (List.range n).map fun (j : Nat) => lo + (j : Int)
theorem rngL_eq {lo : Int} {n : Nat} : rngL lo n = (rI lo n).map D.int := by unfold rngL rI; rw [List.map_map]; rfl
theorem mem_rI {lo : Int} {n : Nat} {i : Int} : i ∈ rI lo n ↔ lo ≤ i ∧ i < lo + n := by
  unfold rI
  rw [List.mem_map]
  constructor
  · rintro ⟨j, hj, rfl⟩
    have := List.mem_range.mp hj; omega
  · rintro ⟨h1, h2⟩
    exact ⟨(i - lo).toNat, List.mem_range.mpr (by omega), by omega⟩
@[simp] theorem rI_length {lo : Int} {n : Nat} : (rI lo n).length = n := by unfold rI; simp
theorem rI_zero {lo : Int} : rI lo 0 = [] := nr rfl
theorem rI_succ {lo : Int} {n : Nat} : rI lo (n + 1) = lo :: rI (lo + 1) n := by
  unfold rI
  rw [List.range_succ_eq_map, List.map_cons, List.map_map]
  congr 1
  · omega
  · exact List.map_congr_left fun j _ => by show lo + ((j + 1 : Nat) : Int) = _; omega
theorem rI_snoc {lo : Int} {n : Nat} : rI lo (n + 1) = rI lo n ++ [lo + n] := by
  unfold rI; rw [List.range_succ, List.map_append]; rfl
theorem rI_sorted {lo : Int} {n : Nat} : (rI lo n).Pairwise (· < ·) := by
  unfold rI
  rw [List.pairwise_map]
  exact List.pairwise_lt_range.imp (fun h => by omega)
theorem rngOk_of {a b : Int} (h1 : -1000000000 ≤ a ∧ a ≤ 1000000000) (h2 : -1000000000 ≤ b ∧ b ≤ 1000000000) : rngOk a b = true := @decide_eq_true _ (Classical.propDecidable _) (by omega)

/-! ## comprehensions -/
section
variable {α : Type} {c : Oracle} {W : Nat} {e : Env} {t : Bool} {h : Hm}
theorem cloop_step {bnd : D → Option Env} {cond elt : Env → Hm → Re D} {n : Nat} {d : D} {ds : List D} {h : Hm} : cloop (fun _ => True) bnd cond elt n (d :: ds) h = (match bnd d with
    | none => none
    | some e1 => match cond e1 h with
      | .ok (.bl true) h2 => match elt e1 h2 with
        | .ok x h3 => match h3[n]? with
          | some (.lst acc) => if acc.length < sizeLine then cloop (fun _ => True) bnd cond elt n ds (h3.set n (.lst (acc ++ [x]))) else none
          | _ => none
        | _ => none
      | .ok (.bl false) h2 => cloop (fun _ => True) bnd cond elt n ds h2
      | _ => none) := by
  exact if_pos trivial
theorem cloop_done {bnd : D → Option Env} {cond elt : Env → Hm → Re D} {n : Nat} {h : Hm} : cloop (fun _ => True) bnd cond elt n [] h = some h := by
  exact if_pos trivial
theorem cloop_pure {bnd : D → Option Env} {cond elt : Env → Hm → Re D} {f : α → D} (p : α → Bool) (q : α → D) {h : Hm} : ∀ {l : List α} (acc : List D),
    acc.length + l.length ≤ sizeLine →
    (∀ a ∈ l, ∃ e1, bnd (f a) = some e1 ∧ ∀ acc, cond e1 (h ++ [.lst acc]) = .ok (.bl (p a)) (h ++ [.lst acc]) ∧ (p a = true → elt e1 (h ++ [.lst acc]) = .ok (q a) (h ++ [.lst acc]))) →
    cloop (fun _ => True) bnd cond elt h.length (l.map f) (h ++ [.lst acc]) = some (h ++ [.lst (acc ++ (l.filter p).map q)])
  | [], acc, _, _ => by rw [List.map_nil, cloop_done]; simp
  | a :: l, acc, hl, H => by
    obtain ⟨e1, h1, h2⟩ := H a List.mem_cons_self
    simp only [List.length_cons] at hl
    rw [List.map_cons, cloop_step, h1]
    simp only [(h2 acc).1]
    cases hp : p a with
    | false =>
      show cloop (fun _ => True) bnd cond elt h.length (l.map f) (h ++ [.lst acc]) = _
      rw [cloop_pure p q acc (by omega) fun b hb => H b (List.mem_cons_of_mem _ hb)]
      simp [hp]
    | true =>
      simp only [(h2 acc).2 hp, get_len, List.getElem?_cons_zero, set_len, List.set_cons_zero]
      rw [if_pos (by omega), cloop_pure p q (acc ++ [q a]) (by simp; omega) fun b hb => H b (List.mem_cons_of_mem _ hb)]
      simp [hp]
/-- a comprehension that changes nothing -/
theorem lc_pure {own : List Nat} {tg : Tg} {it cond elt : IE} {l : List α} {f : α → D} (p : α → Bool) (q : α → D) (hit : evI c it e h = .ok ⟨l.map f, fun _ => True⟩ h) (hl : l.length ≤ sizeLine) (hq : ∀ a, (q a).pure = true)
    (H : ∀ a ∈ l, ∃ e1, bindT (wipeE e own) tg (f a) = some e1 ∧ ∀ acc, ev c cond true e1 (h ++ [.lst acc]) = .ok (.bl (p a)) (h ++ [.lst acc]) ∧ (p a = true → ev c elt false e1 (h ++ [.lst acc]) = .ok (q a) (h ++ [.lst acc]))) :
    ev c (.lc true own tg it cond elt) t e h = fin t (.ok (.lst ((l.filter p).map q)) h) := by
  rw [ev_lc, hit, bind_ok']
  show fin t (match cloop (fun _ => True) _ _ _ h.length (l.map f) (h ++ [.lst []]) with | some h3 => _ | none => _) = _
  rw [cloop_pure p q [] (by simpa using hl) H]
  show fin t (gcR .frz h (.ref h.length) (h ++ [.lst ([] ++ (l.filter p).map q)])) = _
  rw [List.nil_append, gc_frz (pures_mapF hq)]
/-- the same on the heap -/
theorem lc_pureH {own : List Nat} {tg : Tg} {it cond elt : IE} {l : List α} {f : α → D} (p : α → Bool) (q : α → D) (hit : evI c it e h = .ok ⟨l.map f, fun _ => True⟩ h) (hl : l.length ≤ sizeLine)
    (H : ∀ a ∈ l, ∃ e1, bindT (wipeE e own) tg (f a) = some e1 ∧ ∀ acc, ev c cond true e1 (h ++ [.lst acc]) = .ok (.bl (p a)) (h ++ [.lst acc]) ∧ (p a = true → ev c elt false e1 (h ++ [.lst acc]) = .ok (q a) (h ++ [.lst acc]))) :
    ev c (.lc false own tg it cond elt) t e h = fin t (.ok (.ref h.length) (h ++ [.lst ((l.filter p).map q)])) := by
  rw [ev_lc, hit, bind_ok']
  show fin t (match cloop (fun _ => True) _ _ _ h.length (l.map f) (h ++ [.lst []]) with | some h3 => _ | none => _) = _
  rw [cloop_pure p q [] (by simpa using hl) H]
  rfl
/-- with draws: J holds of the heap behind which the new list stands -/
theorem cloop_wp {bnd : D → Option Env} {cond elt : Env → Hm → Re D} {f : α → D} {n : Nat} (J : List α → List D → Hm → Prop) : ∀ {l : List α} (done : List α) (acc : List D) (h : Hm),
    J done acc h → h.length = n → acc.length + l.length ≤ sizeLine →
    (∀ done a acc h, a ∈ l → J done acc h → h.length = n → ∃ e1 b h2, bnd (f a) = some e1 ∧ cond e1 (h ++ [.lst acc]) = .ok (.bl b) (h2 ++ [.lst acc]) ∧ h2.length = n ∧ (b = false → J (done ++ [a]) acc h2) ∧
      (b = true → ∃ x h3, elt e1 (h2 ++ [.lst acc]) = .ok x (h3 ++ [.lst acc]) ∧ h3.length = n ∧ J (done ++ [a]) (acc ++ [x]) h3)) →
    ∃ acc' h', cloop (fun _ => True) bnd cond elt n (l.map f) (h ++ [.lst acc]) = some (h' ++ [.lst acc']) ∧ h'.length = n ∧ J (done ++ l) acc' h'
  | [], done, acc, h, j, hn, _, _ => ⟨acc, h, by rw [List.map_nil, cloop_done], hn, by simpa using j⟩
  | a :: l, done, acc, h, j, hn, hl, H => by
    obtain ⟨e1, b, h2, q1, q2, q3, q4, q5⟩ := H done a acc h List.mem_cons_self j hn
    simp only [List.length_cons] at hl
    have H' : ∀ done b acc h, b ∈ l → J done acc h → h.length = n → _ := fun done b acc h hb => H done b acc h (List.mem_cons_of_mem _ hb)
    rw [List.map_cons, cloop_step, q1]
    simp only [q2]
    cases b with
    | false =>
      obtain ⟨acc', h', r1, r2, r3⟩ := cloop_wp J (done ++ [a]) acc h2 (q4 rfl) q3 (by omega) H'
      exact ⟨acc', h', r1, r2, by simpa using r3⟩
    | true =>
      obtain ⟨x, h3, s1, s2, s3⟩ := q5 rfl
      subst s2
      simp only [s1, get_len, List.getElem?_cons_zero, set_len, List.set_cons_zero]
      rw [if_pos (by omega)]
      obtain ⟨acc', h', r1, r2, r3⟩ := cloop_wp J (done ++ [a]) (acc ++ [x]) h3 s3 rfl (by simp; omega) H'
      exact ⟨acc', h', r1, r2, by simpa using r3⟩
theorem lc_wp {own : List Nat} {tg : Tg} {it cond elt : IE} {l : List α} {f : α → D} (J : List α → List D → Hm → Prop) (hit : evI c it e h = .ok ⟨l.map f, fun _ => True⟩ h) (hl : l.length ≤ sizeLine) (j : J [] [] h)
    (H : ∀ done a acc h', a ∈ l → J done acc h' → h'.length = h.length → ∃ e1 b h2, bindT (wipeE e own) tg (f a) = some e1 ∧ ev c cond true e1 (h' ++ [.lst acc]) = .ok (.bl b) (h2 ++ [.lst acc]) ∧ h2.length = h.length ∧ (b = false → J (done ++ [a]) acc h2) ∧
      (b = true → ∃ x h3, ev c elt false e1 (h2 ++ [.lst acc]) = .ok x (h3 ++ [.lst acc]) ∧ h3.length = h.length ∧ J (done ++ [a]) (acc ++ [x]) h3))
    (hp : ∀ acc h', J l acc h' → h'.length = h.length → D.pures acc = true ∧ ∃ p o, h' = h.set p o ∧ o.pure = true) :
    ∃ acc h', ev c (.lc true own tg it cond elt) t e h = fin t (.ok (.lst acc) h') ∧ h'.length = h.length ∧ J l acc h' := by
  obtain ⟨acc, h', q1, q2, q3⟩ := cloop_wp (bnd := fun d => bindT (wipeE e own) tg d) (cond := fun e h => ev c cond true e h) (elt := fun e h => ev c elt false e h) J [] [] h j rfl (by simpa using hl) H
  obtain ⟨w1, p, o, rfl, w2⟩ := hp acc h' (by simpa using q3) q2
  refine ⟨acc, h.set p o, ?_, q2, by simpa using q3⟩
  rw [ev_lc, hit, bind_ok']
  show fin t (match cloop (fun _ => True) _ _ _ h.length (l.map f) (h ++ [.lst []]) with | some h3 => _ | none => _) = _
  rw [q1]
  show fin t (gcR .frz h (.ref h.length) (h.set p o ++ [.lst acc])) = _
  rw [gc_frzS w2 w1]
end

/-! ## loops -/
section
variable {α : Type} {c : Oracle} {W : Nat} {tg : Tg} {b : IS}
theorem forL_wp {g : Hm → Prop} {r : Fl} {l : List D} {e : Env} {h : Hm} (hr : forL c W g tg b l e h = r) (I : List D → List D → Env → Hm → Prop) (Q : Fl → Prop) (h0 : I [] l e h)
    (hs : ∀ done d rest e h, l = done ++ d :: rest → I done (d :: rest) e h → g h ∧ ∃ e1, bindT e tg d = some e1 ∧ (match ex c W b e1 h with
      | .nx e2 h2 => I (done ++ [d]) rest e2 h2
      | .ct e2 h2 => I (done ++ [d]) rest e2 h2
      | .brk e2 h2 => Q (.nx e2 h2)
      | r => Q r))
    (hend : ∀ e h, I l [] e h → g h ∧ Q (.nx e h)) : Q r := by
  subst hr
  suffices ∀ rest done e h, l = done ++ rest → I done rest e h → Q (forL c W g tg b rest e h) from this l [] e h rfl h0
  intro rest
  induction rest with
  | nil =>
    intro done e h hl i
    rw [List.append_nil] at hl
    subst hl
    obtain ⟨hg, q⟩ := hend e h i
    rw [forL_nil hg]; exact q
  | cons d rest ih =>
    intro done e h hl i
    obtain ⟨hg, e1, q1, q2⟩ := hs done d rest e h hl i
    rw [forL_cons hg, q1]
    show Q (match ex c W b e1 h with | .nx e2 h2 => _ | .ct e2 h2 => _ | .brk e2 h2 => _ | r => r)
    cases z : ex c W b e1 h with
    | nx e2 h2 => rw [z] at q2; exact ih (done ++ [d]) e2 h2 (by rw [hl]; simp) q2
    | ct e2 h2 => rw [z] at q2; exact ih (done ++ [d]) e2 h2 (by rw [hl]; simp) q2
    | brk e2 h2 => rw [z] at q2; exact q2
    | ret d h2 => rw [z] at q2; exact q2
    | exc k w e2 h2 => rw [z] at q2; exact q2
    | stk => rw [z] at q2; exact q2
end
end N9

set_option Elab.async false
set_option linter.all false
set_option maxRecDepth 100000
namespace N9
open PySem PySem.Spec L2
section
variable {α σ ξ : Type} {c : Oracle} {W : Nat} {tg : Tg} {b : IS} {h : Hm}
theorem evI_r1 {a : IE} {e : Env} {h1 : Hm} {i : Int} (q : ev c a false e h = .ok (.int i) h1) (b1 : -1000000000 ≤ i) (b2 : i ≤ 1000000000) : evI c (.rng1 a) e h = .ok ⟨(rI 0 i.toNat).map D.int, fun _ => True⟩ h1 := by
  rw [evI_rng1, q]
  show (if rngOk 0 i then _ else _) = _
  rw [if_pos (rngOk_of (by omega) ⟨b1, b2⟩), rngL_eq]
theorem evI_r2 {a b : IE} {e : Env} {h1 h2 : Hm} {i j : Int} (q : ev c a false e h = .ok (.int i) h1) (q2 : ev c b false e h1 = .ok (.int j) h2) (b1 : -1000000000 ≤ i ∧ i ≤ 1000000000) (b2 : -1000000000 ≤ j ∧ j ≤ 1000000000) : evI c (.rng2 a b) e h = .ok ⟨(rI i (j - i).toNat).map D.int, fun _ => True⟩ h2 := by
  rw [evI_rng2, q, bind_ok', q2]
  show (if rngOk i j then _ else _) = _
  rw [if_pos (rngOk_of b1 b2), rngL_eq]
theorem evI_n1 {a : IE} {e : Env} {h1 : Hm} {n : Nat} (q : ev c a false e h = .ok (.int n) h1) (b : n ≤ 1000000000) : evI c (.rng1 a) e h = .ok ⟨(rI 0 n).map D.int, fun _ => True⟩ h1 := by
  have := evI_r1 (i := n) q (by omega) (by omega)
  rwa [Int.toNat_natCast] at this
/-- a loop that searches: x is what the loop leaves -/
theorem forL_any {l : List α} {f : α → D} {r : D} (E : ξ → Env) (p : α → Bool)
    (hb : ∀ a ∈ l, ∀ x, ∃ e1 x', bindT (E x) tg (f a) = some e1 ∧ ex c W b e1 h = if p a then .ret r h else .nx (E x') h) :
    ∀ x, ∃ x', forL c W (fun _ => True) tg b (l.map f) (E x) h = if l.any p then .ret r h else .nx (E x') h := by
  induction l with
  | nil => intro x; exact ⟨x, by simp⟩
  | cons a l ih =>
    intro x
    obtain ⟨e1, x1, q1, q2⟩ := hb a List.mem_cons_self x
    obtain ⟨x', e⟩ := ih (fun b hb' => hb b (List.mem_cons_of_mem _ hb')) x1
    refine ⟨x', ?_⟩
    cases hp : p a <;> simp [q1, q2, hp, e]
def foldE (st : σ → α → σ ⊕ D) : σ → List α → σ ⊕ (D × σ)
  | s, [] => .inl s
  | s, a :: l => match st s a with
    | .inl s' => foldE st s' l
    | .inr r => .inr (r, s)
/-- a loop with a state (I holds of it); H is the heap at a state -/
theorem forL_fold {l : List α} {f : α → D} (E : σ → ξ → Env) (H : σ → Hm) (st : σ → α → σ ⊕ D) (I : σ → Prop)
    (hb : ∀ a ∈ l, ∀ s x, I s → ∃ e1 x', bindT (E s x) tg (f a) = some e1 ∧ ex c W b e1 (H s) = (match st s a with | .inl s' => .nx (E s' x') (H s') | .inr r => .ret r (H s)) ∧ ∀ s', st s a = .inl s' → I s') :
    ∀ s x, I s → ∃ x', forL c W (fun _ => True) tg b (l.map f) (E s x) (H s) = (match foldE st s l with | .inl s' => .nx (E s' x') (H s') | .inr (r, s') => .ret r (H s')) := by
  induction l with
  | nil => intro s x i; exact ⟨x, by simp [foldE]⟩
  | cons a l ih =>
    intro s x i
    obtain ⟨e1, x1, q1, q2, q3⟩ := hb a List.mem_cons_self s x i
    cases hp : st s a with
    | inr r => exact ⟨x, by simp [q1, q2, hp, foldE]⟩
    | inl s' =>
      obtain ⟨x', e⟩ := ih (fun b hb' => hb b (List.mem_cons_of_mem _ hb')) s' x1 (q3 s' hp)
      exact ⟨x', by simp [q1, q2, hp, foldE, e]⟩
/-- a loop that never ends early -/
theorem forL_run {l : List α} {f : α → D} (E : σ → ξ → Env) (H : σ → Hm) (st : σ → α → σ) (I : σ → Prop)
    (hb : ∀ a ∈ l, ∀ s x, I s → ∃ e1 x', bindT (E s x) tg (f a) = some e1 ∧ ex c W b e1 (H s) = .nx (E (st s a) x') (H (st s a)) ∧ I (st s a)) :
    ∀ s x, I s → ∃ x', forL c W (fun _ => True) tg b (l.map f) (E s x) (H s) = .nx (E (l.foldl st s) x') (H (l.foldl st s)) ∧ I (l.foldl st s) := by
  induction l with
  | nil => intro s x i; exact ⟨x, by simp, i⟩
  | cons a l ih =>
    intro s x i
    obtain ⟨e1, x1, q1, q2, q3⟩ := hb a List.mem_cons_self s x i
    obtain ⟨x', e, i'⟩ := ih (fun b hb' => hb b (List.mem_cons_of_mem _ hb')) (st s a) x1 q3
    exact ⟨x', by simp [q1, q2, e], i'⟩
end
theorem set_same {α : Type} {l : List α} {p : Nat} {o : α} (q : l[p]? = some o) : l.set p o = l := by
  apply List.ext_getElem?
  intro i
  by_cases z : p = i
  · subst z; rw [get_set q, q]
  · rw [List.getElem?_set_ne z]
section
variable {h : Hm}
@[simp] theorem isn_eL {l : List Int} : cmpD .isn h (eL l) .non = some false := nr rfl
@[simp] theorem notn_eL {l : List Int} : cmpD .notn h (eL l) .non = some true := nr rfl
@[simp] theorem isn_eR {l : List (List Int)} : cmpD .isn h (eR l) .non = some false := nr rfl
@[simp] theorem notn_eR {l : List (List Int)} : cmpD .notn h (eR l) .non = some true := nr rfl
@[simp] theorem isn_eRR {l : List (List (List Int))} : cmpD .isn h (eRR l) .non = some false := nr rfl
@[simp] theorem notn_eRR {l : List (List (List Int))} : cmpD .notn h (eRR l) .non = some true := nr rfl
@[simp] theorem tup_rep {n : Nat} {i : Int} : D.tup (List.replicate n (D.int i)) = eL (List.replicate n i) := by unfold eL; rw [List.map_replicate]
end
end N9

set_option Elab.async false
set_option linter.all false
set_option maxRecDepth 100000
namespace N9
open PySem PySem.Spec L2
section
variable {α : Type} {c : Oracle} {W : Nat} {e : Env} {t : Bool} {h : Hm}
theorem cloop_stepG {g : Hm → Prop} {bnd : D → Option Env} {cond elt : Env → Hm → Re D} {n : Nat} {d : D} {ds : List D} {h : Hm} (hg : g h) : cloop g bnd cond elt n (d :: ds) h = (match bnd d with
    | none => none
    | some e1 => match cond e1 h with
      | .ok (.bl true) h2 => match elt e1 h2 with
        | .ok x h3 => match h3[n]? with
          | some (.lst acc) => if acc.length < sizeLine then cloop g bnd cond elt n ds (h3.set n (.lst (acc ++ [x]))) else none
          | _ => none
        | _ => none
      | .ok (.bl false) h2 => cloop g bnd cond elt n ds h2
      | _ => none) := by
  exact if_pos hg
theorem cloop_doneG {g : Hm → Prop} {bnd : D → Option Env} {cond elt : Env → Hm → Re D} {n : Nat} {h : Hm} (hg : g h) : cloop g bnd cond elt n [] h = some h := by
  exact if_pos hg
theorem cloop_J {g : Hm → Prop} {bnd : D → Option Env} {cond elt : Env → Hm → Re D} {f : α → D} (p : α → Bool) (q : α → D) {h : Hm} (hg : ∀ acc junk, g (h ++ .lst acc :: junk)) : ∀ {l : List α} (acc : List D) (junk : Hm),
    acc.length + l.length ≤ sizeLine →
    (∀ a ∈ l, ∃ e1, bnd (f a) = some e1 ∧ ∀ acc junk, ∃ j2, cond e1 (h ++ .lst acc :: junk) = .ok (.bl (p a)) (h ++ .lst acc :: j2) ∧ (p a = true → ∃ j3, elt e1 (h ++ .lst acc :: j2) = .ok (q a) (h ++ .lst acc :: j3))) →
    ∃ j', cloop g bnd cond elt h.length (l.map f) (h ++ .lst acc :: junk) = some (h ++ .lst (acc ++ (l.filter p).map q) :: j')
  | [], acc, junk, _, _ => ⟨junk, by rw [List.map_nil, cloop_doneG (hg _ _)]; simp⟩
  | a :: l, acc, junk, hl, H => by
    obtain ⟨e1, h1, h2⟩ := H a List.mem_cons_self
    obtain ⟨j2, h3, h4⟩ := h2 acc junk
    simp only [List.length_cons] at hl
    rw [List.map_cons, cloop_stepG (hg _ _), h1]
    simp only [h3]
    cases hp : p a with
    | false =>
      show ∃ j', cloop g bnd cond elt h.length (l.map f) (h ++ .lst acc :: j2) = _
      obtain ⟨j', q1⟩ := cloop_J p q hg acc j2 (by omega) fun b hb => H b (List.mem_cons_of_mem _ hb)
      exact ⟨j', by rw [q1]; simp [hp]⟩
    | true =>
      obtain ⟨j3, h5⟩ := h4 hp
      simp only [h5, get_len, List.getElem?_cons_zero, set_len, List.set_cons_zero]
      rw [if_pos (by omega)]
      obtain ⟨j', q1⟩ := cloop_J p q hg (acc ++ [q a]) j3 (by simp; omega) fun b hb => H b (List.mem_cons_of_mem _ hb)
      exact ⟨j', by rw [q1]; simp [hp]⟩
/-- a comprehension that leaves nothing but new things, which are dropped -/
theorem lc_J {g : Hm → Prop} {own : List Nat} {tg : Tg} {it cond elt : IE} {l : List α} {f : α → D} (p : α → Bool) (q : α → D) (hit : evI c it e h = .ok ⟨l.map f, g⟩ h) (hg : ∀ acc junk, g (h ++ .lst acc :: junk)) (hl : l.length ≤ sizeLine) (hq : ∀ a, (q a).pure = true)
    (H : ∀ a ∈ l, ∃ e1, bindT (wipeE e own) tg (f a) = some e1 ∧ ∀ acc junk, ∃ j2, ev c cond true e1 (h ++ .lst acc :: junk) = .ok (.bl (p a)) (h ++ .lst acc :: j2) ∧ (p a = true → ∃ j3, ev c elt false e1 (h ++ .lst acc :: j2) = .ok (q a) (h ++ .lst acc :: j3))) :
    ev c (.lc true own tg it cond elt) t e h = fin t (.ok (.lst ((l.filter p).map q)) h) := by
  obtain ⟨j', q1⟩ := cloop_J (bnd := fun d => bindT (wipeE e own) tg d) (cond := fun e h => ev c cond true e h) (elt := fun e h => ev c elt false e h) p q hg [] [] (by simpa using hl) H
  rw [ev_lc, hit, bind_ok']
  show fin t (match cloop g _ _ _ h.length (l.map f) (h ++ [.lst []]) with | some h3 => _ | none => _) = _
  rw [q1]
  show fin t (gcR .frz h (.ref h.length) (h ++ .lst ([] ++ (l.filter p).map q) :: j')) = _
  rw [List.nil_append, gc_frz (pures_mapF hq)]
end
@[simp] theorem eq2_bl {a b : Bool} : eq2 (some (.bool a)) (some (.bool b)) = some (a == b) := by
  rw [eq2_some, if_pos (by simp [SeqAt.shaped, PyData.canLay0, PyData.depth]), PyData.eqv]
@[simp] theorem eq2_non : eq2 (some .none) (some .none) = some true := by
  rw [eq2_some, if_pos (by simp [SeqAt.shaped, PyData.canLay0, PyData.depth]), PyData.eqv]
@[simp] theorem eq2_int_non {i : Int} : eq2 (some (.int i)) (some .none) = some false := by
  rw [eq2_some, if_pos (by simp [SeqAt.shaped, PyData.canLay0, PyData.depth]), PyData.eqv]
@[simp] theorem eq2_non_int {i : Int} : eq2 (some .none) (some (.int i)) = some false := by
  rw [eq2_some, if_pos (by simp [SeqAt.shaped, PyData.canLay0, PyData.depth]), PyData.eqv]
theorem cut_ex {α : Type} {f : α → D} {s : List α} {lo hi : Option Int} : ∃ m, cutD (s.map f) lo hi = m.map f ∧ m.length ≤ s.length ∧ List.Sublist m s := by
  unfold cutD
  refine ⟨(s.drop (HT.sIx (s.map f).length 0 lo)).take (HT.sIx (s.map f).length (s.map f).length hi - HT.sIx (s.map f).length 0 lo), by rw [List.map_take, List.map_drop], ?_, (List.take_sublist _ _).trans (List.drop_sublist _ _)⟩
  rw [List.length_take, List.length_drop]; omega
theorem forL_hit {c : Oracle} {W : Nat} {tg : Tg} {it : IE} {b : IS} {e : Env} {h h1 : Hm} {its : Its} (q : evI c it e h = .ok its h1) : ex c W (.for tg it b) e h = forL c W its.g tg b its.l e h1 := by rw [ex_for, q, fl_ok]
end N9

set_option Elab.async false
set_option linter.all false
set_option maxRecDepth 100000
namespace N9
open PySem PySem.Spec L2
/-- ascending, from last on, below n -/
def asc (last n : Int) : List Int → Bool
  | [] => true
  | v :: l => decide (last < v) && decide (v < n) && asc v n l
def holdsB (lot recipe : List Int) : Bool := recipe.all fun p => decide (p ∈ lot)
def enabB (rs : List (List (List Int))) (lot : List Int) (v : Int) : Bool := (gI rs v).any fun r => holdsB lot r
def togL (lot : List Int) (v : Int) : List Int := if v ∈ lot then lot.filter fun x => decide (x ≠ v) else isort (lot ++ [v])
section
variable {Γ : Nat → Option Df} {W k : Nat} {h : Hm} (P : Pk Γ)
include P
theorem is_integer_i {i : Int} : (run Γ W (k + 1)).call 1 [.int i] h = .ok (.bl true) h := by
  rw [call_pk P rfl]; simp [callF_eqn, b_is_integer, Tk.nm]
theorem is_asc_loop {n : Int} {a : Option D} : ∀ (l : List Int) (last : Int) (x : Option D), ∃ y z, forL (run Γ W (k + 1)) W (fun _ => True) (.nm 3) b_is_ascending_L1 (l.map .int) [a, some (.int n), some (.int last), x] h =
    if asc last n l then .nx [a, some (.int n), y, z] h else .ret (.bl false) h := by
  have hb : ∀ last v : Int, ex (run Γ W (k + 1)) W b_is_ascending_L1 [a, some (.int n), some (.int last), some (.int v)] h = if last < v ∧ v < n then .nx [a, some (.int n), some (.int v), some (.int v)] h else .ret (.bl false) h := by
    intro last v
    by_cases h1 : last < v
    · have h1' := Int.not_le.mpr h1
      by_cases h2 : v < n
      · have h2' := Int.not_le.mpr h2
        simp [b_is_ascending_L1, is_integer_i P, h1, h2, h1', h2']
      · have h2' := Int.not_lt.mp h2
        simp [b_is_ascending_L1, is_integer_i P, h1, h2, h1', h2']
    · have h1' := Int.not_lt.mp h1
      simp [b_is_ascending_L1, is_integer_i P, h1, h1']
  intro l
  induction l with
  | nil => intro last x; exact ⟨some (.int last), x, by simp [asc]⟩
  | cons v l ih =>
    intro last x
    obtain ⟨y, z, e⟩ := ih v (some (.int v))
    refine ⟨y, z, ?_⟩
    by_cases h1 : last < v ∧ v < n
    · simp [hb, h1, asc, e]
    · have : (decide (last < v) && decide (v < n)) = false := by rw [Bool.eq_false_iff]; simpa using h1
      simp [hb, h1, asc, this]
theorem is_ascending_s {l : List Int} {n : Int} : (run Γ W (k + 2)).call 2 [eL l, .int n] h = .ok (.bl (asc (-1) n l)) h := by
  rw [call_pk P rfl]
  obtain ⟨y, z, e⟩ := is_asc_loop (W := W) (k := k) (h := h) P (n := n) (a := some (eL l)) l (-1) none
  simp [callF_eqn, b_is_ascending, Tk.nm, List.replicate, e]
  cases q : asc (-1) n l <;> simp
theorem is_value_s {g : List D} {n v : Int} (hg : g[2]? = some (.int n)) : (run Γ W (k + 2)).call 3 [.ins 0 g, .int v] h = .ok (.bl (decide (0 ≤ v) && decide (v < n))) h := by
  rw [call_pk P rfl]
  by_cases h1 : 0 ≤ v <;> simp [callF_eqn, b_is_value, is_integer_i P, hg, h1]
theorem judge_value_s {g : List D} {n v : Int} (hg : g[2]? = some (.int n)) (h0 : 0 ≤ v) (h1 : v < n) : (run Γ W (k + 3)).call 4 [.ins 0 g, .int v] h = .ok .non h := by
  rw [call_pk P rfl]
  simp [callF_eqn, b_judge_value, is_value_s P hg, h0, h1]
theorem is_lot_s {g : List D} {n : Int} {l : List Int} (hg : g[2]? = some (.int n)) : (run Γ W (k + 3)).call 16 [.ins 0 g, eL l] h = .ok (.bl (asc (-1) n l)) h := by
  rw [call_pk P rfl]
  simp [callF_eqn, b_is_lot, is_ascending_s P, hg]
theorem judge_lot_s {g : List D} {n : Int} {l : List Int} (hg : g[2]? = some (.int n)) (hl : asc (-1) n l = true) : (run Γ W (k + 4)).call 17 [.ins 0 g, eL l] h = .ok .non h := by
  rw [call_pk P rfl]
  simp [callF_eqn, b_judge_lot, is_lot_s P hg, hl]
theorem judge_rooms_s {i : Int} (h0 : 0 ≤ i) (h1 : i ≤ 10) : (run Γ W (k + 2)).call 18 [.int i] h = .ok .non h := by
  rw [call_pk P rfl]
  simp [callF_eqn, b_judge_rooms, is_integer_i P, h0, h1]
theorem holds_s {lot r : List Int} : (run Γ W (k + 1)).call 19 [eL lot, eL r] h = .ok (.bl (holdsB lot r)) h := by
  rw [call_pk P rfl]
  obtain ⟨y, e⟩ := forL_any (c := run Γ W k) (W := W) (tg := .nm 2) (b := b_holds_L1) (h := h) (l := r) (f := D.int) (r := .bl false) (fun x => [some (eL lot), some (eL r), x]) (fun v => !decide (v ∈ lot))
    (fun a _ x => ⟨_, some (.int a), rfl, by by_cases h1 : a ∈ lot <;> simp [b_holds_L1, h1]⟩) none
  have q : (r.any fun v => !decide (v ∈ lot)) = !holdsB lot r := by simp [holdsB, List.all_eq_not_any_not]
  rw [q] at e
  simp [callF_eqn, b_holds, e]
  cases q : holdsB lot r <;> simp
theorem enabled_s {rs : List (List (List Int))} {lot : List Int} {v : Int} (h0 : 0 ≤ v) (h1 : v < rs.length) : (run Γ W (k + 2)).call 20 [eRR rs, eL lot, .int v] h = .ok (.bl (enabB rs lot v)) h := by
  rw [call_pk P rfl]
  obtain ⟨y, e⟩ := forL_any (c := run Γ W (k + 1)) (W := W) (tg := .nm 3) (b := b_enabled_L1) (h := h) (l := gI rs v) (f := eL) (r := .bl true) (fun x => [some (eRR rs), some (eL lot), some (.int v), x]) (fun r => holdsB lot r)
    (fun a _ x => ⟨_, some (eL a), rfl, by cases h1 : holdsB lot a <;> simp [b_enabled_L1, h1, holds_s P]⟩) none
  rw [show ((gI rs v).any fun r => holdsB lot r) = enabB rs lot v from rfl] at e
  simp [callF_eqn, b_enabled, atI_map h0 h1, e]
  cases enabB rs lot v <;> simp
theorem toggled_s {lot : List Int} {v : Int} (hl : lot.length ≤ 1000) : (run Γ W (k + 1)).call 21 [eL lot, .int v] h = .ok (eL (togL lot v)) h := by
  rw [call_pk P rfl]
  have hs : lot.length + 1 ≤ sizeLine := size_le (by omega)
  have e := lc_pure (c := run Γ W k) (t := false) (e := [some (eL lot), some (.int v), none]) (h := h) (own := [2]) (tg := .nm 2) (it := .itv (.var 0)) (cond := .cmp .ne (.var 2) (.var 1)) (elt := .var 2) (l := lot) (f := D.int) (fun x => decide (x ≠ v)) D.int (by simp) (by omega) (fun _ => rfl)
    (fun a _ => ⟨[some (eL lot), some (.int v), some (.int a)], by simp, fun acc => by simp⟩)
  by_cases hv : v ∈ lot
  · simp [callF_eqn, b_toggled, hv, e, togL]
  · have e2 : lot.map D.int ++ [.int v] = (lot ++ [v]).map D.int := by simp
    have e3 : (isort (lot ++ [v])).length = lot.length + 1 := by rw [(isort_perm _).length_eq]; simp
    simp [callF_eqn, b_toggled, hv, togL, hs, e2, e3, -List.map_append]
end
end N9

set_option Elab.async false
set_option linter.all false
set_option maxRecDepth 100000
namespace N9
open PySem PySem.Spec L2
theorem asc_iff : ∀ {l : List Int} {last n : Int}, asc last n l = true ↔ (last :: l).Pairwise (· < ·) ∧ ∀ x ∈ l, x < n
  | [], last, n => by simp [asc]
  | v :: l, last, n => by
    rw [asc, Bool.and_eq_true, Bool.and_eq_true, decide_eq_true_eq, decide_eq_true_eq, asc_iff]
    constructor
    · rintro ⟨⟨h1, h2⟩, h3, h4⟩
      refine ⟨List.pairwise_cons.mpr ⟨fun x hx => ?_, h3⟩, fun x hx => ?_⟩
      · rcases List.mem_cons.mp hx with rfl | m
        · exact h1
        · exact Int.lt_trans h1 ((List.pairwise_cons.mp h3).1 x m)
      · rcases List.mem_cons.mp hx with rfl | m
        · exact h2
        · exact h4 x m
    · rintro ⟨h1, h2⟩
      obtain ⟨h3, h4⟩ := List.pairwise_cons.mp h1
      exact ⟨⟨h3 v List.mem_cons_self, h2 v List.mem_cons_self⟩, h4, fun x hx => h2 x (List.mem_cons_of_mem _ hx)⟩
theorem asc_of {l : List Int} {n : Int} (s : l.Pairwise (· < ·)) (h : ∀ x ∈ l, 0 ≤ x ∧ x < n) : asc (-1) n l = true := by
  rw [asc_iff]
  exact ⟨List.pairwise_cons.mpr ⟨fun x hx => by have := h x hx; omega, s⟩, fun x hx => (h x hx).2⟩
theorem asc_pw {l : List Int} {n : Int} (a : asc (-1) n l = true) : l.Pairwise (· < ·) := (List.pairwise_cons.mp (asc_iff.mp a).1).2
theorem asc_mem {l : List Int} {n : Int} (a : asc (-1) n l = true) {x : Int} (hx : x ∈ l) : 0 ≤ x ∧ x < n := by
  have := (List.pairwise_cons.mp (asc_iff.mp a).1).1 x hx
  exact ⟨by omega, (asc_iff.mp a).2 x hx⟩
theorem asc_sub {l : List Int} {n : Int} (s : List.Sublist l (rI 0 n.toNat)) (h0 : 0 ≤ n) : asc (-1) n l = true :=
  asc_of (rI_sorted.sublist s) fun x hx => by have := mem_rI.mp (s.mem hx); omega
theorem asc_len {l : List Int} {n : Int} (a : asc (-1) n l = true) (h0 : 0 ≤ n) : l.length ≤ n.toNat := by
  have hn : l.Nodup := (asc_pw a).imp (fun h => by omega)
  have := hn.length_le_of_subset (l₂ := rI 0 n.toNat) (fun x hx => mem_rI.mpr (by have := asc_mem a hx; omega))
  rwa [rI_length] at this
def okRow (v : Int) (row : List (List Int)) : Prop := 1 ≤ row.length ∧ row.length ≤ 4 ∧ row.Nodup ∧ ∀ r ∈ row, asc (-1) v r = true
/-- recipes of the values v, v + 1, .. -/
def okRows : Int → List (List (List Int)) → Prop
  | _, [] => True
  | v, row :: l => okRow v row ∧ okRows (v + 1) l
structure VR (rs : List (List (List Int))) : Prop where
  lo : 1 ≤ rs.length
  hi : rs.length ≤ 10
  row : okRows 0 rs
structure VP (ps : List Int) (n : Nat) : Prop where
  len : ps.length = n
  pr : ∀ p ∈ ps, 1 ≤ p ∧ p ≤ 9
/-- a graph -/
def gD (rs : List (List (List Int))) (ps : List Int) : D := .ins 0 [eRR rs, eL ps, .int rs.length]
@[simp] theorem pure_gD {rs : List (List (List Int))} {ps : List Int} : D.pure (gD rs ps) = true := by simp [gD]
def ones (n : Nat) : List Int := List.replicate n 1
theorem VP_ones {n : Nat} : VP (ones n) n := ⟨by simp [ones], fun p hp => by have := (List.mem_replicate.mp hp).2; omega⟩
section
variable {Γ : Nat → Option Df} {W k : Nat} {h : Hm} (P : Pk Γ)
include P
theorem are_recipes_of_s {row : List (List Int)} {v : Int} (ok : okRow v row) : (run Γ W (k + 3)).call 5 [eR row, .int v] h = .ok (.bl true) h := by
  rw [call_pk P rfl]
  obtain ⟨h1, h2, h3, h4⟩ := ok
  have hs : ∀ n, n ≤ 100 → n < sizeLine := fun n hn => size_lt (by omega)
  have key : ∀ (l done : List (List Int)) (x : Option D), done ++ l = row → ∃ y, forL (run Γ W (k + 2)) W (fun _ => True) (.nm 3) b_are_recipes_of_L1 (l.map eL) [some (eR row), some (.int v), some (.ref h.length), x] (h ++ [.lst (done.map eL)]) =
      .nx [some (eR row), some (.int v), some (.ref h.length), y] (h ++ [.lst (row.map eL)]) := by
    intro l
    induction l with
    | nil => intro done x e; rw [List.append_nil] at e; subst e; exact ⟨x, by simp⟩
    | cons r l ih =>
      intro done x e
      have hr : asc (-1) v r = true := h4 r (by rw [← e]; simp)
      have hn : r ∉ done := by
        rw [← e] at h3
        exact fun m => (List.nodup_append.mp h3).2.2 r m r List.mem_cons_self rfl
      have hd : done.length < sizeLine := hs _ (by have := congrArg List.length e; simp at this; omega)
      obtain ⟨y, e2⟩ := ih (done ++ [r]) (some (eL r)) (by rw [← e]; simp)
      refine ⟨y, ?_⟩
      rw [List.map_append, List.map_singleton] at e2
      have hb : ex (run Γ W (k + 2)) W b_are_recipes_of_L1 [some (eR row), some (.int v), some (.ref h.length), some (eL r)] (h ++ [.lst (done.map eL)]) = .nx [some (eR row), some (.int v), some (.ref h.length), some (eL r)] (h ++ [.lst (done.map eL ++ [eL r])]) := by
        simp [b_are_recipes_of_L1, is_ascending_s P, hr, hn, hd]
      simp [hb, e2]
  obtain ⟨y, e⟩ := key row [] none rfl
  have h1' : (1 : Int) ≤ (row.length : Int) := by omega
  have h2' : (row.length : Int) ≤ 4 := by omega
  simp at e
  simp [callF_eqn, b_are_recipes_of, Tk.nm, h1, h2, h1', h2', e]
theorem are_recipes_s {rs : List (List (List Int))} (ok : VR rs) : (run Γ W (k + 4)).call 6 [eRR rs] h = .ok (.bl true) h := by
  rw [call_pk P rfl]
  obtain ⟨h1, h2, h3⟩ := ok
  have key : ∀ (l : List (List (List Int))) (i : Nat) (x w : Option D), okRows i l → ∃ y z, forL (run Γ W (k + 3)) W (fun _ => True) (.tp [1, 2]) b_are_recipes_L1 (enmL i (l.map eR)) [some (eRR rs), x, w] h = .nx [some (eRR rs), y, z] h := by
    intro l
    induction l with
    | nil => intro i x w _; exact ⟨x, w, by simp⟩
    | cons r l ih =>
      intro i x w ok
      obtain ⟨y', z, e⟩ := ih (i + 1) (some (.int i)) (some (eR r)) (by have := ok.2; rwa [show ((i + 1 : Nat) : Int) = (i : Int) + 1 from by omega])
      have hb : ex (run Γ W (k + 3)) W b_are_recipes_L1 [some (eRR rs), some (.int i), some (eR r)] h = .nx [some (eRR rs), some (.int i), some (eR r)] h := by
        simp [b_are_recipes_L1, are_recipes_of_s P ok.1]
      exact ⟨y', z, by simp [hb, e]⟩
  obtain ⟨y, z, e⟩ := key rs 0 none none h3
  have h1' : (1 : Int) ≤ (rs.length : Int) := by omega
  have h2' : (rs.length : Int) ≤ 10 := by omega
  simp [callF_eqn, b_are_recipes, Tk.nm, h1', h2', e]
theorem are_prices_s {ps : List Int} {n : Nat} (ok : VP ps n) : (run Γ W (k + 2)).call 7 [eL ps, .int n] h = .ok (.bl true) h := by
  rw [call_pk P rfl]
  obtain ⟨h1, h2⟩ := ok
  obtain ⟨y, e⟩ := forL_any (c := run Γ W (k + 1)) (W := W) (tg := .nm 2) (b := b_are_prices_L1) (h := h) (l := ps) (f := D.int) (r := .bl false) (fun x => [some (eL ps), some (.int n), x]) (fun _ => false)
    (fun a ha x => ⟨_, some (.int a), rfl, by have := h2 a ha; simp [b_are_prices_L1, is_integer_i P, this]⟩) none
  have q : (ps.any fun _ => false) = false := by simp
  rw [q] at e
  have h1' : (ps.length : Int) = n := by omega
  simp [callF_eqn, b_are_prices, Tk.nm, h1', e]
theorem graph_init {rs : List (List (List Int))} {ps : List Int} (ok : VR rs) (okp : VP ps rs.length) : (run Γ W (k + 5)).call 9 [.ref h.length, eRR rs, eL ps] (h ++ [.ins 0 []]) = .ok .non (h ++ [.ins 0 [eRR rs, eL ps, .int rs.length]]) := by
  rw [call_pk P rfl]
  simp [callF_eqn, b_Graph___init__, are_recipes_s P ok, are_prices_s P okp]
theorem graph_init0 {rs : List (List (List Int))} (ok : VR rs) : (run Γ W (k + 5)).call 9 [.ref h.length, eRR rs, .non] (h ++ [.ins 0 []]) = .ok .non (h ++ [.ins 0 [eRR rs, eL (ones rs.length), .int rs.length]]) := by
  rw [call_pk P rfl]
  have := ok.hi
  have e : (run Γ W (k + 4)).call 7 [eL (List.replicate rs.length 1), .int rs.length] (h ++ [.ins 0 []]) = .ok (.bl true) (h ++ [.ins 0 []]) := are_prices_s P (VP_ones (n := rs.length))
  have h1 : (rs.length : Int) ≤ 1000 := by omega
  simp [callF_eqn, b_Graph___init__, are_recipes_s P ok, h1, e, ones]
end
end N9

set_option Elab.async false
set_option linter.all false
set_option maxRecDepth 100000
namespace N9
open PySem PySem.Spec L2
def deedsL (rs : List (List (List Int))) (lot : List Int) : List Int := (rI 0 rs.length).filter (enabB rs lot)
def readyL (rs : List (List (List Int))) (lot : List Int) (v : Int) : List (List Int) := (gI rs v).filter (holdsB lot)
section
variable {Γ : Nat → Option Df} {W k : Nat} {h : Hm} (P : Pk Γ) {rs : List (List (List Int))} {ps lot : List Int} {v : Int}
include P
theorem jl (hl : asc (-1) rs.length lot = true) : (run Γ W (k + 4)).call 17 [gD rs ps, eL lot] h = .ok .non h := judge_lot_s P (n := rs.length) rfl hl
theorem jv (h0 : 0 ≤ v) (h1 : v < rs.length) : (run Γ W (k + 3)).call 4 [gD rs ps, .int v] h = .ok .non h := judge_value_s P (n := rs.length) rfl h0 h1
theorem can_s (hl : asc (-1) rs.length lot = true) (h0 : 0 ≤ v) (h1 : v < rs.length) : (run Γ W (k + 5)).call 42 [gD rs ps, eL lot, .int v] h = .ok (.bl (enabB rs lot v)) h := by
  rw [call_pk P rfl]
  simp [callF_eqn, b_can, jl P hl, jv P h0 h1]
  simp [gD, enabled_s P h0 h1]
theorem after_s (hl : asc (-1) rs.length lot = true) (hn : rs.length ≤ 100) (h0 : 0 ≤ v) (h1 : v < rs.length) (he : enabB rs lot v = true) : (run Γ W (k + 5)).call 43 [gD rs ps, eL lot, .int v] h = .ok (eL (togL lot v)) h := by
  have : lot.length ≤ 1000 := by have := asc_len hl (by omega); omega
  rw [call_pk P rfl]
  simp [callF_eqn, b_after, jl P hl, jv P h0 h1]
  simp [gD, enabled_s P h0 h1, he, toggled_s P this]
theorem ready_s (hl : asc (-1) rs.length lot = true) (h0 : 0 ≤ v) (h1 : v < rs.length) (hr : (gI rs v).length ≤ 100) : (run Γ W (k + 5)).call 41 [gD rs ps, eL lot, .int v] h = .ok (.ref h.length) (h ++ [.lst ((readyL rs lot v).map eL)]) := by
  rw [call_pk P rfl]
  have e := lc_pureH (c := run Γ W (k + 4)) (t := false) (e := [some (gD rs ps), some (eL lot), some (.int v), none]) (h := h) (own := [3]) (tg := .nm 3) (it := .itv (.op .idx (.cons (.op (.att 0 0 "recipes") (.cons (.var 0) .nil)) (.cons (.var 2) .nil)))) (cond := .call 19 none (.cons (.var 1) (.cons (.var 3) .nil))) (elt := .var 3) (l := gI rs v) (f := eL) (holdsB lot) eL (by simp [gD, atI_map h0 h1]) (size_le (by omega))
    (fun a _ => ⟨[some (gD rs ps), some (eL lot), some (.int v), some (eL a)], by simp, fun acc => by simp [holds_s P]⟩)
  simp [callF_eqn, b_ready, jl P hl, jv P h0 h1, e, readyL]
theorem deeds_s (hl : asc (-1) rs.length lot = true) (hr : rs.length ≤ 100) : (run Γ W (k + 5)).call 44 [gD rs ps, eL lot] h = .ok (.ref h.length) (h ++ [.lst ((deedsL rs lot).map .int)]) := by
  rw [call_pk P rfl]
  have e := lc_pureH (c := run Γ W (k + 4)) (t := false) (e := [some (gD rs ps), some (eL lot), none]) (h := h) (own := [2]) (tg := .nm 2) (it := .rng1 (.op (.att 0 2 "size") (.cons (.var 0) .nil))) (cond := .call 20 none (.cons (.op (.att 0 0 "recipes") (.cons (.var 0) .nil)) (.cons (.var 1) (.cons (.var 2) .nil)))) (elt := .var 2) (l := rI 0 rs.length) (f := D.int) (enabB rs lot) D.int (evI_n1 (by simp [gD]) (by omega)) (size_le (by rw [rI_length]; omega))
    (fun a ha => ⟨[some (gD rs ps), some (eL lot), some (.int a)], by simp, fun acc => by have := mem_rI.mp ha; simp [gD, enabled_s P (rs := rs) (v := a) (by omega) (by omega)]⟩)
  simp [callF_eqn, b_deeds, jl P hl, e, deedsL]
end
end N9

set_option Elab.async false
set_option linter.all false
set_option maxRecDepth 100000
namespace N9
open PySem PySem.Spec L2
theorem asc_nodup {l : List Int} {n : Int} (a : asc (-1) n l = true) : l.Nodup := (asc_pw a).imp (fun h => by omega)
theorem pw_ext : ∀ {a b : List Int}, a.Pairwise (· < ·) → b.Pairwise (· < ·) → (∀ x, x ∈ a ↔ x ∈ b) → a = b
  | [], [], _, _, _ => rfl
  | [], y :: b, _, _, h => absurd ((h y).mpr List.mem_cons_self) (by simp)
  | x :: a, [], _, _, h => absurd ((h x).mp List.mem_cons_self) (by simp)
  | x :: a, y :: b, ha, hb, h => by
    obtain ⟨a1, a2⟩ := List.pairwise_cons.mp ha
    obtain ⟨b1, b2⟩ := List.pairwise_cons.mp hb
    have e : x = y := by
      have hx := (h x).mp List.mem_cons_self
      have hy := (h y).mpr List.mem_cons_self
      rcases List.mem_cons.mp hx with q | q
      · exact q
      · rcases List.mem_cons.mp hy with p | p
        · exact p.symm
        · have := b1 x q; have := a1 y p; omega
    subst e
    rw [pw_ext a2 b2 fun z => ?_]
    have hz := h z
    simp only [List.mem_cons] at hz
    constructor
    · intro m
      rcases hz.mp (.inr m) with q | q
      · have := a1 z m; omega
      · exact q
    · intro m
      rcases hz.mpr (.inr m) with q | q
      · have := b1 z m; omega
      · exact q
theorem asc_ext {a b : List Int} {n m : Int} (ha : asc (-1) n a = true) (hb : asc (-1) m b = true) (h : ∀ x, x ∈ a ↔ x ∈ b) : a = b := pw_ext (asc_pw ha) (asc_pw hb) h
theorem mem_isort {l : List Int} {x : Int} : x ∈ isort l ↔ x ∈ l := (isort_perm l).mem_iff
theorem isort_pw {l : List Int} (h : l.Nodup) : (isort l).Pairwise (· < ·) := by
  have h1 := isort_sorted l
  have h2 : (isort l).Nodup := (isort_perm l).nodup_iff.mpr h
  exact List.Pairwise.imp₂ (R := fun a b => a ≤ b) (S := fun a b => a ≠ b) (fun a b p q => by omega) h1 h2
theorem mem_togL {lot : List Int} {v x : Int} : x ∈ togL lot v ↔ (x ∈ lot ∧ x ≠ v) ∨ (x = v ∧ v ∉ lot) := by
  unfold togL
  by_cases h : v ∈ lot
  · rw [if_pos h]; simp [h]
  · rw [if_neg h, mem_isort, List.mem_append, List.mem_singleton]
    constructor
    · rintro (q | q)
      · exact .inl ⟨q, fun z => h (z ▸ q)⟩
      · exact .inr ⟨q, h⟩
    · rintro (q | q)
      · exact .inl q.1
      · exact .inr q.1
theorem tog_asc {lot : List Int} {n v : Int} (ha : asc (-1) n lot = true) (h0 : 0 ≤ v) (h1 : v < n) : asc (-1) n (togL lot v) = true := by
  refine asc_of ?_ fun x hx => ?_
  · unfold togL
    by_cases h : v ∈ lot
    · rw [if_pos h]; exact (asc_pw ha).filter _
    · rw [if_neg h]
      refine isort_pw (List.nodup_append.mpr ⟨asc_nodup ha, by simp, fun a ha b hb => ?_⟩)
      rw [List.mem_singleton] at hb
      subst hb; intro z; subst z; exact h ha
  · rcases mem_togL.mp hx with q | q
    · exact asc_mem ha q.1
    · rw [q.1]; exact ⟨h0, h1⟩
theorem tog_tog {lot : List Int} {n v : Int} (ha : asc (-1) n lot = true) (h0 : 0 ≤ v) (h1 : v < n) : togL (togL lot v) v = lot := by
  refine asc_ext (tog_asc (tog_asc ha h0 h1) h0 h1) ha fun x => ?_
  simp only [mem_togL]
  by_cases hv : v ∈ lot <;> by_cases hx : x = v <;> simp_all
theorem holds_iff {lot r : List Int} : holdsB lot r = true ↔ ∀ x ∈ r, x ∈ lot := by unfold holdsB; simp
theorem enab_iff {rs : List (List (List Int))} {lot : List Int} {v : Int} : enabB rs lot v = true ↔ ∃ r ∈ gI rs v, ∀ x ∈ r, x ∈ lot := by unfold enabB; rw [List.any_eq_true]; simp only [holds_iff]
theorem enab_mono {rs : List (List (List Int))} {lot more : List Int} {v : Int} (h : ∀ x ∈ lot, x ∈ more) (e : enabB rs lot v = true) : enabB rs more v = true := by
  rw [enab_iff] at *
  obtain ⟨r, h1, h2⟩ := e
  exact ⟨r, h1, fun x hx => h x (h2 x hx)⟩
theorem okRows_get : ∀ {l : List (List (List Int))} {i : Int} {j : Nat}, okRows i l → j < l.length → okRow (i + j) (l.getD j default)
  | [], _, _, _, h => absurd h (by simp)
  | r :: l, i, 0, h, _ => by simpa using h.1
  | r :: l, i, j + 1, h, hl => by
    have := okRows_get (j := j) h.2 (by simpa using hl)
    rw [show i + ((j + 1 : Nat) : Int) = i + 1 + (j : Int) from by omega]
    simpa using this
theorem VR.at {rs : List (List (List Int))} (ok : VR rs) {v : Int} (h0 : 0 ≤ v) (h1 : v < rs.length) : okRow v (gI rs v) := by
  have := okRows_get (j := v.toNat) ok.row (by omega)
  rw [show (0 : Int) + (v.toNat : Int) = v from by omega] at this
  exact this
theorem VR.part {rs : List (List (List Int))} (ok : VR rs) {v : Int} (h0 : 0 ≤ v) (h1 : v < rs.length) {r : List Int} (hr : r ∈ gI rs v) {x : Int} (hx : x ∈ r) : 0 ≤ x ∧ x < v := asc_mem ((ok.at h0 h1).2.2.2 r hr) hx
theorem enab_tog {rs : List (List (List Int))} (ok : VR rs) {lot : List Int} {v : Int} (h0 : 0 ≤ v) (h1 : v < rs.length) : enabB rs (togL lot v) v = enabB rs lot v := by
  rw [Bool.eq_iff_iff, enab_iff, enab_iff]
  constructor
  · rintro ⟨r, h2, h3⟩
    refine ⟨r, h2, fun x hx => ?_⟩
    have := ok.part h0 h1 h2 hx
    rcases mem_togL.mp (h3 x hx) with q | q
    · exact q.1
    · omega
  · rintro ⟨r, h2, h3⟩
    refine ⟨r, h2, fun x hx => ?_⟩
    have := ok.part h0 h1 h2 hx
    exact mem_togL.mpr (.inl ⟨h3 x hx, by omega⟩)
theorem tog_filter {lot : List Int} {n v : Int} (ha : asc (-1) n lot = true) (h0 : 0 ≤ v) (h1 : v < n) : ((togL lot v).filter fun x => decide (x ≠ v)) = lot.filter fun x => decide (x ≠ v) := by
  refine pw_ext ((asc_pw (tog_asc ha h0 h1)).filter _) ((asc_pw ha).filter _) fun x => ?_
  simp only [List.mem_filter, mem_togL, decide_eq_true_eq]
  constructor
  · rintro ⟨q | q, z⟩
    · exact ⟨q.1, z⟩
    · exact absurd q.1 z
  · rintro ⟨q, z⟩
    exact ⟨.inl ⟨q, z⟩, z⟩
theorem mem_deedsL {rs : List (List (List Int))} {lot : List Int} {v : Int} (h0 : 0 ≤ v) (h1 : v < rs.length) : (v ∈ deedsL rs lot) ↔ enabB rs lot v = true := by
  unfold deedsL
  rw [List.mem_filter, mem_rI]
  exact ⟨fun h => h.2, fun h => ⟨by omega, h⟩⟩
theorem deedsL_mem {rs : List (List (List Int))} {lot : List Int} {v : Int} (h : v ∈ deedsL rs lot) : 0 ≤ v ∧ v < rs.length ∧ enabB rs lot v = true := by
  unfold deedsL at h
  rw [List.mem_filter, mem_rI] at h
  exact ⟨h.1.1, by omega, h.2⟩
theorem readyL_ne {rs : List (List (List Int))} {lot : List Int} {v : Int} : (readyL rs lot v).isEmpty = !enabB rs lot v := by
  unfold readyL enabB
  induction gI rs v with
  | nil => rfl
  | cons r l ih =>
    rw [List.filter_cons, List.any_cons]
    cases holdsB lot r <;> simp [ih]
theorem okRows_snoc : ∀ {l : List (List (List Int))} {v : Int} {row : List (List Int)}, okRows v l → okRow (v + l.length) row → okRows v (l ++ [row])
  | [], v, row, _, h => ⟨by simpa using h, trivial⟩
  | r :: l, v, row, h, h2 => ⟨h.1, okRows_snoc h.2 (by rw [List.length_cons] at h2; rwa [show v + 1 + (l.length : Int) = v + ((l.length + 1 : Nat) : Int) from by omega])⟩
end N9

set_option Elab.async false
set_option linter.all false
set_option maxRecDepth 100000
namespace N9
open PySem PySem.Spec L2
/-! ## heaps of pairs (price, lot) -/
abbrev QI := Int × List Int
def eQ (x : QI) : D := .tup [.int x.1, eL x.2]
@[simp] theorem pure_eQ {x : QI} : D.pure (eQ x) = true := by simp [eQ]
def pyQ (x : QI) : PyData := .tuple [.int x.1, Enc.py eL x.2]
def ltQ (x y : QI) : Bool := PySem.W.dataLt (pyQ x) (pyQ y)
theorem alike_ints : ∀ {a b : List Int}, PySem.W.alikeAll (a.map (Enc.py D.int)) (b.map (Enc.py D.int)) = true
  | [], _ => by simp [PySem.W.alikeAll]
  | _ :: _, [] => by simp [PySem.W.alikeAll]
  | x :: a, y :: b => by
    rw [List.map_cons, List.map_cons, PySem.W.alikeAll, Bool.and_eq_true]
    exact ⟨by show PySem.W.alike (.int x) (.int y) = true; simp [PySem.W.alike], alike_ints⟩
theorem shaped_pyQ {x : QI} : SeqAt.shaped (pyQ x) = true := by
  unfold SeqAt.shaped pyQ
  have h1 := encL.sh x.2
  have h2 := encL.dp x.2
  rw [Bool.and_eq_true, decide_eq_true_eq]
  refine ⟨?_, ?_⟩
  · rw [PyData.canLay0, PyData.canLayAll0, PyData.canLayAll0, PyData.canLayAll0, PyData.canLay0]
    rw [show PyData.canLay0 (Enc.py eL x.2) = true from h1]; rfl
  · rw [PyData.depth, PyData.depthAll, PyData.depthAll, PyData.depthAll, PyData.depth]
    have h2 : PyData.depth (Enc.py eL x.2) ≤ 2 := h2
    omega
@[simp] theorem lt_eQ {h : Hm} {x y : QI} : cmpD .lt h (eQ x) (eQ y) = some (ltQ x y) := by
  show (match D.pys (pyR h 2) [.int x.1, eL x.2], D.pys (pyR h 2) [.int y.1, eL y.2] with
      | some x, some y => if PySem.W.alikeAll x y && SeqAt.shaped (.tuple x) && SeqAt.shaped (.tuple y) then some (PySem.W.dataLt (.tuple x) (.tuple y)) else none
      | _, _ => none) = _
  simp only [pys_cons, py_int, py_eL, pys_nil]
  have h1 : PySem.W.alikeAll [.int x.1, Enc.py eL x.2] [.int y.1, Enc.py eL y.2] = true := by
    rw [PySem.W.alikeAll, PySem.W.alikeAll, PySem.W.alikeAll]
    have : PySem.W.alike (Enc.py eL x.2) (Enc.py eL y.2) = true := by
      show PySem.W.alike (.tuple (x.2.map (Enc.py D.int))) (.tuple (y.2.map (Enc.py D.int))) = true
      rw [PySem.W.alike]; exact alike_ints
    rw [this]; simp [PySem.W.alike]
  have h2 : SeqAt.shaped (.tuple [.int x.1, Enc.py eL x.2]) = true := shaped_pyQ (x := x)
  have h3 : SeqAt.shaped (.tuple [.int y.1, Enc.py eL y.2]) = true := shaped_pyQ (x := y)
  rw [h1, h2, h3]; rfl
theorem ltQ_eqn {x y : QI} : ltQ x y = if x.1 < y.1 then true else if y.1 < x.1 then false else PyProof.Rows.lexLt PyProof.Rows.itemOrd (PySem.W.keyToksAll [Enc.py eL x.2]) (PySem.W.keyToksAll [Enc.py eL y.2]) := by
  show PyProof.Rows.lexLt PyProof.Rows.itemOrd (PySem.W.keyToks (.tuple [.int x.1, Enc.py eL x.2])) (PySem.W.keyToks (.tuple [.int y.1, Enc.py eL y.2])) = _
  rw [PySem.W.keyToks, PySem.W.keyToks, PySem.W.toks_all_cons (.int x.1), PySem.W.toks_all_cons (.int y.1), PySem.W.keyToks, PySem.W.keyToks]
  rw [PyProof.Rows.lex_self (O := PyProof.Rows.itemOrd)]
  show PyProof.Rows.lexLt PyProof.Rows.itemOrd (.inl x.1 :: PySem.W.keyToksAll [Enc.py eL x.2]) (.inl y.1 :: PySem.W.keyToksAll [Enc.py eL y.2]) = _
  by_cases h : x.1 = y.1
  · rw [h, PyProof.Rows.lex_self (O := PyProof.Rows.itemOrd), if_neg (by omega), if_neg (by omega)]
  · rw [PyProof.Rows.lex_diff (O := PyProof.Rows.itemOrd) (by intro z; exact h (Sum.inl.inj z))]
    show decide (x.1 < y.1) = _
    by_cases h2 : x.1 < y.1
    · rw [if_pos h2]; exact decide_eq_true h2
    · rw [if_neg h2, if_pos (by omega)]; exact decide_eq_false h2
theorem ltQ_t {x y : QI} (h : ltQ x y = true) : x.1 ≤ y.1 := by
  rw [ltQ_eqn] at h
  by_cases h1 : x.1 < y.1
  · omega
  · rw [if_neg h1] at h
    by_cases h2 : y.1 < x.1
    · rw [if_pos h2] at h; cases h
    · omega
theorem ltQ_f {x y : QI} (h : ltQ x y = false) : y.1 ≤ x.1 := by
  rw [ltQ_eqn] at h
  by_cases h1 : x.1 < y.1
  · rw [if_pos h1] at h; cases h
  · omega
/-- the item at a place -/
def G (l : List QI) (k : Nat) : QI := l.getD k default
theorem gI_nat {l : List QI} {k : Nat} : gI l (k : Int) = G l k := by unfold gI G; rw [Int.toNat_natCast]
theorem G_get {l : List QI} {k : Nat} (h : k < l.length) : l[k]? = some (G l k) := by
  unfold G; rw [List.getElem?_eq_getElem h, List.getD_eq_getElem?_getD, List.getElem?_eq_getElem h]; rfl
theorem G_mem {l : List QI} {k : Nat} (h : k < l.length) : G l k ∈ l := List.mem_of_getElem? (G_get h)
theorem G_set {l : List QI} {i k : Nat} {x : QI} (h : i < l.length) : G (l.set i x) k = if k = i then x else G l k := by
  unfold G
  rw [List.getD_eq_getElem?_getD, List.getElem?_set]
  by_cases e : i = k
  · subst e; rw [if_pos rfl, if_pos rfl, if_pos h]; rfl
  · rw [if_neg e, if_neg (Ne.symm e), List.getD_eq_getElem?_getD]
def swp (l : List QI) (i j : Nat) : List QI := (l.set j (G l i)).set i (G l j)
@[simp] theorem swp_length {l : List QI} {i j : Nat} : (swp l i j).length = l.length := by simp [swp]
theorem G_swp {l : List QI} {i j k : Nat} (hi : i < l.length) (hj : j < l.length) : G (swp l i j) k = if k = i then G l j else if k = j then G l i else G l k := by
  unfold swp
  rw [G_set (by simpa using hi), G_set hj]
theorem mem_G {l : List QI} {z : QI} : z ∈ l ↔ ∃ k, k < l.length ∧ G l k = z := by
  constructor
  · intro h
    obtain ⟨k, hk, e⟩ := List.mem_iff_getElem.mp h
    exact ⟨k, hk, by have := G_get hk; rw [List.getElem?_eq_getElem hk] at this; rw [← Option.some.inj this]; exact e⟩
  · rintro ⟨k, hk, rfl⟩; exact G_mem hk
theorem mem_swp {l : List QI} {i j : Nat} (hi : i < l.length) (hj : j < l.length) {z : QI} : z ∈ swp l i j ↔ z ∈ l := by
  rw [mem_G, mem_G]
  constructor
  · rintro ⟨k, hk, rfl⟩
    rw [swp_length] at hk
    rw [G_swp hi hj]
    by_cases h1 : k = i
    · exact ⟨j, hj, by rw [if_pos h1]⟩
    · rw [if_neg h1]
      by_cases h2 : k = j
      · exact ⟨i, hi, by rw [if_pos h2]⟩
      · exact ⟨k, hk, by rw [if_neg h2]⟩
  · rintro ⟨k, hk, rfl⟩
    by_cases h1 : k = i
    · refine ⟨j, by simpa using hj, ?_⟩
      rw [G_swp hi hj]
      by_cases h2 : j = i
      · rw [if_pos h2, h2, h1]
      · rw [if_neg h2, if_pos rfl, h1]
    · by_cases h2 : k = j
      · exact ⟨i, by simpa using hi, by rw [G_swp hi hj, if_pos rfl, h2]⟩
      · exact ⟨k, by simpa using hk, by rw [G_swp hi hj, if_neg h1, if_neg h2]⟩
def HeapP (l : List QI) : Prop := ∀ k, 0 < k → k < l.length → (G l ((k - 1) / 2)).1 ≤ (G l k).1
theorem HeapP.root {l : List QI} (h : HeapP l) : ∀ k, k < l.length → (G l 0).1 ≤ (G l k).1 := by
  intro k
  induction k using Nat.strongRecOn with
  | ind k ih =>
    intro hk
    by_cases h0 : k = 0
    · subst h0; exact Int.le_refl _
    · exact Int.le_trans (ih ((k - 1) / 2) (by omega) (by omega)) (h k (by omega) hk)
/-- a heap but for what stands above i -/
def HUp (l : List QI) (i : Nat) : Prop := (∀ k, 0 < k → k < l.length → k ≠ i → (G l ((k - 1) / 2)).1 ≤ (G l k).1) ∧ (0 < i → ∀ k, 0 < k → k < l.length → (k - 1) / 2 = i → (G l ((i - 1) / 2)).1 ≤ (G l k).1)
/-- a heap but for what stands below i -/
def HDn (l : List QI) (i : Nat) : Prop := (∀ k, 0 < k → k < l.length → (k - 1) / 2 ≠ i → (G l ((k - 1) / 2)).1 ≤ (G l k).1) ∧ (0 < i → ∀ k, 0 < k → k < l.length → (k - 1) / 2 = i → (G l ((i - 1) / 2)).1 ≤ (G l k).1)
theorem HUp.done {l : List QI} {i : Nat} (h : HUp l i) (d : i = 0 ∨ (G l ((i - 1) / 2)).1 ≤ (G l i).1) : HeapP l := by
  intro k k0 kl
  by_cases e : k = i
  · subst e
    rcases d with d | d
    · omega
    · exact d
  · exact h.1 k k0 kl e
theorem HUp.step {l : List QI} {i : Nat} (h : HUp l i) (i0 : 0 < i) (il : i < l.length) (lt : (G l i).1 ≤ (G l ((i - 1) / 2)).1) : HUp (swp l i ((i - 1) / 2)) ((i - 1) / 2) := by
  have hj : (i - 1) / 2 < l.length := by omega
  generalize hjj : (i - 1) / 2 = j at *
  have ij : i ≠ j := by omega
  refine ⟨fun k k0 kl ke => ?_, fun j0 k k0 kl ke => ?_⟩
  · rw [swp_length] at kl
    rw [G_swp il hj, G_swp il hj]
    by_cases e1 : k = i
    · subst e1
      rw [hjj, if_neg (Ne.symm ij), if_pos rfl, if_pos rfl]; exact lt
    · rw [if_neg e1, if_neg ke]
      by_cases e2 : (k - 1) / 2 = i
      · rw [if_pos e2]; have := h.2 i0 k k0 kl e2; rw [hjj] at this; exact this
      · rw [if_neg e2]
        by_cases e3 : (k - 1) / 2 = j
        · rw [if_pos e3]
          have := h.1 k k0 kl e1
          rw [e3] at this
          exact Int.le_trans lt this
        · rw [if_neg e3]; exact h.1 k k0 kl e1
  · rw [swp_length] at kl
    have hp : (j - 1) / 2 ≠ i := by omega
    have hp2 : (j - 1) / 2 ≠ j := by omega
    rw [G_swp il hj, if_neg hp, if_neg hp2, G_swp il hj]
    have hjp := h.1 j j0 hj (Ne.symm ij)
    by_cases e1 : k = i
    · rw [if_pos e1]; exact hjp
    · rw [if_neg e1, if_neg (by omega)]
      have := h.1 k k0 kl e1
      rw [ke] at this
      exact Int.le_trans hjp this
theorem HDn.done {l : List QI} {i : Nat} (h : HDn l i) (d : ∀ k, 0 < k → k < l.length → (k - 1) / 2 = i → (G l i).1 ≤ (G l k).1) : HeapP l := by
  intro k k0 kl
  by_cases e : (k - 1) / 2 = i
  · rw [e]; exact d k k0 kl e
  · exact h.1 k k0 kl e
theorem HDn.step {l : List QI} {i j : Nat} (h : HDn l i) (il : i < l.length) (hj : j < l.length) (hij : (j - 1) / 2 = i) (j0 : 0 < j) (lt : (G l j).1 ≤ (G l i).1) (mn : ∀ k, 0 < k → k < l.length → (k - 1) / 2 = i → (G l j).1 ≤ (G l k).1) : HDn (swp l i j) j := by
  have ij : i ≠ j := by omega
  refine ⟨fun k k0 kl ke => ?_, fun _ k k0 kl ke => ?_⟩
  · rw [swp_length] at kl
    rw [G_swp il hj, G_swp il hj, if_neg ke]
    by_cases e1 : k = i
    · subst e1
      rw [if_neg (by omega), if_pos rfl]
      exact h.2 k0 j j0 hj hij
    · rw [if_neg e1]
      by_cases e2 : (k - 1) / 2 = i
      · rw [if_pos e2]
        by_cases e3 : k = j
        · rw [if_pos e3]; exact lt
        · rw [if_neg e3]; exact mn k k0 kl e2
      · rw [if_neg e2]
        by_cases e3 : k = j
        · subst e3; exact absurd hij e2
        · rw [if_neg e3]; exact h.1 k k0 kl e2
  · rw [swp_length] at kl
    rw [hij, G_swp il hj, G_swp il hj, if_pos rfl, if_neg (by omega), if_neg (by omega)]
    have := h.1 k k0 kl (by omega)
    rw [ke] at this; exact this
theorem ixN_nat {n i : Nat} (h : i < n) : ixN n (i : Int) = some i := by
  unfold ixN; rw [if_pos (by omega), if_pos (by omega), Int.toNat_natCast]
theorem map_set' {α β : Type} {f : α → β} : ∀ {l : List α} {i : Nat} {x : α}, (l.map f).set i (f x) = (l.set i x).map f
  | [], _, _ => rfl
  | _ :: _, 0, _ => rfl
  | a :: l, i + 1, x => by simp
section
variable {Γ : Nat → Option Df} {W k : Nat} {h : Hm} (P : Pk Γ) {n : Nat}
include P
theorem push_loop {ob : Ob} (hn : h[n]? = some ob) {it : Option D} : ∀ (m : Nat) (q : List QI) (i : Nat) (x3 x4 : Option D), i < q.length → i < m → q.length ≤ 1000000 → HUp q i → ∃ q' x2 x3' x4', (∀ z, z ∈ q' ↔ z ∈ q) ∧ q'.length = q.length ∧ HeapP q' ∧
    whlL (run Γ W k) W b_heappush_T1 b_heappush_L1 m [some (.ref n), it, some (.int i), x3, x4] (h.set n (.lst (q.map eQ))) =
      .nx [some (.ref n), it, x2, x3', x4'] (h.set n (.lst (q'.map eQ))) := by
  intro m
  induction m with
  | zero => intro q i x3 x4 _ h2; omega
  | succ m ih =>
    intro q i x3 x4 h1 h2 hq hu
    have hg : ∀ x, (h.set n x)[n]? = some x := fun x => get_set hn
    by_cases c1 : 0 < i
    · have c1' : (0 : Int) < i := by omega
      have hd : ((i : Int) - 1) / 2 = (((i - 1) / 2 : Nat) : Int) := by omega
      have e1 : atI (q.map eQ) (i : Int) = some (eQ (G q i)) := by rw [atI_map (by omega) (by omega), gI_nat]
      have hj : (i - 1) / 2 < q.length := by omega
      have e2 : atI (q.map eQ) (((i - 1) / 2 : Nat) : Int) = some (eQ (G q ((i - 1) / 2))) := by rw [atI_map (by omega) (by omega), gI_nat]
      cases c2 : ltQ (G q i) (G q ((i - 1) / 2)) with
      | false =>
        refine ⟨q, some (.int i), x3, x4, fun _ => Iff.rfl, rfl, hu.done (.inr (ltQ_f c2)), ?_⟩
        rw [whlL_succ, b_heappush_T1]
        generalize ((i - 1) / 2 : Nat) = j at *
        simp [c1, c1', hg, hd, e1, e2, c2]
      | true =>
        obtain ⟨q', x2, x3', x4', r1, r2, r3, r4⟩ := ih (swp q i ((i - 1) / 2)) ((i - 1) / 2) (some (.int ((i - 1) / 2 : Nat))) (some (eQ (G q ((i - 1) / 2)))) (by simpa using hj) (by omega) (by simpa using hq) (hu.step c1 h1 (ltQ_t c2))
        refine ⟨q', x2, x3', x4', fun z => by rw [r1, mem_swp h1 hj], by rw [r2, swp_length], r3, ?_⟩
        have tt : ev (run Γ W k) b_heappush_T1 true [some (.ref n), it, some (.int i), x3, x4] (h.set n (.lst (q.map eQ))) = .ok (.bl true) (h.set n (.lst (q.map eQ))) := by
          generalize ((i - 1) / 2 : Nat) = j at *
          simp [b_heappush_T1, c1, c1', hg, hd, e1, e2, c2]
        rw [whlL_succ, ← r4, tt]
        have hs : ((q.set ((i - 1) / 2) (G q i)).set i (G q ((i - 1) / 2))).map eQ = (swp q i ((i - 1) / 2)).map eQ := rfl
        have i1 : ixN q.length (((i - 1) / 2 : Nat) : Int) = some ((i - 1) / 2) := ixN_nat hj
        have i2 : ixN q.length (i : Int) = some i := ixN_nat h1
        have e3 : ∀ x y, atI ((q.map eQ).set x y) (i : Int) = atI ((q.map eQ).set x y) (i : Int) := fun _ _ => rfl
        have bd : ex (run Γ W k) W b_heappush_L1 [some (.ref n), it, some (.int i), x3, x4] (h.set n (.lst (q.map eQ))) = .nx [some (.ref n), it, some (.int ((i - 1) / 2 : Nat)), some (.int ((i - 1) / 2 : Nat)), some (eQ (G q ((i - 1) / 2)))] (h.set n (.lst ((swp q i ((i - 1) / 2)).map eQ))) := by
          rw [← hs]
          generalize ((i - 1) / 2 : Nat) = j at *
          simp [b_heappush_L1, hg, hd, e1, e2, i1, i2, map_set', -List.map_set]
        simp [bd]
    · have c0 : i = 0 := by omega
      refine ⟨q, some (.int i), x3, x4, fun _ => Iff.rfl, rfl, hu.done (.inl c0), ?_⟩
      rw [whlL_succ, b_heappush_T1]
      subst c0
      simp
theorem push_s {q : List QI} (hn : h[n]? = some (.lst (q.map eQ))) (hq : HeapP q) (hl : q.length < 1000000) (hW : q.length < W) (x : QI) : ∃ q', (∀ z, z ∈ q' ↔ z = x ∨ z ∈ q) ∧ q'.length = q.length + 1 ∧ HeapP q' ∧
    (run Γ W (k + 1)).call 105 [.ref n, eQ x] h = .ok .non (h.set n (.lst (q'.map eQ))) := by
  have hsz : q.length < sizeLine := size_lt (by omega)
  have hu : HUp (q ++ [x]) q.length := by
    have hG : ∀ k, k < q.length → G (q ++ [x]) k = G q k := fun k hk => by
      unfold G; rw [List.getD_eq_getElem?_getD, List.getD_eq_getElem?_getD, List.getElem?_append_left hk]
    refine ⟨fun k k0 kl ke => ?_, fun _ k k0 kl ke => ?_⟩
    · simp at kl
      rw [hG _ (by omega), hG _ (by omega)]
      exact hq k k0 (by omega)
    · simp at kl; omega
  obtain ⟨q', x2, x3, x4, r1, r2, r3, r4⟩ := push_loop (W := W) (k := k) P hn (it := some (eQ x)) W (q ++ [x]) q.length none none (by simp) (by omega) (by simp; omega) hu
  refine ⟨q', fun z => by rw [r1]; simp [or_comm], by rw [r2]; simp, r3, ?_⟩
  rw [call_pk P rfl]
  have e := gc_pureS (h := h) (d := .non) (p := n) (o := .lst (q'.map eQ)) (pures_mapF fun _ => pure_eQ) rfl
  rw [List.map_append, List.map_singleton] at r4
  have hg : ∀ x, (h.set n x)[n]? = some x := fun x => get_set hn
  simp [callF_eqn, b_heappush, hn, hsz, hg, r4, e]
theorem least_place_s {q : List QI} (hn : h[n]? = some (.lst (q.map eQ))) (hl : q.length ≤ 1000000) {i : Nat} (hi : i < q.length) : ∃ b, b < q.length ∧ (b = i ∨ (0 < b ∧ (b - 1) / 2 = i)) ∧ (G q b).1 ≤ (G q i).1 ∧ (∀ j, 0 < j → j < q.length → (j - 1) / 2 = i → (G q b).1 ≤ (G q j).1) ∧
    (run Γ W (k + 1)).call 106 [.ref n, .int i] h = .ok (.int b) h := by
  have at_ : ∀ j : Nat, j < q.length → atI (q.map eQ) (j : Int) = some (eQ (G q j)) := fun j hj => by rw [atI_map (by omega) (by omega), gI_nat]
  have s2 : smallMul 2 (i : Int) = true := smallL (by omega)
  have bd : ∀ (b c : Nat) (x : Option D), b < q.length → c < q.length → ex (run Γ W k) W b_least_place_L1 [some (.ref n), x, some (.int b), some (.int c)] h = .nx [some (.ref n), x, some (.int ((if ltQ (G q c) (G q b) then c else b : Nat) : Int)), some (.int c)] h := by
    intro b c x hb hc
    have e1 := at_ b hb
    have e2 := at_ c hc
    cases hlt : ltQ (G q c) (G q b) <;> simp [b_least_place_L1, hn, e1, e2, hlt]
  have hit : ∀ x : Option D, evI (run Γ W k) (.rng2 (.op (.bin true .add) (.cons (.op (.bin true .mul) (.cons (.con (.int 2)) (.cons (.var 1) .nil))) (.cons (.con (.int 1)) .nil))) (.op (.bi true .min) (.cons (.op (.bin true .add) (.cons (.op (.bin true .mul) (.cons (.con (.int 2)) (.cons (.var 1) .nil))) (.cons (.con (.int 3)) .nil))) (.cons (.op (.bi true .len) (.cons (.var 0) .nil)) .nil)))) [some (.ref n), some (.int i), some (.int i), x] h = .ok ⟨(rI (2 * i + 1) (min (2 * (i : Int) + 3) (q.length : Int) - (2 * i + 1)).toNat).map D.int, fun _ => True⟩ h := fun x => evI_r2 (h1 := h) (by simp [s2]) (by simp [s2, hn]) (by omega) (by omega)
  have mk : ∀ (b : Nat) (y : Option D), forL (run Γ W k) W (fun _ => True) (.nm 3) b_least_place_L1 ((rI (2 * i + 1) (min (2 * (i : Int) + 3) (q.length : Int) - (2 * i + 1)).toNat).map D.int) [some (.ref n), some (.int i), some (.int i), none] h = .nx [some (.ref n), some (.int i), some (.int b), y] h → (run Γ W (k + 1)).call 106 [.ref n, .int i] h = .ok (.int b) h := by
    intro b y hr
    rw [call_pk P rfl]
    generalize hL : (rI (2 * i + 1) (min (2 * (i : Int) + 3) (q.length : Int) - (2 * i + 1)).toNat).map D.int = L at *
    simp [callF_eqn, b_least_place, hit, hr]
  by_cases l1 : q.length ≤ 2 * i + 1
  · refine ⟨i, hi, .inl rfl, Int.le_refl _, fun j j0 jl je => by omega, mk i none ?_⟩
    rw [show (min (2 * (i : Int) + 3) (q.length : Int) - (2 * i + 1)).toNat = 0 from by omega, rI_zero]
    simp
  · obtain ⟨a, ha⟩ : ∃ a, a = 2 * i + 1 := ⟨_, rfl⟩
    obtain ⟨a2, ha2⟩ : ∃ a2, a2 = 2 * i + 2 := ⟨_, rfl⟩
    have c1 : a < q.length := by omega
    have e1 : (2 * (i : Int) + 1) = ((a : Nat) : Int) := by omega
    have e2 : (a : Int) + 1 = ((a2 : Nat) : Int) := by omega
    by_cases l2 : q.length ≤ 2 * i + 2
    · have hr : (rI (2 * (i : Int) + 1) (min (2 * (i : Int) + 3) (q.length : Int) - (2 * i + 1)).toNat) = [(a : Int)] := by
        rw [show (min (2 * (i : Int) + 3) (q.length : Int) - (2 * i + 1)).toNat = 1 from by omega, rI_succ, rI_zero, e1]
      refine ⟨if ltQ (G q a) (G q i) then a else i, by split <;> omega, ?_, ?_, ?_, mk _ _ (by rw [hr]; simp [bd i a _ hi c1]; rfl)⟩
      · split
        · exact .inr ⟨by omega, by omega⟩
        · exact .inl rfl
      · cases hlt : ltQ (G q a) (G q i) with
        | true => exact ltQ_t hlt
        | false => exact Int.le_refl _
      · intro j j0 jl je
        have : j = a := by omega
        subst this
        cases hlt : ltQ (G q j) (G q i) with
        | true => exact Int.le_refl _
        | false => exact ltQ_f hlt
    · have c2 : a2 < q.length := by omega
      have hr : (rI (2 * (i : Int) + 1) (min (2 * (i : Int) + 3) (q.length : Int) - (2 * i + 1)).toNat) = [(a : Int), (a2 : Int)] := by
        rw [show (min (2 * (i : Int) + 3) (q.length : Int) - (2 * i + 1)).toNat = 2 from by omega, rI_succ, rI_succ, rI_zero, e1, e2]
      have hb : (if ltQ (G q a) (G q i) then a else i) < q.length := by split <;> omega
      generalize hbb : (if ltQ (G q a) (G q i) then a else i) = b at hb
      have hb1 : (b = i ∨ b = a) ∧ (G q b).1 ≤ (G q i).1 ∧ (G q b).1 ≤ (G q a).1 := by
        subst hbb
        cases hlt : ltQ (G q a) (G q i) with
        | true => exact ⟨.inr rfl, ltQ_t hlt, Int.le_refl _⟩
        | false => exact ⟨.inl rfl, Int.le_refl _, ltQ_f hlt⟩
      have hd := bd b a2 (some (.int i)) hb c2
      refine ⟨if ltQ (G q a2) (G q b) then a2 else b, by split <;> omega, ?_, ?_, ?_, mk _ _ (by rw [hr]; simp [bd i a _ hi c1, hbb, hd]; rfl)⟩
      · split
        · exact .inr ⟨by omega, by omega⟩
        · rcases hb1.1 with z | z
          · exact .inl z
          · exact .inr ⟨by omega, by omega⟩
      · cases hlt : ltQ (G q a2) (G q b) with
        | true => exact Int.le_trans (ltQ_t hlt) hb1.2.1
        | false => exact hb1.2.1
      · intro j j0 jl je
        have : j = a ∨ j = a2 := by omega
        cases hlt : ltQ (G q a2) (G q b) with
        | true =>
          rcases this with rfl | rfl
          · exact Int.le_trans (ltQ_t hlt) hb1.2.2
          · exact Int.le_refl _
        | false =>
          rcases this with rfl | rfl
          · exact hb1.2.2
          · exact ltQ_f hlt
theorem pop_loop {ob : Ob} (hn : h[n]? = some ob) {x1 x2 : Option D} : ∀ (m : Nat) (q : List QI) (i b : Nat) (x5 : Option D), i < q.length → q.length < i + m → q.length ≤ 1000000 → HDn q i → b < q.length → (b = i ∨ (0 < b ∧ (b - 1) / 2 = i)) → (G q b).1 ≤ (G q i).1 → (∀ j, 0 < j → j < q.length → (j - 1) / 2 = i → (G q b).1 ≤ (G q j).1) →
    ∃ q' x3 x4 x5', (∀ z, z ∈ q' ↔ z ∈ q) ∧ q'.length = q.length ∧ HeapP q' ∧
    whlL (run Γ W (k + 1)) W b_heappop_T1 b_heappop_L1 m [some (.ref n), x1, x2, some (.int i), some (.int b), x5] (h.set n (.lst (q.map eQ))) =
      .nx [some (.ref n), x1, x2, x3, x4, x5'] (h.set n (.lst (q'.map eQ))) := by
  intro m
  induction m with
  | zero => intro q i b x5 h1 h2; omega
  | succ m ih =>
    intro q i b x5 h1 h2 hq hd hb hbi hp hmn
    have hg : ∀ x, (h.set n x)[n]? = some x := fun x => get_set hn
    by_cases c : b = i
    · subst c
      refine ⟨q, some (.int b), some (.int b), x5, fun _ => Iff.rfl, rfl, hd.done hmn, ?_⟩
      have tt : ev (run Γ W (k + 1)) b_heappop_T1 true [some (.ref n), x1, x2, some (.int b), some (.int b), x5] (h.set n (.lst (q.map eQ))) = .ok (.bl false) (h.set n (.lst (q.map eQ))) := by simp [b_heappop_T1]
      rw [whlL_succ, tt]; rfl
    · have hb2 : 0 < b ∧ (b - 1) / 2 = i := by rcases hbi with z | z; exact absurd z c; exact z
      have hstep := hd.step h1 hb hb2.2 hb2.1 hp hmn
      obtain ⟨b', p1, p2, p3, p4, p5⟩ := least_place_s (W := W) (k := k) (h := h.set n (.lst ((swp q i b).map eQ))) P (get_set hn) (by simpa using hq) (i := b) (by simpa using hb)
      obtain ⟨q', y3, y4, y5, r1, r2, r3, r4⟩ := ih (swp q i b) b b' (some (eQ (G q b))) (by simpa using hb) (by simp; omega) (by simpa using hq) hstep p1 p2 p3 p4
      refine ⟨q', y3, y4, y5, fun z => by rw [r1, mem_swp h1 hb], by rw [r2, swp_length], r3, ?_⟩
      have c' : ¬ ((b : Int) = (i : Int)) := by omega
      have tt : ev (run Γ W (k + 1)) b_heappop_T1 true [some (.ref n), x1, x2, some (.int i), some (.int b), x5] (h.set n (.lst (q.map eQ))) = .ok (.bl true) (h.set n (.lst (q.map eQ))) := by simp [b_heappop_T1, c']
      have e1 : atI (q.map eQ) (i : Int) = some (eQ (G q i)) := by rw [atI_map (by omega) (by omega), gI_nat]
      have e2 : atI (q.map eQ) (b : Int) = some (eQ (G q b)) := by rw [atI_map (by omega) (by omega), gI_nat]
      have i1 : ixN q.length (b : Int) = some b := ixN_nat hb
      have i2 : ixN q.length (i : Int) = some i := ixN_nat h1
      have hs : ((q.set b (G q i)).set i (G q b)) = swp q i b := rfl
      have bd : ex (run Γ W (k + 1)) W b_heappop_L1 [some (.ref n), x1, x2, some (.int i), some (.int b), x5] (h.set n (.lst (q.map eQ))) = .nx [some (.ref n), x1, x2, some (.int b), some (.int b'), some (eQ (G q b))] (h.set n (.lst ((swp q i b).map eQ))) := by
        simp [b_heappop_L1, hg, e1, e2, i1, i2, map_set', hs, p5, -List.map_set]
      rw [whlL_succ, ← r4, tt]
      simp [bd]
theorem pop_s {q : List QI} (hn : h[n]? = some (.lst (q.map eQ))) (hq : HeapP q) (hl : q.length ≤ 1000000) (hW : q.length < W) (h0 : q ≠ []) : ∃ m q', (∀ z, z ∈ q ↔ z = m ∨ z ∈ q') ∧ q'.length + 1 = q.length ∧ HeapP q' ∧ (∀ z ∈ q', m.1 ≤ z.1) ∧
    (run Γ W (k + 2)).call 107 [.ref n] h = .ok (eQ m) (h.set n (.lst (q'.map eQ))) := by
  obtain ⟨t, la, rfl⟩ : ∃ t la, q = t ++ [la] := ⟨q.dropLast, q.getLast h0, (List.dropLast_concat_getLast h0).symm⟩
  have hg : ∀ x, (h.set n x)[n]? = some x := fun x => get_set hn
  have gs := fun (d : D) (q' : List QI) (hd : d.pure = true) => gc_pureS (h := h) (d := d) (p := n) (o := .lst (q'.map eQ)) (pures_mapF fun _ => pure_eQ) hd
  rw [List.map_append, List.map_singleton] at hn
  cases ht : t with
  | nil =>
    subst ht
    refine ⟨la, [], by simp, by simp, fun k _ hk => by simp at hk, by simp, ?_⟩
    rw [call_pk P rfl]
    have e := gs (eQ la) [] pure_eQ
    simp at e hn
    simp [callF_eqn, b_heappop, hn, hg, e]
  | cons f t' =>
    have t0 : 0 < t.length := by rw [ht]; simp
    have hG : ∀ k, k < t.length → G (t ++ [la]) k = G t k := fun k hk => by
      unfold G; rw [List.getD_eq_getElem?_getD, List.getD_eq_getElem?_getD, List.getElem?_append_left hk]
    have ht2 : HDn (t.set 0 la) 0 := by
      refine ⟨fun k k0 kl ke => ?_, fun z => absurd z (by omega)⟩
      rw [List.length_set] at kl
      rw [G_set t0, G_set t0, if_neg ke, if_neg (by omega)]
      have := hq k k0 (by simp; omega)
      rwa [hG _ (by omega), hG _ kl] at this
    have hlt : t.length ≤ 1000000 := by simp at hl; omega
    obtain ⟨b, p1, p2, p3, p4, p5⟩ := least_place_s (W := W) (k := k) (h := h.set n (.lst ((t.set 0 la).map eQ))) P (get_set hn) (by simpa using hlt) (i := 0) (by simpa using t0)
    obtain ⟨q', y3, y4, y5, r1, r2, r3, r4⟩ := pop_loop (W := W) (k := k) P hn (x1 := some (eQ la)) (x2 := some (eQ (G t 0))) W (t.set 0 la) 0 b none (by simpa using t0) (by simp at hW ⊢; omega) (by simpa using hlt) ht2 p1 p2 p3 p4
    have hroot := hq.root
    have hGf : G t 0 = f := by rw [ht]; rfl
    refine ⟨G t 0, q', fun z => ?_, by rw [r2, List.length_set, ht]; simp, r3, fun z hz => ?_, ?_⟩
    · rw [r1, hGf, ht]; simp; constructor
      · rintro (a | a | a)
        · exact .inl a
        · exact .inr (.inr a)
        · exact .inr (.inl a)
      · rintro (a | a | a)
        · exact .inl a
        · exact .inr (.inr a)
        · exact .inr (.inl a)
    · have hz2 : z ∈ t ++ [la] := by
        rw [r1, ht] at hz
        rw [ht]
        simp at hz ⊢
        rcases hz with a | a
        · exact .inr (.inr a)
        · exact .inr (.inl a)
      obtain ⟨j, hj, rfl⟩ := mem_G.mp hz2
      have := hroot j hj
      rwa [hG 0 t0] at this
    · have e1 : atI (t.map eQ) 0 = some (eQ (G t 0)) := by
        have := atI_map (l := t) (f := eQ) (i := ((0 : Nat) : Int)) (by omega) (by omega)
        rwa [gI_nat] at this
      have i0 : ixN t.length 0 = some 0 := ixN_nat t0
      have c0 : ¬ ((t.length : Int) = 0) := by omega
      have c1 : t ≠ [] := by rw [ht]; simp
      have p5' : (run Γ W (k + 1)).call 106 [.ref n, .int 0] (h.set n (.lst ((t.set 0 la).map eQ))) = .ok (.int b) (h.set n (.lst ((t.set 0 la).map eQ))) := p5
      have r4' : whlL (run Γ W (k + 1)) W b_heappop_T1 b_heappop_L1 W [some (.ref n), some (eQ la), some (eQ (G t 0)), some (.int 0), some (.int b), none] (h.set n (.lst ((t.set 0 la).map eQ))) = _ := r4
      rw [call_pk P rfl]
      simp [callF_eqn, b_heappop, hn, hg, c1, e1, i0, map_set', p5', r4', gs (eQ (G t 0)) q' pure_eQ, -List.map_set]
end
end N9

set_option Elab.async false
set_option linter.all false
set_option maxRecDepth 100000
namespace N9
open PySem PySem.Spec L2
/-! ## webs: paths and least prices -/
/-- all deeds within the rooms -/
def nbL (rs : List (List (List Int))) (cap : Int) (lot : List Int) : List QI := ((rI 0 rs.length).filter fun v => enabB rs lot v && decide (((togL lot v).length : Int) ≤ cap)).map fun v => (v, togL lot v)
theorem mem_nbL {rs : List (List (List Int))} {cap : Int} {lot c : List Int} {v : Int} : (v, c) ∈ nbL rs cap lot ↔ 0 ≤ v ∧ v < rs.length ∧ enabB rs lot v = true ∧ ((togL lot v).length : Int) ≤ cap ∧ c = togL lot v := by
  unfold nbL
  rw [List.mem_map]
  constructor
  · rintro ⟨a, h1, h2⟩
    rw [List.mem_filter, mem_rI, Bool.and_eq_true, decide_eq_true_eq] at h1
    obtain ⟨rfl, rfl⟩ := Prod.mk.inj h2
    exact ⟨h1.1.1, by omega, h1.2.1, h1.2.2, rfl⟩
  · rintro ⟨h1, h2, h3, h4, rfl⟩
    exact ⟨v, by rw [List.mem_filter, mem_rI, Bool.and_eq_true, decide_eq_true_eq]; exact ⟨⟨h1, by omega⟩, h3, h4⟩, rfl⟩
theorem nbL_length {rs : List (List (List Int))} {cap : Int} {lot : List Int} : (nbL rs cap lot).length ≤ rs.length := by
  unfold nbL
  rw [List.length_map]
  have := List.length_filter_le (fun v => enabB rs lot v && decide (((togL lot v).length : Int) ≤ cap)) (rI 0 rs.length)
  rwa [rI_length] at this
/-- a program of this price leads from a to b -/
inductive Path (rs : List (List (List Int))) (ps : List Int) (cap : Int) (a : List Int) : Int → List Int → Prop
  | nil : Path rs ps cap a 0 a
  | step {p : Int} {b c : List Int} {v : Int} : Path rs ps cap a p b → (v, c) ∈ nbL rs cap b → Path rs ps cap a (p + gI ps v) c
/-- prices are positive -/
def PosP (rs : List (List (List Int))) (ps : List Int) : Prop := ∀ v : Int, 0 ≤ v → v < rs.length → 1 ≤ gI ps v ∧ gI ps v ≤ 9
theorem VP.pos {rs : List (List (List Int))} {ps : List Int} (h : VP ps rs.length) : PosP rs ps := fun v h0 h1 => h.pr _ (gI_mem h0 (by rw [h.len]; exact h1))
section
variable {rs : List (List (List Int))} {ps : List Int} {cap : Int} {a b : List Int} {p : Int}
theorem Path.nonneg (hp : PosP rs ps) (h : Path rs ps cap a p b) : 0 ≤ p := by
  induction h with
  | nil => exact Int.le_refl _
  | step _ hc ih =>
    obtain ⟨h1, h2, _⟩ := mem_nbL.mp hc
    have := hp _ h1 h2
    omega
theorem Path.asc (ha : asc (-1) rs.length a = true) (h : Path rs ps cap a p b) : N9.asc (-1) rs.length b = true := by
  induction h with
  | nil => exact ha
  | step _ hc ih =>
    obtain ⟨h1, h2, _, _, rfl⟩ := mem_nbL.mp hc
    exact tog_asc ih h1 h2
theorem Path.len (ha : (a.length : Int) ≤ cap) (h : Path rs ps cap a p b) : (b.length : Int) ≤ cap := by
  cases h with
  | nil => exact ha
  | step _ hc => obtain ⟨_, _, _, h4, rfl⟩ := mem_nbL.mp hc; exact h4
theorem Path.trans {c : List Int} {q : Int} (h : Path rs ps cap a p b) (h2 : Path rs ps cap b q c) : Path rs ps cap a (p + q) c := by
  induction h2 with
  | nil => simpa using h
  | step _ hc ih => rw [← Int.add_assoc]; exact .step ih hc
theorem nb_back (ok : VR rs) (ha : asc (-1) rs.length a = true) (hl : (a.length : Int) ≤ cap) {v : Int} {c : List Int} (h : (v, c) ∈ nbL rs cap a) : (v, a) ∈ nbL rs cap c := by
  obtain ⟨h1, h2, h3, h4, rfl⟩ := mem_nbL.mp h
  rw [mem_nbL, tog_tog ha h1 h2, enab_tog ok h1 h2]
  exact ⟨h1, h2, h3, hl, rfl⟩
/-- the same way back -/
theorem Path.back (ok : VR rs) (ha : N9.asc (-1) rs.length a = true) (hl : (a.length : Int) ≤ cap) (h : Path rs ps cap a p b) : Path rs ps cap b p a := by
  induction h with
  | nil => exact .nil
  | step h1 hc ih =>
    have := Path.trans (.step .nil (nb_back ok (h1.asc ha) (h1.len hl) hc)) ih
    rwa [Int.zero_add, Int.add_comm] at this
end
/-- the least price -/
def Least (rs : List (List (List Int))) (ps : List Int) (cap : Int) (a : List Int) (p : Int) (b : List Int) : Prop := Path rs ps cap a p b ∧ ∀ p', Path rs ps cap a p' b → p ≤ p'
theorem Least.uniq {rs : List (List (List Int))} {ps : List Int} {cap : Int} {a b : List Int} {p q : Int} (h : Least rs ps cap a p b) (h2 : Least rs ps cap a q b) : p = q := Int.le_antisymm (h.2 _ h2.1) (h2.2 _ h.1)
/-- a table of prices: keys and values -/
abbrev Tb := List (List Int × Int)
def keys (s : Tb) : List (List Int) := s.map (·.1)
def look (s : Tb) (l : List Int) : Option Int := (s.find? fun x => decide (x.1 = l)).map (·.2)
theorem look_some {s : Tb} {l : List Int} {p : Int} (h : look s l = some p) : (l, p) ∈ s := by
  unfold look at h
  cases e : s.find? fun x => decide (x.1 = l) with
  | none => rw [e] at h; cases h
  | some x =>
    rw [e] at h
    have h2 := List.find?_some e
    have h3 := List.mem_of_find?_eq_some e
    simp at h2 h
    obtain ⟨x1, x2⟩ := x
    simp at h2 h
    subst h2 h; exact h3
theorem look_none {s : Tb} {l : List Int} : look s l = none ↔ l ∉ keys s := by
  unfold look keys
  rw [Option.map_eq_none_iff, List.find?_eq_none]
  constructor
  · intro h m
    obtain ⟨x, h1, h2⟩ := List.mem_map.mp m
    exact absurd h2 (by simpa using h x h1)
  · intro h x hx
    simp
    intro z; subst z
    exact h (List.mem_map.mpr ⟨x, hx, rfl⟩)
theorem look_mem {s : Tb} (hn : (keys s).Nodup) {l : List Int} {p : Int} (h : (l, p) ∈ s) : look s l = some p := by
  cases e : look s l with
  | none => exact absurd (List.mem_map.mpr ⟨_, h, rfl⟩) (look_none.mp e)
  | some q =>
    have := look_some e
    have key : ∀ (s : Tb), (keys s).Nodup → (l, p) ∈ s → (l, q) ∈ s → p = q := by
      intro s
      induction s with
      | nil => intro _ h; cases h
      | cons x s ih =>
        intro hn h1 h2
        have hn := List.nodup_cons.mp (show (x.1 :: keys s).Nodup from hn)
        rcases List.mem_cons.mp h1 with e1 | e1 <;> rcases List.mem_cons.mp h2 with e2 | e2
        · rw [← e1] at e2; exact (Prod.mk.inj e2).2.symm
        · rw [← e1] at hn; exact absurd (List.mem_map.mpr ⟨_, e2, rfl⟩) hn.1
        · rw [← e2] at hn; exact absurd (List.mem_map.mpr ⟨_, e1, rfl⟩) hn.1
        · exact ih hn.2 e1 e2
    rw [key s hn h this]
theorem look_iff {s : Tb} (hn : (keys s).Nodup) {l : List Int} {p : Int} : look s l = some p ↔ (l, p) ∈ s := ⟨look_some, look_mem hn⟩
/-- the table of the least prices from a -/
structure Dist (rs : List (List (List Int))) (ps : List Int) (cap : Int) (a : List Int) (s : Tb) : Prop where
  nd : (keys s).Nodup
  least : ∀ l p, (l, p) ∈ s → Least rs ps cap a p l
  all : ∀ l p, (a.length : Int) ≤ cap → Path rs ps cap a p l → l ∈ keys s
  out : ¬ (a.length : Int) ≤ cap → s = []
  ord : s.Pairwise fun x y => x.2 ≤ y.2
section
variable {rs : List (List (List Int))} {ps : List Int} {cap : Int} {a : List Int} {s t : Tb}
theorem Dist.start (d : Dist rs ps cap a s) (hp : PosP rs ps) (h : (a.length : Int) ≤ cap) : look s a = some 0 := by
  have h1 := d.all a 0 h .nil
  obtain ⟨x, h2, h3⟩ := List.mem_map.mp h1
  obtain ⟨l, p⟩ := x
  simp at h3; subst h3
  have l1 := d.least l p h2
  have := l1.2 0 .nil
  have := l1.1.nonneg hp
  rw [look_iff d.nd, show (0 : Int) = p from by omega]; exact h2
theorem Dist.look_iff (d : Dist rs ps cap a s) {l : List Int} {p : Int} : look s l = some p ↔ (a.length : Int) ≤ cap ∧ Least rs ps cap a p l := by
  rw [N9.look_iff d.nd]
  constructor
  · intro h
    refine ⟨?_, d.least l p h⟩
    by_cases c : (a.length : Int) ≤ cap
    · exact c
    · rw [d.out c] at h; cases h
  · rintro ⟨c, h⟩
    obtain ⟨x, h2, h3⟩ := List.mem_map.mp (d.all l p c h.1)
    obtain ⟨l', q⟩ := x
    simp at h3; subst h3
    rw [h.uniq (d.least _ _ h2)]; exact h2
theorem Dist.look_none (d : Dist rs ps cap a s) {l : List Int} : look s l = none ↔ ∀ p, (a.length : Int) ≤ cap → ¬ Path rs ps cap a p l := by
  rw [N9.look_none]
  constructor
  · intro h p c q; exact h (d.all l p c q)
  · intro h m
    obtain ⟨x, h2, h3⟩ := List.mem_map.mp m
    obtain ⟨l', q⟩ := x
    simp at h3; subst h3
    by_cases c : (a.length : Int) ≤ cap
    · exact h q c (d.least _ _ h2).1
    · rw [d.out c] at h2; cases h2
/-- two tables of the same prices agree -/
theorem Dist.agree (d : Dist rs ps cap a s) (d2 : Dist rs ps cap a t) (l : List Int) : look s l = look t l := by
  cases e : look s l with
  | some p => rw [d.look_iff] at e; exact (d2.look_iff.mpr e).symm
  | none => rw [d.look_none] at e; exact (d2.look_none.mpr e).symm
end

/-! ## the search -/
structure DJ (rs : List (List (List Int))) (ps : List Int) (cap : Int) (a : List Int) (s : Tb) (q : List QI) : Prop where
  nd : (keys s).Nodup
  asc : ∀ l p, (l, p) ∈ s → N9.asc (-1) rs.length l = true
  least : ∀ l p, (l, p) ∈ s → Least rs ps cap a p l
  qp : ∀ p l, (p, l) ∈ q → Path rs ps cap a p l
  fr : ∀ l p, (l, p) ∈ s → ∀ v c, (v, c) ∈ nbL rs cap l → c ∈ keys s ∨ (p + gI ps v, c) ∈ q
  st : a ∈ keys s ∨ (0, a) ∈ q
  mono : ∀ l p, (l, p) ∈ s → ∀ x ∈ q, p ≤ x.1
  ord : s.Pairwise fun x y => x.2 ≤ y.2
section
variable {rs : List (List (List Int))} {ps : List Int} {cap : Int} {a : List Int} {s : Tb} {q q' : List QI}
theorem DJ.way (d : DJ rs ps cap a s q) (hp : PosP rs ps) {p : Int} {l : List Int} (h : Path rs ps cap a p l) : l ∉ keys s → ∃ x ∈ q, x.1 ≤ p := by
  induction h with
  | nil => intro n; rcases d.st with z | z; exact absurd z n; exact ⟨_, z, Int.le_refl _⟩
  | @step p b c v h1 hc ih =>
    intro n
    obtain ⟨h2, h3, _⟩ := mem_nbL.mp hc
    have hv := hp v h2 h3
    by_cases hb : b ∈ keys s
    · obtain ⟨x, h4, h5⟩ := List.mem_map.mp hb
      obtain ⟨b', pb⟩ := x
      simp at h5; subst h5
      have := (d.least _ _ h4).2 _ h1
      rcases d.fr _ _ h4 v c hc with z | z
      · exact absurd z n
      · exact ⟨_, z, by show pb + gI ps v ≤ p + gI ps v; omega⟩
    · obtain ⟨x, h4, h5⟩ := ih hb
      exact ⟨x, h4, by omega⟩
theorem DJ.done (d : DJ rs ps cap a s []) (hp : PosP rs ps) (hc : (a.length : Int) ≤ cap) : Dist rs ps cap a s :=
  ⟨d.nd, d.least, (fun l p _ h => by
    by_cases m : l ∈ keys s
    · exact m
    · obtain ⟨x, hx, _⟩ := d.way hp h m
      cases hx), fun z => absurd hc z, d.ord⟩
/-- the least of the queue is taken; its lot is settled already -/
theorem DJ.skip (d : DJ rs ps cap a s q) {m : QI} (hm : ∀ z, z ∈ q ↔ z = m ∨ z ∈ q') (hk : m.2 ∈ keys s) : DJ rs ps cap a s q' := by
  refine ⟨d.nd, d.asc, d.least, fun p l h => d.qp p l ((hm _).mpr (.inr h)), fun l p h v c hc => ?_, ?_, fun l p h x hx => d.mono l p h x ((hm _).mpr (.inr hx)), d.ord⟩
  · rcases d.fr l p h v c hc with z | z
    · exact .inl z
    · rcases (hm _).mp z with e | e
      · rw [← e] at hk; exact .inl hk
      · exact .inr e
  · rcases d.st with z | z
    · exact .inl z
    · rcases (hm _).mp z with e | e
      · rw [← e] at hk; exact .inl hk
      · exact .inr e
/-- it is settled now; the deeds behind it come into the queue -/
theorem DJ.settle (d : DJ rs ps cap a s q) (hp : PosP rs ps) (ha : N9.asc (-1) rs.length a = true) {m : QI} {q2 : List QI} (hm : ∀ z, z ∈ q ↔ z = m ∨ z ∈ q') (hmin : ∀ z ∈ q', m.1 ≤ z.1) (hk : m.2 ∉ keys s)
    (h2 : ∀ z, z ∈ q2 ↔ z ∈ q' ∨ ∃ x ∈ nbL rs cap m.2, x.2 ∉ keys (s ++ [(m.2, m.1)]) ∧ z = (m.1 + gI ps x.1, x.2)) : DJ rs ps cap a (s ++ [(m.2, m.1)]) q2 := by
  have hmq : m ∈ q := (hm _).mpr (.inl rfl)
  have hmp := d.qp m.1 m.2 hmq
  have hle : ∀ z ∈ q, m.1 ≤ z.1 := fun z hz => by
    rcases (hm _).mp hz with e | e
    · rw [e]; exact Int.le_refl _
    · exact hmin z e
  have hkk : keys (s ++ [(m.2, m.1)]) = keys s ++ [m.2] := by simp [keys]
  have hpos : ∀ x ∈ nbL rs cap m.2, 1 ≤ gI ps x.1 := fun x hx => by
    obtain ⟨v, c⟩ := x
    obtain ⟨h3, h4, _⟩ := mem_nbL.mp hx
    exact (hp v h3 h4).1
  refine ⟨?_, fun l p h => ?_, fun l p h => ?_, fun p l h => ?_, fun l p h v c hc => ?_, ?_, fun l p h x hx => ?_, ?_⟩
  · rw [hkk, List.nodup_append]
    exact ⟨d.nd, by simp, fun x hx y hy => by rw [List.mem_singleton] at hy; subst hy; intro z; subst z; exact hk hx⟩
  · rcases List.mem_append.mp h with z | z
    · exact d.asc l p z
    · rw [List.mem_singleton] at z
      obtain ⟨rfl, rfl⟩ := Prod.mk.inj z
      exact hmp.asc ha
  · rcases List.mem_append.mp h with z | z
    · exact d.least l p z
    · rw [List.mem_singleton] at z
      obtain ⟨rfl, rfl⟩ := Prod.mk.inj z
      refine ⟨hmp, fun p' h' => ?_⟩
      obtain ⟨x, h3, h4⟩ := d.way hp h' hk
      exact Int.le_trans (hle x h3) h4
  · rcases (h2 _).mp h with z | ⟨x, h3, h4, h5⟩
    · exact d.qp p l ((hm _).mpr (.inr z))
    · obtain ⟨rfl, rfl⟩ := Prod.mk.inj h5
      obtain ⟨v, c⟩ := x
      exact .step hmp h3
  · rcases List.mem_append.mp h with z | z
    · rcases d.fr l p z v c hc with y | y
      · exact .inl (by rw [hkk]; exact List.mem_append_left _ y)
      · rcases (hm _).mp y with e | e
        · refine .inl ?_
          rw [hkk, ← e]
          exact List.mem_append_right _ (by simp)
        · exact .inr ((h2 _).mpr (.inl e))
    · rw [List.mem_singleton] at z
      obtain ⟨rfl, rfl⟩ := Prod.mk.inj z
      by_cases m2 : c ∈ keys (s ++ [(m.2, m.1)])
      · exact .inl m2
      · exact .inr ((h2 _).mpr (.inr ⟨(v, c), hc, m2, rfl⟩))
  · rcases d.st with z | z
    · exact .inl (by rw [hkk]; exact List.mem_append_left _ z)
    · rcases (hm _).mp z with e | e
      · refine .inl ?_
        rw [hkk, ← e]; exact List.mem_append_right _ (by simp)
      · exact .inr ((h2 _).mpr (.inl e))
  · have hx2 : m.1 ≤ x.1 := by
      rcases (h2 _).mp hx with z | ⟨y, h3, h4, rfl⟩
      · exact hmin x z
      · have := hpos y h3
        show m.1 ≤ m.1 + gI ps y.1
        omega
    rcases List.mem_append.mp h with z | z
    · exact Int.le_trans (d.mono l p z m hmq) hx2
    · rw [List.mem_singleton] at z
      obtain ⟨rfl, rfl⟩ := Prod.mk.inj z
      exact hx2
  · rw [List.pairwise_append]
    exact ⟨d.ord, by simp, fun x hx y hy => by rw [List.mem_singleton] at hy; subst hy; exact d.mono x.1 x.2 hx m hmq⟩
end

/-! ## all lots -/
def allLots : Nat → List (List Int)
  | 0 => [[]]
  | n + 1 => allLots n ++ (allLots n).map (· ++ [(n : Int)])
theorem allLots_length : ∀ n, (allLots n).length = 2 ^ n
  | 0 => rfl
  | n + 1 => by rw [allLots, List.length_append, List.length_map, allLots_length n, Nat.pow_succ]; omega
theorem mem_allLots : ∀ {n : Nat} {l : List Int}, asc (-1) n l = true → l ∈ allLots n
  | 0, l, h => by
    cases l with
    | nil => simp [allLots]
    | cons a l => have := asc_mem h (x := a) List.mem_cons_self; omega
  | n + 1, l, h => by
    by_cases hl : (n : Int) ∈ l
    · obtain ⟨t, u, rfl⟩ := List.append_of_mem hl
      have hu : u = [] := by
        cases u with
        | nil => rfl
        | cons b u =>
          have h1 := asc_pw h
          have h2 := (List.pairwise_append.mp h1).2.1
          have h3 := (List.pairwise_cons.mp h2).1 b List.mem_cons_self
          have h4 := asc_mem h (x := b) (by simp)
          omega
      subst hu
      refine List.mem_append_right _ (List.mem_map.mpr ⟨t, mem_allLots (asc_of ((asc_pw h).sublist (List.sublist_append_left _ _)) fun x hx => ?_), rfl⟩)
      have h4 := asc_mem h (x := x) (List.mem_append_left _ hx)
      have h5 := (List.pairwise_append.mp (asc_pw h)).2.2 x hx n (by simp)
      omega
    · refine List.mem_append_left _ (mem_allLots (asc_of (asc_pw h) fun x hx => ?_))
      have h4 := asc_mem h hx
      have : x ≠ n := fun z => hl (z ▸ hx)
      omega
theorem lots_le {ls : List (List Int)} {n : Nat} (hn : ls.Nodup) (h : ∀ l ∈ ls, asc (-1) n l = true) : ls.length ≤ 2 ^ n := by
  rw [← allLots_length n]
  exact hn.length_le_of_subset fun l hl => mem_allLots (h l hl)
end N9

set_option Elab.async false
set_option linter.all false
set_option maxRecDepth 100000
namespace N9
open PySem PySem.Spec L2
@[simp] theorem tup_eQ {i : Int} {l : List Int} : D.tup [.int i, eL l] = eQ (i, l) := nr rfl
@[simp] theorem bind_eQ {e : Env} {is : List Nat} {x : QI} : bindT e (.tp is) (eQ x) = setSls e is [.int x.1, eL x.2] := nr rfl
@[simp] theorem idx_eQ {h : Hm} {x : QI} {i : Int} : idxD h (eQ x) (.int i) = atI [.int x.1, eL x.2] i := nr rfl
@[simp] theorem itV_eQ {h : Hm} {x : QI} : itV (eQ x) h = some ⟨[.int x.1, eL x.2], fun _ => True⟩ := nr rfl
@[simp] theorem ty_eQ {h : Hm} {x : QI} : tyD h (eQ x) = some "tuple" := nr rfl
@[simp] theorem pures_eQ {l : List QI} : D.pures (l.map eQ) = true := pures_mapF fun _ => pure_eQ
/-- a table as a dict -/
def dkE (s : Tb) : List (TK × D) := s.map fun x => (x.1, .int x.2)
@[simp] theorem dkE_nil : dkE [] = [] := nr rfl
@[simp] theorem dkE_length {s : Tb} : (dkE s).length = s.length := by simp [dkE]
@[simp] theorem dkE_all {s : Tb} : ((dkE s).all fun p => p.2.pure) = true := by simp [dkE]
@[simp] theorem lookK_dkE {s : Tb} {l : List Int} : lookK (dkE s) l = (look s l).map .int := by
  unfold lookK look dkE
  rw [List.find?_map]
  have : ((fun kv : TK × D => decide (kv.1 = l)) ∘ fun x : List Int × Int => ((x.1, D.int x.2) : TK × D)) = fun x => decide (x.1 = l) := nr rfl
  rw [this]
  cases s.find? fun x => decide (x.1 = l) <;> rfl
theorem look_isSome {s : Tb} {l : List Int} : (look s l).isSome = decide (l ∈ keys s) := by
  cases e : look s l with
  | none => have := look_none.mp e; simp [this]
  | some p =>
    have : l ∈ keys s := List.mem_map.mpr ⟨_, look_some e, rfl⟩
    simp [this]
theorem putD_new {s : Tb} {l : List Int} {p : Int} (h : l ∉ keys s) : putD (dkE s) l (.int p) = dkE (s ++ [(l, p)]) := by
  unfold putD
  rw [if_neg, dkE, dkE, List.map_append]; rfl
  intro z
  rw [List.any_eq_true] at z
  obtain ⟨x, h1, h2⟩ := z
  unfold dkE at h1
  obtain ⟨y, h3, rfl⟩ := List.mem_map.mp h1
  simp at h2
  subst h2
  exact h (List.mem_map.mpr ⟨y, h3, rfl⟩)
section
variable {Γ : Nat → Option Df} {W k : Nat} {h : Hm} (P : Pk Γ)
include P
theorem neighbours_s {rs : List (List (List Int))} {cap : Int} {lot : List Int} (hn : rs.length ≤ 100) (hl : lot.length ≤ 1000) : (run Γ W (k + 3)).call 108 [eRR rs, .int cap, eL lot] h = .ok (.lst ((nbL rs cap lot).map eQ)) h := by
  rw [call_pk P rfl]
  have key : ∀ (l : List Int) (acc : List QI) (x y : Option D), (∀ v ∈ l, 0 ≤ v ∧ v < rs.length) → acc.length + l.length ≤ 200 → ∃ x' y', forL (run Γ W (k + 2)) W (fun _ => True) (.nm 4) b_neighbours_L1 (l.map D.int) [some (eRR rs), some (.int cap), some (eL lot), some (.ref h.length), x, y] (h ++ [.lst (acc.map eQ)]) =
      .nx [some (eRR rs), some (.int cap), some (eL lot), some (.ref h.length), x', y'] (h ++ [.lst ((acc ++ (l.filter fun v => enabB rs lot v && decide (((togL lot v).length : Int) ≤ cap)).map fun v => (v, togL lot v)).map eQ)]) := by
    intro l
    induction l with
    | nil => intro acc x y _ _; exact ⟨x, y, by simp⟩
    | cons v l ih =>
      intro acc x y hv hac
      obtain ⟨v0, v1⟩ := hv v List.mem_cons_self
      simp only [List.length_cons] at hac
      have hsz : acc.length < sizeLine := size_lt (by omega)
      cases he : enabB rs lot v with
      | false =>
        obtain ⟨x', y', e⟩ := ih acc (some (.int v)) y (fun v hv' => hv v (List.mem_cons_of_mem _ hv')) (by omega)
        refine ⟨x', y', ?_⟩
        have bd : ex (run Γ W (k + 2)) W b_neighbours_L1 [some (eRR rs), some (.int cap), some (eL lot), some (.ref h.length), some (.int v), y] (h ++ [.lst (acc.map eQ)]) = .nx [some (eRR rs), some (.int cap), some (eL lot), some (.ref h.length), some (.int v), y] (h ++ [.lst (acc.map eQ)]) := by
          simp [b_neighbours_L1, enabled_s P v0 v1, he]
        simp [bd, e, he]
      | true =>
        by_cases hc : ((togL lot v).length : Int) ≤ cap
        · obtain ⟨x', y', e⟩ := ih (acc ++ [(v, togL lot v)]) (some (.int v)) (some (eL (togL lot v))) (fun v hv' => hv v (List.mem_cons_of_mem _ hv')) (by simp; omega)
          refine ⟨x', y', ?_⟩
          have bd : ex (run Γ W (k + 2)) W b_neighbours_L1 [some (eRR rs), some (.int cap), some (eL lot), some (.ref h.length), some (.int v), y] (h ++ [.lst (acc.map eQ)]) = .nx [some (eRR rs), some (.int cap), some (eL lot), some (.ref h.length), some (.int v), some (eL (togL lot v))] (h ++ [.lst ((acc ++ [(v, togL lot v)]).map eQ)]) := by
            simp [b_neighbours_L1, enabled_s P v0 v1, he, toggled_s P hl, hc, hsz]
          simp only [List.map_cons, forT_cons, bindT_nm, setSl_eqn]
          simp only [List.length_cons, List.length_nil, Nat.reduceAdd, Nat.reduceLT, ↓reduceIte, List.set_cons_succ, List.set_cons_zero, bd, e]
          simp [he, hc]
        · obtain ⟨x', y', e⟩ := ih acc (some (.int v)) (some (eL (togL lot v))) (fun v hv' => hv v (List.mem_cons_of_mem _ hv')) (by omega)
          refine ⟨x', y', ?_⟩
          have bd : ex (run Γ W (k + 2)) W b_neighbours_L1 [some (eRR rs), some (.int cap), some (eL lot), some (.ref h.length), some (.int v), y] (h ++ [.lst (acc.map eQ)]) = .nx [some (eRR rs), some (.int cap), some (eL lot), some (.ref h.length), some (.int v), some (eL (togL lot v))] (h ++ [.lst (acc.map eQ)]) := by
            simp [b_neighbours_L1, enabled_s P v0 v1, he, toggled_s P hl, hc]
          simp [bd, e, he, hc]
  obtain ⟨x', y', e⟩ := key (rI 0 rs.length) [] none none (fun v hv => by have := mem_rI.mp hv; omega) (by rw [rI_length]; simp; omega)
  have hit : evI (run Γ W (k + 2)) (.rng1 (.op (.bi true .len) (.cons (.var 0) .nil))) [some (eRR rs), some (.int cap), some (eL lot), some (.ref h.length), none, none] (h ++ [.lst []]) = .ok ⟨(rI 0 rs.length).map D.int, fun _ => True⟩ (h ++ [.lst []]) := evI_n1 (by simp) (by omega)
  rw [List.map_nil, List.nil_append] at e
  rw [show ((rI 0 rs.length).filter fun v => enabB rs lot v && decide (((togL lot v).length : Int) ≤ cap)).map (fun v => (v, togL lot v)) = nbL rs cap lot from rfl] at e
  simp [callF_eqn, b_neighbours, hit, e]
theorem dist_inner {rs : List (List (List Int))} {ps : List Int} {cap p : Int} {st lot : List Int} {s : Tb} (hps : ps.length ≤ 1000) : ∀ (l : List QI) (q : List QI) (x8 x9 : Option D), (∀ x ∈ l, 0 ≤ x.1 ∧ x.1 < ps.length) → HeapP q → q.length + l.length < 900000 → q.length + l.length < W →
    ∃ q' x8' x9', (∀ z, z ∈ q' ↔ z ∈ q ∨ ∃ x ∈ l, x.2 ∉ keys s ∧ z = (p + gI ps x.1, x.2)) ∧ q'.length ≤ q.length + l.length ∧ HeapP q' ∧
      forL (run Γ W (k + 2)) W (fun _ => True) (.tp [8, 9]) b_distances_L1 (l.map eQ) [some (eRR rs), some (eL ps), some (.int cap), some (eL st), some (.ref h.length), some (.ref (h.length + 1)), some (.int p), some (eL lot), x8, x9] (h ++ [.dt (dkE s), .lst (q.map eQ)]) =
      .nx [some (eRR rs), some (eL ps), some (.int cap), some (eL st), some (.ref h.length), some (.ref (h.length + 1)), some (.int p), some (eL lot), x8', x9'] (h ++ [.dt (dkE s), .lst (q'.map eQ)]) := by
  intro l
  induction l with
  | nil => intro q x8 x9 _ hq _ _; exact ⟨q, x8, x9, by simp, by simp, hq, by simp⟩
  | cons y l ih =>
    intro q x8 x9 hv hq hl hW
    obtain ⟨v, c⟩ := y
    obtain ⟨v0, v1⟩ := hv (v, c) List.mem_cons_self
    simp only [List.length_cons] at hl hW
    have v0 : 0 ≤ v := v0
    have v1 : v < ps.length := v1
    by_cases hc : c ∈ keys s
    · obtain ⟨q', y8, y9, r1, r2, r3, r4⟩ := ih q (some (.int v)) (some (eL c)) (fun x hx => hv x (List.mem_cons_of_mem _ hx)) hq (by omega) (by omega)
      refine ⟨q', y8, y9, fun z => ?_, by simp; omega, r3, ?_⟩
      · rw [r1]
        constructor
        · rintro (a | ⟨x, h1, h2⟩)
          · exact .inl a
          · exact .inr ⟨x, List.mem_cons_of_mem _ h1, h2⟩
        · rintro (a | ⟨x, h1, h2, h3⟩)
          · exact .inl a
          · rcases List.mem_cons.mp h1 with e | e
            · rw [e] at h2; exact absurd hc h2
            · exact .inr ⟨x, e, h2, h3⟩
      · have bd : ex (run Γ W (k + 2)) W b_distances_L1 [some (eRR rs), some (eL ps), some (.int cap), some (eL st), some (.ref h.length), some (.ref (h.length + 1)), some (.int p), some (eL lot), some (.int v), some (eL c)] (h ++ [.dt (dkE s), .lst (q.map eQ)]) = .nx [some (eRR rs), some (eL ps), some (.int cap), some (eL st), some (.ref h.length), some (.ref (h.length + 1)), some (.int p), some (eL lot), some (.int v), some (eL c)] (h ++ [.dt (dkE s), .lst (q.map eQ)]) := by
          simp [b_distances_L1, look_isSome, hc]
        simp [bd, r4]
    · obtain ⟨q1, p1, p2, p3, p4⟩ := push_s (W := W) (k := k + 1) (h := h ++ [.dt (dkE s), .lst (q.map eQ)]) (n := h.length + 1) P (q := q) (by simp) hq (by omega) (by omega) (p + gI ps v, c)
      obtain ⟨q', y8, y9, r1, r2, r3, r4⟩ := ih q1 (some (.int v)) (some (eL c)) (fun x hx => hv x (List.mem_cons_of_mem _ hx)) p3 (by omega) (by omega)
      refine ⟨q', y8, y9, fun z => ?_, by simp; omega, r3, ?_⟩
      · rw [r1, p1]
        constructor
        · rintro ((a | a) | ⟨x, h1, h2⟩)
          · exact .inr ⟨(v, c), List.mem_cons_self, hc, a⟩
          · exact .inl a
          · exact .inr ⟨x, List.mem_cons_of_mem _ h1, h2⟩
        · rintro (a | ⟨x, h1, h2, h3⟩)
          · exact .inl (.inr a)
          · rcases List.mem_cons.mp h1 with e | e
            · rw [e] at h3; exact .inl (.inl h3)
            · exact .inr ⟨x, e, h2, h3⟩
      · simp at p4
        have bd : ex (run Γ W (k + 2)) W b_distances_L1 [some (eRR rs), some (eL ps), some (.int cap), some (eL st), some (.ref h.length), some (.ref (h.length + 1)), some (.int p), some (eL lot), some (.int v), some (eL c)] (h ++ [.dt (dkE s), .lst (q.map eQ)]) = .nx [some (eRR rs), some (eL ps), some (.int cap), some (eL st), some (.ref h.length), some (.ref (h.length + 1)), some (.int p), some (eL lot), some (.int v), some (eL c)] (h ++ [.dt (dkE s), .lst (q1.map eQ)]) := by
          simp [b_distances_L1, look_isSome, hc, atI_map v0 v1, p4]
        simp [bd, r4]
theorem dist_loop {rs : List (List (List Int))} {ps : List Int} {cap : Int} {a : List Int} (hp : PosP rs ps) (hr : rs.length ≤ 10) (hps : ps.length = rs.length) (ha : asc (-1) rs.length a = true) (hW : 30000 ≤ W) : ∀ (m : Nat) (s : Tb) (q : List QI) (x6 x7 x8 x9 : Option D), DJ rs ps cap a s q → HeapP q → q.length + (1024 - s.length) * 11 < m → q.length + (1024 - s.length) * 11 ≤ 12000 →
    ∃ s' y6 y7 y8 y9, DJ rs ps cap a s' [] ∧
      whlL (run Γ W (k + 3)) W (.var 5) b_distances_L2 m [some (eRR rs), some (eL ps), some (.int cap), some (eL a), some (.ref h.length), some (.ref (h.length + 1)), x6, x7, x8, x9] (h ++ [.dt (dkE s), .lst (q.map eQ)]) =
      .nx [some (eRR rs), some (eL ps), some (.int cap), some (eL a), some (.ref h.length), some (.ref (h.length + 1)), y6, y7, y8, y9] (h ++ [.dt (dkE s'), .lst []]) := by
  intro m
  induction m with
  | zero => intro s q x6 x7 x8 x9 _ _ h1; omega
  | succ m ih =>
    intro s q x6 x7 x8 x9 d hq hm hb
    by_cases q0 : q = []
    · subst q0
      refine ⟨s, x6, x7, x8, x9, d, ?_⟩
      rw [whlL_succ]
      simp
    · have hk : s.length ≤ 1024 := by
        have h1 := lots_le (n := rs.length) d.nd (fun l hl => by
          obtain ⟨x, h2, rfl⟩ := List.mem_map.mp hl
          exact d.asc x.1 x.2 h2)
        have h2 : (2 : Nat) ^ rs.length ≤ 2 ^ 10 := Nat.pow_le_pow_right (by decide) hr
        unfold keys at h1
        rw [List.length_map] at h1
        have : (2 : Nat) ^ 10 = 1024 := by decide
        omega
      have hql : 0 < q.length := List.length_pos_iff.mpr q0
      obtain ⟨mm, q1, p1, p2, p3, p4, p5⟩ := pop_s (W := W) (k := k + 1) (h := h ++ [.dt (dkE s), .lst (q.map eQ)]) (n := h.length + 1) P (q := q) (by simp) hq (by omega) (by omega) q0
      simp at p5
      have tt : ∀ x, x = q → ev (run Γ W (k + 3)) (.var 5) true [some (eRR rs), some (eL ps), some (.int cap), some (eL a), some (.ref h.length), some (.ref (h.length + 1)), x6, x7, x8, x9] (h ++ [.dt (dkE s), .lst (x.map eQ)]) = .ok (.bl true) (h ++ [.dt (dkE s), .lst (x.map eQ)]) := by
        rintro x rfl
        have : x.isEmpty = false := by cases x with | nil => exact absurd rfl q0 | cons _ _ => rfl
        simp [this]
      by_cases hkk : mm.2 ∈ keys s
      · obtain ⟨s', y6, y7, y8, y9, r1, r2⟩ := ih s q1 (some (.int mm.1)) (some (eL mm.2)) x8 x9 (d.skip p1 hkk) p3 (by omega) (by omega)
        refine ⟨s', y6, y7, y8, y9, r1, ?_⟩
        have bd : ex (run Γ W (k + 3)) W b_distances_L2 [some (eRR rs), some (eL ps), some (.int cap), some (eL a), some (.ref h.length), some (.ref (h.length + 1)), x6, x7, x8, x9] (h ++ [.dt (dkE s), .lst (q.map eQ)]) = .nx [some (eRR rs), some (eL ps), some (.int cap), some (eL a), some (.ref h.length), some (.ref (h.length + 1)), some (.int mm.1), some (eL mm.2), x8, x9] (h ++ [.dt (dkE s), .lst (q1.map eQ)]) := by
          simp [b_distances_L2, p5, look_isSome, hkk]
        rw [whlL_succ, tt q rfl, fl_ok, bd]
        exact r2
      · have hmq : mm ∈ q := (p1 _).mpr (.inl rfl)
        have hasc := (d.qp mm.1 mm.2 hmq).asc ha
        have hml := asc_len hasc (by omega)
        have hnl := nbL_length (rs := rs) (cap := cap) (lot := mm.2)
        have hs2 : (s ++ [(mm.2, mm.1)]).length = s.length + 1 := by simp
        have hk2 : s.length + 1 ≤ 1024 := by
          have h1 := lots_le (n := rs.length) (ls := keys s ++ [mm.2]) (List.nodup_append.mpr ⟨d.nd, by simp, fun x hx y hy => by rw [List.mem_singleton] at hy; subst hy; intro z; subst z; exact hkk hx⟩) (fun l hl => by
            rcases List.mem_append.mp hl with z | z
            · obtain ⟨x, h2, rfl⟩ := List.mem_map.mp z
              exact d.asc x.1 x.2 h2
            · rw [List.mem_singleton] at z; subst z; exact hasc)
          have h2 : (2 : Nat) ^ rs.length ≤ 2 ^ 10 := Nat.pow_le_pow_right (by decide) hr
          unfold keys at h1
          simp at h1
          have : (2 : Nat) ^ 10 = 1024 := by decide
          omega
        obtain ⟨q2, y8, y9, i1, i2, i3, i4⟩ := dist_inner (W := W) (k := k + 1) (h := h) P (rs := rs) (ps := ps) (cap := cap) (p := mm.1) (st := a) (lot := mm.2) (s := s ++ [(mm.2, mm.1)]) (by omega) (nbL rs cap mm.2) q1 x8 x9 (fun x hx => by
          obtain ⟨v, c⟩ := x
          obtain ⟨h1, h2, _⟩ := mem_nbL.mp hx
          exact ⟨h1, by rw [hps]; exact h2⟩) p3 (by omega) (by omega)
        obtain ⟨s', z6, z7, z8, z9, r1, r2⟩ := ih (s ++ [(mm.2, mm.1)]) q2 (some (.int mm.1)) (some (eL mm.2)) y8 y9 (d.settle hp ha p1 p4 hkk i1) i3 (by rw [hs2]; omega) (by rw [hs2]; omega)
        refine ⟨s', z6, z7, z8, z9, r1, ?_⟩
        have hsz : s.length < sizeLine := size_lt (by omega)
        have nb := neighbours_s (W := W) (k := k) (h := h ++ [.dt (dkE (s ++ [(mm.2, mm.1)])), .lst (q1.map eQ)]) P (rs := rs) (cap := cap) (lot := mm.2) (by omega) (by omega)
        have bd : ex (run Γ W (k + 3)) W b_distances_L2 [some (eRR rs), some (eL ps), some (.int cap), some (eL a), some (.ref h.length), some (.ref (h.length + 1)), x6, x7, x8, x9] (h ++ [.dt (dkE s), .lst (q.map eQ)]) = .nx [some (eRR rs), some (eL ps), some (.int cap), some (eL a), some (.ref h.length), some (.ref (h.length + 1)), some (.int mm.1), some (eL mm.2), y8, y9] (h ++ [.dt (dkE (s ++ [(mm.2, mm.1)])), .lst (q2.map eQ)]) := by
          simp [b_distances_L2, p5, look_isSome, hkk, hsz, putD_new hkk, nb, i4]
        rw [whlL_succ, tt q rfl, fl_ok, bd]
        exact r2
theorem distances_s {rs : List (List (List Int))} {ps : List Int} {cap : Int} {a : List Int} (ok : VR rs) (okp : VP ps rs.length) (ha : asc (-1) rs.length a = true) (hW : 30000 ≤ W) : ∃ s, Dist rs ps cap a s ∧
    (run Γ W (k + 4)).call 109 [eRR rs, eL ps, .int cap, eL a] h = .ok (.ref h.length) (h ++ [.dt (dkE s)]) := by
  have hp := okp.pos
  by_cases hc : (a.length : Int) ≤ cap
  · obtain ⟨q1, p1, p2, p3, p4⟩ := push_s (W := W) (k := k + 2) (h := h ++ [.dt (dkE []), .lst (([] : List QI).map eQ)]) (n := h.length + 1) P (q := []) (by simp) (fun k _ hk => by simp at hk) (by simp) (by simp; omega) (0, a)
    have d0 : DJ rs ps cap a [] q1 := ⟨List.nodup_nil, fun _ _ h => by simp at h, fun _ _ h => by simp at h, fun p l h => by
      rcases (p1 _).mp h with z | z
      · obtain ⟨rfl, rfl⟩ := Prod.mk.inj z; exact .nil
      · simp at z, fun _ _ h => by simp at h, .inr ((p1 _).mpr (.inl rfl)), fun _ _ h => by simp at h, List.Pairwise.nil⟩
    obtain ⟨s', y6, y7, y8, y9, r1, r2⟩ := dist_loop (W := W) (k := k) (h := h) P hp ok.hi okp.len ha hW W [] q1 none none none none d0 p3 (by simp at p2 ⊢; omega) (by simp at p2 ⊢; omega)
    refine ⟨s', r1.done hp hc, ?_⟩
    rw [call_pk P rfl]
    simp at p4
    simp at r2
    simp [callF_eqn, b_distances, b_distances_T2, hc, p4, r2]
  · refine ⟨[], ⟨List.nodup_nil, fun _ _ h => by simp at h, fun _ _ z => absurd z hc, fun _ => rfl, List.Pairwise.nil⟩, ?_⟩
    rw [call_pk P rfl]
    have hw : ∃ w, W = w + 1 := ⟨W - 1, by omega⟩
    obtain ⟨w, hw⟩ := hw
    have wl : whlL (run Γ W (k + 3)) W (.var 5) b_distances_L2 W [some (eRR rs), some (eL ps), some (.int cap), some (eL a), some (.ref h.length), some (.ref (h.length + 1)), none, none, none, none] (h ++ [.dt [], .lst []]) = .nx [some (eRR rs), some (eL ps), some (.int cap), some (eL a), some (.ref h.length), some (.ref (h.length + 1)), none, none, none, none] (h ++ [.dt [], .lst []]) := by
      have : ∀ w, whlL (run Γ W (k + 3)) W (.var 5) b_distances_L2 (w + 1) [some (eRR rs), some (eL ps), some (.int cap), some (eL a), some (.ref h.length), some (.ref (h.length + 1)), none, none, none, none] (h ++ [.dt [], .lst []]) = .nx [some (eRR rs), some (eL ps), some (.int cap), some (eL a), some (.ref h.length), some (.ref (h.length + 1)), none, none, none, none] (h ++ [.dt [], .lst []]) := by
        intro w; rw [whlL_succ]; simp
      have := this w
      rwa [← hw] at this
    simp [callF_eqn, b_distances, b_distances_T2, hc, wl]
end
end N9

set_option Elab.async false
set_option linter.all false
set_option maxRecDepth 100000
namespace N9
open PySem PySem.Spec L2
/-- the least price, if there is one -/
noncomputable def lp (rs : List (List (List Int))) (ps : List Int) (cap : Int) (a b : List Int) : Option Int := by
  classical exact if h : ∃ p, (a.length : Int) ≤ cap ∧ Least rs ps cap a p b then some h.choose else none
section
variable {rs : List (List (List Int))} {ps : List Int} {cap : Int} {a b : List Int} {p : Int} {s : Tb}
theorem lp_some : lp rs ps cap a b = some p ↔ (a.length : Int) ≤ cap ∧ Least rs ps cap a p b := by
  classical
  unfold lp
  by_cases h : ∃ p, (a.length : Int) ≤ cap ∧ Least rs ps cap a p b
  · rw [dif_pos h]
    have hs := h.choose_spec
    constructor
    · intro e; cases e; exact hs
    · intro q; rw [hs.2.uniq q.2]
  · rw [dif_neg h]
    exact ⟨fun e => (by cases e), fun q => absurd ⟨p, q⟩ h⟩
theorem Dist.lp (d : Dist rs ps cap a s) (b : List Int) : look s b = lp rs ps cap a b := by
  cases e : look s b with
  | some p => rw [d.look_iff] at e; exact (lp_some.mpr e).symm
  | none =>
    cases e2 : N9.lp rs ps cap a b with
    | none => rfl
    | some p => rw [lp_some, ← d.look_iff] at e2; rw [e] at e2; cases e2
theorem lp_path (hp : PosP rs ps) (hc : (a.length : Int) ≤ cap) (h : Path rs ps cap a p b) : ∃ q, N9.lp rs ps cap a b = some q ∧ q ≤ p := by
  -- the least of the prices: by strong recursion on the price
  have key : ∀ (n : Nat) (p : Int), p.toNat = n → Path rs ps cap a p b → ∃ q, Least rs ps cap a q b ∧ q ≤ p := by
    intro n
    induction n using Nat.strongRecOn with
    | ind n ih =>
      intro p hn h
      by_cases hl : ∀ p', Path rs ps cap a p' b → p ≤ p'
      · exact ⟨p, ⟨h, hl⟩, Int.le_refl _⟩
      · have ⟨p', h'⟩ := Classical.not_forall.mp hl
        have ⟨h1, h2⟩ := Classical.not_imp.mp h'
        have n1 := h1.nonneg hp
        obtain ⟨q, q1, q2⟩ := ih p'.toNat (by omega) p' rfl h1
        exact ⟨q, q1, by omega⟩
  obtain ⟨q, q1, q2⟩ := key p.toNat p rfl h
  exact ⟨q, lp_some.mpr ⟨hc, q1⟩, q2⟩
theorem lp_none (hp : PosP rs ps) : N9.lp rs ps cap a b = none ↔ ¬ ((a.length : Int) ≤ cap ∧ ∃ p, Path rs ps cap a p b) := by
  constructor
  · rintro h ⟨hc, p, hq⟩
    obtain ⟨q, e, _⟩ := lp_path hp hc hq
    rw [h] at e; cases e
  · intro h
    cases e : N9.lp rs ps cap a b with
    | none => rfl
    | some p =>
      rw [lp_some] at e
      exact absurd ⟨e.1, p, e.2.1⟩ h
theorem lp_symm (ok : VR rs) (hp : PosP rs ps) (ha : asc (-1) rs.length a = true) (hb : asc (-1) rs.length b = true) : N9.lp rs ps cap a b = N9.lp rs ps cap b a := by
  cases e : N9.lp rs ps cap a b with
  | some p =>
    rw [lp_some] at e
    have hbl := e.2.1.len e.1
    refine (lp_some.mpr ⟨hbl, e.2.1.back ok ha e.1, fun p' h' => e.2.2 p' (h'.back ok hb hbl)⟩).symm
  | none =>
    rw [lp_none hp] at e
    refine ((lp_none hp).mpr ?_).symm
    rintro ⟨hc, p, hq⟩
    exact e ⟨hq.len hc, p, hq.back ok hb hc⟩
theorem lp_self (hp : PosP rs ps) (hc : (a.length : Int) ≤ cap) : N9.lp rs ps cap a a = some 0 := lp_some.mpr ⟨hc, .nil, fun p h => h.nonneg hp⟩
theorem path_zero (hp : PosP rs ps) (h : Path rs ps cap a p b) : p ≤ 0 → b = a := by
  intro h0
  cases h with
  | nil => rfl
  | step h1 hc =>
    obtain ⟨h2, h3, _⟩ := mem_nbL.mp hc
    have := h1.nonneg hp
    have := hp _ h2 h3
    omega
/-- where the last deed came from -/
theorem Least.last (hp : PosP rs ps) (h : Least rs ps cap a p b) (h0 : 0 < p) : ∃ c v q, Least rs ps cap a q c ∧ (v, b) ∈ nbL rs cap c ∧ p = q + gI ps v := by
  obtain ⟨h1, h2⟩ := h
  cases h1 with
  | nil => omega
  | @step q c _ v h3 hc => exact ⟨c, v, q, ⟨h3, fun p' h' => by have := h2 _ (.step h' hc); omega⟩, hc, rfl⟩
theorem Dist.bound (d : Dist rs ps cap a s) (hp : PosP rs ps) : ∀ (n : Nat) (l : List Int) (p : Int), p.toNat = n → (l, p) ∈ s → p ≤ 9 * (s.countP fun x => decide (x.2 < p)) := by
  intro n
  induction n using Nat.strongRecOn with
  | ind n ih =>
    intro l p hn h
    have hl := d.least l p h
    have p0 := hl.1.nonneg hp
    by_cases h0 : 0 < p
    · obtain ⟨c, v, q, q1, q2, q3⟩ := hl.last hp h0
      obtain ⟨h2, h3, _⟩ := mem_nbL.mp q2
      have hv := hp _ h2 h3
      have hcap : (a.length : Int) ≤ cap := by
        by_cases z : (a.length : Int) ≤ cap
        · exact z
        · rw [d.out z] at h; cases h
      have hm : (c, q) ∈ s := by rw [← N9.look_iff d.nd, d.look_iff]; exact ⟨hcap, q1⟩
      have q0 := q1.1.nonneg hp
      have := ih q.toNat (by omega) c q rfl hm
      have hlt : s.countP (fun x => decide (x.2 < q)) < s.countP (fun x => decide (x.2 < p)) := by
        have h1 : ∀ t : Tb, (c, q) ∈ t → t.countP (fun x => decide (x.2 < q)) < t.countP (fun x => decide (x.2 < p)) := by
          intro t
          induction t with
          | nil => intro h; cases h
          | cons x t iht =>
            intro hx
            have le : t.countP (fun x => decide (x.2 < q)) ≤ t.countP (fun x => decide (x.2 < p)) := List.countP_mono_left fun y _ hy => by simp at hy ⊢; omega
            rw [List.countP_cons, List.countP_cons]
            rcases List.mem_cons.mp hx with e | e
            · rw [← e]
              have a1 : decide (q < q) = false := by simp
              have a2 : decide (q < p) = true := by simp; omega
              simp only [a1, a2]; simp; omega
            · have := iht e
              by_cases z : x.2 < q
              · have z2 : x.2 < p := by omega
                simp [z, z2]; omega
              · simp [z]; split <;> omega
        exact h1 s hm
      omega
    · omega
theorem Dist.keys_le (d : Dist rs ps cap a s) (ha : asc (-1) rs.length a = true) (hr : rs.length ≤ 10) : s.length ≤ 1024 := by
  have h1 := lots_le (n := rs.length) d.nd (fun l hl => by
    obtain ⟨x, h2, rfl⟩ := List.mem_map.mp hl
    exact (d.least x.1 x.2 h2).1.asc ha)
  have h2 : (2 : Nat) ^ rs.length ≤ 2 ^ 10 := Nat.pow_le_pow_right (by decide) hr
  unfold keys at h1
  rw [List.length_map] at h1
  have : (2 : Nat) ^ 10 = 1024 := by decide
  omega
theorem Dist.price_le (d : Dist rs ps cap a s) (hp : PosP rs ps) (ha : asc (-1) rs.length a = true) (hr : rs.length ≤ 10) {l : List Int} {p : Int} (h : (l, p) ∈ s) : p ≤ 9216 := by
  have h1 := d.bound hp p.toNat l p rfl h
  have h2 := d.keys_le ha hr
  have h3 := List.countP_le_length (p := fun x : List Int × Int => decide (x.2 < p)) (l := s)
  omega
end

/-! ## programs walked -/
/-- the price and the end of a program within the rooms -/
def walkL (rs : List (List (List Int))) (ps : List Int) (cap : Int) : List Int → List Int → Option (Int × List Int)
  | lot, [] => some (0, lot)
  | lot, v :: l => if 0 ≤ v ∧ v < rs.length ∧ enabB rs lot v = true ∧ ((togL lot v).length : Int) ≤ cap then (walkL rs ps cap (togL lot v) l).map fun x => (gI ps v + x.1, x.2) else none
section
variable {rs : List (List (List Int))} {ps : List Int} {cap : Int} {a b c : List Int} {p q : Int}
theorem walkL_cons {v : Int} {l : List Int} {lot : List Int} (h : (v, c) ∈ nbL rs cap lot) : walkL rs ps cap lot (v :: l) = (walkL rs ps cap c l).map fun x => (gI ps v + x.1, x.2) := by
  obtain ⟨h1, h2, h3, h4, rfl⟩ := mem_nbL.mp h
  rw [walkL, if_pos ⟨h1, h2, h3, h4⟩]
theorem walkL_inv {v : Int} {l : List Int} {lot : List Int} {x : Int × List Int} (h : walkL rs ps cap lot (v :: l) = some x) : ∃ c y, (v, c) ∈ nbL rs cap lot ∧ walkL rs ps cap c l = some y ∧ x = (gI ps v + y.1, y.2) := by
  rw [walkL] at h
  split at h
  · rename_i hc
    cases e : walkL rs ps cap (togL lot v) l with
    | none => rw [e] at h; cases h
    | some y =>
      rw [e] at h
      exact ⟨_, y, mem_nbL.mpr ⟨hc.1, hc.2.1, hc.2.2.1, hc.2.2.2, rfl⟩, e, (Option.some.inj h).symm⟩
  · cases h
theorem walkL_path {rs : List (List (List Int))} {ps : List Int} {cap : Int} : ∀ {l a b : List Int} {p : Int}, walkL rs ps cap a l = some (p, b) → Path rs ps cap a p b
  | [], a, b, p, h => by cases h; exact .nil
  | v :: l, a, b, p, h => by
    obtain ⟨c, y, h1, h2, h3⟩ := walkL_inv h
    obtain ⟨y1, y2⟩ := y
    obtain ⟨rfl, rfl⟩ := Prod.mk.inj h3
    have := Path.trans (.step .nil h1) (walkL_path h2)
    rwa [Int.zero_add] at this
theorem walkL_app {rs : List (List (List Int))} {ps : List Int} {cap : Int} : ∀ {l m a b c : List Int} {p q : Int}, walkL rs ps cap a l = some (p, b) → walkL rs ps cap b m = some (q, c) → walkL rs ps cap a (l ++ m) = some (p + q, c)
  | [], m, a, b, c, p, q, h, h2 => by cases h; rw [Int.zero_add]; exact h2
  | v :: l, m, a, b, c, p, q, h, h2 => by
    obtain ⟨d, y, h3, h4, h5⟩ := walkL_inv h
    obtain ⟨y1, y2⟩ := y
    obtain ⟨rfl, rfl⟩ := Prod.mk.inj h5
    rw [List.cons_append, walkL_cons h3, walkL_app h4 h2]
    show some (gI ps v + (y1 + q), c) = some (gI ps v + y1 + q, c)
    rw [Int.add_assoc]
/-- back again -/
theorem walkL_rev {rs : List (List (List Int))} {ps : List Int} {cap : Int} (ok : VR rs) : ∀ {l a b : List Int} {p : Int}, asc (-1) rs.length a = true → (a.length : Int) ≤ cap → walkL rs ps cap a l = some (p, b) → walkL rs ps cap b l.reverse = some (p, a)
  | [], a, b, p, ha, hl, h => by cases h; rfl
  | v :: l, a, b, p, ha, hl, h => by
    obtain ⟨c, y, h1, h2, h3⟩ := walkL_inv h
    obtain ⟨y1, y2⟩ := y
    obtain ⟨rfl, rfl⟩ := Prod.mk.inj h3
    have hp : Path rs ps cap a (0 + gI ps v) c := .step .nil h1
    have h4 := walkL_rev ok (hp.asc ha) (hp.len hl) h2
    rw [List.reverse_cons]
    have h5 : walkL rs ps cap c [v] = some (gI ps v, a) := by
      rw [walkL_cons (nb_back ok ha hl h1)]
      show some (gI ps v + 0, a) = _
      rw [Int.add_zero]
    rw [walkL_app h4 h5, Int.add_comm]
end
end N9

set_option Elab.async false
set_option linter.all false
set_option maxRecDepth 100000
namespace N9
open PySem PySem.Spec L2
@[simp] theorem tup_nil : D.tup [] = eL [] := nr rfl
def oD : Option Int → D
  | some p => .int p
  | none => .non
@[simp] theorem oD_some {p : Int} : oD (some p) = .int p := nr rfl
@[simp] theorem oD_none : oD none = .non := nr rfl
@[simp] theorem pure_oD {o : Option Int} : D.pure (oD o) = true := by cases o <;> rfl
@[simp] theorem oD_map {o : Option Int} : (o.map D.int).getD .non = oD o := by cases o <;> rfl
section
variable {α ξ : Type} {c : Oracle} {W : Nat} {tg : Tg} {b : IS} {h : Hm}
theorem forL_findJ {l : List α} {f : α → D} (r : α → D) (E : ξ → Env) (p : α → Bool)
    (hb : ∀ a ∈ l, ∀ x junk, ∃ e1 x' j', bindT (E x) tg (f a) = some e1 ∧ ex c W b e1 (h ++ junk) = if p a then .ret (r a) (h ++ j') else .nx (E x') (h ++ j')) :
    ∀ x junk, ∃ x' j', forL c W (fun _ => True) tg b (l.map f) (E x) (h ++ junk) = match l.find? p with | some a => .ret (r a) (h ++ j') | none => .nx (E x') (h ++ j') := by
  induction l with
  | nil => intro x junk; exact ⟨x, junk, by simp⟩
  | cons a l ih =>
    intro x junk
    obtain ⟨e1, x1, j1, q1, q2⟩ := hb a List.mem_cons_self x junk
    cases hp : p a with
    | true => exact ⟨x, j1, by simp [q1, q2, hp]⟩
    | false =>
      obtain ⟨x', j', e⟩ := ih (fun b hb' => hb b (List.mem_cons_of_mem _ hb')) x1 j1
      exact ⟨x', j', by simp [q1, q2, hp, e]⟩
theorem forL_find {l : List α} {f : α → D} (r : α → D) (E : ξ → Env) (p : α → Bool)
    (hb : ∀ a ∈ l, ∀ x, ∃ e1 x', bindT (E x) tg (f a) = some e1 ∧ ex c W b e1 h = if p a then .ret (r a) h else .nx (E x') h) :
    ∀ x, ∃ x', forL c W (fun _ => True) tg b (l.map f) (E x) h = match l.find? p with | some a => .ret (r a) h | none => .nx (E x') h := by
  induction l with
  | nil => intro x; exact ⟨x, by simp⟩
  | cons a l ih =>
    intro x
    obtain ⟨e1, x1, q1, q2⟩ := hb a List.mem_cons_self x
    cases hp : p a with
    | true => exact ⟨x, by simp [q1, q2, hp]⟩
    | false =>
      obtain ⟨x', e⟩ := ih (fun b hb' => hb b (List.mem_cons_of_mem _ hb')) x1
      exact ⟨x', by simp [q1, q2, hp, e]⟩
end
section
variable {Γ : Nat → Option Df} {W k : Nat} {h : Hm} (P : Pk Γ) {rs : List (List (List Int))} {ps : List Int} {cap : Int} {a g : List Int}
include P
theorem ends_s (hc0 : 0 ≤ cap) (hc1 : cap ≤ 10) (hg : asc (-1) rs.length g = true) (ha : asc (-1) rs.length a = true) : (run Γ W (k + 5)).call 110 [gD rs ps, .int cap, eL g, eL a] h = .ok .non h := by
  rw [call_pk P rfl]
  simp [callF_eqn, b_judge_ends, judge_rooms_s P hc0 hc1, jl P hg, jl P ha]
theorem least_s (ok : VR rs) (okp : VP ps rs.length) (hc0 : 0 ≤ cap) (hc1 : cap ≤ 10) (hg : asc (-1) rs.length g = true) (ha : asc (-1) rs.length a = true) (hW : 30000 ≤ W) : (run Γ W (k + 6)).call 111 [gD rs ps, .int cap, eL g, eL a] h = .ok (oD (lp rs ps cap a g)) h := by
  obtain ⟨s, d, e⟩ := distances_s (W := W) (k := k + 1) (h := h) (cap := cap) P ok okp ha hW
  rw [call_pk P rfl, ← d.lp]
  simp [callF_eqn, b_least, ends_s P hc0 hc1 hg ha]
  simp [gD, e]
theorem first_step_s {n : Nat} {s : Tb} {l : List Int} {p : Int} (hn : h[n]? = some (.dt (dkE s))) (ok : VR rs) (okp : VP ps rs.length) (d : Dist rs ps cap g s) (hg : asc (-1) rs.length g = true) (hl : (l, p) ∈ s) (h0 : 0 < p) :
    ∃ v c q, (v, c) ∈ nbL rs cap l ∧ (c, q) ∈ s ∧ q + gI ps v = p ∧ (run Γ W (k + 4)).call 154 [gD rs ps, .int cap, eL l, .ref n] h = .ok (eQ (v, c)) h := by
  have hp := okp.pos
  have hcap : (g.length : Int) ≤ cap := by
    by_cases z : (g.length : Int) ≤ cap
    · exact z
    · rw [d.out z] at hl; cases hl
  have hlp := d.least l p hl
  have hasc := hlp.1.asc hg
  have hlen := asc_len hasc (by omega)
  have hr := ok.hi
  have hll : look s l = some p := look_mem d.nd hl
  have hin : ∀ x ∈ nbL rs cap l, ∃ q, look s x.2 = some q ∧ 0 ≤ x.1 ∧ x.1 < ps.length := by
    rintro ⟨v, c⟩ hx
    obtain ⟨h1, h2, _⟩ := mem_nbL.mp hx
    obtain ⟨q, q1, _⟩ := lp_path hp hcap (.step hlp.1 hx)
    exact ⟨q, by rw [d.lp]; exact q1, h1, by rw [okp.len]; exact h2⟩
  obtain ⟨y, e⟩ := forL_find (c := run Γ W (k + 3)) (W := W) (tg := .tp [4, 5]) (b := b_first_step_L1) (h := h) (l := nbL rs cap l) (f := eQ) eQ (fun x : Option D × Option D => [some (gD rs ps), some (.int cap), some (eL l), some (.ref n), x.1, x.2]) (fun x => decide ((look s x.2).getD 0 + gI ps x.1 = p))
    (fun x hx y => by
      obtain ⟨q, h1, h2, h3⟩ := hin x hx
      refine ⟨[some (gD rs ps), some (.int cap), some (eL l), some (.ref n), some (.int x.1), some (eL x.2)], (some (.int x.1), some (eL x.2)), by simp, ?_⟩
      by_cases z : q + gI ps x.1 = p
      · simp [b_first_step_L1, hn, h1, hll, gD, atI_map h2 h3, z]
      · simp [b_first_step_L1, hn, h1, hll, gD, atI_map h2 h3, z]) (none, none)
  obtain ⟨c, v, q, q1, q2, q3⟩ := hlp.last hp h0
  have hback := nb_back ok (q1.1.asc hg) (q1.1.len hcap) q2
  have hfind : ∃ x, (nbL rs cap l).find? (fun x => decide ((look s x.2).getD 0 + gI ps x.1 = p)) = some x := by
    cases z : (nbL rs cap l).find? (fun x => decide ((look s x.2).getD 0 + gI ps x.1 = p)) with
    | some x => exact ⟨x, rfl⟩
    | none =>
      rw [List.find?_eq_none] at z
      have := z (v, c) hback
      rw [show look s (v, c).2 = some q from d.look_iff.mpr ⟨hcap, q1⟩] at this
      simp at this
      exact absurd q3.symm this
  obtain ⟨x, hx⟩ := hfind
  have hxm := List.mem_of_find?_eq_some hx
  have hxp := List.find?_some hx
  obtain ⟨q', h1, h2, h3⟩ := hin x hxm
  simp [h1] at hxp
  refine ⟨x.1, x.2, q', hxm, look_some h1, hxp, ?_⟩
  rw [hx] at e
  have nb := neighbours_s (W := W) (k := k) (h := h) P (rs := rs) (cap := cap) (lot := l) (by omega) (by omega)
  have ga : ∀ x, pr (.att 0 0 "recipes") [gD rs ps] x = .ok (eRR rs) x := fun _ => by simp [gD]
  rw [call_pk P rfl]
  simp [callF_eqn, b_first_step, ga, nb, e]
theorem descent_loop (ok : VR rs) (okp : VP ps rs.length) {n : Nat} {s : Tb} {h : Hm} (hn : h[n]? = some (.dt (dkE s))) (d : Dist rs ps cap g s) (hg : asc (-1) rs.length g = true) : ∀ (m : Nat) (l : List Int) (p : Int) (acc : List Int) (x5 : Option D), (l, p) ∈ s → p < m → acc.length + p ≤ 100000 →
    ∃ prog x2 x5', walkL rs ps cap l prog = some (p, g) ∧ (prog.length : Int) ≤ p ∧ whlL (run Γ W (k + 5)) W b_descent_T1 b_descent_L1 m [some (gD rs ps), some (.int cap), some (eL l), some (.ref n), some (.ref h.length), x5] (h ++ [.lst (acc.map D.int)]) =
      .nx [some (gD rs ps), some (.int cap), x2, some (.ref n), some (.ref h.length), x5'] (h ++ [.lst ((acc ++ prog).map D.int)]) := by
  have hp := okp.pos
  have hn' : ∀ x : Hm, (h ++ x)[n]? = some (.dt (dkE s)) := fun x => get_app hn
  intro m
  induction m with
  | zero => intro l p acc x5 hl hm; have := (d.least l p hl).1.nonneg hp; omega
  | succ m ih =>
    intro l p acc x5 hl hm hb
    have hll : look s l = some p := look_mem d.nd hl
    by_cases h0 : 0 < p
    · obtain ⟨v, c, q, q1, q2, q3, q4⟩ := first_step_s (W := W) (k := k + 1) (h := h ++ [.lst (acc.map D.int)]) P (hn' _) ok okp d hg hl h0
      obtain ⟨h2, h3, _⟩ := mem_nbL.mp q1
      have hv := hp _ h2 h3
      have q0 := (d.least c q q2).1.nonneg hp
      obtain ⟨prog, x2, x5', r1, r2, r3⟩ := ih c q (acc ++ [v]) (some (.int v)) q2 (by omega) (by simp; omega)
      refine ⟨v :: prog, x2, x5', by rw [walkL_cons q1, r1]; simp; omega, by simp; omega, ?_⟩
      have tt : ev (run Γ W (k + 5)) b_descent_T1 true [some (gD rs ps), some (.int cap), some (eL l), some (.ref n), some (.ref h.length), x5] (h ++ [.lst (acc.map D.int)]) = .ok (.bl true) (h ++ [.lst (acc.map D.int)]) := by
        simp [b_descent_T1, hn', hll, h0]
      have hsz : acc.length < sizeLine := size_lt (by omega)
      have bd : ex (run Γ W (k + 5)) W b_descent_L1 [some (gD rs ps), some (.int cap), some (eL l), some (.ref n), some (.ref h.length), x5] (h ++ [.lst (acc.map D.int)]) = .nx [some (gD rs ps), some (.int cap), some (eL c), some (.ref n), some (.ref h.length), some (.int v)] (h ++ [.lst ((acc ++ [v]).map D.int)]) := by
        simp [b_descent_L1, q4, hsz]
      rw [whlL_succ, tt, fl_ok, bd]
      rw [List.append_assoc, List.singleton_append] at r3
      exact r3
    · have hpz : p = 0 := by have := (d.least l p hl).1.nonneg hp; omega
      subst hpz
      have := path_zero hp (d.least l 0 hl).1 (Int.le_refl _)
      subst this
      refine ⟨[], some (eL l), x5, rfl, by simp, ?_⟩
      have tt : ev (run Γ W (k + 5)) b_descent_T1 true [some (gD rs ps), some (.int cap), some (eL l), some (.ref n), some (.ref h.length), x5] (h ++ [.lst (acc.map D.int)]) = .ok (.bl false) (h ++ [.lst (acc.map D.int)]) := by
        simp [b_descent_T1, hn', hll]
      rw [whlL_succ, tt]
      simp
theorem descent_s (ok : VR rs) (okp : VP ps rs.length) {n : Nat} {s : Tb} (hn : h[n]? = some (.dt (dkE s))) (d : Dist rs ps cap g s) (hg : asc (-1) rs.length g = true) {l : List Int} {p : Int} (hl : (l, p) ∈ s) (hW : 30000 ≤ W) :
    ∃ prog, walkL rs ps cap l prog = some (p, g) ∧ (prog.length : Int) ≤ p ∧ p ≤ 9216 ∧ (run Γ W (k + 6)).call 155 [gD rs ps, .int cap, eL l, .ref n] h = .ok (.ref h.length) (h ++ [.lst (prog.map D.int)]) := by
  have hb := d.price_le okp.pos hg ok.hi hl
  obtain ⟨prog, x2, x5', r1, r2, r3⟩ := descent_loop (W := W) (k := k) P ok okp hn d hg W l p [] none hl (by omega) (by simp; omega)
  refine ⟨prog, r1, r2, hb, ?_⟩
  rw [call_pk P rfl]
  simp at r3
  simp [callF_eqn, b_descent, r3]
theorem cheapest_s (ok : VR rs) (okp : VP ps rs.length) (hc0 : 0 ≤ cap) (hc1 : cap ≤ 10) (hg : asc (-1) rs.length g = true) (ha : asc (-1) rs.length a = true) (hW : 30000 ≤ W) :
    (lp rs ps cap a g = none ∧ (run Γ W (k + 7)).call 156 [gD rs ps, .int cap, eL g, eL a] h = .ok .non h) ∨
    ∃ p prog, lp rs ps cap a g = some p ∧ walkL rs ps cap a prog = some (p, g) ∧ (prog.length : Int) ≤ p ∧ p ≤ 9216 ∧ (run Γ W (k + 7)).call 156 [gD rs ps, .int cap, eL g, eL a] h = .ok (.ref h.length) (h ++ [.lst (prog.map D.int)]) := by
  obtain ⟨s, d, e⟩ := distances_s (W := W) (k := k + 2) (h := h) (cap := cap) P ok okp hg hW
  have hlp : lp rs ps cap a g = look s a := by rw [d.lp, lp_symm ok okp.pos hg ha]
  have gr : ∀ x, pr (.att 0 0 "recipes") [gD rs ps] x = .ok (eRR rs) x := fun _ => by simp [gD]
  have gp : ∀ x, pr (.att 0 1 "prices") [gD rs ps] x = .ok (eL ps) x := fun _ => by simp [gD]
  cases hl : look s a with
  | none =>
    left
    refine ⟨by rw [hlp, hl], ?_⟩
    rw [call_pk P rfl]
    simp [callF_eqn, b_cheapest, ends_s P hc0 hc1 hg ha, gr, gp, e, hl]
  | some p =>
    right
    obtain ⟨prog, r1, r2, r3, r4⟩ := descent_s (W := W) (k := k) (h := h ++ [.dt (dkE s)]) P ok okp (n := h.length) (by simp) d hg (look_some hl) hW
    refine ⟨p, prog, by rw [hlp, hl], r1, r2, r3, ?_⟩
    rw [call_pk P rfl]
    simp at r4
    have e1 := gc_oneD (h := h) (n := h.length + 1) (o := .lst (prog.map D.int)) (h' := h ++ [.dt (dkE s), .lst (prog.map D.int)]) oldOk_app (by omega) (by simp) (by simp)
    rw [List.take_left' rfl] at e1
    simp [callF_eqn, b_cheapest, ends_s P hc0 hc1 hg ha, gr, gp, e, hl, r4, e1]
end
end N9

set_option Elab.async false
set_option linter.all false
set_option maxRecDepth 100000
namespace N9
open PySem PySem.Spec L2
/-- the fewest rooms -/
noncomputable def frF (rs : List (List (List Int))) (ps : List Int) (g a : List Int) : Int :=
  match (rI (max g.length a.length) (rs.length - max g.length a.length)).find? (fun r => (lp rs ps r a g).isSome) with
  | some r => r
  | none => rs.length
section
variable {Γ : Nat → Option Df} {W k : Nat} {h : Hm} (P : Pk Γ) {rs : List (List (List Int))} {ps : List Int} {cap : Int} {a g : List Int}
include P
theorem with_prices_s {ps0 : List Int} (ok : VR rs) (okp : VP ps rs.length) : (run Γ W (k + 7)).call 14 [gD rs ps0, eL ps] h = .ok (gD rs ps) h := by
  have e := graph_init (W := W) (k := k) (h := h) P ok okp
  have hg : D.ins 0 [eRR rs, eL ps, .int rs.length] = gD rs ps := rfl
  have ga : ∀ x, pr (.att 0 0 "recipes") [gD rs ps0] x = .ok (eRR rs) x := fun _ => by simp [gD]
  rw [call_pk P rfl]
  simp [callF_eqn, b_Graph_with_prices, ga, e, hg]
theorem fewest_s (ok : VR rs) (okp : VP ps rs.length) (hg : asc (-1) rs.length g = true) (ha : asc (-1) rs.length a = true) (hW : 30000 ≤ W) : (run Γ W (k + 5)).call 134 [gD rs ps, eL g, eL a] h = .ok (.int (frF rs ps g a)) h := by
  have hr := ok.hi
  have hgl := asc_len hg (by omega)
  have hal := asc_len ha (by omega)
  have gr : ∀ x, pr (.att 0 0 "recipes") [gD rs ps] x = .ok (eRR rs) x := fun _ => by simp [gD]
  have gp : ∀ x, pr (.att 0 1 "prices") [gD rs ps] x = .ok (eL ps) x := fun _ => by simp [gD]
  have gs : ∀ x, pr (.att 0 2 "size") [gD rs ps] x = .ok (.int rs.length) x := fun _ => by simp [gD]
  obtain ⟨y, j, e⟩ := forL_findJ (c := run Γ W (k + 4)) (W := W) (tg := .nm 3) (b := b_fewest_rooms_L1) (h := h) (l := rI (max g.length a.length) (rs.length - max g.length a.length)) (f := D.int) D.int (fun x : Option D => [some (gD rs ps), some (eL g), some (eL a), x]) (fun r => (lp rs ps r a g).isSome)
    (fun r hr' x junk => by
      obtain ⟨s, d, e⟩ := distances_s (W := W) (k := k) (h := h ++ junk) (cap := r) P ok okp ha hW
      refine ⟨[some (gD rs ps), some (eL g), some (eL a), some (.int r)], some (.int r), junk ++ [.dt (dkE s)], by simp, ?_⟩
      have hd := d.lp g
      simp at e
      have q : ∀ n, n = h.length + junk.length → (h ++ (junk ++ [Ob.dt (dkE s)]))[n]? = some (.dt (dkE s)) := by
        rintro n rfl
        rw [← List.append_assoc, show h.length + junk.length = (h ++ junk).length from by simp]; simp
      cases hl : lp rs ps r a g with
      | none => rw [hl] at hd; simp [b_fewest_rooms_L1, gr, gp, e, q, hd]
      | some p => rw [hl] at hd; simp [b_fewest_rooms_L1, gr, gp, e, q, hd]) none []
  have hit : evI (run Γ W (k + 4)) (.rng2 (.op (.bi true .max) (.cons (.op (.bi true .len) (.cons (.var 1) .nil)) (.cons (.op (.bi true .len) (.cons (.var 2) .nil)) .nil))) (.op (.att 0 2 "size") (.cons (.var 0) .nil))) [some (gD rs ps), some (eL g), some (eL a), none] h = .ok ⟨(rI (max g.length a.length) (rs.length - max g.length a.length)).map D.int, fun _ => True⟩ h := by
    have := evI_r2 (c := run Γ W (k + 4)) (e := [some (gD rs ps), some (eL g), some (eL a), none]) (h := h) (h1 := h) (h2 := h) (i := max (g.length : Int) (a.length : Int)) (j := rs.length) (a := .op (.bi true .max) (.cons (.op (.bi true .len) (.cons (.var 1) .nil)) (.cons (.op (.bi true .len) (.cons (.var 2) .nil)) .nil))) (b := .op (.att 0 2 "size") (.cons (.var 0) .nil)) (by simp) (by simp [gs]) (by omega) (by omega)
    rw [show ((rs.length : Int) - max (g.length : Int) (a.length : Int)).toNat = rs.length - max g.length a.length from by omega] at this
    rw [this]
  rw [call_pk P rfl]
  rw [List.append_nil] at e
  unfold frF
  cases hf : (rI (max g.length a.length) (rs.length - max g.length a.length)).find? (fun r => (lp rs ps r a g).isSome) with
  | none =>
    rw [hf] at e
    generalize (rI (max g.length a.length) (rs.length - max g.length a.length)).map D.int = L at e hit
    simp [callF_eqn, b_fewest_rooms, jl P hg, jl P ha, hit, e, gs]
  | some r =>
    rw [hf] at e
    generalize (rI (max g.length a.length) (rs.length - max g.length a.length)).map D.int = L at e hit
    simp [callF_eqn, b_fewest_rooms, jl P hg, jl P ha, hit, e, gs]
end
end N9

set_option Elab.async false
set_option linter.all false
set_option maxRecDepth 100000
namespace N9
open PySem PySem.Spec L2
section
variable {rs : List (List (List Int))} {ps : List Int} {cap cap' : Int} {a b g : List Int} {p : Int}
theorem nbL_mono (h : cap ≤ cap') {x : QI} (hx : x ∈ nbL rs cap a) : x ∈ nbL rs cap' a := by
  obtain ⟨v, c⟩ := x
  rw [mem_nbL] at *
  exact ⟨hx.1, hx.2.1, hx.2.2.1, by omega, hx.2.2.2.2⟩
theorem Path.mono (h : cap ≤ cap') (q : Path rs ps cap a p b) : Path rs ps cap' a p b := by
  induction q with
  | nil => exact .nil
  | step _ hc ih => exact .step ih (nbL_mono h hc)
/-- with a room for each value all values can be put in -/
theorem path_full (ok : VR rs) (ha : asc (-1) rs.length a = true) (hc : (rs.length : Int) ≤ cap) : ∀ m : Nat, m ≤ rs.length → ∃ p b, Path rs ps cap a p b ∧ (∀ v : Int, 0 ≤ v → v < m → v ∈ b)
  | 0, _ => ⟨0, a, .nil, fun v h1 h2 => by omega⟩
  | m + 1, hm => by
    obtain ⟨p, b, h1, h2⟩ := path_full ok ha hc m (by omega)
    have hb := h1.asc ha
    by_cases hv : (m : Int) ∈ b
    · refine ⟨p, b, h1, fun v v0 v1 => ?_⟩
      by_cases e : v = m
      · rw [e]; exact hv
      · exact h2 v v0 (by omega)
    · have v1 : (m : Int) < rs.length := by omega
      have ht := tog_asc hb (v := m) (by omega) v1
      have hl := asc_len ht (by omega)
      have hok := ok.at (v := (m : Int)) (by omega) v1
      have he : enabB rs b m = true := by
        rw [enab_iff]
        cases hg : gI rs (m : Int) with
        | nil => rw [hg] at hok; have := hok.1; simp at this
        | cons r l =>
          refine ⟨r, by simp, fun x hx => ?_⟩
          have := ok.part (v := (m : Int)) (by omega) v1 (r := r) (by rw [hg]; simp) hx
          exact h2 x this.1 (by omega)
      refine ⟨_, _, .step h1 (mem_nbL.mpr ⟨by omega, v1, he, by omega, rfl⟩), fun v v0 v1' => ?_⟩
      rw [mem_togL]
      by_cases e : v = m
      · exact .inr ⟨e, hv⟩
      · exact .inl ⟨h2 v v0 (by omega), e⟩
theorem lp_full (ok : VR rs) (hp : PosP rs ps) (ha : asc (-1) rs.length a = true) (hb : asc (-1) rs.length b = true) (hc : (rs.length : Int) ≤ cap) : ∃ p, lp rs ps cap a b = some p := by
  obtain ⟨p, x, h1, h2⟩ := path_full (ps := ps) ok ha hc rs.length (Nat.le_refl _)
  obtain ⟨q, y, h3, h4⟩ := path_full (ps := ps) ok hb hc rs.length (Nat.le_refl _)
  have hx := h1.asc ha
  have hy := h3.asc hb
  have e : x = y := asc_ext hx hy fun z => ⟨fun m => h4 z (asc_mem hx m).1 (asc_mem hx m).2, fun m => h2 z (asc_mem hy m).1 (asc_mem hy m).2⟩
  subst e
  have hbl := asc_len hb (by omega)
  have hal := asc_len ha (by omega)
  obtain ⟨r, e, _⟩ := lp_path hp (by omega) (h1.trans (h3.back ok hb (by omega)))
  exact ⟨r, e⟩
theorem lp_mono (hp : PosP rs ps) (h : cap ≤ cap') (e : lp rs ps cap a b = some p) : ∃ q, lp rs ps cap' a b = some q ∧ q ≤ p := by
  obtain ⟨h1, h2⟩ := lp_some.mp e
  exact lp_path hp (by omega) (h2.1.mono h)
theorem lp_len (e : lp rs ps cap a b = some p) : (a.length : Int) ≤ cap ∧ (b.length : Int) ≤ cap := by
  obtain ⟨h1, h2⟩ := lp_some.mp e
  exact ⟨h1, h2.1.len h1⟩
theorem fr_symm (ok : VR rs) (hp : PosP rs ps) (ha : asc (-1) rs.length a = true) (hg : asc (-1) rs.length g = true) : frF rs ps g a = frF rs ps a g := by
  unfold frF
  rw [show max g.length a.length = max a.length g.length from Nat.max_comm _ _, show max (g.length : Int) (a.length : Int) = max (a.length : Int) (g.length : Int) from Int.max_comm _ _]
  have : (fun r => (lp rs ps r a g).isSome) = fun r => (lp rs ps r g a).isSome := funext fun r => by rw [lp_symm ok hp ha hg]
  rw [this]
theorem find_rI {P : Int → Bool} : ∀ {n : Nat} {lo r : Int}, (rI lo n).find? P = some r → lo ≤ r ∧ r < lo + n ∧ P r = true ∧ ∀ x, lo ≤ x → x < r → P x = false
  | 0, lo, r, h => by rw [rI_zero] at h; cases h
  | n + 1, lo, r, h => by
    rw [rI_succ, List.find?_cons] at h
    cases hp : P lo with
    | true =>
      rw [hp] at h
      cases h
      exact ⟨Int.le_refl _, by omega, hp, fun x h1 h2 => by omega⟩
    | false =>
      rw [hp] at h
      obtain ⟨h1, h2, h3, h4⟩ := find_rI (n := n) h
      refine ⟨by omega, by omega, h3, fun x x1 x2 => ?_⟩
      by_cases e : x = lo
      · rw [e]; exact hp
      · exact h4 x (by omega) x2
theorem fr_spec (ok : VR rs) (hp : PosP rs ps) (ha : asc (-1) rs.length a = true) (hg : asc (-1) rs.length g = true) :
    max (g.length : Int) (a.length : Int) ≤ frF rs ps g a ∧ frF rs ps g a ≤ rs.length ∧ (∃ p, lp rs ps (frF rs ps g a) a g = some p) ∧ ∀ r, r < frF rs ps g a → lp rs ps r a g = none := by
  have hgl := asc_len hg (by omega)
  have hal := asc_len ha (by omega)
  unfold frF
  have low : ∀ r : Int, r < max (g.length : Int) (a.length : Int) → lp rs ps r a g = none := fun r h => by
    cases e : lp rs ps r a g with
    | none => rfl
    | some p => have := lp_len e; omega
  cases hf : (rI (max g.length a.length) (rs.length - max g.length a.length)).find? (fun r => (lp rs ps r a g).isSome) with
  | none =>
    dsimp only
    refine ⟨by omega, Int.le_refl _, lp_full ok hp ha hg (Int.le_refl _), fun r hr => ?_⟩
    by_cases h : r < max (g.length : Int) (a.length : Int)
    · exact low r h
    · rw [List.find?_eq_none] at hf
      have := hf r (mem_rI.mpr ⟨by omega, by omega⟩)
      cases e : lp rs ps r a g with
      | none => rfl
      | some p => rw [e] at this; simp at this
  | some x =>
    obtain ⟨h1, h2, h3, h4⟩ := find_rI hf
    dsimp only
    refine ⟨by omega, by omega, Option.isSome_iff_exists.mp h3, fun r hr => ?_⟩
    by_cases h : r < max (g.length : Int) (a.length : Int)
    · exact low r h
    · have := h4 r (by omega) hr
      cases e : lp rs ps r a g with
      | none => rfl
      | some p => rw [e] at this; cases this
theorem fr_uniq (ok : VR rs) (hp : PosP rs ps) (ha : asc (-1) rs.length a = true) (hg : asc (-1) rs.length g = true) {r : Int} (h1 : ∃ p, lp rs ps r a g = some p) (h2 : ∀ x, x < r → lp rs ps x a g = none) : frF rs ps g a = r := by
  obtain ⟨_, _, ⟨p, h3⟩, h4⟩ := fr_spec ok hp ha hg
  obtain ⟨q, h5⟩ := h1
  by_cases e : r < frF rs ps g a
  · rw [h4 r e] at h5; cases h5
  · by_cases e2 : frF rs ps g a < r
    · rw [h2 _ e2] at h3; cases h3
    · omega
theorem fr_self (ok : VR rs) (hp : PosP rs ps) (ha : asc (-1) rs.length a = true) : frF rs ps a a = a.length := by
  refine fr_uniq ok hp ha ha ⟨0, lp_self hp (Int.le_refl _)⟩ fun x hx => ?_
  cases e : lp rs ps x a a with
  | none => rfl
  | some p => have := lp_len e; omega
end
end N9

set_option Elab.async false
set_option linter.all false
set_option maxRecDepth 100000
namespace N9
open PySem PySem.Spec L2
/-! ## other prices, other rows, and how far two lots are apart -/
section
variable {rs rs' : List (List (List Int))} {ps ps' : List Int} {cap c1 c2 : Int} {a b : List Int} {p q : Int}
theorem Path.rel (h : ∀ v : Int, 0 ≤ v → v < rs.length → c1 * gI ps v ≤ c2 * gI ps' v) (hq : Path rs ps' cap a q b) : ∃ p, Path rs ps cap a p b ∧ c1 * p ≤ c2 * q := by
  induction hq with
  | nil => exact ⟨0, .nil, by simp⟩
  | step _ hc ih =>
    obtain ⟨p, i1, i2⟩ := ih
    obtain ⟨v0, v1, _⟩ := mem_nbL.mp hc
    have := h _ v0 v1
    exact ⟨_, .step i1 hc, by rw [Int.mul_add, Int.mul_add]; omega⟩
theorem lp_rel (hp : PosP rs ps) (h0 : 0 ≤ c1) (h : ∀ v : Int, 0 ≤ v → v < rs.length → c1 * gI ps v ≤ c2 * gI ps' v) (e : lp rs ps' cap a b = some q) : ∃ p, lp rs ps cap a b = some p ∧ c1 * p ≤ c2 * q := by
  obtain ⟨hc, l⟩ := lp_some.mp e
  obtain ⟨p, h1, h2⟩ := Path.rel (c1 := c1) (c2 := c2) h l.1
  obtain ⟨r, e1, e2⟩ := lp_path hp hc h1
  exact ⟨r, e1, Int.le_trans (Int.mul_le_mul_of_nonneg_left e2 h0) h2⟩
/-- there is a price or not, whatever the prices -/
theorem lp_isSome (hp : PosP rs ps) (e : lp rs ps' cap a b = some q) : ∃ p, lp rs ps cap a b = some p := by
  obtain ⟨p, e, _⟩ := lp_rel (c1 := 0) (c2 := 0) hp (Int.le_refl _) (fun v _ _ => by omega) e
  exact ⟨p, e⟩
theorem Path.rows (hn : rs'.length = rs.length) (h : ∀ lot v, enabB rs lot v = true → 0 ≤ v → v < rs.length → enabB rs' lot v = true) (hq : Path rs ps cap a p b) : Path rs' ps cap a p b := by
  induction hq with
  | nil => exact .nil
  | step _ hc ih =>
    obtain ⟨h1, h2, h3, h4, rfl⟩ := mem_nbL.mp hc
    exact .step ih (mem_nbL.mpr ⟨h1, by rw [hn]; exact h2, h _ _ h3 h1 h2, h4, rfl⟩)
theorem lp_rows (hp : PosP rs' ps) (hn : rs'.length = rs.length) (h : ∀ lot v, enabB rs lot v = true → 0 ≤ v → v < rs.length → enabB rs' lot v = true) (e : lp rs ps cap a b = some p) : ∃ q, lp rs' ps cap a b = some q ∧ q ≤ p := by
  obtain ⟨hc, l⟩ := lp_some.mp e
  exact lp_path hp hc (l.1.rows hn h)
theorem countP_one {α : Type} [DecidableEq α] {P Q : α → Bool} {v : α} : ∀ {l : List α}, l.Nodup → v ∈ l → (∀ x, x ≠ v → P x = Q x) → P v = !Q v → (l.countP P = l.countP Q + 1 ∨ l.countP Q = l.countP P + 1)
  | x :: l, hn, hm, h1, h2 => by
    rw [List.nodup_cons] at hn
    rw [List.countP_cons, List.countP_cons]
    by_cases c : x = v
    · subst c
      have : l.countP P = l.countP Q := List.countP_congr fun y hy => by rw [h1 y (fun e => hn.1 (e ▸ hy))]
      rw [this, h2]
      cases Q x <;> simp
    · rcases List.mem_cons.mp hm with e | m
      · exact absurd e.symm c
      · have := countP_one hn.2 m h1 h2
        rw [h1 x c]
        omega
/-- how many values are in one of the lots only -/
def apart (n : Nat) (a b : List Int) : Nat := (rI 0 n).countP fun i => decide (i ∈ a) != decide (i ∈ b)
theorem apart_self {n : Nat} : apart n a a = 0 := by unfold apart; rw [List.countP_eq_zero]; intro x _; simp
theorem apart_tog {n : Nat} {v : Int} (h0 : 0 ≤ v) (h1 : v < n) : apart n a (togL b v) = apart n a b + 1 ∨ apart n a b = apart n a (togL b v) + 1 := by
  unfold apart
  refine countP_one (v := v) ?_ (mem_rI.mpr ⟨h0, by omega⟩) (fun x hx => ?_) ?_
  · unfold rI
    refine List.pairwise_map.mpr (List.nodup_range.imp fun h e => h ?_)
    omega
  · have : (x ∈ togL b v) ↔ x ∈ b := by rw [mem_togL]; simp [hx]
    rw [decide_eq_decide.mpr this]
  · have : (v ∈ togL b v) ↔ ¬ v ∈ b := by rw [mem_togL]; simp
    rw [decide_eq_decide.mpr this, decide_not]
    cases decide (v ∈ a) <;> cases decide (v ∈ b) <;> rfl
/-- a program of single prices -/
theorem Path.apart (h1 : ∀ v : Int, 0 ≤ v → v < rs.length → gI ps v = 1) (h : Path rs ps cap a p b) : (N9.apart rs.length a b : Int) ≤ p ∧ p % 2 = (N9.apart rs.length a b : Int) % 2 := by
  induction h with
  | nil => rw [apart_self]; simp
  | step _ hc ih =>
    obtain ⟨v0, v1, _, _, rfl⟩ := mem_nbL.mp hc
    rw [h1 _ v0 v1]
    rcases apart_tog (a := a) (n := rs.length) v0 v1 (b := by assumption) with e | e <;> omega
end
end N9

set_option Elab.async false
set_option linter.all false
set_option maxRecDepth 100000
namespace N9
open PySem PySem.Spec L2
theorem cut_to {s : List D} {i : Int} (h0 : 0 ≤ i) : cutD s none (some i) = s.take i.toNat := by
  unfold cutD HT.sIx
  simp only [Nat.sub_zero, List.drop_zero]
  rw [if_neg (by omega)]
  rcases Nat.le_total i.toNat s.length with h | h
  · rw [Nat.min_eq_left h]
  · rw [Nat.min_eq_right h, List.take_of_length_le (Nat.le_refl _), List.take_of_length_le h]
theorem cut_from {s : List D} {i : Int} (h0 : 0 ≤ i) : cutD s (some i) none = s.drop i.toNat := by
  unfold cutD HT.sIx
  simp only
  rw [if_neg (by omega)]
  rcases Nat.le_total i.toNat s.length with h | h
  · rw [Nat.min_eq_left h, List.take_of_length_le (by rw [List.length_drop]; exact Nat.le_refl _)]
  · rw [Nat.min_eq_right h, List.drop_of_length_le (Nat.le_refl _), List.drop_of_length_le h, List.take_nil]
/-- one in the midst is another -/
theorem set_cut {α : Type} {l : List α} {j : Nat} {x : α} (h : j < l.length) : l.take j ++ [x] ++ l.drop (j + 1) = l.set j x := by
  rw [List.set_eq_take_append_cons_drop, if_pos h, List.append_assoc]; rfl
theorem okRows_set : ∀ {l : List (List (List Int))} {v : Int} {j : Nat} {row : List (List Int)}, okRows v l → okRow (v + j) row → okRows v (l.set j row)
  | [], _, _, _, _, _ => trivial
  | r :: l, v, 0, row, h, h2 => ⟨by simpa using h2, h.2⟩
  | r :: l, v, j + 1, row, h, h2 => ⟨h.1, okRows_set h.2 (by rwa [show v + 1 + (j : Int) = v + ((j + 1 : Nat) : Int) from by omega])⟩
theorem VR.set {rs : List (List (List Int))} {v : Int} {row : List (List Int)} (ok : VR rs) (h0 : 0 ≤ v) (h : okRow v row) : VR (rs.set v.toNat row) :=
  ⟨by rw [List.length_set]; exact ok.lo, by rw [List.length_set]; exact ok.hi, okRows_set ok.row (by rwa [show (0 : Int) + (v.toNat : Int) = v from by omega])⟩
section
variable {Γ : Nat → Option Df} {W k : Nat} {h : Hm} (P : Pk Γ) {rs : List (List (List Int))} {ps : List Int} {v : Int}
include P
theorem with_row_s {row : List (List Int)} (ok : VR rs) (okp : VP ps rs.length) (h0 : 0 ≤ v) (h1 : v < rs.length) (hr : okRow v row) : (run Γ W (k + 7)).call 36 [gD rs ps, .int v, eR row] h = .ok (gD (rs.set v.toNat row) ps) h := by
  have hi := ok.hi
  have ok' := ok.set h0 hr
  have e := graph_init (W := W) (k := k) (h := h) (ps := ps) P ok' (by rw [List.length_set]; exact okp)
  have hg : D.ins 0 [eRR (rs.set v.toNat row), eL ps, .int (rs.set v.toNat row).length] = gD (rs.set v.toNat row) ps := rfl
  have ga : ∀ x, pr (.att 0 0 "recipes") [gD rs ps] x = .ok (eRR rs) x := fun _ => by simp [gD]
  have gp : ∀ x, pr (.att 0 1 "prices") [gD rs ps] x = .ok (eL ps) x := fun _ => by simp [gD]
  have c1 := cut_to (s := rs.map eR) h0
  have c2 := cut_from (s := rs.map eR) (i := v + 1) (by omega)
  have hs : (rs.map eR).take v.toNat ++ (eR row :: (rs.map eR).drop (v + 1).toNat) = (rs.set v.toNat row).map eR := by
    rw [show (v + 1).toNat = v.toNat + 1 from by omega, ← set_cut (x := row) (by omega : v.toNat < rs.length), List.map_append, List.map_append, List.map_take, List.map_drop]
    simp
  have gs : ∀ {a b : Option Int} (x : Hm), slcD true (eRR rs) a b x = .ok (.tup (cutD (rs.map eR) a b)) x := fun x => rfl
  have z1 : min v.toNat rs.length + 1 ≤ sizeLine := size_le (by omega)
  have z2 : min v.toNat rs.length + 1 + (rs.length - (v + 1).toNat) ≤ sizeLine := size_le (by omega)
  have hl : (List.map eR (rs.set v.toNat row)) = (rs.set v.toNat row).map eR := rfl
  have he : D.tup ((rs.map eR).set v.toNat (eR row)) = eRR (rs.set v.toNat row) := by rw [← List.map_set]; rfl
  rw [call_pk P rfl]
  simp [callF_eqn, b_Graph_with_row, ga, gp, gs, c1, c2, z1, z2, hs, he, e]
  simp [gD]
end
section
variable {v : Int}
/-- a recipe more -/
theorem okRow_more {row : List (List Int)} {r : List Int} (ok : okRow v row) (hr : asc (-1) v r = true) (hn : r ∉ row) (hl : row.length < 4) : okRow v (row ++ [r]) := by
  obtain ⟨o1, o2, o3, o4⟩ := ok
  refine ⟨by simp, by simp; omega, ?_, fun x hx => ?_⟩
  · rw [List.nodup_append]
    refine ⟨o3, by simp, fun a ha b hb => ?_⟩
    rw [List.mem_singleton] at hb; subst hb; rintro rfl; exact hn ha
  · rcases List.mem_append.mp hx with m | m
    · exact o4 x m
    · rw [List.mem_singleton] at m; rw [m]; exact hr
theorem okRow_less {row : List (List Int)} {r : List Int} (ok : okRow v row) (hn : r ∈ row) (hl : 1 < row.length) : okRow v (row.filter fun x => decide (x ≠ r)) := by
  obtain ⟨o1, o2, o3, o4⟩ := ok
  refine ⟨?_, Nat.le_trans (List.length_filter_le _ _) o2, o3.filter _, fun x hx => o4 x (List.mem_filter.mp hx).1⟩
  match row, hl with
  | a :: b :: l, _ =>
    have hab : a ≠ b := by
      rintro rfl
      simp at o3
    by_cases c : a = r
    · have : b ≠ r := fun e => hab (c.trans e.symm)
      have : b ∈ (a :: b :: l).filter fun x => decide (x ≠ r) := List.mem_filter.mpr ⟨by simp, by simpa using this⟩
      exact List.length_pos_of_mem this
    · have : a ∈ (a :: b :: l).filter fun x => decide (x ≠ r) := List.mem_filter.mpr ⟨by simp, by simpa using c⟩
      exact List.length_pos_of_mem this
end
section
variable {Γ : Nat → Option Df} {W k : Nat} {h : Hm} (P : Pk Γ) {rs : List (List (List Int))} {ps : List Int} {v : Int}
include P
theorem with_recipe_s {r : List Int} (ok : VR rs) (okp : VP ps rs.length) (h0 : 0 ≤ v) (h1 : v < rs.length) (hr : asc (-1) v r = true) (hn : r ∉ gI rs v) (hl : (gI rs v).length < 4) : (run Γ W (k + 8)).call 37 [gD rs ps, .int v, eL r] h = .ok (gD (rs.set v.toNat (gI rs v ++ [r])) ps) h := by
  have hi := ok.hi
  have e := with_row_s (W := W) (k := k) (h := h) P ok okp h0 h1 (okRow_more (ok.at h0 h1) hr hn hl)
  have j := jv (W := W) (k := k + 4) (h := h) P (ps := ps) h0 h1
  have ia := is_ascending_s (W := W) (k := k + 5) (h := h) P (l := r) (n := v)
  have ga : ∀ x, pr (.att 0 0 "recipes") [gD rs ps] x = .ok (eRR rs) x := fun _ => by simp [gD]
  have hl' : ¬ (4 : Int) ≤ ((gI rs v).length : Int) := by omega
  have z1 : (gI rs v).length + 1 ≤ sizeLine := size_le (by omega)
  have ho : ∀ x, insOk 0 x (gD rs ps) = true := fun _ => rfl
  have hb : ∀ x, binD true .add (eR (gI rs v)) (.tup [eL r]) x = .ok (eR (gI rs v ++ [r])) x := fun x => by
    have : D.tup ((gI rs v).map eL ++ [eL r]) = eR (gI rs v ++ [r]) := by simp [eR]
    show binD true .add (.tup ((gI rs v).map eL)) (.tup [eL r]) x = _
    rw [bin_tt, if_pos (by simpa using z1), this]
  rw [call_pk P rfl]
  simp [callF_eqn, b_Graph_with_recipe, ga, j, ia, hr, h0, h1, hn, hl', ho, hb, e]
/-- a recipe less -/
theorem without_recipe_s {r : List Int} (ok : VR rs) (okp : VP ps rs.length) (h0 : 0 ≤ v) (h1 : v < rs.length) (hn : r ∈ gI rs v) (hl : 1 < (gI rs v).length) : (run Γ W (k + 8)).call 38 [gD rs ps, .int v, eL r] h = .ok (gD (rs.set v.toNat ((gI rs v).filter fun x => decide (x ≠ r))) ps) h := by
  have hi := ok.hi
  have oa := ok.at h0 h1
  have hr := oa.2.2.2 r hn
  have e := with_row_s (W := W) (k := k) (h := h) P ok okp h0 h1 (okRow_less oa hn hl)
  have j := jv (W := W) (k := k + 4) (h := h) P (ps := ps) h0 h1
  have ia := is_ascending_s (W := W) (k := k + 5) (h := h) P (l := r) (n := v)
  have ga : ∀ x, pr (.att 0 0 "recipes") [gD rs ps] x = .ok (eRR rs) x := fun _ => by simp [gD]
  have hl' : ¬ ((gI rs v).length : Int) = 1 := by omega
  have lc := lc_pure (c := run Γ W (k + 7)) (t := false) (e := [some (gD rs ps), some (.int v), some (eL r), some (eR (gI rs v)), none]) (h := h) (own := [4]) (tg := .nm 4) (it := .itv (.var 3)) (cond := .cmp .ne (.var 4) (.var 2)) (elt := .var 4) (f := eL) (l := gI rs v) (fun x => decide (x ≠ r)) eL (by simp) (size_le (by have := oa.2.1; omega)) (fun a => pure_eL)
    (fun a ha => ⟨[some (gD rs ps), some (.int v), some (eL r), some (eR (gI rs v)), some (eL a)], by simp, fun acc => ⟨by simp, fun _ => by simp⟩⟩)
  have he : D.tup (((gI rs v).filter fun x => decide (x ≠ r)).map eL) = eR ((gI rs v).filter fun x => decide (x ≠ r)) := rfl
  have ho : ∀ x, insOk 0 x (gD rs ps) = true := fun _ => rfl
  rw [call_pk P rfl]
  simp only [fin_f] at lc
  generalize (gI rs v).filter (fun x => decide (x ≠ r)) = row at *
  simp [callF_eqn, b_Graph_without_recipe, ga, j, ia, hr, h0, h1, hn, hl', lc, he, e, ho]
end
end N9

set_option Elab.async false
set_option linter.all false
set_option maxRecDepth 100000
namespace N9
open PySem PySem.Spec L2
/-- 518 _law_integer(_law_thing): 0 _law_thing -/
def b_integer_518 : IS := (.seq (.ret (.and (.op (.isi .int) (.cons (.var 0) .nil)) (.not (.op (.isi .bool) (.cons (.var 0) .nil))))) .nil)
def f518 : Df := ⟨1, 1, .pure, b_integer_518⟩
/-- 519 _law_hand(_law_script): 0 _law_script -/
def b_hand_519 : IS := (.seq (.ret (.lstE false (.cons (.op (.bi true .list) (.cons (.var 0) .nil)) (.cons (.con (.int 0)) (.cons (.con (.int 0)) (.cons (.con (.int 0)) (.cons (.con (.int 7)) .nil))))))) .nil)
def f519 : Df := ⟨1, 1, .one, b_hand_519⟩
/-- 520 _law_mixed(_law_seed, _law_turn): 0 _law_seed 1 _law_turn 2 _law_mixed_here -/
def b_mixed_520 : IS := (.seq (.asg (.nm 2) (.op (.bin true .mod) (.cons (.op (.bin true .mul) (.cons (.op (.bin true .add) (.cons (.op (.bin true .add) (.cons (.op (.bin true .mod) (.cons (.op (.bi true .int) (.cons (.var 0) .nil)) (.cons (.con (.int 2147483647)) .nil))) (.cons (.op (.bin true .mul) (.cons (.con (.int 7919)) (.cons (.var 1) .nil))) .nil))) (.cons (.con (.int 1)) .nil))) (.cons (.con (.int 48271)) .nil))) (.cons (.con (.int 2147483647)) .nil)))) (.seq (.asg (.nm 2) (.op (.bin true .mod) (.cons (.op (.bin true .mul) (.cons (.var 2) (.cons (.op (.bin true .add) (.cons (.op (.bin true .fdiv) (.cons (.var 2) (.cons (.con (.int 1009)) .nil))) (.cons (.con (.int 69621)) .nil))) .nil))) (.cons (.con (.int 2147483647)) .nil)))) (.seq (.ret (.op (.bin true .mod) (.cons (.op (.bin true .mul) (.cons (.var 2) (.cons (.op (.bin true .add) (.cons (.op (.bin true .fdiv) (.cons (.var 2) (.cons (.con (.int 2003)) .nil))) (.cons (.con (.int 40692)) .nil))) .nil))) (.cons (.con (.int 2147483399)) .nil)))) .nil)))
def f520 : Df := ⟨2, 3, .pure, b_mixed_520⟩
/-- 521 _law_draw(_law_hand_here, _law_many): 0 _law_hand_here 1 _law_many 2 _law_cell 3 _law_digit -/
def b_draw_521 : IS := (.seq (.setI (.var 0) (.con (.int 3)) (.op (.bin true .add) (.cons (.op .idx (.cons (.var 0) (.cons (.con (.int 3)) .nil))) (.cons (.con (.int 1)) .nil)))) (.seq (.ite (.and (.cmp .eq (.op .idx (.cons (.var 0) (.cons (.con (.int 2)) .nil))) (.con (.int 0))) (.cmp .lt (.op .idx (.cons (.var 0) (.cons (.con (.int 1)) .nil))) (.op (.bi true .len) (.cons (.op .idx (.cons (.var 0) (.cons (.con (.int 0)) .nil))) .nil)))) (.seq (.asg (.nm 2) (.op .idx (.cons (.op .idx (.cons (.var 0) (.cons (.con (.int 0)) .nil))) (.cons (.op .idx (.cons (.var 0) (.cons (.con (.int 1)) .nil))) .nil)))) (.seq (.setI (.var 0) (.con (.int 1)) (.op (.bin true .add) (.cons (.op .idx (.cons (.var 0) (.cons (.con (.int 1)) .nil))) (.cons (.con (.int 1)) .nil)))) (.seq (.ite (.cmp .ge (.var 2) (.op (.bin true .pow) (.cons (.con (.int 10)) (.cons (.con (.int 18)) .nil)))) (.seq (.setI (.var 0) (.con (.int 2)) (.op (.bin true .sub) (.cons (.var 2) (.cons (.op (.bin true .pow) (.cons (.con (.int 10)) (.cons (.con (.int 18)) .nil))) .nil)))) .nil) (.seq (.setI (.var 0) (.con (.int 4)) (.op (.bin true .mod) (.cons (.op (.bi true .int) (.cons (.op (.bin true .add) (.cons (.op (.bin true .mul) (.cons (.op .idx (.cons (.var 0) (.cons (.con (.int 4)) .nil))) (.cons (.con (.int 69621)) .nil))) (.cons (.var 2) .nil))) .nil)) (.cons (.con (.int 2147483629)) .nil)))) .nil)) .nil))) .nil) (.seq (.ite (.cmp .gt (.op .idx (.cons (.var 0) (.cons (.con (.int 2)) .nil))) (.con (.int 0))) (.seq (.asg (.nm 3) (.op (.bin true .mod) (.cons (.op (.bi true .int) (.cons (.op .idx (.cons (.var 0) (.cons (.con (.int 2)) .nil))) .nil)) (.cons (.var 1) .nil)))) (.seq (.setI (.var 0) (.con (.int 2)) (.op (.bin true .fdiv) (.cons (.op (.bi true .int) (.cons (.op .idx (.cons (.var 0) (.cons (.con (.int 2)) .nil))) .nil)) (.cons (.var 1) .nil)))) (.seq (.ret (.var 3)) .nil))) .nil) (.seq (.ret (.op (.bin true .mod) (.cons (.op (.bi true .int) (.cons (.call 520 none (.cons (.op .idx (.cons (.var 0) (.cons (.con (.int 4)) .nil))) (.cons (.op .idx (.cons (.var 0) (.cons (.con (.int 3)) .nil))) .nil))) .nil)) (.cons (.var 1) .nil)))) .nil))))
def f521 : Df := ⟨2, 4, .pure, b_draw_521⟩
/-- 522 _law_one_recipe(_law_hand_here, _law_item): 0 _law_hand_here 1 _law_item 2 _law_shape 3 _law_mask 4 _law_other 5 _law_part -/
def b_one_recipe_522 : IS := (.seq (.asg (.nm 2) (.call 521 none (.cons (.var 0) (.cons (.con (.int 3)) .nil)))) (.seq (.asg (.nm 3) (.call 521 none (.cons (.var 0) (.cons (.op (.bin true .shl) (.cons (.con (.int 1)) (.cons (.var 1) .nil))) .nil)))) (.seq (.asg (.nm 4) (.call 521 none (.cons (.var 0) (.cons (.op (.bin true .shl) (.cons (.con (.int 1)) (.cons (.var 1) .nil))) .nil)))) (.seq (.ite (.cmp .eq (.var 2) (.con (.int 0))) (.seq (.asg (.nm 3) (.op (.bin true .band) (.cons (.var 3) (.cons (.var 4) .nil)))) .nil) .nil) (.seq (.ite (.and (.cmp .eq (.var 2) (.con (.int 2))) (.cmp .gt (.var 1) (.con (.int 0)))) (.seq (.asg (.nm 3) (.op (.bin true .shl) (.cons (.con (.int 1)) (.cons (.op (.bin true .mod) (.cons (.op (.bi true .int) (.cons (.var 4) .nil)) (.cons (.var 1) .nil))) .nil)))) .nil) .nil) (.seq (.ret (.op (.bi true .tuple) (.cons (.lc true [5] (.nm 5) (.rng1 (.var 1)) (.cmp .eq (.op (.bin true .band) (.cons (.op (.bin true .shr) (.cons (.var 3) (.cons (.var 5) .nil))) (.cons (.con (.int 1)) .nil))) (.con (.int 1))) (.var 5)) .nil))) .nil))))))
def f522 : Df := ⟨2, 6, .pure, b_one_recipe_522⟩
/-- 523 _law_cap(_law_hand_here, _law_size): 0 _law_hand_here 1 _law_size 2 _law_cap_here -/
def b_cap_523 : IS := (.seq (.asg (.nm 2) (.call 521 none (.cons (.var 0) (.cons (.op (.bin true .add) (.cons (.var 1) (.cons (.con (.int 2)) .nil))) .nil)))) (.seq (.ite (.and (.cmp .gt (.var 1) (.con (.int 3))) (.cmp .eq (.call 521 none (.cons (.var 0) (.cons (.con (.int 2)) .nil))) (.con (.int 0)))) (.seq (.asg (.nm 2) (.op (.bin true .sub) (.cons (.op (.bin true .sub) (.cons (.var 1) (.cons (.con (.int 1)) .nil))) (.cons (.call 521 none (.cons (.var 0) (.cons (.con (.int 2)) .nil))) .nil)))) .nil) .nil) (.seq (.ret (.var 2)) .nil)))
def f523 : Df := ⟨2, 3, .pure, b_cap_523⟩
def b_net_524_L1 : IS := (.seq (.asg (.nm 7) (.call 522 none (.cons (.var 0) (.cons (.var 4) .nil)))) (.seq (.ite (.and (.var 3) (.cmp .gt (.var 4) (.con (.int 0)))) (.seq (.asg (.nm 7) (.tupE (.cons (.op (.bin true .sub) (.cons (.var 4) (.cons (.con (.int 1)) .nil))) .nil))) (.seq (.ite (.and (.cmp .eq (.var 6) (.con (.int 2))) (.cmp .eq (.call 521 none (.cons (.var 0) (.cons (.con (.int 6)) .nil))) (.con (.int 0)))) (.seq (.asg (.nm 7) (.tupE (.cons (.call 521 none (.cons (.var 0) (.cons (.var 4) .nil))) .nil))) .nil) .nil) .nil)) .nil) (.seq (.ite (.cmp .notin (.var 7) (.var 5)) (.seq (.exp (.bmt (.mm .append) (.var 5) (.cons (.var 7) .nil))) .nil) .nil) .nil)))
def b_net_524_L2 : IS := (.seq (.asg (.nm 5) (.lstE false .nil)) (.seq (.for (.nm 6) (.rng1 (.op (.bin true .add) (.cons (.con (.int 1)) (.cons (.call 521 none (.cons (.var 0) (.cons (.con (.int 4)) .nil))) .nil)))) b_net_524_L1) (.seq (.exp (.bmt (.mm .append) (.var 2) (.cons (.op (.bi true .tuple) (.cons (.var 5) .nil)) .nil))) .nil)))
/-- 524 _law_net(_law_hand_here, _law_size): 0 _law_hand_here 1 _law_size 2 _law_net_here 3 _law_is_row 4 _law_item 5 _law_row 6 _law_k 7 _law_made -/
def b_net_524 : IS := (.seq (.asg (.nm 2) (.lstE false .nil)) (.seq (.asg (.nm 3) (.cmp .lt (.call 521 none (.cons (.var 0) (.cons (.con (.int 5)) .nil))) (.con (.int 2)))) (.seq (.for (.nm 4) (.rng1 (.var 1)) b_net_524_L2) (.seq (.ret (.op (.bi true .tuple) (.cons (.var 2) .nil))) .nil))))
def f524 : Df := ⟨2, 8, .pure, b_net_524⟩
/-- 525 _law_costs(_law_hand_here, _law_size): 0 _law_hand_here 1 _law_size 2 _law_k -/
def b_costs_525 : IS := (.seq (.ite (.cmp .eq (.call 521 none (.cons (.var 0) (.cons (.con (.int 3)) .nil))) (.con (.int 0))) (.seq (.ret (.op (.bin true .mul) (.cons (.tupE (.cons (.con (.int 1)) .nil)) (.cons (.var 1) .nil)))) .nil) .nil) (.seq (.ret (.op (.bi true .tuple) (.cons (.lc true [2] (.nm 2) (.rng1 (.var 1)) (.con (.bl true)) (.op (.bin true .add) (.cons (.con (.int 1)) (.cons (.call 521 none (.cons (.var 0) (.cons (.con (.int 9)) .nil))) .nil)))) .nil))) .nil))
def f525 : Df := ⟨2, 3, .pure, b_costs_525⟩
/-- 526 _law_place(_law_hand_here, _law_size): 0 _law_hand_here 1 _law_size 2 _law_mask 3 _law_item -/
def b_place_526 : IS := (.seq (.asg (.nm 2) (.call 521 none (.cons (.var 0) (.cons (.op (.bin true .shl) (.cons (.con (.int 1)) (.cons (.var 1) .nil))) .nil)))) (.seq (.ite (.cmp .eq (.call 521 none (.cons (.var 0) (.cons (.con (.int 2)) .nil))) (.con (.int 0))) (.seq (.asg (.nm 2) (.op (.bin true .band) (.cons (.var 2) (.cons (.call 521 none (.cons (.var 0) (.cons (.op (.bin true .shl) (.cons (.con (.int 1)) (.cons (.var 1) .nil))) .nil))) .nil)))) .nil) .nil) (.seq (.ite (.cmp .eq (.call 521 none (.cons (.var 0) (.cons (.con (.int 4)) .nil))) (.con (.int 0))) (.seq (.asg (.nm 2) (.op (.bin true .shl) (.cons (.con (.int 1)) (.cons (.op (.bin true .sub) (.cons (.var 1) (.cons (.con (.int 1)) .nil))) .nil)))) .nil) .nil) (.seq (.ret (.op (.bi true .tuple) (.cons (.lc true [3] (.nm 3) (.rng1 (.var 1)) (.cmp .eq (.op (.bin true .band) (.cons (.op (.bin true .shr) (.cons (.var 2) (.cons (.var 3) .nil))) (.cons (.con (.int 1)) .nil))) (.con (.int 1))) (.var 3)) .nil))) .nil))))
def f526 : Df := ⟨2, 4, .pure, b_place_526⟩
/-- 527 _law_root(_law_hand_here, _law_size): 0 _law_hand_here 1 _law_size -/
def b_root_527 : IS := (.seq (.ite (.cmp .eq (.call 521 none (.cons (.var 0) (.cons (.con (.int 2)) .nil))) (.con (.int 0))) (.seq (.ret (.tupE .nil)) .nil) .nil) (.seq (.ret (.call 526 none (.cons (.var 0) (.cons (.var 1) .nil)))) .nil))
def f527 : Df := ⟨2, 2, .pure, b_root_527⟩

/-- the webs' draws -/
structure FB (Γ : Nat → Option Df) : Prop where
  pk : Pk Γ
  integer : Γ 518 = some f518
  hand : Γ 519 = some f519
  mixed : Γ 520 = some f520
  draw : Γ 521 = some f521
  one : Γ 522 = some f522
  cap : Γ 523 = some f523
  net : Γ 524 = some f524
  costs : Γ 525 = some f525
  place : Γ 526 = some f526
  root : Γ 527 = some f527
def isH (o : Ob) : Prop := ∃ (sc : List Int) (i g t s : Int), o = .lst [.lst (sc.map D.int), .int i, .int g, .int t, .int s] ∧ 0 ≤ i
theorem isH.pure {o : Ob} (h : isH o) : o.pure = true := by obtain ⟨sc, i, g, t, s, rfl, _⟩ := h; simp
section
variable {Γ : Nat → Option Df} {W k : Nat} {h : Hm} (F : FB Γ)
include F
theorem integer_s {i : Int} : (run Γ W (k + 1)).call 518 [.int i] h = .ok (.bl true) h := by
  rw [call_of F.integer, f518]; simp [callF_eqn, b_integer_518, Tk.nm]
theorem hand_s {s : List Int} (hs : s.length ≤ 63) : ∃ o, isH o ∧ (run Γ W (k + 1)).call 519 [.scr s] h = .ok (.ref h.length) (h ++ [o]) := by
  refine ⟨_, ⟨s, 0, 0, 0, 7, rfl, by omega⟩, ?_⟩
  rw [call_of F.hand, f519]
  simp [callF_eqn, b_hand_519]
theorem mixed_s {a b : Int} : ∃ v, 0 ≤ v ∧ v < 2147483399 ∧ (run Γ W (k + 1)).call 520 [.int a, .int b] h = .ok (.int v) h := by
  let m1 := (a % 2147483647 + 7919 * b + 1) * 48271 % 2147483647
  let m2 := m1 * (m1 / 1009 + 69621) % 2147483647
  let m3 := m2 * (m2 / 2003 + 40692) % 2147483399
  have b1 : 0 ≤ m1 ∧ m1 < 2147483647 := ⟨Int.emod_nonneg _ (by omega), Int.emod_lt_of_pos _ (by omega)⟩
  have b2 : 0 ≤ m2 ∧ m2 < 2147483647 := ⟨Int.emod_nonneg _ (by omega), Int.emod_lt_of_pos _ (by omega)⟩
  have s0 : smallMul 7919 b = true := smallL (by omega)
  have s1 : smallMul (a % 2147483647 + 7919 * b + 1) 48271 = true := smallR (by omega)
  have s2 : smallMul m1 (m1 / 1009 + 69621) = true := smallL (by omega)
  have s3 : smallMul m2 (m2 / 2003 + 40692) = true := smallL (by omega)
  refine ⟨m3, Int.emod_nonneg _ (by omega), Int.emod_lt_of_pos _ (by omega), ?_⟩
  have e1 : (a % 2147483647 + 7919 * b + 1) * 48271 % 2147483647 = m1 := rfl
  have e2 : m1 * (m1 / 1009 + 69621) % 2147483647 = m2 := rfl
  have e3 : m2 * (m2 / 2003 + 40692) % 2147483399 = m3 := rfl
  rw [call_of F.mixed, f520]
  simp [callF_eqn, b_mixed_520, s0, s1, e1, s2, e2, s3, e3]
theorem draw2_s {p : Nat} {o : Ob} (hp : h[p]? = some o) (ho : isH o) {lim : Int} (h0 : 0 < lim) (h1 : lim < 1073741824) :
    ∃ v o', isH o' ∧ 0 ≤ v ∧ v < lim ∧ (run Γ W (k + 2)).call 521 [.ref p, .int lim] h = .ok (.int v) (h.set p o') := by
  obtain ⟨sc, i, g, t, s, rfl, i0⟩ := ho
  have gs := fun (d : D) (o' : Ob) (ho : o'.pure = true) (hd : d.pure = true) => gc_pureS (h := h) (d := d) (p := p) (o := o') ho hd
  by_cases c1 : g = 0 ∧ i < sc.length
  · obtain ⟨rfl, c2⟩ := c1
    by_cases c3 : (1000000000000000000 : Int) ≤ gI sc i
    · by_cases c4 : 0 < gI sc i - 1000000000000000000
      · refine ⟨(gI sc i - 1000000000000000000) % lim, _, ⟨sc, i + 1, (gI sc i - 1000000000000000000) / lim, t + 1, s, rfl, by omega⟩, Int.emod_nonneg _ (by omega), Int.emod_lt_of_pos _ h0, ?_⟩
        rw [call_of F.draw, f521]
        have e := gs (.int ((gI sc i - 1000000000000000000) % lim)) (.lst [.lst (sc.map D.int), .int (i + 1), .int ((gI sc i - 1000000000000000000) / lim), .int (t + 1), .int s]) (by simp) rfl
        have c4' : 1000000000000000000 < gI sc i := by omega
        simp [callF_eqn, b_draw_521, hp, get_set hp, c2, atI_map i0 c2, c3, c4, c4', h0, h1, e]
      · have c5 : gI sc i = 1000000000000000000 := by omega
        obtain ⟨v, v0, v1, e1⟩ := mixed_s (W := W) (k := k) (h := h.set p (.lst [.lst (sc.map D.int), .int (i + 1), .int 0, .int (t + 1), .int s])) F (a := s) (b := t + 1)
        refine ⟨v % lim, _, ⟨sc, i + 1, 0, t + 1, s, rfl, by omega⟩, Int.emod_nonneg _ (by omega), Int.emod_lt_of_pos _ h0, ?_⟩
        rw [call_of F.draw, f521]
        have e := gs (.int (v % lim)) (.lst [.lst (sc.map D.int), .int (i + 1), .int 0, .int (t + 1), .int s]) (by simp) rfl
        simp [callF_eqn, b_draw_521, hp, get_set hp, c2, atI_map i0 c2, c5, h0, h1, e1, e]
    · obtain ⟨v, v0, v1, e1⟩ := mixed_s (W := W) (k := k) (h := h.set p (.lst [.lst (sc.map D.int), .int (i + 1), .int 0, .int (t + 1), .int ((s * 69621 + gI sc i) % 2147483629)])) F (a := (s * 69621 + gI sc i) % 2147483629) (b := t + 1)
      have s1 : smallMul s 69621 = true := smallR (by omega)
      refine ⟨v % lim, _, ⟨sc, i + 1, 0, t + 1, (s * 69621 + gI sc i) % 2147483629, rfl, by omega⟩, Int.emod_nonneg _ (by omega), Int.emod_lt_of_pos _ h0, ?_⟩
      rw [call_of F.draw, f521]
      have e := gs (.int (v % lim)) (.lst [.lst (sc.map D.int), .int (i + 1), .int 0, .int (t + 1), .int ((s * 69621 + gI sc i) % 2147483629)]) (by simp) rfl
      simp [callF_eqn, b_draw_521, hp, get_set hp, c2, atI_map i0 c2, c3, s1, h0, h1, e1, e]
  · have c1' : g = 0 → ¬ i < sc.length := fun z z2 => c1 ⟨z, z2⟩
    by_cases c4 : 0 < g
    · have c5 : g ≠ 0 := by omega
      refine ⟨g % lim, _, ⟨sc, i, g / lim, t + 1, s, rfl, i0⟩, Int.emod_nonneg _ (by omega), Int.emod_lt_of_pos _ h0, ?_⟩
      rw [call_of F.draw, f521]
      have e := gs (.int (g % lim)) (.lst [.lst (sc.map D.int), .int i, .int (g / lim), .int (t + 1), .int s]) (by simp) rfl
      simp [callF_eqn, b_draw_521, hp, get_set hp, c4, c5, h0, h1, e]
    · obtain ⟨v, v0, v1, e1⟩ := mixed_s (W := W) (k := k) (h := h.set p (.lst [.lst (sc.map D.int), .int i, .int g, .int (t + 1), .int s])) F (a := s) (b := t + 1)
      refine ⟨v % lim, _, ⟨sc, i, g, t + 1, s, rfl, i0⟩, Int.emod_nonneg _ (by omega), Int.emod_lt_of_pos _ h0, ?_⟩
      rw [call_of F.draw, f521]
      have e := gs (.int (v % lim)) (.lst [.lst (sc.map D.int), .int i, .int g, .int (t + 1), .int s]) (by simp) rfl
      by_cases c5 : g = 0
      · have c6 := c1' c5
        subst c5
        simp [callF_eqn, b_draw_521, hp, get_set hp, c6, h0, h1, e1, e]
      · simp [callF_eqn, b_draw_521, hp, get_set hp, c4, c5, h0, h1, e1, e]
theorem mask_lc {c : Oracle} {e : Env} {sl m : Nat} {n x : Int} (h0 : 0 ≤ n) (hn : n ≤ 100) (e1 : e[1]? = some (some (.int n))) (em : e[m]? = some (some (.int x))) (hm : m ≠ sl) (hs : 2 ≤ sl) (hl : sl < e.length) :
    ∃ l, List.Sublist l (rI 0 n.toNat) ∧ ev c (.lc true [sl] (.nm sl) (.rng1 (.var 1)) (.cmp .eq (.op (.bin true .band) (.cons (.op (.bin true .shr) (.cons (.var m) (.cons (.var sl) .nil))) (.cons (.con (.int 1)) .nil))) (.con (.int 1))) (.var sl)) false e h = .ok (.lst (l.map D.int)) h := by
  refine ⟨(rI 0 n.toNat).filter fun a => decide (Builtin.bitAnd (x / 2 ^ a.toNat) 1 = 1), List.filter_sublist, ?_⟩
  have := lc_J (c := c) (t := false) (e := e) (h := h) (own := [sl]) (tg := .nm sl) (it := .rng1 (.var 1)) (cond := .cmp .eq (.op (.bin true .band) (.cons (.op (.bin true .shr) (.cons (.var m) (.cons (.var sl) .nil))) (.cons (.con (.int 1)) .nil))) (.con (.int 1))) (elt := .var sl) (l := rI 0 n.toNat) (f := D.int) (g := fun _ => True) (fun a => decide (Builtin.bitAnd (x / 2 ^ a.toNat) 1 = 1)) D.int
    (evI_r1 (by simp [e1]) (by omega) (by omega)) (fun _ _ => trivial) (size_le (by rw [rI_length]; omega)) (fun _ => rfl)
    (fun a ha => by
      have a0 : 0 ≤ a := (mem_rI.mp ha).1
      have w1 : (e.set sl (some (.int a)))[sl]? = some (some (.int a)) := by rw [List.getElem?_set_self hl]
      have w2 : (e.set sl (some (.int a)))[m]? = some (some (.int x)) := by rw [List.getElem?_set_ne (by omega), em]
      exact ⟨(e.set sl none).set sl (some (.int a)), by simp [hl], fun acc junk => ⟨junk, by simp [w1, w2, a0], fun _ => ⟨junk, by simp [w1]⟩⟩⟩)
  exact this
theorem pow_lim {n : Int} (h0 : 0 ≤ n) (hn : n ≤ 20) : (0 : Int) < 2 ^ n.toNat ∧ (2 : Int) ^ n.toNat < 1073741824 := by
  have h1 : n.toNat ≤ 20 := by omega
  have h2 : (2 : Nat) ^ n.toNat ≤ 2 ^ 20 := Nat.pow_le_pow_right (by decide) h1
  have h3 : 0 < (2 : Nat) ^ n.toNat := Nat.pow_pos (by decide)
  have h4 : ((2 ^ n.toNat : Nat) : Int) = (2 : Int) ^ n.toNat := by simp
  rw [← h4]
  have h5 : (2 : Nat) ^ 20 = 1048576 := by decide
  omega
theorem one_s {p : Nat} {o : Ob} (hp : h[p]? = some o) (ho : isH o) {v : Int} (h0 : 0 ≤ v) (hn : v ≤ 20) : ∃ l o', isH o' ∧ asc (-1) v l = true ∧ (run Γ W (k + 3)).call 522 [.ref p, .int v] h = .ok (eL l) (h.set p o') := by
  obtain ⟨p0, p1⟩ := pow_lim F h0 hn
  have hv : v ≤ 1000000 := by omega
  obtain ⟨a, o1, a1, a2, a3, a4⟩ := draw2_s (k := k) (W := W) F hp ho (lim := 3) (by omega) (by omega)
  obtain ⟨b, o2, b1, b2, b3, b4⟩ := draw2_s (k := k) (W := W) F (get_set hp) a1 (lim := 2 ^ v.toNat) p0 p1
  rw [List.set_set] at b4
  obtain ⟨d, o3, d1, d2, d3, d4⟩ := draw2_s (k := k) (W := W) F (get_set hp) b1 (lim := 2 ^ v.toNat) p0 p1
  rw [List.set_set] at d4
  have key : ∀ x : Int, ∃ l, asc (-1) v l = true ∧ ev (run Γ W (k + 2)) (.lc true [5] (.nm 5) (.rng1 (.var 1)) (.cmp .eq (.op (.bin true .band) (.cons (.op (.bin true .shr) (.cons (.var 3) (.cons (.var 5) .nil))) (.cons (.con (.int 1)) .nil))) (.con (.int 1))) (.var 5)) false [some (.ref p), some (.int v), some (.int a), some (.int x), some (.int d), none] (h.set p o3) = .ok (.lst (l.map D.int)) (h.set p o3) := by
    intro x
    obtain ⟨l, l1, l2⟩ := mask_lc (h := h.set p o3) F (c := run Γ W (k + 2)) (e := [some (.ref p), some (.int v), some (.int a), some (.int x), some (.int d), none]) (sl := 5) (m := 3) (x := x) h0 (by omega) rfl rfl (by decide) (by decide) (by simp)
    exact ⟨l, asc_sub l1 h0, l2⟩
  have fin_ : ∀ l : List Int, gcR .pure h (eL l) (h.set p o3) = .ok (eL l) (h.set p o3) := fun l => gc_pureS d1.pure pure_eL
  by_cases c1 : a = 0
  · obtain ⟨l, l1, l2⟩ := key (Builtin.bitAnd b d)
    refine ⟨l, o3, d1, l1, ?_⟩
    rw [call_of F.one, f522]
    subst c1
    simp [callF_eqn, b_one_recipe_522, a4, h0, hv, b4, d4, l2, fin_]
  · by_cases c2 : a = 2 ∧ 0 < v
    · obtain ⟨l, l1, l2⟩ := key (2 ^ (d % v).toNat)
      have m0 : 0 ≤ d % v := Int.emod_nonneg _ (by omega)
      have m1 : d % v < v := Int.emod_lt_of_pos _ c2.2
      have m2 : d % v ≤ 1000000 := by omega
      refine ⟨l, o3, d1, l1, ?_⟩
      rw [call_of F.one, f522]
      obtain ⟨rfl, c3⟩ := c2
      simp [callF_eqn, b_one_recipe_522, a4, h0, hv, b4, d4, c3, m0, m2, l2, fin_]
    · obtain ⟨l, l1, l2⟩ := key b
      refine ⟨l, o3, d1, l1, ?_⟩
      rw [call_of F.one, f522]
      by_cases c3 : a = 2
      · have c4 : ¬ 0 < v := fun z => c2 ⟨c3, z⟩
        subst c3
        simp [callF_eqn, b_one_recipe_522, a4, h0, hv, b4, d4, c4, l2, fin_]
      · simp [callF_eqn, b_one_recipe_522, a4, h0, hv, b4, d4, c1, c3, l2, fin_]
theorem cap_s {p : Nat} {o : Ob} (hp : h[p]? = some o) (ho : isH o) {v : Int} (h0 : 1 ≤ v) (hn : v ≤ 20) : ∃ x o', isH o' ∧ 0 ≤ x ∧ x ≤ v + 1 ∧ (run Γ W (k + 3)).call 523 [.ref p, .int v] h = .ok (.int x) (h.set p o') := by
  obtain ⟨a, o1, a1, a2, a3, a4⟩ := draw2_s (k := k) (W := W) F hp ho (lim := v + 2) (by omega) (by omega)
  have gs := fun (x : Int) (o' : Ob) (ho : isH o') => gc_pureS (h := h) (d := .int x) (p := p) (o := o') ho.pure rfl
  by_cases c1 : 3 < v
  · obtain ⟨b, o2, b1, b2, b3, b4⟩ := draw2_s (k := k) (W := W) F (get_set hp) a1 (lim := 2) (by omega) (by omega)
    rw [List.set_set] at b4
    by_cases c2 : b = 0
    · obtain ⟨d, o3, d1, d2, d3, d4⟩ := draw2_s (k := k) (W := W) F (get_set hp) b1 (lim := 2) (by omega) (by omega)
      rw [List.set_set] at d4
      refine ⟨v - 1 - d, o3, d1, by omega, by omega, ?_⟩
      rw [call_of F.cap, f523]
      simp [callF_eqn, b_cap_523, a4, c1, b4, c2, d4, gs _ _ d1]
    · refine ⟨a, o2, b1, by omega, by omega, ?_⟩
      rw [call_of F.cap, f523]
      simp [callF_eqn, b_cap_523, a4, c1, b4, c2, gs _ _ b1]
  · refine ⟨a, o1, a1, by omega, by omega, ?_⟩
    rw [call_of F.cap, f523]
    simp [callF_eqn, b_cap_523, a4, c1, gs _ _ a1]
theorem place_s {p : Nat} {o : Ob} (hp : h[p]? = some o) (ho : isH o) {v : Int} (h0 : 1 ≤ v) (hn : v ≤ 20) : ∃ l o', isH o' ∧ asc (-1) v l = true ∧ (run Γ W (k + 3)).call 526 [.ref p, .int v] h = .ok (eL l) (h.set p o') := by
  have h00 : 0 ≤ v := by omega
  obtain ⟨p0, p1⟩ := pow_lim F h00 hn
  have hv : v ≤ 1000000 := by omega
  obtain ⟨a, o1, a1, a2, a3, a4⟩ := draw2_s (k := k) (W := W) F hp ho (lim := 2 ^ v.toNat) p0 p1
  obtain ⟨b, o2, b1, b2, b3, b4⟩ := draw2_s (k := k) (W := W) F (get_set hp) a1 (lim := 2) (by omega) (by omega)
  rw [List.set_set] at b4
  obtain ⟨o3, x, d1, d4⟩ : ∃ o3 x, isH o3 ∧ ∀ (h1 : Hm) (r : IS), (∃ d, b = 0 ∧ x = Builtin.bitAnd a d ∧ (run Γ W (k + 2)).call 521 [.ref p, .int (2 ^ v.toNat)] (h.set p o2) = .ok (.int d) (h.set p o3)) ∨ (b ≠ 0 ∧ x = a ∧ o3 = o2) := by
    by_cases c : b = 0
    · obtain ⟨d, o3, d1, d2, d3, d4⟩ := draw2_s (k := k) (W := W) F (get_set hp) b1 (lim := 2 ^ v.toNat) p0 p1
      rw [List.set_set] at d4
      exact ⟨o3, _, d1, fun _ _ => .inl ⟨d, c, rfl, d4⟩⟩
    · exact ⟨o2, a, b1, fun _ _ => .inr ⟨c, rfl, rfl⟩⟩
  obtain ⟨e, o4, e1, e2, e3, e4⟩ := draw2_s (k := k) (W := W) F (get_set hp) d1 (lim := 4) (by omega) (by omega)
  rw [List.set_set] at e4
  have key : ∀ x : Int, ∃ l, asc (-1) v l = true ∧ ev (run Γ W (k + 2)) (.lc true [3] (.nm 3) (.rng1 (.var 1)) (.cmp .eq (.op (.bin true .band) (.cons (.op (.bin true .shr) (.cons (.var 2) (.cons (.var 3) .nil))) (.cons (.con (.int 1)) .nil))) (.con (.int 1))) (.var 3)) false [some (.ref p), some (.int v), some (.int x), none] (h.set p o4) = .ok (.lst (l.map D.int)) (h.set p o4) := by
    intro x
    obtain ⟨l, l1, l2⟩ := mask_lc (h := h.set p o4) F (c := run Γ W (k + 2)) (e := [some (.ref p), some (.int v), some (.int x), none]) (sl := 3) (m := 2) (x := x) h00 (by omega) rfl rfl (by decide) (by decide) (by simp)
    exact ⟨l, asc_sub l1 h00, l2⟩
  have fin_ : ∀ l : List Int, gcR .pure h (eL l) (h.set p o4) = .ok (eL l) (h.set p o4) := fun l => gc_pureS e1.pure pure_eL
  have q0 : 0 ≤ v - 1 := by omega
  have q1 : v - 1 ≤ 1000000 := by omega
  have q0' : 1 ≤ v := h0
  by_cases c : e = 0
  · obtain ⟨l, l1, l2⟩ := key (2 ^ (v.toNat - 1))
    refine ⟨l, o4, e1, l1, ?_⟩
    rw [call_of F.place, f526]
    rcases d4 h .nil with ⟨d, rfl, rfl, z⟩ | ⟨d, rfl, rfl⟩
    · simp [callF_eqn, b_place_526, a4, h00, hv, b4, z, e4, c, q0', q1, l2, fin_]
    · simp [callF_eqn, b_place_526, a4, h00, hv, b4, d, e4, c, q0', q1, l2, fin_]
  · obtain ⟨l, l1, l2⟩ := key x
    refine ⟨l, o4, e1, l1, ?_⟩
    rw [call_of F.place, f526]
    rcases d4 h .nil with ⟨d, rfl, rfl, z⟩ | ⟨d, rfl, rfl⟩
    · simp [callF_eqn, b_place_526, a4, h00, hv, b4, z, e4, c, l2, fin_]
    · simp [callF_eqn, b_place_526, a4, h00, hv, b4, d, e4, c, l2, fin_]
theorem root_s {p : Nat} {o : Ob} (hp : h[p]? = some o) (ho : isH o) {v : Int} (h0 : 1 ≤ v) (hn : v ≤ 20) : ∃ l o', isH o' ∧ asc (-1) v l = true ∧ (run Γ W (k + 4)).call 527 [.ref p, .int v] h = .ok (eL l) (h.set p o') := by
  obtain ⟨a, o1, a1, a2, a3, a4⟩ := draw2_s (k := k + 1) (W := W) F hp ho (lim := 2) (by omega) (by omega)
  have fin_ : ∀ (l : List Int) (o4 : Ob), isH o4 → gcR .pure h (eL l) (h.set p o4) = .ok (eL l) (h.set p o4) := fun l o4 ho => gc_pureS ho.pure pure_eL
  by_cases c : a = 0
  · refine ⟨[], o1, a1, rfl, ?_⟩
    rw [call_of F.root, f527]
    have e0 : D.tup [] = eL [] := rfl
    simp [callF_eqn, b_root_527, a4, c, e0, fin_ _ _ a1]
  · obtain ⟨l, o2, b1, b2, b3⟩ := place_s (k := k) (W := W) F (get_set hp) a1 h0 hn
    rw [List.set_set] at b3
    refine ⟨l, o2, b1, b2, ?_⟩
    rw [call_of F.root, f527]
    simp [callF_eqn, b_root_527, a4, c, b3, fin_ _ _ b1]
theorem costs_s {p : Nat} {o : Ob} (hp : h[p]? = some o) (ho : isH o) {n : Nat} (hn : n ≤ 100) : ∃ l o', isH o' ∧ VP l n ∧ (run Γ W (k + 3)).call 525 [.ref p, .int n] h = .ok (eL l) (h.set p o') := by
  obtain ⟨a, o1, a1, a2, a3, a4⟩ := draw2_s (k := k) (W := W) F hp ho (lim := 3) (by omega) (by omega)
  by_cases c : a = 0
  · refine ⟨ones n, o1, a1, VP_ones, ?_⟩
    have e := gc_pureS (h := h) (d := eL (ones n)) (p := p) a1.pure pure_eL
    have hz : (n : Int) ≤ 1000 := by omega
    unfold ones at e ⊢
    rw [call_of F.costs, f525]
    simp [callF_eqn, b_costs_525, a4, c, hz, e]
  · have hp1 := get_set (y := o1) hp
    obtain ⟨acc, h', q1, q2, l, o', q3, q4, q5, q6, q7⟩ := lc_wp (α := Int) (c := run Γ W (k + 2)) (e := [some (.ref p), some (.int n), none]) (t := false) (h := h.set p o1) (own := [2]) (tg := .nm 2) (it := .rng1 (.var 1)) (cond := .con (.bl true)) (elt := .op (.bin true .add) (.cons (.con (.int 1)) (.cons (.call 521 none (.cons (.var 0) (.cons (.con (.int 9)) .nil))) .nil))) (l := rI 0 n) (f := D.int)
      (fun done acc h' => ∃ (l : List Int) (o' : Ob), isH o' ∧ l.length = done.length ∧ (∀ p ∈ l, 1 ≤ p ∧ p ≤ 9) ∧ acc = l.map D.int ∧ h' = h.set p o')
      (evI_n1 (by simp) (by omega))
      (size_le (by rw [rI_length]; omega))
      ⟨[], o1, a1, rfl, by simp, rfl, rfl⟩
      (by
        rintro done a acc h' ha ⟨l, o', j1, j2, j3, rfl, rfl⟩ hlen
        have hp' : (h.set p o' ++ [Ob.lst (l.map D.int)])[p]? = some o' := get_app (get_set hp)
        obtain ⟨v, o2, d1, d2, d3, d4⟩ := draw2_s (k := k) (W := W) F hp' j1 (lim := 9) (by omega) (by omega)
        rw [set_app (get_set hp), List.set_set] at d4
        refine ⟨[some (.ref p), some (.int n), some (.int a)], true, h.set p o', by simp, by simp, by simp, by simp, fun _ => ⟨.int (1 + v), h.set p o2, by simp [d4], by simp, l ++ [1 + v], o2, d1, by simp [j2], fun x hx => ?_, by simp, rfl⟩⟩
        rcases List.mem_append.mp hx with m | m
        · exact j3 x m
        · rw [List.mem_singleton] at m; omega)
      (by
        rintro acc h' ⟨l, o', j1, j2, j3, rfl, rfl⟩ hlen
        exact ⟨by simp, p, o', by rw [List.set_set], j1.pure⟩)
    subst q6 q7
    refine ⟨l, o', q3, ⟨by rw [q4, rI_length], q5⟩, ?_⟩
    rw [call_of F.costs, f525]
    have e := gc_pureS (h := h) (d := eL l) (p := p) q3.pure pure_eL
    simp [callF_eqn, b_costs_525, a4, c, q1, e]
/-- one turn of the inner loop: a recipe, put in if new -/
theorem net_turn {p : Nat} {g : Hm} {o : Ob} (hp : g[p]? = some o) (ho : isH o) {v d : Int} (h0 : 0 ≤ v) (hn : v ≤ 20) {row : List (List Int)} (hrow : row.length ≤ 100) {x1 x2 z : Option D} {b : Bool} :
    ∃ l o', isH o' ∧ asc (-1) v l = true ∧ ex (run Γ W (k + 4)) W b_net_524_L1 [some (.ref p), x1, x2, some (.bl b), some (.int v), some (.ref g.length), some (.int d), z] (g ++ [.lst (row.map eL)]) =
      .nx [some (.ref p), x1, x2, some (.bl b), some (.int v), some (.ref g.length), some (.int d), some (eL l)] (g.set p o' ++ [.lst ((if l ∈ row then row else row ++ [l]).map eL)]) := by
  have g1 : ∀ o2, (g.set p o2 ++ [Ob.lst (row.map eL)])[g.length]? = some (.lst (row.map eL)) := fun o2 => by
    have := get_len (h := g.set p o2) (l := [Ob.lst (row.map eL)]); rw [List.length_set] at this; exact this
  have g2 : ∀ o2 x, (g.set p o2 ++ [Ob.lst (row.map eL)]).set g.length x = g.set p o2 ++ [x] := by
    intro o2 x
    have := set_len (h := g.set p o2) (l := [Ob.lst (row.map eL)]) (y := x); rw [List.length_set] at this; exact this
  have hsz : row.length < sizeLine := size_lt (by omega)
  obtain ⟨l, o2, q1, q2, q3⟩ := one_s (W := W) (k := k + 1) F (get_app (l := [.lst (row.map eL)]) hp) ho h0 hn
  rw [set_app hp] at q3
  have fin_ : ∀ (l : List Int) (o3 : Ob), (∀ h1 : Hm, (h1 = g.set p o3 ++ [Ob.lst (row.map eL)]) → ex (run Γ W (k + 4)) W (.seq (.ite (.cmp .notin (.var 7) (.var 5)) (.seq (.exp (.bmt (.mm .append) (.var 5) (.cons (.var 7) .nil))) .nil) .nil) .nil) [some (.ref p), x1, x2, some (.bl b), some (.int v), some (.ref g.length), some (.int d), some (eL l)] h1 = .nx [some (.ref p), x1, x2, some (.bl b), some (.int v), some (.ref g.length), some (.int d), some (eL l)] (g.set p o3 ++ [.lst ((if l ∈ row then row else row ++ [l]).map eL)])) := by
    rintro l o3 h1 rfl
    by_cases hm : l ∈ row
    · simp [g1, hm]
    · simp [g1, g2, hm, hsz]
  by_cases c : b = true ∧ 0 < v
  · obtain ⟨rfl, c1⟩ := c
    have e2 : ∀ x : Int, D.tup [.int x] = eL [x] := fun _ => rfl
    by_cases c2 : d = 2
    · obtain ⟨a, o3, a1, a2, a3, a4⟩ := draw2_s (k := k + 2) (W := W) F (get_app (l := [.lst (row.map eL)]) (get_set hp)) q1 (lim := 6) (by omega) (by omega)
      rw [set_app (get_set hp), List.set_set] at a4
      by_cases c3 : a = 0
      · obtain ⟨a', o4, b1, b2, b3, b4⟩ := draw2_s (k := k + 2) (W := W) F (get_app (l := [.lst (row.map eL)]) (get_set hp)) a1 (lim := v) c1 (by omega)
        rw [set_app (get_set hp), List.set_set] at b4
        refine ⟨[a'], o4, b1, by simp [asc]; omega, ?_⟩
        rw [← fin_ [a'] o4 _ rfl, b_net_524_L1, ex_seq]
        subst c2 c3
        simp [q3, c1, a4, b4, e2]
      · refine ⟨[v - 1], o3, a1, by simp [asc]; omega, ?_⟩
        rw [← fin_ [v - 1] o3 _ rfl, b_net_524_L1, ex_seq]
        subst c2
        simp [q3, c1, a4, c3, e2]
    · refine ⟨[v - 1], o2, q1, by simp [asc]; omega, ?_⟩
      rw [← fin_ [v - 1] o2 _ rfl, b_net_524_L1, ex_seq]
      simp [q3, c1, c2, e2]
  · refine ⟨l, o2, q1, q2, ?_⟩
    rw [← fin_ l o2 _ rfl, b_net_524_L1, ex_seq]
    cases b with
    | false => simp [q3]
    | true =>
      have c1 : ¬ 0 < v := fun z => c ⟨rfl, z⟩
      simp [q3, c1]
theorem net_row {p : Nat} {g : Hm} {o : Ob} (hp : g[p]? = some o) (ho : isH o) {v : Int} (h0 : 0 ≤ v) (hn : v ≤ 20) {m : Nat} (hm : m ≤ 100) {x1 x2 x5 x6 : Option D} {b : Bool} :
    ∃ row o' y z, isH o' ∧ row.Nodup ∧ (∀ r ∈ row, asc (-1) v r = true) ∧ row.length ≤ m ∧ (0 < m → row ≠ []) ∧
      forL (run Γ W (k + 4)) W (fun _ => True) (.nm 6) b_net_524_L1 ((rI 0 m).map D.int) [some (.ref p), x1, x2, some (.bl b), some (.int v), some (.ref g.length), x5, x6] (g ++ [.lst []]) =
      .nx [some (.ref p), x1, x2, some (.bl b), some (.int v), some (.ref g.length), y, z] (g.set p o' ++ [.lst (row.map eL)]) := by
  generalize hr : forL (run Γ W (k + 4)) W (fun _ => True) (.nm 6) b_net_524_L1 ((rI 0 m).map D.int) [some (.ref p), x1, x2, some (.bl b), some (.int v), some (.ref g.length), x5, x6] (g ++ [.lst []]) = r
  have Q := forL_wp hr (fun done rest e h => ∃ (row : List (List Int)) (o' : Ob) (y z : Option D), isH o' ∧ row.Nodup ∧ (∀ r ∈ row, asc (-1) v r = true) ∧ row.length ≤ done.length ∧ (0 < done.length → row ≠ []) ∧ e = [some (.ref p), x1, x2, some (.bl b), some (.int v), some (.ref g.length), y, z] ∧ h = g.set p o' ++ [.lst (row.map eL)])
    (fun r => ∃ row o' y z, isH o' ∧ row.Nodup ∧ (∀ r ∈ row, asc (-1) v r = true) ∧ row.length ≤ m ∧ (0 < m → row ≠ []) ∧ r = .nx [some (.ref p), x1, x2, some (.bl b), some (.int v), some (.ref g.length), y, z] (g.set p o' ++ [.lst (row.map eL)]))
    ⟨[], o, x5, x6, ho, List.nodup_nil, by simp, by simp, by simp, rfl, by rw [set_same hp]; rfl⟩
    (by
      rintro done dd rest e h hl ⟨row, o', y, z, j1, j2, j3, j4, j5, rfl, rfl⟩
      have hlen : done.length < 100 := by
        have := congrArg List.length hl
        simp at this; omega
      have hd : ∃ i, dd = .int i := by
        have : dd ∈ (rI 0 m).map D.int := by rw [hl]; simp
        obtain ⟨i, _, rfl⟩ := List.mem_map.mp this
        exact ⟨i, rfl⟩
      obtain ⟨i, rfl⟩ := hd
      obtain ⟨l, o2, q1, q2, q3⟩ := net_turn (W := W) (k := k) F (get_set (y := o') hp) j1 (d := i) h0 hn (row := row) (by omega) (x1 := x1) (x2 := x2) (z := z) (b := b)
      rw [List.length_set, List.set_set] at q3
      refine ⟨trivial, [some (.ref p), x1, x2, some (.bl b), some (.int v), some (.ref g.length), some (.int i), z], by simp, ?_⟩
      rw [q3]
      by_cases hm : l ∈ row
      · rw [if_pos hm]
        exact ⟨row, o2, _, _, q1, j2, j3, by simp; omega, fun _ z => by rw [z] at hm; exact absurd hm (by simp), rfl, rfl⟩
      · rw [if_neg hm]
        refine ⟨row ++ [l], o2, _, _, q1, ?_, ?_, by simp; omega, by simp, rfl, rfl⟩
        · rw [List.nodup_append]; exact ⟨j2, by simp, fun a ha b hb => by rw [List.mem_singleton] at hb; subst hb; intro z; subst z; exact hm ha⟩
        · intro r hr; rcases List.mem_append.mp hr with t | t
          · exact j3 r t
          · rw [List.mem_singleton] at t; subst t; exact q2)
    (by
      rintro e h ⟨row, o', y, z, j1, j2, j3, j4, j5, rfl, rfl⟩
      rw [List.length_map, rI_length] at j4 j5
      exact ⟨trivial, row, o', y, z, j1, j2, j3, j4, j5, rfl⟩)
  obtain ⟨row, o', y, z, j1, j2, j3, j4, j5, e⟩ := Q
  exact ⟨row, o', y, z, j1, j2, j3, j4, j5, e⟩
theorem net_s {p : Nat} {o : Ob} (hp : h[p]? = some o) (ho : isH o) {n : Nat} (h1 : 1 ≤ n) (hn : n ≤ 10) : ∃ rs o', isH o' ∧ VR rs ∧ rs.length = n ∧ (run Γ W (k + 5)).call 524 [.ref p, .int n] h = .ok (eRR rs) (h.set p o') := by
  obtain ⟨a0, o00, a1, a2, a3, a4⟩ := draw2_s (k := k + 2) (W := W) F (get_app (l := [Ob.lst []]) hp) ho (lim := 5) (by omega) (by omega)
  rw [set_app hp] at a4
  generalize hb : decide (a0 < 2) = b
  generalize hr : forL (run Γ W (k + 4)) W (fun _ => True) (.nm 4) b_net_524_L2 ((rI 0 n).map D.int) [some (.ref p), some (.int n), some (.ref h.length), some (.bl b), none, none, none, none] (h.set p o00 ++ [.lst []]) = r
  have Q := forL_wp hr (fun done rest e g => ∃ (rs : List (List (List Int))) (o' : Ob) (junk : Hm) (x y z w : Option D), isH o' ∧ okRows 0 rs ∧ rs.length = done.length ∧ e = [some (.ref p), some (.int n), some (.ref h.length), some (.bl b), x, y, z, w] ∧ g = h.set p o' ++ .lst (rs.map eR) :: junk)
    (fun r => ∃ (rs : List (List (List Int))) (o' : Ob) (junk : Hm) (x y z w : Option D), isH o' ∧ okRows 0 rs ∧ rs.length = n ∧ r = .nx [some (.ref p), some (.int n), some (.ref h.length), some (.bl b), x, y, z, w] (h.set p o' ++ .lst (rs.map eR) :: junk))
    ⟨[], o00, [], none, none, none, none, a1, trivial, rfl, rfl, rfl⟩
    (by
      rintro done d rest e g hl ⟨rs, o', junk, x, y, z, w, j1, j2, j3, rfl, rfl⟩
      have hd : d = .int done.length ∧ done.length < n := by
        have e1 := congrArg (fun l => l[done.length]?) hl
        simp at e1
        have e2 : done.length < n := by
          have := congrArg List.length hl
          simp at this; omega
        unfold rI at e1
        simp [e2] at e1
        exact ⟨e1.symm, e2⟩
      obtain ⟨rfl, hd⟩ := hd
      have g0 : (h.set p o' ++ Ob.lst (rs.map eR) :: junk)[p]? = some o' := get_app (get_set hp)
      generalize hB : h.set p o' ++ Ob.lst (rs.map eR) :: junk = B at g0
      obtain ⟨v, o1, d1, d2, d3, d4⟩ := draw2_s (k := k + 2) (W := W) F (get_app (l := [Ob.lst []]) g0) j1 (lim := 4) (by omega) (by omega)
      rw [set_app g0] at d4
      obtain ⟨row, o2, y2, z2, r1, r2, r3, r4, r5, r6⟩ := net_row (W := W) (k := k) F (get_set (y := o1) g0) d1 (v := (done.length : Int)) (by omega) (by omega) (m := (1 + v).toNat) (by omega) (x1 := some (.int n)) (x2 := some (.ref h.length)) (x5 := z) (x6 := w) (b := b)
      rw [List.length_set, List.set_set] at r6
      have hit : evI (run Γ W (k + 4)) (.rng1 (.op (.bin true .add) (.cons (.con (.int 1)) (.cons (.call 521 none (.cons (.var 0) (.cons (.con (.int 4)) .nil))) .nil)))) [some (.ref p), some (.int n), some (.ref h.length), some (.bl b), some (.int done.length), some (.ref B.length), z, w] (B ++ [.lst []]) = .ok ⟨(rI 0 (1 + v).toNat).map D.int, fun _ => True⟩ (B.set p o1 ++ [.lst []]) := evI_r1 (by simp [d4]) (by omega) (by omega)
      have g3 : B.set p o2 = h.set p o2 ++ Ob.lst (rs.map eR) :: junk := by rw [← hB, set_app (get_set hp), List.set_set]
      have g1 : (B.set p o2 ++ [Ob.lst (row.map eL)])[B.length]? = some (.lst (row.map eL)) := by
        have := get_len (h := B.set p o2) (l := [Ob.lst (row.map eL)]); rw [List.length_set] at this; exact this
      have g2 : (B.set p o2 ++ [Ob.lst (row.map eL)])[h.length]? = some (.lst (rs.map eR)) := by
        rw [g3, List.append_assoc]
        have := get_len (h := h.set p o2) (l := (Ob.lst (rs.map eR) :: junk) ++ [Ob.lst (row.map eL)]); rw [List.length_set] at this; exact this
      have g4 : ∀ x, (B.set p o2 ++ [Ob.lst (row.map eL)]).set h.length x = h.set p o2 ++ x :: (junk ++ [Ob.lst (row.map eL)]) := by
        intro x
        rw [g3, List.append_assoc]
        have := set_len (h := h.set p o2) (l := (Ob.lst (rs.map eR) :: junk) ++ [Ob.lst (row.map eL)]) (y := x); rw [List.length_set] at this; exact this
      have hsz : rs.length < sizeLine := size_lt (by omega)
      refine ⟨trivial, [some (.ref p), some (.int n), some (.ref h.length), some (.bl b), some (.int done.length), y, z, w], by simp, ?_⟩
      have e1 : ex (run Γ W (k + 4)) W b_net_524_L2 [some (.ref p), some (.int n), some (.ref h.length), some (.bl b), some (.int done.length), y, z, w] B = .nx [some (.ref p), some (.int n), some (.ref h.length), some (.bl b), some (.int done.length), some (.ref B.length), y2, z2] (h.set p o2 ++ .lst ((rs ++ [row]).map eR) :: (junk ++ [.lst (row.map eL)])) := by
        simp [b_net_524_L2, hit, r6, g1, g2, hsz]
        rw [g4]
      rw [e1]
      refine ⟨rs ++ [row], o2, _, _, _, _, _, r1, okRows_snoc j2 ⟨?_, by omega, r2, ?_⟩, by simp [j3], rfl, rfl⟩
      · have := r5 (by omega); cases row with
        | nil => exact absurd rfl this
        | cons a l => simp
      · rw [j3, Int.zero_add]; exact r3)
    (by
      rintro e g ⟨rs, o', junk, x, y, z, w, j1, j2, j3, rfl, rfl⟩
      rw [List.length_map, rI_length] at j3
      exact ⟨trivial, rs, o', junk, x, y, z, w, j1, j2, j3, rfl⟩)
  obtain ⟨rs, o', junk, x, y, z, w, j1, j2, j3, rfl⟩ := Q
  refine ⟨rs, o', j1, ⟨by omega, by omega, j2⟩, j3, ?_⟩
  rw [call_of F.net, f524]
  have hit : evI (run Γ W (k + 4)) (.rng1 (.var 1)) [some (.ref p), some (.int n), some (.ref h.length), some (.bl b), none, none, none, none] (h.set p o00 ++ [.lst []]) = .ok ⟨(rI 0 n).map D.int, fun _ => True⟩ (h.set p o00 ++ [.lst []]) := evI_n1 (by simp) (by omega)
  have g2 : (h.set p o' ++ Ob.lst (rs.map eR) :: junk)[h.length]? = some (.lst (rs.map eR)) := by
    have := get_len (h := h.set p o') (l := Ob.lst (rs.map eR) :: junk); rw [List.length_set] at this; exact this
  have e := gc_pureSA (h := h) (d := eRR rs) (p := p) (l := Ob.lst (rs.map eR) :: junk) j1.pure pure_eRR
  simp [callF_eqn, b_net_524, a4, hb, hit, hr, g2, e]
end
theorem okRows_snoc' : True := trivial
end N9

set_option Elab.async false
set_option linter.all false
set_option maxRecDepth 100000
namespace N9
open PySem PySem.Spec L2
def b_can_528_L1 : IS := (.seq (.ite (.cmp .eq (.op (.bi true .len) (.cons (.lc true [4] (.nm 4) (.itv (.var 3)) (.cmp .notin (.var 4) (.var 1)) (.var 4)) .nil)) (.con (.int 0))) (.seq (.ret (.con (.bl true))) .nil) .nil) .nil)
/-- 528 _law_can(_law_net_here, _law_place_here, _law_item): 0 _law_net_here 1 _law_place_here 2 _law_item 3 _law_made 4 _law_part -/
def b_can_528 : IS := (.seq (.for (.nm 3) (.itv (.op .idx (.cons (.var 0) (.cons (.var 2) .nil)))) b_can_528_L1) (.seq (.ret (.con (.bl false))) .nil))
def f528 : Df := ⟨3, 5, .pure, b_can_528⟩
/-- 529 _law_behind(_law_place_here, _law_item): 0 _law_place_here 1 _law_item 2 _law_other -/
def b_behind_529 : IS := (.seq (.ite (.cmp .isin (.var 1) (.var 0)) (.seq (.ret (.op (.bi true .tuple) (.cons (.lc true [2] (.nm 2) (.itv (.var 0)) (.cmp .ne (.var 2) (.var 1)) (.var 2)) .nil))) .nil) .nil) (.seq (.ret (.op (.bi true .tuple) (.cons (.op (.bi true .sorted) (.cons (.op (.bin true .add) (.cons (.op (.bi true .list) (.cons (.var 0) .nil)) (.cons (.lstE true (.cons (.var 1) .nil)) .nil))) .nil)) .nil))) .nil))
def f529 : Df := ⟨2, 3, .pure, b_behind_529⟩
def b_steps_530_L1 : IS := (.seq (.ite (.call 528 none (.cons (.var 0) (.cons (.var 2) (.cons (.var 4) .nil)))) (.seq (.asg (.nm 5) (.call 529 none (.cons (.var 2) (.cons (.var 4) .nil)))) (.seq (.ite (.cmp .le (.op (.bi true .len) (.cons (.var 5) .nil)) (.var 1)) (.seq (.exp (.bmt (.mm .append) (.var 3) (.cons (.tupE (.cons (.var 4) (.cons (.var 5) .nil))) .nil))) .nil) .nil) .nil)) .nil) .nil)
/-- 530 _law_steps(_law_net_here, _law_cap_here, _law_place_here): 0 _law_net_here 1 _law_cap_here 2 _law_place_here 3 _law_steps_here 4 _law_item 5 _law_behind_here -/
def b_steps_530 : IS := (.seq (.asg (.nm 3) (.lstE false .nil)) (.seq (.for (.nm 4) (.rng1 (.op (.bi true .len) (.cons (.var 0) .nil))) b_steps_530_L1) (.seq (.ret (.var 3)) .nil)))
def f530 : Df := ⟨3, 6, .frz, b_steps_530⟩
def b_walk_546_L1 : IS := (.seq (.ite (.or (.not (.call 518 none (.cons (.var 7) .nil))) (.or (.not (.chain .le .lt (.con (.int 0)) (.var 7) (.op (.bi true .len) (.cons (.var 0) .nil)))) (.not (.call 528 none (.cons (.var 0) (.cons (.var 5) (.cons (.var 7) .nil))))))) (.seq (.ret (.con .non)) .nil) .nil) (.seq (.asg (.nm 5) (.call 529 none (.cons (.var 5) (.cons (.var 7) .nil)))) (.seq (.asg (.nm 6) (.op (.bin true .add) (.cons (.var 6) (.cons (.op .idx (.cons (.var 1) (.cons (.var 7) .nil))) .nil)))) (.seq (.ite (.cmp .gt (.op (.bi true .len) (.cons (.var 5) .nil)) (.var 2)) (.seq (.ret (.con .non)) .nil) .nil) .nil))))
/-- 546 _law_walk(_law_net_here, _law_costs_here, _law_cap_here, _law_root_here, _law_trail): 0 _law_net_here 1 _law_costs_here 2 _law_cap_here 3 _law_root_here 4 _law_trail 5 _law_place_here 6 _law_paid 7 _law_item -/
def b_walk_546 : IS := (.seq (.ite (.or (.not (.op (.isi .list) (.cons (.var 4) .nil))) (.cmp .gt (.op (.bi true .len) (.cons (.var 3) .nil)) (.var 2))) (.seq (.ret (.con .non)) .nil) .nil) (.seq (.asg (.nm 5) (.var 3)) (.seq (.asg (.nm 6) (.con (.int 0))) (.seq (.for (.nm 7) (.itv (.var 4)) b_walk_546_L1) (.seq (.ret (.tupE (.cons (.var 6) (.cons (.var 5) .nil)))) .nil)))))
def f546 : Df := ⟨5, 8, .pure, b_walk_546⟩
/-- 538 _law_is_due(_law_told, _law_due): 0 _law_told 1 _law_due -/
def b_is_due_538 : IS := (.seq (.ite (.cmp .isn (.var 1) (.con .non)) (.seq (.ret (.cmp .isn (.var 0) (.con .non))) .nil) .nil) (.seq (.ret (.and (.call 518 none (.cons (.var 0) .nil)) (.cmp .eq (.var 0) (.var 1)))) .nil))
def f538 : Df := ⟨2, 2, .pure, b_is_due_538⟩

structure FC (Γ : Nat → Option Df) : Prop where
  fb : FB Γ
  can : Γ 528 = some f528
  behind : Γ 529 = some f529
  steps : Γ 530 = some f530
  walk : Γ 546 = some f546
  due : Γ 538 = some f538
instance encQ : Enc eQ 3 where
  py := pyQ
  hpy := fun r x => by
    show (D.pys r [.int x.1, eL x.2]).map PyData.tuple = _
    simp only [pys_cons, py_int, py_eL, pys_nil]; rfl
  sh := fun x => (Bool.and_eq_true_iff.mp (shaped_pyQ (x := x))).1
  dp := fun x => by
    have h2 : PyData.depth (Enc.py eL x.2) ≤ 2 := encL.dp x.2
    unfold pyQ
    rw [PyData.depth, PyData.depthAll, PyData.depthAll, PyData.depthAll, PyData.depth]
    omega
  eq := fun x y => by
    unfold pyQ
    rw [PyData.eqv, PyData.eqvAll, PyData.eqvAll, PyData.eqvAll, PyData.eqv, Bool.and_true, Bool.and_eq_true, encL.eq]
    obtain ⟨a, b⟩ := x
    obtain ⟨c, d⟩ := y
    simp
  pur := fun x => pure_eQ
@[simp] theorem py_eQ {r : Nat → Option PyData} {x : QI} : D.py r (eQ x) = some (Enc.py eQ x) := Enc.hpy r x
@[simp] theorem pys_eQ {r : Nat → Option PyData} {l : List QI} : D.pys r (l.map eQ) = some (l.map (Enc.py eQ)) := pys_enc
@[simp] theorem isn_eQ {h : Hm} {x : QI} : cmpD .isn h (eQ x) .non = some false := nr rfl
@[simp] theorem notn_eQ {h : Hm} {x : QI} : cmpD .notn h (eQ x) .non = some true := nr rfl
theorem eq2_nonQ {x : QI} : eq2 (some .none) (some (Enc.py eQ x)) = some false := by
  rw [eq2_some, if_pos (by rw [shaped_enc (f := eQ) (by decide)]; simp [SeqAt.shaped, PyData.canLay0, PyData.depth])]
  show some (PyData.eqv .none (pyQ x)) = _
  unfold pyQ; rw [PyData.eqv]
/-- a list, of either kind -/
def listV (h : Hm) (d : D) (l : List D) : Prop := d = .lst l ∨ ∃ n, d = .ref n ∧ h[n]? = some (.lst l)
section
variable {Γ : Nat → Option Df} {W k : Nat} {h : Hm} (F : FC Γ) {rs : List (List (List Int))} {ps : List Int} {cap : Int}
include F
theorem can2_s {lot : List Int} {v : Int} (h0 : 0 ≤ v) (h1 : v < rs.length) (hl : ∀ r ∈ gI rs v, r.length ≤ 1000) : (run Γ W (k + 1)).call 528 [eRR rs, eL lot, .int v] h = .ok (.bl (enabB rs lot v)) h := by
  obtain ⟨y, e⟩ := forL_any (c := run Γ W k) (W := W) (tg := .nm 3) (b := b_can_528_L1) (h := h) (l := gI rs v) (f := eL) (r := .bl true) (fun x : Option D => [some (eRR rs), some (eL lot), some (.int v), x, none]) (fun r => holdsB lot r)
    (fun r hr x => by
      have := hl r hr
      have e := lc_J (c := run Γ W k) (t := false) (e := [some (eRR rs), some (eL lot), some (.int v), some (eL r), none]) (h := h) (own := [4]) (tg := .nm 4) (it := .itv (.var 3)) (cond := .cmp .notin (.var 4) (.var 1)) (elt := .var 4) (l := r) (f := D.int) (g := fun _ => True) (fun x => !decide (x ∈ lot)) D.int (by simp) (fun _ _ => trivial) (size_le (by omega)) (fun _ => rfl)
        (fun a _ => ⟨[some (eRR rs), some (eL lot), some (.int v), some (eL r), some (.int a)], by simp, fun acc junk => ⟨junk, by simp, fun _ => ⟨junk, by simp⟩⟩⟩)
      have e2 : decide ((r.filter fun x => !decide (x ∈ lot)) = []) = holdsB lot r := by
        rw [Bool.eq_iff_iff, decide_eq_true_eq, holds_iff, List.filter_eq_nil_iff]
        simp
      refine ⟨[some (eRR rs), some (eL lot), some (.int v), some (eL r), none], some (eL r), by simp, ?_⟩
      generalize (r.filter fun x => !decide (x ∈ lot)) = m at e e2
      have e3 : decide (m = []) = holdsB lot r := e2
      cases hq : holdsB lot r <;> rw [hq] at e3 <;> simp only [decide_eq_true_eq, decide_eq_false_iff_not] at e3 <;> simp [b_can_528_L1, e, e3]) none
  rw [call_of F.can, f528]
  rw [show ((gI rs v).any fun r => holdsB lot r) = enabB rs lot v from rfl] at e
  simp [callF_eqn, b_can_528, atI_map h0 h1, e]
  cases enabB rs lot v <;> simp
theorem behind_s {lot : List Int} {v : Int} (hl : lot.length ≤ 1000) : (run Γ W (k + 1)).call 529 [eL lot, .int v] h = .ok (eL (togL lot v)) h := by
  have hs : lot.length + 1 ≤ sizeLine := size_le (by omega)
  have e := lc_J (c := run Γ W k) (t := false) (e := [some (eL lot), some (.int v), none]) (h := h) (own := [2]) (tg := .nm 2) (it := .itv (.var 0)) (cond := .cmp .ne (.var 2) (.var 1)) (elt := .var 2) (l := lot) (f := D.int) (g := fun _ => True) (fun x => decide (x ≠ v)) D.int (by simp) (fun _ _ => trivial) (size_le (by omega)) (fun _ => rfl)
    (fun a _ => ⟨[some (eL lot), some (.int v), some (.int a)], by simp, fun acc junk => ⟨junk, by simp, fun _ => ⟨junk, by simp⟩⟩⟩)
  rw [call_of F.behind, f529]
  by_cases hv : v ∈ lot
  · simp [callF_eqn, b_behind_529, hv, e, togL]
  · have e2 : lot.map D.int ++ [.int v] = (lot ++ [v]).map D.int := by simp
    have e3 : (isort (lot ++ [v])).length = lot.length + 1 := by rw [(isort_perm _).length_eq]; simp
    simp [callF_eqn, b_behind_529, hv, togL, hs, e2, e3, -List.map_append]
theorem due_s {o o' : Option Int} : (run Γ W (k + 2)).call 538 [oD o, oD o'] h = .ok (.bl (decide (o = o'))) h := by
  rw [call_of F.due, f538]
  cases o with
  | none =>
    cases o' with
    | none => simp [callF_eqn, b_is_due_538]
    | some q =>
      have e : (run Γ W (k + 1)).call 518 [.non] h = .ok (.bl false) h := by
        rw [call_of F.fb.integer, f518]; simp [callF_eqn, b_integer_518, Tk.nm]
      simp [callF_eqn, b_is_due_538, e]
  | some p =>
    cases o' with
    | none => simp [callF_eqn, b_is_due_538]
    | some q => simp [callF_eqn, b_is_due_538, integer_s F.fb]
theorem walk_loop {g : Hm → Prop} (hg : g h) (ok : VR rs) (hps : ps.length = rs.length) {x3 x4 : Option D} : ∀ (l : List Int) (lot : List Int) (paid : Int) (x7 : Option D), asc (-1) rs.length lot = true →
    ∃ y, forL (run Γ W (k + 2)) W g (.nm 7) b_walk_546_L1 (l.map D.int) [some (eRR rs), some (eL ps), some (.int cap), x3, x4, some (eL lot), some (.int paid), x7] h =
      match walkL rs ps cap lot l with
      | some x => .nx [some (eRR rs), some (eL ps), some (.int cap), x3, x4, some (eL x.2), some (.int (paid + x.1)), y] h
      | none => .ret .non h := by
  intro l
  induction l with
  | nil => intro lot paid x7 _; exact ⟨x7, by simp [walkL, forL_nil hg]⟩
  | cons v l ih =>
    intro lot paid x7 ha
    have hr := ok.hi
    have hlen := asc_len ha (by omega)
    by_cases c0 : 0 ≤ v ∧ v < rs.length
    · obtain ⟨v0, v1⟩ := c0
      have hrl : ∀ r ∈ gI rs v, r.length ≤ 1000 := fun r hr' => by
        have := asc_len ((ok.at v0 v1).2.2.2 r hr') v0; omega
      cases he : enabB rs lot v with
      | false =>
        refine ⟨x7, ?_⟩
        have bd : ex (run Γ W (k + 2)) W b_walk_546_L1 [some (eRR rs), some (eL ps), some (.int cap), x3, x4, some (eL lot), some (.int paid), some (.int v)] h = .ret .non h := by
          simp [b_walk_546_L1, integer_s F.fb, v0, v1, can2_s F v0 v1 hrl, he]
        simp [forL_cons hg, bd, walkL, v0, v1, he]
      | true =>
        have ha2 := tog_asc ha v0 v1
        by_cases hc : ((togL lot v).length : Int) ≤ cap
        · obtain ⟨y, e⟩ := ih (togL lot v) (paid + gI ps v) (some (.int v)) ha2
          refine ⟨y, ?_⟩
          have hc' : ¬ cap < ((togL lot v).length : Int) := by omega
          have v1' : v < ps.length := by rw [hps]; exact v1
          have bd : ex (run Γ W (k + 2)) W b_walk_546_L1 [some (eRR rs), some (eL ps), some (.int cap), x3, x4, some (eL lot), some (.int paid), some (.int v)] h = .nx [some (eRR rs), some (eL ps), some (.int cap), x3, x4, some (eL (togL lot v)), some (.int (paid + gI ps v)), some (.int v)] h := by
            simp [b_walk_546_L1, integer_s F.fb, v0, v1, can2_s F v0 v1 hrl, he, behind_s F (lot := lot) (v := v) (by omega), atI_map v0 v1', hc']
          simp only [List.map_cons, forL_cons hg, bindT_nm, setSl_eqn, List.length_cons, List.length_nil, Nat.reduceAdd, Nat.reduceLT, ↓reduceIte, List.set_cons_succ, List.set_cons_zero, bd, e]
          rw [walkL, if_pos ⟨v0, v1, he, hc⟩]
          cases walkL rs ps cap (togL lot v) l with
          | none => rfl
          | some x => simp [Int.add_assoc]
        · refine ⟨x7, ?_⟩
          have hc' : cap < ((togL lot v).length : Int) := by omega
          have v1' : v < ps.length := by rw [hps]; exact v1
          have bd : ex (run Γ W (k + 2)) W b_walk_546_L1 [some (eRR rs), some (eL ps), some (.int cap), x3, x4, some (eL lot), some (.int paid), some (.int v)] h = .ret .non h := by
            simp [b_walk_546_L1, integer_s F.fb, v0, v1, can2_s F v0 v1 hrl, he, behind_s F (lot := lot) (v := v) (by omega), atI_map v0 v1', hc']
          simp [forL_cons hg, bd, walkL, hc]
    · refine ⟨x7, ?_⟩
      have bd : ex (run Γ W (k + 2)) W b_walk_546_L1 [some (eRR rs), some (eL ps), some (.int cap), x3, x4, some (eL lot), some (.int paid), some (.int v)] h = .ret .non h := by
        by_cases v0 : 0 ≤ v
        · have v1 : ¬ v < rs.length := fun z => c0 ⟨v0, z⟩
          simp [b_walk_546_L1, integer_s F.fb, v0, v1]
        · simp [b_walk_546_L1, integer_s F.fb, v0]
      have hw : walkL rs ps cap lot (v :: l) = none := by rw [walkL, if_neg (fun z => c0 ⟨z.1, z.2.1⟩)]
      rw [hw]
      simp [forL_cons hg, bd]
def walkR (rs : List (List (List Int))) (ps : List Int) (cap : Int) (lot l : List Int) : D := match (if (lot.length : Int) ≤ cap then walkL rs ps cap lot l else none) with
  | some x => eQ x
  | none => .non
theorem walk_s (ok : VR rs) (hps : ps.length = rs.length) {lot l : List Int} {d : D} (ha : asc (-1) rs.length lot = true) (hd : listV h d (l.map D.int)) : (run Γ W (k + 3)).call 546 [eRR rs, eL ps, .int cap, eL lot, d] h = .ok (walkR rs ps cap lot l) h := by
  rw [call_of F.walk, f546]
  by_cases hc : (lot.length : Int) ≤ cap
  · have hc' : ¬ cap < (lot.length : Int) := by omega
    unfold walkR
    rw [if_pos hc]
    rcases hd with rfl | ⟨n, rfl, hn⟩
    · obtain ⟨y, e⟩ := walk_loop (W := W) (k := k) (h := h) F (g := fun _ => True) trivial (cap := cap) ok hps (x3 := some (eL lot)) (x4 := some (.lst (l.map D.int))) l lot 0 none ha
      cases hw : walkL rs ps cap lot l with
      | none => rw [hw] at e; simp [callF_eqn, b_walk_546, Tk.nm, hc', e]
      | some x => rw [hw] at e; simp [callF_eqn, b_walk_546, Tk.nm, hc', e]
    · obtain ⟨y, e⟩ := walk_loop (W := W) (k := k) (h := h) F (g := fun h' => h'[n]? = some (.lst (l.map D.int))) hn (cap := cap) ok hps (x3 := some (eL lot)) (x4 := some (.ref n)) l lot 0 none ha
      cases hw : walkL rs ps cap lot l with
      | none => rw [hw] at e; simp [callF_eqn, b_walk_546, Tk.nm, hc', hn, e]
      | some x => rw [hw] at e; simp [callF_eqn, b_walk_546, Tk.nm, hc', hn, e]
  · have hc' : cap < (lot.length : Int) := by omega
    unfold walkR
    rw [if_neg hc]
    rcases hd with rfl | ⟨n, rfl, hn⟩
    · simp [callF_eqn, b_walk_546, Tk.nm, hc']
    · simp [callF_eqn, b_walk_546, Tk.nm, hc', hn]
end
end N9

set_option Elab.async false
set_option linter.all false
set_option maxRecDepth 100000
namespace N9
open PySem PySem.Spec L2
theorem gc_ins1 {o : Ob} {l : List D} : gcR .frz [o] (.ref 1) [o, Ob.ins 0 l] = if D.pures l then .ok (.ins 0 l) [o] else .stk := gc_frzIn_ (h := [o]) (l := [])
theorem gc_nil {l : Hm} {b : Bool} : gcR .pure [] (.bl b) l = .ok (.bl b) [] := by
  have := gc_pureA (h := []) (l := l) (d := .bl b) rfl
  simpa using this
/-- least prices there and on -/
theorem lp_tri {rs : List (List (List Int))} {ps : List Int} {cap : Int} {a b c : List Int} {p q : Int} (hp : PosP rs ps) (h1 : lp rs ps cap a b = some p) (h2 : lp rs ps cap b c = some q) : ∃ r, lp rs ps cap a c = some r ∧ r ≤ p + q := by
  obtain ⟨c1, l1⟩ := lp_some.mp h1
  obtain ⟨c2, l2⟩ := lp_some.mp h2
  exact lp_path hp c1 (l1.1.trans l2.1)
theorem VR.gi {rs : List (List (List Int))} (ok : VR rs) {v : Int} (h0 : 0 ≤ v) (h1 : v < rs.length) : 1 ≤ (gI rs v).length ∧ (gI rs v).length ≤ 4 := ⟨(ok.at h0 h1).1, (ok.at h0 h1).2.1⟩
/-- rows turned about -/
theorem okRows_rev : ∀ {l : List (List (List Int))} {v : Int}, okRows v l → okRows v (l.map List.reverse)
  | [], _, _ => trivial
  | r :: l, v, h => ⟨⟨by simpa using h.1.1, by simpa using h.1.2.1, (List.reverse_perm _).nodup_iff.mpr h.1.2.2.1, fun x hx => h.1.2.2.2 x (List.mem_reverse.mp hx)⟩, okRows_rev h.2⟩
theorem VR.rev {rs : List (List (List Int))} (ok : VR rs) : VR (rs.map List.reverse) := ⟨by rw [List.length_map]; exact ok.lo, by rw [List.length_map]; exact ok.hi, okRows_rev ok.row⟩
theorem gI_map {α β : Type} [Inhabited α] [Inhabited β] {f : α → β} {l : List α} {v : Int} (h0 : 0 ≤ v) (h1 : v < l.length) : gI (l.map f) v = f (gI l v) := by
  have : v.toNat < l.length := by omega
  unfold gI
  rw [List.getD_eq_getElem?_getD, List.getD_eq_getElem?_getD, List.getElem?_map, List.getElem?_eq_getElem this]; rfl
theorem enabB_rev {rs : List (List (List Int))} {lot : List Int} {v : Int} (h0 : 0 ≤ v) (h1 : v < rs.length) : enabB (rs.map List.reverse) lot v = enabB rs lot v := by
  unfold enabB
  rw [gI_map h0 h1, List.any_reverse]
theorem lp_same {rs rs' : List (List (List Int))} {ps : List Int} {cap : Int} {a b : List Int} (hp : PosP rs ps) (hn : rs'.length = rs.length) (h : ∀ (lot : List Int) (v : Int), 0 ≤ v → v < rs.length → enabB rs' lot v = enabB rs lot v) : lp rs' ps cap a b = lp rs ps cap a b := by
  have hp' : PosP rs' ps := fun v h0 h1 => hp v h0 (by rw [← hn]; exact h1)
  cases e : lp rs ps cap a b with
  | some p =>
    obtain ⟨q, e1, le⟩ := lp_rows hp' hn (fun lot v t h0 h1 => by rw [h lot v h0 h1]; exact t) e
    obtain ⟨p', e2, le2⟩ := lp_rows hp hn.symm (fun lot v t h0 h1 => by rw [← h lot v h0 (by rw [← hn]; exact h1)]; exact t) e1
    rw [e] at e2; cases e2
    rw [e1, show q = p by omega]
  | none =>
    cases e1 : lp rs' ps cap a b with
    | none => rfl
    | some q =>
      obtain ⟨p', e2, _⟩ := lp_rows hp hn.symm (fun lot v t h0 h1 => by rw [← h lot v h0 (by rw [← hn]; exact h1)]; exact t) e1
      rw [e] at e2; cases e2
theorem lp_rev {rs : List (List (List Int))} {ps : List Int} {cap : Int} {a b : List Int} (hp : PosP rs ps) : lp (rs.map List.reverse) ps cap a b = lp rs ps cap a b :=
  lp_same hp (by simp) fun lot v h0 h1 => enabB_rev h0 h1
theorem gI_set {α : Type} [Inhabited α] {l : List α} {v w : Int} {x : α} (h0 : 0 ≤ v) (h1 : v < l.length) (w0 : 0 ≤ w) : gI (l.set v.toNat x) w = if w = v then x else gI l w := by
  unfold gI
  rw [List.getD_eq_getElem?_getD, List.getD_eq_getElem?_getD]
  by_cases e : w = v
  · subst e
    rw [if_pos rfl, List.getElem?_set_self (by omega)]; rfl
  · rw [if_neg e, List.getElem?_set_ne (by omega)]
theorem lp_more {rs : List (List (List Int))} {ps : List Int} {cap v : Int} {a b : List Int} {p : Int} {row : List (List Int)} (hp : PosP rs ps) (h0 : 0 ≤ v) (h1 : v < rs.length) (hs : ∀ r ∈ gI rs v, r ∈ row) (e : lp rs ps cap a b = some p) : ∃ q, lp (rs.set v.toNat row) ps cap a b = some q ∧ q ≤ p := by
  refine lp_rows (fun w w0 w1 => hp w w0 (by simpa using w1)) (by simp) (fun lot w t w0 w1 => ?_) e
  unfold enabB at *
  rw [gI_set h0 h1 w0]
  by_cases c : w = v
  · subst c
    rw [if_pos rfl]
    obtain ⟨r, hr, q⟩ := List.any_eq_true.mp t
    exact List.any_eq_true.mpr ⟨r, hs r hr, q⟩
  · rw [if_neg c]; exact t
theorem lp_less {rs : List (List (List Int))} {ps : List Int} {cap v : Int} {a b : List Int} {p : Int} {row : List (List Int)} (hp : PosP rs ps) (h0 : 0 ≤ v) (h1 : v < rs.length) (hs : ∀ r ∈ row, r ∈ gI rs v) (e : lp (rs.set v.toNat row) ps cap a b = some p) : ∃ q, lp rs ps cap a b = some q ∧ q ≤ p := by
  refine lp_rows (rs' := rs) (rs := rs.set v.toNat row) hp (by simp) (fun lot w t w0 w1 => ?_) e
  unfold enabB at *
  rw [gI_set h0 h1 w0] at t
  by_cases c : w = v
  · subst c
    rw [if_pos rfl] at t
    obtain ⟨r, hr, q⟩ := List.any_eq_true.mp t
    exact List.any_eq_true.mpr ⟨r, hs r hr, q⟩
  · rw [if_neg c] at t; exact t
@[simp] theorem atI_lastD {α : Type} {l : List α} {a : α} : atI (l ++ [a]) (-1) = some a := by
  unfold atI ixN
  rw [if_neg (by decide), if_pos (by simp only [List.length_append, List.length_cons, List.length_nil]; omega)]
  simp only [Option.bind_some]
  have : ((-1 : Int) + ((l ++ [a]).length : Nat)).toNat = l.length := by simp only [List.length_append, List.length_cons, List.length_nil]; omega
  rw [this]; simp
@[simp] theorem pr_revt {l : List D} {h : Hm} : pr .revt [.tup l] h = .ok (.tup l.reverse) h := nr rfl
end N9

set_option Elab.async false
set_option linter.all false
set_option maxRecDepth 100000
namespace N9
open PySem PySem.Spec L2
def b_recipes_hold_559_R2 : IS := (.seq (.ite (.cmp .gt (.op (.bi true .len) (.cons (.op .idx (.cons (.var 1) (.cons (.var 7) .nil))) .nil)) (.con (.int 1))) (.seq (.asg (.nm 12) (.call 111 none (.cons (.meth 0 "without_recipe" 38 none (.var 6) (.cons (.var 7) (.cons (.op .idx (.cons (.op .idx (.cons (.var 1) (.cons (.var 7) .nil))) (.cons (.op .neg (.cons (.con (.int 1)) .nil)) .nil))) .nil))) (.cons (.var 3) (.cons (.var 5) (.cons (.var 4) .nil)))))) (.seq (.ite (.and (.cmp .notn (.var 12) (.con .non)) (.or (.cmp .isn (.var 9) (.con .non)) (.or (.not (.call 518 none (.cons (.var 12) .nil))) (.cmp .lt (.var 12) (.var 9))))) (.seq (.ret (.con (.bl false))) .nil) .nil) .nil)) .nil) (.seq (.ret (.cmp .eq (.call 111 none (.cons (.var 6) (.cons (.var 3) (.cons (.var 5) (.cons (.var 4) .nil))))) (.var 9))) .nil))
def b_recipes_hold_559_R1 : IS := (.seq (.ite (.and (.cmp .notin (.var 8) (.op .idx (.cons (.var 1) (.cons (.var 7) .nil)))) (.cmp .lt (.op (.bi true .len) (.cons (.op .idx (.cons (.var 1) (.cons (.var 7) .nil))) .nil)) (.con (.int 4)))) (.seq (.asg (.nm 11) (.call 111 none (.cons (.meth 0 "with_recipe" 37 none (.var 6) (.cons (.var 7) (.cons (.var 8) .nil))) (.cons (.var 3) (.cons (.var 5) (.cons (.var 4) .nil)))))) (.seq (.ite (.and (.cmp .notn (.var 9) (.con .non)) (.or (.not (.call 518 none (.cons (.var 11) .nil))) (.cmp .gt (.var 11) (.var 9)))) (.seq (.ret (.con (.bl false))) .nil) .nil) .nil)) .nil) b_recipes_hold_559_R2)
/-- 559 _law_recipes_hold(_law_hand_here, _law_net_here, _law_costs_here, _law_cap_here, _law_root_here, _law_aim): 0 _law_hand_here 1 _law_net_here 2 _law_costs_here 3 _law_cap_here 4 _law_root_here 5 _law_aim 6 _law_web 7 _law_item 8 _law_made 9 _law_told 10 _law_turned 11 _law_wider 12 _law_fewer 13 _law_row -/
def b_recipes_hold_559 : IS := (.seq (.asg (.nm 6) (.make true 0 9 none (.cons (.var 1) (.cons (.var 2) .nil)))) (.seq (.asg (.nm 7) (.call 521 none (.cons (.var 0) (.cons (.op (.bi true .len) (.cons (.var 1) .nil)) .nil)))) (.seq (.asg (.nm 8) (.call 522 none (.cons (.var 0) (.cons (.var 7) .nil)))) (.seq (.asg (.nm 9) (.call 111 none (.cons (.var 6) (.cons (.var 3) (.cons (.var 5) (.cons (.var 4) .nil)))))) (.seq (.asg (.nm 10) (.op (.bi true .tuple) (.cons (.lc true [13] (.nm 13) (.itv (.var 1)) (.con (.bl true)) (.op .revt (.cons (.var 13) .nil))) .nil))) (.seq (.ite (.cmp .ne (.call 111 none (.cons (.make true 0 9 none (.cons (.var 10) (.cons (.var 2) .nil))) (.cons (.var 3) (.cons (.var 5) (.cons (.var 4) .nil))))) (.var 9)) (.seq (.ret (.con (.bl false))) .nil) .nil) b_recipes_hold_559_R1))))))
def f559 : Df := ⟨6, 14, .pure, b_recipes_hold_559⟩
def b_law_560_L1 : IS := (.seq (.ite (.not (.call 518 none (.cons (.var 15) .nil))) (.seq (.ret (.con (.bl false))) .nil) .nil) .nil)
def b_law_560_R2 : IS := (.seq (.ite (.not (.call 559 none (.cons (.var 1) (.cons (.var 4) (.cons (.op (.bi true .tuple) (.cons (.var 5) .nil)) (.cons (.var 3) (.cons (.var 10) (.cons (.var 11) .nil)))))))) (.seq (.ret (.con (.bl false))) .nil) .nil) (.seq (.ite (.cmp .isn (.var 13) (.con .non)) (.seq (.ret (.cmp .eq (.var 14) (.lstE true (.cons (.con .non) (.cons (.con .non) (.cons (.con .non) .nil)))))) .nil) .nil) (.seq (.for (.nm 15) (.itv (.op (.bin true .add) (.cons (.var 14) (.cons (.lstE true (.cons (.var 13) .nil)) .nil)))) b_law_560_L1) (.seq (.asg (.nm 16) (.op (.bi true .len) (.cons (.lc true [19] (.nm 19) (.rng1 (.var 2)) (.cmp .ne (.cmp .isin (.var 19) (.var 10)) (.cmp .isin (.var 19) (.var 11))) (.var 19)) .nil))) (.seq (.ite (.or (.cmp .ne (.op .idx (.cons (.var 14) (.cons (.con (.int 0)) .nil))) (.op (.bin true .mul) (.cons (.var 6) (.cons (.var 13) .nil)))) (.or (.cmp .ne (.op (.bin true .mod) (.cons (.var 13) (.cons (.con (.int 2)) .nil))) (.op (.bin true .mod) (.cons (.var 16) (.cons (.con (.int 2)) .nil)))) (.cmp .lt (.var 13) (.var 16)))) (.seq (.ret (.con (.bl false))) .nil) .nil) (.seq (.ret (.and (.chain .le .le (.op (.bin true .mul) (.cons (.op (.bi true .min) (.cons (.var 5) .nil)) (.cons (.var 13) .nil))) (.op .idx (.cons (.var 14) (.cons (.con (.int 1)) .nil))) (.op (.bin true .mul) (.cons (.op (.bi true .max) (.cons (.var 5) .nil)) (.cons (.var 13) .nil)))) (.cmp .le (.op .idx (.cons (.var 14) (.cons (.con (.int 1)) .nil))) (.op .idx (.cons (.var 14) (.cons (.con (.int 2)) .nil)))))) .nil))))))
def b_law_560_R1 : IS := (.seq (.asg (.nm 13) (.call 111 none (.cons (.var 12) (.cons (.var 3) (.cons (.var 11) (.cons (.var 10) .nil)))))) (.seq (.asg (.nm 14) (.lc true [18] (.nm 18) (.itv (.lstE true (.cons (.op (.bin true .mul) (.cons (.lstE true (.cons (.var 6) .nil)) (.cons (.var 2) .nil))) (.cons (.var 5) (.cons (.var 9) .nil))))) (.con (.bl true)) (.call 111 none (.cons (.meth 0 "with_prices" 14 none (.var 12) (.cons (.op (.bi true .tuple) (.cons (.var 18) .nil)) .nil)) (.cons (.var 3) (.cons (.var 11) (.cons (.var 10) .nil))))))) b_law_560_R2))
/-- 560 law(_law_script): 0 _law_script 1 _law_hand_here 2 _law_size 3 _law_cap_here 4 _law_net_here 5 _law_costs_here 6 _law_times 7 _law_at 8 _law_more 9 _law_raised 10 _law_root_here 11 _law_aim 12 _law_plain 13 _law_ones 14 _law_told 15 _law_price 16 _law_apart 17 _law_k 18 _law_row 19 _law_item -/
def b_law_560 : IS := (.seq (.asg (.nm 1) (.call 519 none (.cons (.var 0) .nil))) (.seq (.asg (.nm 2) (.op (.bin true .add) (.cons (.con (.int 1)) (.cons (.call 521 none (.cons (.var 1) (.cons (.con (.int 6)) .nil))) .nil)))) (.seq (.asg (.nm 3) (.call 523 none (.cons (.var 1) (.cons (.var 2) .nil)))) (.seq (.asg (.nm 4) (.call 524 none (.cons (.var 1) (.cons (.var 2) .nil)))) (.seq (.asg (.nm 5) (.lc true [17] (.nm 17) (.rng1 (.var 2)) (.con (.bl true)) (.op (.bin true .add) (.cons (.con (.int 1)) (.cons (.call 521 none (.cons (.var 1) (.cons (.con (.int 9)) .nil))) .nil))))) (.seq (.asg (.nm 6) (.op (.bin true .add) (.cons (.con (.int 1)) (.cons (.call 521 none (.cons (.var 1) (.cons (.con (.int 9)) .nil))) .nil)))) (.seq (.asg (.nm 7) (.call 521 none (.cons (.var 1) (.cons (.var 2) .nil)))) (.seq (.asg (.nm 8) (.op (.bin true .add) (.cons (.op .idx (.cons (.var 5) (.cons (.var 7) .nil))) (.cons (.call 521 none (.cons (.var 1) (.cons (.op (.bin true .sub) (.cons (.con (.int 10)) (.cons (.op .idx (.cons (.var 5) (.cons (.var 7) .nil))) .nil))) .nil))) .nil)))) (.seq (.asg (.nm 9) (.op (.bin true .add) (.cons (.op (.bin true .add) (.cons (.op (.slc true false true) (.cons (.var 5) (.cons (.var 7) .nil))) (.cons (.lstE true (.cons (.var 8) .nil)) .nil))) (.cons (.op (.slc true true false) (.cons (.var 5) (.cons (.op (.bin true .add) (.cons (.var 7) (.cons (.con (.int 1)) .nil))) .nil))) .nil)))) (.seq (.asg (.nm 10) (.call 527 none (.cons (.var 1) (.cons (.var 2) .nil)))) (.seq (.asg (.nm 11) (.call 526 none (.cons (.var 1) (.cons (.var 2) .nil)))) (.seq (.asg (.nm 12) (.make true 0 9 (some [.inl 0, .inl 1, .inr false]) (.cons (.var 4) .nil))) b_law_560_R1))))))))))))
def f560 : Df := ⟨1, 20, .pure, b_law_560⟩

structure F60 (Γ : Nat → Option Df) : Prop where
  fc : FC Γ
  hold : Γ 559 = some f559
  law : Γ 560 = some f560
theorem eR_rev {r : List (List Int)} : D.tup ((r.map eL).reverse) = eR r.reverse := by unfold eR; rw [List.map_reverse]
section
variable {Γ : Nat → Option Df} {W k : Nat} {h : Hm} (F : F60 Γ)
include F
theorem hold_s {rs : List (List (List Int))} {ps : List Int} {cap : Int} {A B : List Int} {o : Ob} (ho : isH o) (ok : VR rs) (okp : VP ps rs.length) (c0 : 0 ≤ cap) (c1 : cap ≤ 10) (hA : asc (-1) rs.length A = true) (hB : asc (-1) rs.length B = true) (hW : 30000 ≤ W) :
    ∃ o', isH o' ∧ (run Γ W (k + 9)).call 559 [.ref 0, eRR rs, eL ps, .int cap, eL A, eL B] [o] = .ok (.bl true) [o'] := by
  have B0 := F.fc.fb
  have P := B0.pk
  have hp := okp.pos
  have hi := ok.hi
  have lo := ok.lo
  have e6 := graph_init (W := W) (k := k + 2) (h := [o]) P ok okp
  have hg : D.ins 0 [eRR rs, eL ps, .int rs.length] = gD rs ps := rfl
  obtain ⟨v, o1, p1, v0, v1, e1⟩ := draw2_s (W := W) (k := k + 6) (h := [o]) (p := 0) B0 rfl ho (lim := rs.length) (by omega) (by omega)
  obtain ⟨r, o2, p2, hr, e2⟩ := one_s (W := W) (k := k + 5) (h := [o1]) (p := 0) B0 rfl p1 (v := v) v0 (by omega)
  have ls := fun h => least_s (W := W) (k := k + 2) (h := h) P (cap := cap) (g := B) (a := A) ok okp c0 c1 hB hA hW
  have lr := fun h => least_s (W := W) (k := k + 2) (h := h) P (rs := rs.map List.reverse) (ps := ps) (cap := cap) (g := B) (a := A) ok.rev (by rw [List.length_map]; exact okp) c0 c1 (by rw [List.length_map]; exact hB) (by rw [List.length_map]; exact hA) hW
  have e7 := graph_init (W := W) (k := k + 2) (h := [o2]) P (rs := rs.map List.reverse) (ps := ps) ok.rev (by rw [List.length_map]; exact okp)
  have hg' : D.ins 0 [eRR (rs.map List.reverse), eL ps, .int (rs.map List.reverse).length] = gD (rs.map List.reverse) ps := rfl
  rw [lp_rev hp] at lr
  have turned := lc_pure (c := run Γ W (k + 8)) (t := false) (e := [some (.ref 0), some (eRR rs), some (eL ps), some (.int cap), some (eL A), some (eL B), some (gD rs ps), some (.int v), some (eL r), some (oD (lp rs ps cap A B)), none, none, none, none]) (h := [o2]) (own := [13]) (tg := .nm 13) (it := .itv (.var 1)) (cond := .con (.bl true)) (elt := .op .revt (.cons (.var 13) .nil)) (f := eR) (l := rs) (fun _ => true) (fun r => eR r.reverse) (by simp) (size_le (by omega)) (fun a => pure_eR)
    (fun a ha => ⟨[some (.ref 0), some (eRR rs), some (eL ps), some (.int cap), some (eL A), some (eL B), some (gD rs ps), some (.int v), some (eL r), some (oD (lp rs ps cap A B)), none, none, none, some (eR a)], by simp, fun acc => ⟨by simp, fun _ => by
      have : eR a = .tup (a.map eL) := rfl
      have hh : pr .revt [eR a] ([o2] ++ [.lst acc]) = .ok (eR a.reverse) ([o2] ++ [.lst acc]) := by rw [this, pr_revt, eR_rev]
      simp at hh ⊢
      exact hh⟩⟩)
  have hT : D.tup ((rs.filter fun _ => true).map fun r => eR r.reverse) = eRR (rs.map List.reverse) := by
    rw [List.filter_eq_self.mpr (by simp)]
    unfold eRR
    rw [List.map_map]; rfl
  have gi := ok.gi v0 v1
  have lastE : ∃ q, q ∈ gI rs v ∧ atI ((gI rs v).map eL) (-1) = some (eL q) := by
    obtain ⟨M, z, hz⟩ : ∃ M z, gI rs v = M ++ [z] := by
      rcases List.eq_nil_or_concat (gI rs v) with e | ⟨M, z, e⟩
      · rw [e] at gi; simp at gi
      · exact ⟨M, z, by simpa using e⟩
    refine ⟨z, by rw [hz]; simp, ?_⟩
    rw [hz, List.map_append]; exact atI_lastD
  obtain ⟨q, hq, hlast⟩ := lastE
  refine ⟨o2, p2, ?_⟩
  simp at e1 e2 e6 e7 turned
  have hg2 : D.ins 0 [eRR (rs.map List.reverse), eL ps, .int rs.length] = gD (rs.map List.reverse) ps := by unfold gD; rw [List.length_map]
  -- a recipe more
  have more : r ∉ gI rs v → (gI rs v).length < 4 → ∃ w : Option Int, (∀ h, (run Γ W (k + 8)).call 37 [gD rs ps, .int v, eL r] h = .ok (gD (rs.set v.toNat (gI rs v ++ [r])) ps) h) ∧ (∀ h, (run Γ W (k + 8)).call 111 [gD (rs.set v.toNat (gI rs v ++ [r])) ps, .int cap, eL B, eL A] h = .ok (oD w) h) ∧ (∀ p, lp rs ps cap A B = some p → ∃ q, w = some q ∧ q ≤ p) := by
    intro hn hl
    refine ⟨lp (rs.set v.toNat (gI rs v ++ [r])) ps cap A B, fun h => with_recipe_s (W := W) (k := k) P ok okp v0 v1 hr hn hl, fun h => ?_, fun p e => lp_more hp v0 v1 (fun x hx => List.mem_append_left _ hx) e⟩
    exact least_s (W := W) (k := k + 2) (h := h) P (rs := rs.set v.toNat (gI rs v ++ [r])) (ok.set v0 (okRow_more (ok.at v0 v1) hr hn hl)) (by simpa using okp) c0 c1 (by simpa using hB) (by simpa using hA) hW
  have less : 1 < (gI rs v).length → ∃ w : Option Int, (∀ h, (run Γ W (k + 8)).call 38 [gD rs ps, .int v, eL q] h = .ok (gD (rs.set v.toNat ((gI rs v).filter fun x => decide (x ≠ q))) ps) h) ∧ (∀ h, (run Γ W (k + 8)).call 111 [gD (rs.set v.toNat ((gI rs v).filter fun x => decide (x ≠ q))) ps, .int cap, eL B, eL A] h = .ok (oD w) h) ∧ (∀ p, w = some p → ∃ q, lp rs ps cap A B = some q ∧ q ≤ p) := by
    intro hl
    refine ⟨lp (rs.set v.toNat ((gI rs v).filter fun x => decide (x ≠ q))) ps cap A B, fun h => without_recipe_s (W := W) (k := k) P ok okp v0 v1 hq hl, fun h => ?_, fun p e => lp_less hp v0 v1 (fun x hx => (List.mem_filter.mp hx).1) e⟩
    exact least_s (W := W) (k := k + 2) (h := h) P (rs := rs.set v.toNat ((gI rs v).filter fun x => decide (x ≠ q))) (ok.set v0 (okRow_less (ok.at v0 v1) hq hl)) (by simpa using okp) c0 c1 (by simpa using hB) (by simpa using hA) hW
  have ho : ∀ x, insOk 0 x (gD rs ps) = true := fun _ => rfl
  have ii : ∀ (i : Int) (h : Hm), (run Γ W (k + 8)).call 518 [.int i] h = .ok (.bl true) h := fun i h => integer_s (k := k + 7) B0
  have gcl : ∀ b, gcR .pure [o] (.bl b) [o2] = .ok (.bl b) [o2] := fun b => by
    have := gc_pureS (h := [o]) (d := D.bl b) (p := 0) (o := o2) p2.pure rfl
    simpa using this
  -- the second part, whatever the first
  have part2 : ∀ x11 : Option D, (ex (run Γ W (k + 8)) W b_recipes_hold_559_R2 [some (.ref 0), some (eRR rs), some (eL ps), some (.int cap), some (eL A), some (eL B), some (gD rs ps), some (.int v), some (eL r), some (oD (lp rs ps cap A B)), some (eRR (rs.map List.reverse)), x11, none, none] [o2]).done .pure [o] = .ok (.bl true) [o2] := by
    intro x11
    by_cases hl : 1 < (gI rs v).length
    · obtain ⟨w, w1, w2, w3⟩ := less hl
      have hl' : (1 : Int) < ((gI rs v).length : Int) := by omega
      cases w with
      | none =>
        cases hx : lp rs ps cap A B <;> rw [hx] at ls <;> simp at ls w2 <;> simp [b_recipes_hold_559_R2, hl', v0, v1, hlast, ho, w1, w2, ls, ii, gcl]
      | some p =>
        obtain ⟨q', h1, h2⟩ := w3 p rfl
        have h3 : ¬ p < q' := by omega
        rw [h1] at ls ⊢
        simp at ls w2
        simp [b_recipes_hold_559_R2, hl', v0, v1, hlast, ho, w1, w2, ls, ii, gcl, h3]
    · have hl' : ¬ (1 : Int) < ((gI rs v).length : Int) := by omega
      cases hx : lp rs ps cap A B <;> rw [hx] at ls <;> simp at ls <;> simp [b_recipes_hold_559_R2, hl', v0, v1, ls, gcl]
  have part1 : (ex (run Γ W (k + 8)) W b_recipes_hold_559_R1 [some (.ref 0), some (eRR rs), some (eL ps), some (.int cap), some (eL A), some (eL B), some (gD rs ps), some (.int v), some (eL r), some (oD (lp rs ps cap A B)), some (eRR (rs.map List.reverse)), none, none, none] [o2]).done .pure [o] = .ok (.bl true) [o2] := by
    rw [b_recipes_hold_559_R1]
    by_cases hn : r ∈ gI rs v
    · simp [hn, v0, v1, part2]
    · by_cases hl : (gI rs v).length < 4
      · obtain ⟨w, w1, w2, w3⟩ := more hn hl
        have hl' : ((gI rs v).length : Int) < 4 := by omega
        cases hx : lp rs ps cap A B with
        | none =>
          rw [hx] at part2
          simp at w2 part2
          simp [hn, hl', v0, v1, ho, w1, w2, part2]
        | some p =>
          obtain ⟨q', rfl, le⟩ := w3 p hx
          rw [hx] at part2
          simp at w2 part2
          have h3 : ¬ p < q' := by omega
          simp [hn, hl', v0, v1, ho, w1, w2, part2, ii, h3]
      · have hl' : ¬ ((gI rs v).length : Int) < 4 := by omega
        simp [hn, hl', v0, v1, part2]
  rw [call_of F.hold, f559, ← part1]
  cases hx : lp rs ps cap A B with
  | none =>
    rw [hx] at ls lr turned
    simp at ls lr turned
    simp [callF_eqn, b_recipes_hold_559, e1, e2, e6, e7, gc_ins1, hg, hg2, ls, lr, turned, hT]
  | some p =>
    rw [hx] at ls lr turned
    simp at ls lr turned
    simp [callF_eqn, b_recipes_hold_559, e1, e2, e6, e7, gc_ins1, hg, hg2, ls, lr, turned, hT]
omit F in
theorem four {rs : List (List (List Int))} {ps ps' : List Int} {cap c : Int} {A B : List Int} (ok : VR rs) (okp : VP ps rs.length) (okp' : VP ps' rs.length) (hc : 1 ≤ c) (hc9 : c ≤ 9) (hr : ∀ v : Int, 0 ≤ v → v < rs.length → gI ps v ≤ gI ps' v) :
    (lp rs (ones rs.length) cap A B = none ∧ lp rs (List.replicate rs.length c) cap A B = none ∧ lp rs ps cap A B = none ∧ lp rs ps' cap A B = none) ∨
    ∃ q p p', lp rs (ones rs.length) cap A B = some q ∧ lp rs (List.replicate rs.length c) cap A B = some (c * q) ∧ lp rs ps cap A B = some p ∧ lp rs ps' cap A B = some p' ∧ p ≤ p' ∧ (∀ m, (∀ x ∈ ps, m ≤ x) → m * q ≤ p) ∧ (∀ m, (∀ x ∈ ps, x ≤ m) → p ≤ m * q) ∧ q % 2 = (apart rs.length A B : Int) % 2 ∧ (apart rs.length A B : Int) ≤ q := by
  have g1 : ∀ v : Int, 0 ≤ v → v < rs.length → gI (ones rs.length) v = 1 := fun v h0 h1 => by
    have := gI_mem (l := ones rs.length) h0 (by simp [ones]; omega)
    exact (List.mem_replicate.mp this).2
  have gc : ∀ v : Int, 0 ≤ v → v < rs.length → gI (List.replicate rs.length c) v = c := fun v h0 h1 => by
    have := gI_mem (l := List.replicate rs.length c) h0 (by simp; omega)
    exact (List.mem_replicate.mp this).2
  have p1 : PosP rs (ones rs.length) := VP_ones.pos
  have pc : PosP rs (List.replicate rs.length c) := fun v h0 h1 => by rw [gc v h0 h1]; exact ⟨hc, hc9⟩
  have hp := okp.pos
  have hp' := okp'.pos
  cases e : lp rs (ones rs.length) cap A B with
  | none =>
    refine .inl ⟨rfl, ?_, ?_, ?_⟩
    · cases e2 : lp rs (List.replicate rs.length c) cap A B with
      | none => rfl
      | some q => obtain ⟨_, h⟩ := lp_isSome p1 e2; rw [e] at h; cases h
    · cases e2 : lp rs ps cap A B with
      | none => rfl
      | some q => obtain ⟨_, h⟩ := lp_isSome p1 e2; rw [e] at h; cases h
    · cases e2 : lp rs ps' cap A B with
      | none => rfl
      | some q => obtain ⟨_, h⟩ := lp_isSome p1 e2; rw [e] at h; cases h
  | some q =>
    obtain ⟨x, ex, lex⟩ := lp_rel (c1 := 1) (c2 := c) pc (by omega) (fun v h0 h1 => by rw [gc v h0 h1, g1 v h0 h1]; omega) e
    obtain ⟨q2, eq2, leq⟩ := lp_rel (c1 := c) (c2 := 1) p1 (by omega) (fun v h0 h1 => by rw [gc v h0 h1, g1 v h0 h1]; omega) ex
    rw [e] at eq2; cases eq2
    have hx : x = c * q := by omega
    subst hx
    obtain ⟨p, ep⟩ := lp_isSome hp e
    obtain ⟨p', ep'⟩ := lp_isSome hp' e
    obtain ⟨p2, e3, le3⟩ := lp_rel (c1 := 1) (c2 := 1) hp (by omega) (fun v h0 h1 => by have := hr v h0 h1; omega) ep'
    rw [ep] at e3; cases e3
    have pa := (lp_some.mp e).2.1.apart g1
    have q0 : 0 ≤ q := by have := pa.1; omega
    refine .inr ⟨q, p, p', rfl, ex, ep, ep', by omega, fun m hm => ?_, fun m hm => ?_, pa.2, pa.1⟩
    · by_cases m0 : 0 ≤ m
      · obtain ⟨q3, e4, le4⟩ := lp_rel (c1 := m) (c2 := 1) p1 m0 (fun v h0 h1 => by
          rw [g1 v h0 h1]
          have := hm _ (gI_mem (l := ps) h0 (by rw [okp.len]; exact h1))
          omega) ep
        rw [e] at e4; cases e4
        omega
      · have p0 : 0 ≤ p := (lp_some.mp ep).2.1.nonneg hp
        have : m * q ≤ 0 := Int.mul_nonpos_of_nonpos_of_nonneg (by omega) q0
        omega
    · obtain ⟨q3, e4, le4⟩ := lp_rel (c1 := 1) (c2 := m) hp (by omega) (fun v h0 h1 => by
          rw [g1 v h0 h1]
          have := hm _ (gI_mem (l := ps) h0 (by rw [okp.len]; exact h1))
          omega) e
      rw [ep] at e4; cases e4
      omega
theorem r2 {rs : List (List (List Int))} {ps ps' : List Int} {cap c : Int} {A B : List Int} {o : Ob} {d0 d7 d8 d9 : D} (ho : isH o) (ok : VR rs) (okp : VP ps rs.length) (okp' : VP ps' rs.length) (hc : 1 ≤ c) (hc9 : c ≤ 9) (hr : ∀ v : Int, 0 ≤ v → v < rs.length → gI ps v ≤ gI ps' v) (c0 : 0 ≤ cap) (c1 : cap ≤ 10) (hA : asc (-1) rs.length A = true) (hB : asc (-1) rs.length B = true) (hW : 30000 ≤ W) :
    (ex (run Γ W (k + 9)) W b_law_560_R2 [some d0, some (.ref 0), some (.int rs.length), some (.int cap), some (eRR rs), some (.lst (ps.map D.int)), some (.int c), some d7, some d8, some d9, some (eL A), some (eL B), some (gD rs (ones rs.length)), some (oD (lp rs (ones rs.length) cap A B)), some (.lst [oD (lp rs (List.replicate rs.length c) cap A B), oD (lp rs ps cap A B), oD (lp rs ps' cap A B)]), none, none, none, none, none] [o]).done .pure [] = .ok (.bl true) [] := by
  have B0 := F.fc.fb
  have hi := ok.hi
  have lo := ok.lo
  obtain ⟨o', p', e1⟩ := hold_s (k := k) F ho ok okp c0 c1 hA hB hW
  have eLp : D.tup (ps.map D.int) = eL ps := rfl
  rcases four (cap := cap) (A := A) (B := B) ok okp okp' hc hc9 hr with ⟨h1, h2, h3, h4⟩ | ⟨q, p, p2, h1, h2, h3, h4, le, mn, mx, par, ap⟩
  · rw [h1, h2, h3, h4]
    have e3 : eq2 (some (PyData.list [.none, .none, .none])) (some (PyData.list [.none, .none, .none])) = some true := by decide
    simp [b_law_560_R2, eLp, e1, e3, gc_nil]
  · rw [h1, h2, h3, h4]
    have ii : ∀ (i : Int) (h : Hm), (run Γ W (k + 9)).call 518 [.int i] h = .ok (.bl true) h := fun i h => integer_s (k := k + 8) B0
    have lc := lc_pure (c := run Γ W (k + 9)) (t := false) (e := [some d0, some (.ref 0), some (.int rs.length), some (.int cap), some (eRR rs), some (.lst (ps.map D.int)), some (.int c), some d7, some d8, some d9, some (eL A), some (eL B), some (gD rs (ones rs.length)), some (.int q), some (.lst [.int (c * q), .int p, .int p2]), some (.int q), none, none, none, none]) (h := [o']) (own := [19]) (tg := .nm 19) (it := .rng1 (.var 2)) (cond := .cmp .ne (.cmp .isin (.var 19) (.var 10)) (.cmp .isin (.var 19) (.var 11))) (elt := .var 19) (f := D.int) (l := rI 0 rs.length) (fun i => decide (i ∈ A) != decide (i ∈ B)) D.int (evI_r1 (i := rs.length) (by simp) (by omega) (by omega)) (size_le (by rw [rI_length]; omega)) (fun a => rfl)
      (fun a ha => ⟨[some d0, some (.ref 0), some (.int rs.length), some (.int cap), some (eRR rs), some (.lst (ps.map D.int)), some (.int c), some d7, some d8, some d9, some (eL A), some (eL B), some (gD rs (ones rs.length)), some (.int q), some (.lst [.int (c * q), .int p, .int p2]), some (.int q), none, none, none, some (.int a)], by simp, fun acc => ⟨by simp [bne], fun _ => by simp⟩⟩)
    have hl : (((rI 0 rs.length).filter fun i => decide (i ∈ A) != decide (i ∈ B)).length : Int) = (apart rs.length A B : Int) := by
      unfold apart; rw [List.countP_eq_length_filter]
    obtain ⟨x, xs, hps⟩ : ∃ x xs, ps = x :: xs := by
      cases ps with
      | nil => have := okp.len; simp at this; omega
      | cons x xs => exact ⟨x, xs, rfl⟩
    have m1 := mn (minL ps) fun y hy => by rw [hps] at hy ⊢; exact minL_mem.2 y hy
    have m2 := mx (maxL ps) fun y hy => by rw [hps] at hy ⊢; exact maxL_mem.2 y hy
    simp at lc
    have n1 : ¬ q < (apart rs.length A B : Int) := by omega
    have L1 : ∀ (i : Int) (e : Env) (h : Hm), e[15]? = some (some (.int i)) → ex (run Γ W (k + 9)) W b_law_560_L1 e h = .nx e h := fun i e h he => by simp [b_law_560_L1, he, ii]
    have b1 : ∀ y ∈ ps, 1 ≤ y ∧ y ≤ 9 := okp.pr
    have mm1 : minL ps ∈ ps := by rw [hps]; exact minL_mem.1
    have mm2 : maxL ps ∈ ps := by rw [hps]; exact maxL_mem.1
    have k1 := b1 _ mm1
    have k2 := b1 _ mm2
    have s1 : smallMul c q = true := smallL ⟨by omega, by omega⟩
    have s2 : smallMul (minL ps) q = true := smallL ⟨by omega, by omega⟩
    have s3 : smallMul (maxL ps) q = true := smallL ⟨by omega, by omega⟩
    have bmin : ∀ h, biD true .min [.lst (ps.map D.int)] h = .ok (.int (minL ps)) h := fun h => by rw [bi_minL, intsD_map, hps]
    have bmax : ∀ h, biD true .max [.lst (ps.map D.int)] h = .ok (.int (maxL ps)) h := fun h => by rw [bi_maxL, intsD_map, hps]
    simp [b_law_560_R2, eLp, e1, gc_nil, L1, lc, hl, n1, m1, m2, le, par, s1, s2, s3, bmin, bmax]
theorem r1 {rs : List (List (List Int))} {ps ps' : List Int} {cap c : Int} {A B : List Int} {o : Ob} {d0 d7 d8 : D} (ho : isH o) (ok : VR rs) (okp : VP ps rs.length) (okp' : VP ps' rs.length) (hc : 1 ≤ c) (hc9 : c ≤ 9) (hr : ∀ v : Int, 0 ≤ v → v < rs.length → gI ps v ≤ gI ps' v) (c0 : 0 ≤ cap) (c1 : cap ≤ 10) (hA : asc (-1) rs.length A = true) (hB : asc (-1) rs.length B = true) (hW : 30000 ≤ W) :
    (ex (run Γ W (k + 9)) W b_law_560_R1 [some d0, some (.ref 0), some (.int rs.length), some (.int cap), some (eRR rs), some (.lst (ps.map D.int)), some (.int c), some d7, some d8, some (.lst (ps'.map D.int)), some (eL A), some (eL B), some (gD rs (ones rs.length)), none, none, none, none, none, none, none] [o]).done .pure [] = .ok (.bl true) [] := by
  have P := F.fc.fb.pk
  have hi := ok.hi
  have lo := ok.lo
  have okc : VP (List.replicate rs.length c) rs.length := ⟨by simp, fun x hx => by have := (List.mem_replicate.mp hx).2; omega⟩
  have q := r2 (k := k) (d0 := d0) (d7 := d7) (d8 := d8) (d9 := .lst (ps'.map D.int)) F ho ok okp okp' hc hc9 hr c0 c1 hA hB hW
  have l1 := least_s (W := W) (k := k + 3) (h := [o]) P (ps := ones rs.length) (cap := cap) (g := B) (a := A) ok VP_ones c0 c1 hB hA hW
  have ll : ∀ (qs : List Int) (h : Hm), VP qs rs.length → (run Γ W (k + 9)).call 111 [gD rs qs, .int cap, eL B, eL A] h = .ok (oD (lp rs qs cap A B)) h := fun qs h oq => least_s (W := W) (k := k + 3) (h := h) P (cap := cap) (g := B) (a := A) ok oq c0 c1 hB hA hW
  have wp : ∀ (qs : List Int) (h : Hm), VP qs rs.length → (run Γ W (k + 9)).call 14 [gD rs (ones rs.length), eL qs] h = .ok (gD rs qs) h := fun qs h oq => with_prices_s (W := W) (k := k + 2) P ok oq
  have ho' : ∀ x, insOk 0 x (gD rs (ones rs.length)) = true := fun _ => rfl
  have hrep : (List.replicate rs.length [D.int c]).flatten = (List.replicate rs.length c).map D.int := by
    rw [List.map_replicate]
    generalize rs.length = n
    induction n with
    | zero => rfl
    | succ n ih => rw [List.replicate_succ, List.flatten_cons, ih]; rfl
  have hit : evI (run Γ W (k + 9)) (.itv (.lstE true (.cons (.op (.bin true .mul) (.cons (.lstE true (.cons (.var 6) .nil)) (.cons (.var 2) .nil))) (.cons (.var 5) (.cons (.var 9) .nil))))) [some d0, some (.ref 0), some (.int rs.length), some (.int cap), some (eRR rs), some (.lst (ps.map D.int)), some (.int c), some d7, some d8, some (.lst (ps'.map D.int)), some (eL A), some (eL B), some (gD rs (ones rs.length)), some (oD (lp rs (ones rs.length) cap A B)), none, none, none, none, none, none] [o] =
      .ok ⟨[List.replicate rs.length c, ps, ps'].map fun qs => D.lst (qs.map D.int), fun _ => True⟩ [o] := by
    have z : rs.length ≤ sizeLine := size_le (by omega)
    have z2 : (rs.length : Int) ≤ sizeLine := by omega
    simp [z, z2, hrep]
  have told := lc_pure (c := run Γ W (k + 9)) (t := false) (e := [some d0, some (.ref 0), some (.int rs.length), some (.int cap), some (eRR rs), some (.lst (ps.map D.int)), some (.int c), some d7, some d8, some (.lst (ps'.map D.int)), some (eL A), some (eL B), some (gD rs (ones rs.length)), some (oD (lp rs (ones rs.length) cap A B)), none, none, none, none, none, none]) (h := [o]) (own := [18]) (tg := .nm 18) (cond := .con (.bl true))
    (elt := .call 111 none (.cons (.meth 0 "with_prices" 14 none (.var 12) (.cons (.op (.bi true .tuple) (.cons (.var 18) .nil)) .nil)) (.cons (.var 3) (.cons (.var 11) (.cons (.var 10) .nil)))))
    (f := fun qs => D.lst (qs.map D.int)) (l := [List.replicate rs.length c, ps, ps']) (fun _ => true) (fun qs => oD (lp rs qs cap A B)) hit (size_le (by simp)) (fun a => by cases lp rs a cap A B <;> simp [oD])
    (fun a ha => by
      have oq : VP a rs.length := by
        simp at ha
        rcases ha with rfl | rfl | rfl
        · exact okc
        · exact okp
        · exact okp'
      have el : D.tup (a.map D.int) = eL a := rfl
      refine ⟨[some d0, some (.ref 0), some (.int rs.length), some (.int cap), some (eRR rs), some (.lst (ps.map D.int)), some (.int c), some d7, some d8, some (.lst (ps'.map D.int)), some (eL A), some (eL B), some (gD rs (ones rs.length)), some (oD (lp rs (ones rs.length) cap A B)), none, none, none, none, some (.lst (a.map D.int)), none], by simp, fun acc => ⟨by simp, fun _ => ?_⟩⟩
      simp [ho', el, wp _ _ oq, ll _ _ oq])
  have e3 : (List.filter (fun _ => true) [List.replicate rs.length c, ps, ps']).map (fun qs => oD (lp rs qs cap A B)) = [oD (lp rs (List.replicate rs.length c) cap A B), oD (lp rs ps cap A B), oD (lp rs ps' cap A B)] := by simp
  rw [e3] at told
  rw [← q, b_law_560_R1, ex_seq]
  simp only [fin_f] at told
  simp [l1, told]
theorem law_s {s : List Int} (hs : s.length ≤ 63) (hW : 30000 ≤ W) : ∃ h', (run Γ W (k + 10)).call 560 [.scr s] [] = .ok (.bl true) h' := by
  have B := F.fc.fb
  have P := B.pk
  obtain ⟨o0, p0, e1⟩ := hand_s (W := W) (k := k + 8) (h := []) B (s := s) hs
  obtain ⟨v, o1, p1, v0, v1, e2⟩ := draw2_s (W := W) (k := k + 7) (h := [o0]) (p := 0) B rfl p0 (lim := 6) (by omega) (by omega)
  obtain ⟨cap, o2, p2, c0, c1, e3⟩ := cap_s (W := W) (k := k + 6) (h := [o1]) (p := 0) B rfl p1 (v := 1 + v) (by omega) (by omega)
  obtain ⟨rs, o3, p3, ok, hrl, e4⟩ := net_s (W := W) (k := k + 4) (h := [o2]) (p := 0) B rfl p2 (n := (1 + v).toNat) (by omega) (by omega)
  have hn : (((1 + v).toNat : Nat) : Int) = 1 + v := by omega
  have hrl2 : (rs.length : Int) = 1 + v := by omega
  rw [hn] at e4
  have cs : ∃ ps o', isH o' ∧ VP ps rs.length ∧ ev (run Γ W (k + 9)) (.lc true [17] (.nm 17) (.rng1 (.var 2)) (.con (.bl true)) (.op (.bin true .add) (.cons (.con (.int 1)) (.cons (.call 521 none (.cons (.var 1) (.cons (.con (.int 9)) .nil))) .nil)))) false [some (.scr s), some (.ref 0), some (.int (1 + v)), some (.int cap), some (eRR rs), none, none, none, none, none, none, none, none, none, none, none, none, none, none, none] [o3] = .ok (.lst (ps.map D.int)) [o'] := by
    obtain ⟨acc, h', q1, q2, l, o', q3, q4, q5, q6, q7⟩ := lc_wp (α := Int) (c := run Γ W (k + 9)) (e := [some (.scr s), some (.ref 0), some (.int (1 + v)), some (.int cap), some (eRR rs), none, none, none, none, none, none, none, none, none, none, none, none, none, none, none]) (t := false) (h := [o3]) (own := [17]) (tg := .nm 17) (it := .rng1 (.var 2)) (cond := .con (.bl true)) (elt := .op (.bin true .add) (.cons (.con (.int 1)) (.cons (.call 521 none (.cons (.var 1) (.cons (.con (.int 9)) .nil))) .nil))) (l := rI 0 (1 + v).toNat) (f := D.int)
      (fun done acc h' => ∃ (l : List Int) (o' : Ob), isH o' ∧ l.length = done.length ∧ (∀ p ∈ l, 1 ≤ p ∧ p ≤ 9) ∧ acc = l.map D.int ∧ h' = [o'])
      (evI_r1 (i := 1 + v) (by simp) (by omega) (by omega))
      (size_le (by rw [rI_length]; omega))
      ⟨[], o3, p3, rfl, by simp, rfl, rfl⟩
      (by
        rintro done a acc h' ha ⟨l, o', j1, j2, j3, rfl, rfl⟩ hlen
        obtain ⟨x, o2, d1, d2, d3, d4⟩ := draw2_s (k := k + 7) (W := W) (h := [o', .lst (l.map D.int)]) (p := 0) B rfl j1 (lim := 9) (by omega) (by omega)
        refine ⟨[some (.scr s), some (.ref 0), some (.int (1 + v)), some (.int cap), some (eRR rs), none, none, none, none, none, none, none, none, none, none, none, none, some (.int a), none, none], true, [o'], by simp, by simp, by simp, by simp, fun _ => ⟨.int (1 + x), [o2], ?_, by simp, l ++ [1 + x], o2, d1, by simp [j2], fun y hy => ?_, by simp, rfl⟩⟩
        · simp at d4
          simp [d4]
        · rcases List.mem_append.mp hy with m | m
          · exact j3 y m
          · rw [List.mem_singleton] at m; omega)
      (by
        rintro acc h' ⟨l, o', j1, j2, j3, rfl, rfl⟩ hlen
        refine ⟨?_, 0, o', rfl, j1.pure⟩
        exact pures_mapF fun l => rfl)
    subst q6 q7
    refine ⟨l, o', q3, ⟨by rw [q4, rI_length]; omega, q5⟩, ?_⟩
    simpa using q1
  obtain ⟨ps, o4, p4, okp, e5⟩ := cs
  obtain ⟨t, o5, p5, t0, t1, e6⟩ := draw2_s (W := W) (k := k + 7) (h := [o4]) (p := 0) B rfl p4 (lim := 9) (by omega) (by omega)
  obtain ⟨at', o6, p6, a0, a1, e7⟩ := draw2_s (W := W) (k := k + 7) (h := [o5]) (p := 0) B rfl p5 (lim := 1 + v) (by omega) (by omega)
  have al : at' < ps.length := by rw [okp.len]; omega
  have pr := okp.pr _ (gI_mem a0 al)
  obtain ⟨m, o7, p7, m0, m1, e8⟩ := draw2_s (W := W) (k := k + 7) (h := [o6]) (p := 0) B rfl p6 (lim := 10 - gI ps at') (by omega) (by omega)
  obtain ⟨A, o8, p8, hA, e9⟩ := root_s (W := W) (k := k + 5) (h := [o7]) (p := 0) B rfl p7 (v := 1 + v) (by omega) (by omega)
  obtain ⟨Bm, o9, p9, hB, e10⟩ := place_s (W := W) (k := k + 6) (h := [o8]) (p := 0) B rfl p8 (v := 1 + v) (by omega) (by omega)
  have e11 := graph_init0 (W := W) (k := k + 3) (h := [o9]) P ok
  have hg : D.ins 0 [eRR rs, eL (ones rs.length), .int rs.length] = gD rs (ones rs.length) := rfl
  rw [← hrl2] at hA hB
  have okp' : VP (ps.set at'.toNat (gI ps at' + m)) rs.length := ⟨by simpa using okp.len, fun x hx => by
    rcases List.mem_or_eq_of_mem_set hx with h | h
    · exact okp.pr x h
    · omega⟩
  have q := r1 (k := k) (o := o9) (d0 := .scr s) (d7 := .int at') (d8 := .int (gI ps at' + m)) (ps := ps) (ps' := ps.set at'.toNat (gI ps at' + m)) (c := 1 + t) (A := A) (B := Bm) F p9 ok okp okp' (by omega) (by omega) (fun w w0 w1 => by
    rw [gI_set a0 al w0]
    by_cases c : w = at'
    · subst c; rw [if_pos rfl]; omega
    · rw [if_neg c]; exact Int.le_refl _) c0 (by omega) hA hB hW
  have c1' := cut_to (s := ps.map D.int) a0
  have c2' := cut_from (s := ps.map D.int) (i := at' + 1) (by omega)
  have hs' : (ps.map D.int).take at'.toNat ++ (D.int (gI ps at' + m) :: (ps.map D.int).drop (at' + 1).toNat) = (ps.set at'.toNat (gI ps at' + m)).map D.int := by
    rw [show (at' + 1).toNat = at'.toNat + 1 from by omega, ← set_cut (x := gI ps at' + m) (by omega : at'.toNat < ps.length), List.map_append, List.map_append, List.map_take, List.map_drop]
    simp
  have z1 : min at'.toNat ps.length + 1 ≤ sizeLine := size_le (by have := okp.len; omega)
  have z2 : min at'.toNat ps.length + 1 + (ps.length - (at' + 1).toNat) ≤ sizeLine := size_le (by have := okp.len; omega)
  refine ⟨[], ?_⟩
  rw [hrl2] at q e11 hg
  simp at e1 e2 e3 e4 e6 e7 e8 e9 e10 e11
  rw [call_of F.law, f560, ← q]
  simp [callF_eqn, b_law_560, e1, e2, e3, e4, e5, e6, e7, e8, e9, e10, e11, gc_ins1, hg, a0, al, c1', c2', hs', z1, z2]
end
end N9

namespace G9
open PySem PySem.Spec L2 N9
set_option maxHeartbeats 0
def top (i : Nat) : Stmt := PySem.Challenge.pw_cleanhelpers_k60_prices_scale.main.body.getD i (.Pass ⟨0, 0, 0, 0⟩)
def d1 : FD := ⟨"is_integer", "is_integer", (top 15), ["thing"], ["thing"], (⟨1, 1, .pure, b_is_integer⟩ : Df)⟩
def d2 : FD := ⟨"is_ascending", "is_ascending", (top 16), ["thing", "size", "last", "value"], ["thing", "size"], (⟨2, 4, .pure, b_is_ascending⟩ : Df)⟩
def d3 : FD := ⟨"is_value", "is_value", (top 17), ["graph", "thing"], ["graph", "thing"], (⟨2, 2, .pure, b_is_value⟩ : Df)⟩
def d4 : FD := ⟨"judge_value", "judge_value", (top 19), ["graph", "thing"], ["graph", "thing"], (⟨2, 2, .pure, b_judge_value⟩ : Df)⟩
def d5 : FD := ⟨"are_recipes_of", "are_recipes_of", (top 34), ["thing", "value", "seen", "recipe"], ["thing", "value"], (⟨2, 4, .pure, b_are_recipes_of⟩ : Df)⟩
def d6 : FD := ⟨"are_recipes", "are_recipes", (top 35), ["thing", "value", "row"], ["thing"], (⟨1, 3, .pure, b_are_recipes⟩ : Df)⟩
def d7 : FD := ⟨"are_prices", "are_prices", (top 36), ["thing", "size", "price"], ["thing", "size"], (⟨2, 3, .pure, b_are_prices⟩ : Df)⟩
def d9 : FD := ⟨"__init__", "Graph.__init__", (inClass (top 38) 0), ["self", "recipes", "prices"], ["self", "recipes", "prices"], (⟨3, 3, .keep, b_Graph___init__⟩ : Df)⟩
def d14 : FD := ⟨"with_prices", "Graph.with_prices", (inClass (top 38) 8), ["self", "prices"], ["self", "prices"], (⟨2, 2, .pure, b_Graph_with_prices⟩ : Df)⟩
def d16 : FD := ⟨"is_lot", "is_lot", (top 18), ["graph", "thing"], ["graph", "thing"], (⟨2, 2, .pure, b_is_lot⟩ : Df)⟩
def d17 : FD := ⟨"judge_lot", "judge_lot", (top 20), ["graph", "thing"], ["graph", "thing"], (⟨2, 2, .pure, b_judge_lot⟩ : Df)⟩
def d18 : FD := ⟨"judge_rooms", "judge_rooms", (top 21), ["thing"], ["thing"], (⟨1, 1, .pure, b_judge_rooms⟩ : Df)⟩
def d19 : FD := ⟨"holds", "holds", (top 22), ["lot", "recipe", "part"], ["lot", "recipe"], (⟨2, 3, .pure, b_holds⟩ : Df)⟩
def d20 : FD := ⟨"enabled", "enabled", (top 23), ["recipes", "lot", "value", "recipe"], ["recipes", "lot", "value"], (⟨3, 4, .pure, b_enabled⟩ : Df)⟩
def d21 : FD := ⟨"toggled", "toggled", (top 24), ["lot", "value", "kept"], ["lot", "value"], (⟨2, 3, .pure, b_toggled⟩ : Df)⟩
def d36 : FD := ⟨"with_row", "Graph.with_row", (inClass (top 38) 5), ["self", "value", "row", "recipes"], ["self", "value", "row"], (⟨3, 4, .pure, b_Graph_with_row⟩ : Df)⟩
def d37 : FD := ⟨"with_recipe", "Graph.with_recipe", (inClass (top 38) 6), ["self", "value", "recipe", "row"], ["self", "value", "recipe"], (⟨3, 4, .pure, b_Graph_with_recipe⟩ : Df)⟩
def d38 : FD := ⟨"without_recipe", "Graph.without_recipe", (inClass (top 38) 7), ["self", "value", "recipe", "row", "kept"], ["self", "value", "recipe"], (⟨3, 5, .pure, b_Graph_without_recipe⟩ : Df)⟩
def d105 : FD := ⟨"heappush", "heappush", (top 2), ["heap", "item", "at", "above", "held"], ["heap", "item"], (⟨2, 5, .pure, b_heappush⟩ : Df)⟩
def d106 : FD := ⟨"least_place", "least_place", (top 3), ["heap", "at", "best", "below"], ["heap", "at"], (⟨2, 4, .pure, b_least_place⟩ : Df)⟩
def d107 : FD := ⟨"heappop", "heappop", (top 4), ["heap", "last", "first", "at", "below", "held"], ["heap"], (⟨1, 6, .pure, b_heappop⟩ : Df)⟩
def d108 : FD := ⟨"neighbours", "neighbours", (top 26), ["recipes", "rooms", "lot", "pairs", "value", "behind"], ["recipes", "rooms", "lot"], (⟨3, 6, .frz, b_neighbours⟩ : Df)⟩
def d109 : FD := ⟨"distances", "distances", (top 27), ["recipes", "prices", "rooms", "start", "settled", "queue", "price", "lot", "value", "behind"], ["recipes", "prices", "rooms", "start"], (⟨4, 10, .one, b_distances⟩ : Df)⟩
def d110 : FD := ⟨"judge_ends", "judge_ends", (top 28), ["graph", "rooms", "goal", "start"], ["graph", "rooms", "goal", "start"], (⟨4, 4, .pure, b_judge_ends⟩ : Df)⟩
def d111 : FD := ⟨"least", "least", (top 29), ["graph", "rooms", "goal", "start"], ["graph", "rooms", "goal", "start"], (⟨4, 4, .pure, b_least⟩ : Df)⟩
def d518 : FD := ⟨"_law_integer", "_law_integer", (top 40), ["_law_thing"], ["_law_thing"], f518⟩
def d519 : FD := ⟨"_law_hand", "_law_hand", (top 41), ["_law_script"], ["_law_script"], f519⟩
def d520 : FD := ⟨"_law_mixed", "_law_mixed", (top 42), ["_law_seed", "_law_turn", "_law_mixed_here"], ["_law_seed", "_law_turn"], f520⟩
def d521 : FD := ⟨"_law_draw", "_law_draw", (top 43), ["_law_hand_here", "_law_many", "_law_cell", "_law_digit"], ["_law_hand_here", "_law_many"], f521⟩
def d522 : FD := ⟨"_law_one_recipe", "_law_one_recipe", (top 44), ["_law_hand_here", "_law_item", "_law_shape", "_law_mask", "_law_other", "_law_part"], ["_law_hand_here", "_law_item"], f522⟩
def d523 : FD := ⟨"_law_cap", "_law_cap", (top 45), ["_law_hand_here", "_law_size", "_law_cap_here"], ["_law_hand_here", "_law_size"], f523⟩
def d524 : FD := ⟨"_law_net", "_law_net", (top 46), ["_law_hand_here", "_law_size", "_law_net_here", "_law_is_row", "_law_item", "_law_row", "_law_k", "_law_made"], ["_law_hand_here", "_law_size"], f524⟩
def d526 : FD := ⟨"_law_place", "_law_place", (top 48), ["_law_hand_here", "_law_size", "_law_mask", "_law_item"], ["_law_hand_here", "_law_size"], f526⟩
def d527 : FD := ⟨"_law_root", "_law_root", (top 49), ["_law_hand_here", "_law_size"], ["_law_hand_here", "_law_size"], f527⟩
def d559 : FD := ⟨"_law_recipes_hold", "_law_recipes_hold", (top 50), ["_law_hand_here", "_law_net_here", "_law_costs_here", "_law_cap_here", "_law_root_here", "_law_aim", "_law_web", "_law_item", "_law_made", "_law_told", "_law_turned", "_law_wider", "_law_fewer", "_law_row"], ["_law_hand_here", "_law_net_here", "_law_costs_here", "_law_cap_here", "_law_root_here", "_law_aim"], f559⟩
def d560 : FD := ⟨"law", "law", (top 51), ["_law_script", "_law_hand_here", "_law_size", "_law_cap_here", "_law_net_here", "_law_costs_here", "_law_times", "_law_at", "_law_more", "_law_raised", "_law_root_here", "_law_aim", "_law_plain", "_law_ones", "_law_told", "_law_price", "_law_apart", "_law_k", "_law_row", "_law_item"], ["_law_script"], f560⟩
def fd : Nat → FD
  | 1 => d1
  | 2 => d2
  | 3 => d3
  | 4 => d4
  | 5 => d5
  | 6 => d6
  | 7 => d7
  | 9 => d9
  | 14 => d14
  | 16 => d16
  | 17 => d17
  | 18 => d18
  | 19 => d19
  | 20 => d20
  | 21 => d21
  | 36 => d36
  | 37 => d37
  | 38 => d38
  | 105 => d105
  | 106 => d106
  | 107 => d107
  | 108 => d108
  | 109 => d109
  | 110 => d110
  | 111 => d111
  | 518 => d518
  | 519 => d519
  | 520 => d520
  | 521 => d521
  | 522 => d522
  | 523 => d523
  | 524 => d524
  | 526 => d526
  | 527 => d527
  | 559 => d559
  | 560 => d560
  | _ => d560
def fs : List Nat := [1, 2, 3, 4, 5, 6, 7, 9, 14, 16, 17, 18, 19, 20, 21, 36, 37, 38, 105, 106, 107, 108, 109, 110, 111, 518, 519, 520, 521, 522, 523, 524, 526, 527, 559, 560]
def shs : List Shp := [⟨1, 1, [], none⟩, ⟨3, 2, [], none⟩, ⟨2, 2, [], none⟩, ⟨5, 2, [], none⟩, ⟨7, 2, [], none⟩, ⟨6, 1, [], none⟩, ⟨9, 2, ["prices"], none⟩, ⟨16, 2, [], none⟩, ⟨19, 2, [], none⟩, ⟨36, 3, [], none⟩, ⟨4, 2, [], none⟩, ⟨106, 2, [], none⟩, ⟨20, 3, [], none⟩, ⟨21, 2, [], none⟩, ⟨108, 3, [], none⟩, ⟨105, 2, [], none⟩, ⟨107, 1, [], none⟩, ⟨17, 2, [], none⟩, ⟨18, 1, [], none⟩, ⟨109, 4, [], none⟩, ⟨110, 4, [], none⟩, ⟨520, 2, [], none⟩, ⟨521, 2, [], none⟩, ⟨522, 2, [], none⟩, ⟨526, 2, [], none⟩, ⟨111, 4, [], none⟩, ⟨518, 1, [], none⟩, ⟨38, 3, [], none⟩, ⟨37, 3, [], none⟩, ⟨559, 6, [], none⟩, ⟨14, 2, [], none⟩, ⟨9, 2, [], (some [.inl 0, .inl 1, .inr false])⟩, ⟨527, 2, [], none⟩, ⟨524, 2, [], none⟩, ⟨523, 2, [], none⟩, ⟨519, 1, [], none⟩]
def T : Tab where
  fn := fun f => match f with
    | 1 => "is_integer"
    | 2 => "is_ascending"
    | 3 => "is_value"
    | 4 => "judge_value"
    | 5 => "are_recipes_of"
    | 6 => "are_recipes"
    | 7 => "are_prices"
    | 16 => "is_lot"
    | 17 => "judge_lot"
    | 18 => "judge_rooms"
    | 19 => "holds"
    | 20 => "enabled"
    | 21 => "toggled"
    | 105 => "heappush"
    | 106 => "least_place"
    | 107 => "heappop"
    | 108 => "neighbours"
    | 109 => "distances"
    | 110 => "judge_ends"
    | 111 => "least"
    | 518 => "_law_integer"
    | 519 => "_law_hand"
    | 520 => "_law_mixed"
    | 521 => "_law_draw"
    | 522 => "_law_one_recipe"
    | 523 => "_law_cap"
    | 524 => "_law_net"
    | 526 => "_law_place"
    | 527 => "_law_root"
    | 559 => "_law_recipes_hold"
    | 560 => "law"
    | _ => ""
  np := fun f => (fd f).ps.length
  gf := fun f => [1, 2, 3, 4, 5, 6, 7, 16, 17, 18, 19, 20, 21, 105, 106, 107, 108, 109, 110, 111, 518, 519, 520, 521, 522, 523, 524, 526, 527, 559, 560].contains f
  co := fun x => if x = "MOST_PRICE" then some (.int 9) else if x = "MOST_RECIPES" then some (.int 4) else if x = "MOST_ROOMS" then some (.int 10) else if x = "MOST_VALUES" then some (.int 10) else none
  bl := ["bool", "enumerate", "int", "isinstance", "len", "list", "max", "min", "range", "sorted", "tuple"]
  cn := fun c => match c with
    | 0 => ["recipes", "prices", "size"]
    | _ => []
  cname := fun c => match c with
    | 0 => "Graph"
    | _ => ""
  ncl := [0]
  mt := fun c m => if c = 0 ∧ m = "__init__" then some 9 else if c = 0 ∧ m = "with_prices" then some 14 else if c = 0 ∧ m = "with_recipe" then some 37 else if c = 0 ∧ m = "with_row" then some 36 else if c = 0 ∧ m = "without_recipe" then some 38 else none
  shs := shs
theorem checked : fs.all (fun f => fdB T f (fd f)) = true := by decide +kernel
theorem hok : ∀ f ∈ fs, fdB T f (fd f) = true := fun f hf => List.all_eq_true.mp checked f hf
theorem hshB : shs.all (fun s => fs.contains s.f) = true := by decide +kernel
theorem hsh : ∀ s ∈ T.shs, s.f ∈ fs := fun s hs => List.contains_iff_mem.mp (List.all_eq_true.mp hshB s hs)
def tab : List (Nat × Df) := [(518, f518), (519, f519), (520, f520), (521, f521), (522, f522), (523, f523), (524, f524), (525, f525), (526, f526), (527, f527), (528, f528), (529, f529), (530, f530), (538, f538), (546, f546), (559, f559), (560, f560)]
def Gam : Nat → Option Df := gamT tab
theorem hGam : ∀ f ∈ fs, Gam f = some (fd f).df := by
  intro f hf
  simp only [fs, List.mem_cons, List.not_mem_nil, or_false] at hf
  rcases hf with rfl | rfl | rfl | rfl | rfl | rfl | rfl | rfl | rfl | rfl | rfl | rfl | rfl | rfl | rfl | rfl | rfl | rfl | rfl | rfl | rfl | rfl | rfl | rfl | rfl | rfl | rfl | rfl | rfl | rfl | rfl | rfl | rfl | rfl | rfl | rfl <;> rfl
theorem facts {K : PySem.W.Frag} {h : Heap} {mg : Str → Option Value} (X : K.In h) (G : h.Ns mainGlobals mg)
    {f1 f2 f3 f4 f5 f6 f7 f9 f14 f16 f17 f18 f19 f20 f21 f36 f37 f38 f105 f106 f107 f108 f109 f110 f111 f518 f519 f520 f521 f522 f523 f524 f526 f527 f559 f560 c0 : Addr}
    {od1 an1 : Option Addr} {sl1 : Array (Option Value)} {oc1 kV1 dc1 pm1 cd1 ct1 : Value}
    {od2 an2 : Option Addr} {sl2 : Array (Option Value)} {oc2 kV2 dc2 pm2 cd2 ct2 : Value}
    {od3 an3 : Option Addr} {sl3 : Array (Option Value)} {oc3 kV3 dc3 pm3 cd3 ct3 : Value}
    {od4 an4 : Option Addr} {sl4 : Array (Option Value)} {oc4 kV4 dc4 pm4 cd4 ct4 : Value}
    {od5 an5 : Option Addr} {sl5 : Array (Option Value)} {oc5 kV5 dc5 pm5 cd5 ct5 : Value}
    {od6 an6 : Option Addr} {sl6 : Array (Option Value)} {oc6 kV6 dc6 pm6 cd6 ct6 : Value}
    {od7 an7 : Option Addr} {sl7 : Array (Option Value)} {oc7 kV7 dc7 pm7 cd7 ct7 : Value}
    {od9 an9 : Option Addr} {sl9 : Array (Option Value)} {oc9 dc9 pm9 cd9 ct9 : Value}
    {od14 an14 : Option Addr} {sl14 : Array (Option Value)} {oc14 kV14 dc14 pm14 cd14 ct14 : Value}
    {od16 an16 : Option Addr} {sl16 : Array (Option Value)} {oc16 kV16 dc16 pm16 cd16 ct16 : Value}
    {od17 an17 : Option Addr} {sl17 : Array (Option Value)} {oc17 kV17 dc17 pm17 cd17 ct17 : Value}
    {od18 an18 : Option Addr} {sl18 : Array (Option Value)} {oc18 kV18 dc18 pm18 cd18 ct18 : Value}
    {od19 an19 : Option Addr} {sl19 : Array (Option Value)} {oc19 kV19 dc19 pm19 cd19 ct19 : Value}
    {od20 an20 : Option Addr} {sl20 : Array (Option Value)} {oc20 kV20 dc20 pm20 cd20 ct20 : Value}
    {od21 an21 : Option Addr} {sl21 : Array (Option Value)} {oc21 kV21 dc21 pm21 cd21 ct21 : Value}
    {od36 an36 : Option Addr} {sl36 : Array (Option Value)} {oc36 kV36 dc36 pm36 cd36 ct36 : Value}
    {od37 an37 : Option Addr} {sl37 : Array (Option Value)} {oc37 kV37 dc37 pm37 cd37 ct37 : Value}
    {od38 an38 : Option Addr} {sl38 : Array (Option Value)} {oc38 kV38 dc38 pm38 cd38 ct38 : Value}
    {od105 an105 : Option Addr} {sl105 : Array (Option Value)} {oc105 kV105 dc105 pm105 cd105 ct105 : Value}
    {od106 an106 : Option Addr} {sl106 : Array (Option Value)} {oc106 kV106 dc106 pm106 cd106 ct106 : Value}
    {od107 an107 : Option Addr} {sl107 : Array (Option Value)} {oc107 kV107 dc107 pm107 cd107 ct107 : Value}
    {od108 an108 : Option Addr} {sl108 : Array (Option Value)} {oc108 kV108 dc108 pm108 cd108 ct108 : Value}
    {od109 an109 : Option Addr} {sl109 : Array (Option Value)} {oc109 kV109 dc109 pm109 cd109 ct109 : Value}
    {od110 an110 : Option Addr} {sl110 : Array (Option Value)} {oc110 kV110 dc110 pm110 cd110 ct110 : Value}
    {od111 an111 : Option Addr} {sl111 : Array (Option Value)} {oc111 kV111 dc111 pm111 cd111 ct111 : Value}
    {od518 an518 : Option Addr} {sl518 : Array (Option Value)} {oc518 kV518 dc518 pm518 cd518 ct518 : Value}
    {od519 an519 : Option Addr} {sl519 : Array (Option Value)} {oc519 kV519 dc519 pm519 cd519 ct519 : Value}
    {od520 an520 : Option Addr} {sl520 : Array (Option Value)} {oc520 kV520 dc520 pm520 cd520 ct520 : Value}
    {od521 an521 : Option Addr} {sl521 : Array (Option Value)} {oc521 kV521 dc521 pm521 cd521 ct521 : Value}
    {od522 an522 : Option Addr} {sl522 : Array (Option Value)} {oc522 kV522 dc522 pm522 cd522 ct522 : Value}
    {od523 an523 : Option Addr} {sl523 : Array (Option Value)} {oc523 kV523 dc523 pm523 cd523 ct523 : Value}
    {od524 an524 : Option Addr} {sl524 : Array (Option Value)} {oc524 kV524 dc524 pm524 cd524 ct524 : Value}
    {od526 an526 : Option Addr} {sl526 : Array (Option Value)} {oc526 kV526 dc526 pm526 cd526 ct526 : Value}
    {od527 an527 : Option Addr} {sl527 : Array (Option Value)} {oc527 kV527 dc527 pm527 cd527 ct527 : Value}
    {od559 an559 : Option Addr} {sl559 : Array (Option Value)} {oc559 kV559 dc559 pm559 cd559 ct559 : Value}
    {od560 an560 : Option Addr} {sl560 : Array (Option Value)} {oc560 kV560 dc560 pm560 cd560 ct560 : Value}
    {t_MOST_PRICE t_MOST_RECIPES t_MOST_ROOMS t_MOST_VALUES : Tok}
    {kD9 : Addr}
    {dT111 : Addr} {oT111 : Obj} {nT111 : Nat}
    {eT111 : Addr} {oE111 : Obj} {nE111 : Nat}
    (ca0 : PySem.W.nsIn K mainGlobals "Graph" = some (some (.ref c0)))
    (a1 : PySem.W.nsIn K mainGlobals "is_integer" = some (some (.ref f1)))
    (a2 : PySem.W.nsIn K mainGlobals "is_ascending" = some (some (.ref f2)))
    (a3 : PySem.W.nsIn K mainGlobals "is_value" = some (some (.ref f3)))
    (a4 : PySem.W.nsIn K mainGlobals "judge_value" = some (some (.ref f4)))
    (a5 : PySem.W.nsIn K mainGlobals "are_recipes_of" = some (some (.ref f5)))
    (a6 : PySem.W.nsIn K mainGlobals "are_recipes" = some (some (.ref f6)))
    (a7 : PySem.W.nsIn K mainGlobals "are_prices" = some (some (.ref f7)))
    (a16 : PySem.W.nsIn K mainGlobals "is_lot" = some (some (.ref f16)))
    (a17 : PySem.W.nsIn K mainGlobals "judge_lot" = some (some (.ref f17)))
    (a18 : PySem.W.nsIn K mainGlobals "judge_rooms" = some (some (.ref f18)))
    (a19 : PySem.W.nsIn K mainGlobals "holds" = some (some (.ref f19)))
    (a20 : PySem.W.nsIn K mainGlobals "enabled" = some (some (.ref f20)))
    (a21 : PySem.W.nsIn K mainGlobals "toggled" = some (some (.ref f21)))
    (a105 : PySem.W.nsIn K mainGlobals "heappush" = some (some (.ref f105)))
    (a106 : PySem.W.nsIn K mainGlobals "least_place" = some (some (.ref f106)))
    (a107 : PySem.W.nsIn K mainGlobals "heappop" = some (some (.ref f107)))
    (a108 : PySem.W.nsIn K mainGlobals "neighbours" = some (some (.ref f108)))
    (a109 : PySem.W.nsIn K mainGlobals "distances" = some (some (.ref f109)))
    (a110 : PySem.W.nsIn K mainGlobals "judge_ends" = some (some (.ref f110)))
    (a111 : PySem.W.nsIn K mainGlobals "least" = some (some (.ref f111)))
    (a518 : PySem.W.nsIn K mainGlobals "_law_integer" = some (some (.ref f518)))
    (a519 : PySem.W.nsIn K mainGlobals "_law_hand" = some (some (.ref f519)))
    (a520 : PySem.W.nsIn K mainGlobals "_law_mixed" = some (some (.ref f520)))
    (a521 : PySem.W.nsIn K mainGlobals "_law_draw" = some (some (.ref f521)))
    (a522 : PySem.W.nsIn K mainGlobals "_law_one_recipe" = some (some (.ref f522)))
    (a523 : PySem.W.nsIn K mainGlobals "_law_cap" = some (some (.ref f523)))
    (a524 : PySem.W.nsIn K mainGlobals "_law_net" = some (some (.ref f524)))
    (a526 : PySem.W.nsIn K mainGlobals "_law_place" = some (some (.ref f526)))
    (a527 : PySem.W.nsIn K mainGlobals "_law_root" = some (some (.ref f527)))
    (a559 : PySem.W.nsIn K mainGlobals "_law_recipes_hold" = some (some (.ref f559)))
    (a560 : PySem.W.nsIn K mainGlobals "law" = some (some (.ref f560)))
    (a9 : PySem.W.findIn K (.ref c0) "__init__" = some (some (.ref f9)))
    (i9 : PySem.W.isFn K (.ref f9) = true)
    (a14 : PySem.W.findIn K (.ref c0) "with_prices" = some (some (.ref f14)))
    (i14 : PySem.W.isFn K (.ref f14) = true)
    (a36 : PySem.W.findIn K (.ref c0) "with_row" = some (some (.ref f36)))
    (i36 : PySem.W.isFn K (.ref f36) = true)
    (a37 : PySem.W.findIn K (.ref c0) "with_recipe" = some (some (.ref f37)))
    (i37 : PySem.W.isFn K (.ref f37) = true)
    (a38 : PySem.W.findIn K (.ref c0) "without_recipe" = some (some (.ref f38)))
    (i38 : PySem.W.isFn K (.ref f38) = true)
    (l1 : K.lookup f1 = some ⟨oc1, od1, .func (PySem.W.fnOf "is_integer" "is_integer" (defArgs d1.st) (defBody d1.st) (defScope d1.st) .none kV1 dc1 pm1 an1 cd1 ct1), sl1⟩)
    (g1 : PySem.W.codeIn K cd1 "is_integer" = true)
    (k1 : PySem.W.keepIn K (.ref f1) = true)
    (l2 : K.lookup f2 = some ⟨oc2, od2, .func (PySem.W.fnOf "is_ascending" "is_ascending" (defArgs d2.st) (defBody d2.st) (defScope d2.st) .none kV2 dc2 pm2 an2 cd2 ct2), sl2⟩)
    (g2 : PySem.W.codeIn K cd2 "is_ascending" = true)
    (k2 : PySem.W.keepIn K (.ref f2) = true)
    (l3 : K.lookup f3 = some ⟨oc3, od3, .func (PySem.W.fnOf "is_value" "is_value" (defArgs d3.st) (defBody d3.st) (defScope d3.st) .none kV3 dc3 pm3 an3 cd3 ct3), sl3⟩)
    (g3 : PySem.W.codeIn K cd3 "is_value" = true)
    (k3 : PySem.W.keepIn K (.ref f3) = true)
    (l4 : K.lookup f4 = some ⟨oc4, od4, .func (PySem.W.fnOf "judge_value" "judge_value" (defArgs d4.st) (defBody d4.st) (defScope d4.st) .none kV4 dc4 pm4 an4 cd4 ct4), sl4⟩)
    (g4 : PySem.W.codeIn K cd4 "judge_value" = true)
    (k4 : PySem.W.keepIn K (.ref f4) = true)
    (l5 : K.lookup f5 = some ⟨oc5, od5, .func (PySem.W.fnOf "are_recipes_of" "are_recipes_of" (defArgs d5.st) (defBody d5.st) (defScope d5.st) .none kV5 dc5 pm5 an5 cd5 ct5), sl5⟩)
    (g5 : PySem.W.codeIn K cd5 "are_recipes_of" = true)
    (k5 : PySem.W.keepIn K (.ref f5) = true)
    (l6 : K.lookup f6 = some ⟨oc6, od6, .func (PySem.W.fnOf "are_recipes" "are_recipes" (defArgs d6.st) (defBody d6.st) (defScope d6.st) .none kV6 dc6 pm6 an6 cd6 ct6), sl6⟩)
    (g6 : PySem.W.codeIn K cd6 "are_recipes" = true)
    (k6 : PySem.W.keepIn K (.ref f6) = true)
    (l7 : K.lookup f7 = some ⟨oc7, od7, .func (PySem.W.fnOf "are_prices" "are_prices" (defArgs d7.st) (defBody d7.st) (defScope d7.st) .none kV7 dc7 pm7 an7 cd7 ct7), sl7⟩)
    (g7 : PySem.W.codeIn K cd7 "are_prices" = true)
    (k7 : PySem.W.keepIn K (.ref f7) = true)
    (l9 : K.lookup f9 = some ⟨oc9, od9, .func (PySem.W.fnOf "__init__" "Graph.__init__" (defArgs d9.st) (defBody d9.st) (defScope d9.st) .none (.ref kD9) dc9 pm9 an9 cd9 ct9), sl9⟩)
    (g9 : PySem.W.codeIn K cd9 "Graph.__init__" = true)
    (k9 : PySem.W.keepIn K (.ref f9) = true)
    (kd9 : PySem.W.nsIn K kD9 "prices" = some (some .none))
    (l14 : K.lookup f14 = some ⟨oc14, od14, .func (PySem.W.fnOf "with_prices" "Graph.with_prices" (defArgs d14.st) (defBody d14.st) (defScope d14.st) .none kV14 dc14 pm14 an14 cd14 ct14), sl14⟩)
    (g14 : PySem.W.codeIn K cd14 "Graph.with_prices" = true)
    (k14 : PySem.W.keepIn K (.ref f14) = true)
    (l16 : K.lookup f16 = some ⟨oc16, od16, .func (PySem.W.fnOf "is_lot" "is_lot" (defArgs d16.st) (defBody d16.st) (defScope d16.st) .none kV16 dc16 pm16 an16 cd16 ct16), sl16⟩)
    (g16 : PySem.W.codeIn K cd16 "is_lot" = true)
    (k16 : PySem.W.keepIn K (.ref f16) = true)
    (l17 : K.lookup f17 = some ⟨oc17, od17, .func (PySem.W.fnOf "judge_lot" "judge_lot" (defArgs d17.st) (defBody d17.st) (defScope d17.st) .none kV17 dc17 pm17 an17 cd17 ct17), sl17⟩)
    (g17 : PySem.W.codeIn K cd17 "judge_lot" = true)
    (k17 : PySem.W.keepIn K (.ref f17) = true)
    (l18 : K.lookup f18 = some ⟨oc18, od18, .func (PySem.W.fnOf "judge_rooms" "judge_rooms" (defArgs d18.st) (defBody d18.st) (defScope d18.st) .none kV18 dc18 pm18 an18 cd18 ct18), sl18⟩)
    (g18 : PySem.W.codeIn K cd18 "judge_rooms" = true)
    (k18 : PySem.W.keepIn K (.ref f18) = true)
    (l19 : K.lookup f19 = some ⟨oc19, od19, .func (PySem.W.fnOf "holds" "holds" (defArgs d19.st) (defBody d19.st) (defScope d19.st) .none kV19 dc19 pm19 an19 cd19 ct19), sl19⟩)
    (g19 : PySem.W.codeIn K cd19 "holds" = true)
    (k19 : PySem.W.keepIn K (.ref f19) = true)
    (l20 : K.lookup f20 = some ⟨oc20, od20, .func (PySem.W.fnOf "enabled" "enabled" (defArgs d20.st) (defBody d20.st) (defScope d20.st) .none kV20 dc20 pm20 an20 cd20 ct20), sl20⟩)
    (g20 : PySem.W.codeIn K cd20 "enabled" = true)
    (k20 : PySem.W.keepIn K (.ref f20) = true)
    (l21 : K.lookup f21 = some ⟨oc21, od21, .func (PySem.W.fnOf "toggled" "toggled" (defArgs d21.st) (defBody d21.st) (defScope d21.st) .none kV21 dc21 pm21 an21 cd21 ct21), sl21⟩)
    (g21 : PySem.W.codeIn K cd21 "toggled" = true)
    (k21 : PySem.W.keepIn K (.ref f21) = true)
    (l36 : K.lookup f36 = some ⟨oc36, od36, .func (PySem.W.fnOf "with_row" "Graph.with_row" (defArgs d36.st) (defBody d36.st) (defScope d36.st) .none kV36 dc36 pm36 an36 cd36 ct36), sl36⟩)
    (g36 : PySem.W.codeIn K cd36 "Graph.with_row" = true)
    (k36 : PySem.W.keepIn K (.ref f36) = true)
    (l37 : K.lookup f37 = some ⟨oc37, od37, .func (PySem.W.fnOf "with_recipe" "Graph.with_recipe" (defArgs d37.st) (defBody d37.st) (defScope d37.st) .none kV37 dc37 pm37 an37 cd37 ct37), sl37⟩)
    (g37 : PySem.W.codeIn K cd37 "Graph.with_recipe" = true)
    (k37 : PySem.W.keepIn K (.ref f37) = true)
    (l38 : K.lookup f38 = some ⟨oc38, od38, .func (PySem.W.fnOf "without_recipe" "Graph.without_recipe" (defArgs d38.st) (defBody d38.st) (defScope d38.st) .none kV38 dc38 pm38 an38 cd38 ct38), sl38⟩)
    (g38 : PySem.W.codeIn K cd38 "Graph.without_recipe" = true)
    (k38 : PySem.W.keepIn K (.ref f38) = true)
    (l105 : K.lookup f105 = some ⟨oc105, od105, .func (PySem.W.fnOf "heappush" "heappush" (defArgs d105.st) (defBody d105.st) (defScope d105.st) .none kV105 dc105 pm105 an105 cd105 ct105), sl105⟩)
    (g105 : PySem.W.codeIn K cd105 "heappush" = true)
    (k105 : PySem.W.keepIn K (.ref f105) = true)
    (l106 : K.lookup f106 = some ⟨oc106, od106, .func (PySem.W.fnOf "least_place" "least_place" (defArgs d106.st) (defBody d106.st) (defScope d106.st) .none kV106 dc106 pm106 an106 cd106 ct106), sl106⟩)
    (g106 : PySem.W.codeIn K cd106 "least_place" = true)
    (k106 : PySem.W.keepIn K (.ref f106) = true)
    (l107 : K.lookup f107 = some ⟨oc107, od107, .func (PySem.W.fnOf "heappop" "heappop" (defArgs d107.st) (defBody d107.st) (defScope d107.st) .none kV107 dc107 pm107 an107 cd107 ct107), sl107⟩)
    (g107 : PySem.W.codeIn K cd107 "heappop" = true)
    (k107 : PySem.W.keepIn K (.ref f107) = true)
    (l108 : K.lookup f108 = some ⟨oc108, od108, .func (PySem.W.fnOf "neighbours" "neighbours" (defArgs d108.st) (defBody d108.st) (defScope d108.st) .none kV108 dc108 pm108 an108 cd108 ct108), sl108⟩)
    (g108 : PySem.W.codeIn K cd108 "neighbours" = true)
    (k108 : PySem.W.keepIn K (.ref f108) = true)
    (l109 : K.lookup f109 = some ⟨oc109, od109, .func (PySem.W.fnOf "distances" "distances" (defArgs d109.st) (defBody d109.st) (defScope d109.st) .none kV109 dc109 pm109 an109 cd109 ct109), sl109⟩)
    (g109 : PySem.W.codeIn K cd109 "distances" = true)
    (k109 : PySem.W.keepIn K (.ref f109) = true)
    (l110 : K.lookup f110 = some ⟨oc110, od110, .func (PySem.W.fnOf "judge_ends" "judge_ends" (defArgs d110.st) (defBody d110.st) (defScope d110.st) .none kV110 dc110 pm110 an110 cd110 ct110), sl110⟩)
    (g110 : PySem.W.codeIn K cd110 "judge_ends" = true)
    (k110 : PySem.W.keepIn K (.ref f110) = true)
    (l111 : K.lookup f111 = some ⟨oc111, od111, .func (PySem.W.fnOf "least" "least" (defArgs d111.st) (defBody d111.st) (defScope d111.st) (.ref dT111) kV111 dc111 pm111 an111 cd111 ct111), sl111⟩)
    (g111 : PySem.W.codeIn K cd111 "least" = true)
    (k111 : PySem.W.keepIn K (.ref f111) = true)
    (dl111 : K.lookup dT111 = some oT111)
    (dd111 : oT111.data = .seq #[.ref eT111] nT111)
    (el111 : K.lookup eT111 = some oE111)
    (ec111 : oE111.cls = .type "tuple")
    (ed111 : oE111.data = .seq #[] nE111)
    (l518 : K.lookup f518 = some ⟨oc518, od518, .func (PySem.W.fnOf "_law_integer" "_law_integer" (defArgs d518.st) (defBody d518.st) (defScope d518.st) .none kV518 dc518 pm518 an518 cd518 ct518), sl518⟩)
    (g518 : PySem.W.codeIn K cd518 "_law_integer" = true)
    (k518 : PySem.W.keepIn K (.ref f518) = true)
    (l519 : K.lookup f519 = some ⟨oc519, od519, .func (PySem.W.fnOf "_law_hand" "_law_hand" (defArgs d519.st) (defBody d519.st) (defScope d519.st) .none kV519 dc519 pm519 an519 cd519 ct519), sl519⟩)
    (g519 : PySem.W.codeIn K cd519 "_law_hand" = true)
    (k519 : PySem.W.keepIn K (.ref f519) = true)
    (l520 : K.lookup f520 = some ⟨oc520, od520, .func (PySem.W.fnOf "_law_mixed" "_law_mixed" (defArgs d520.st) (defBody d520.st) (defScope d520.st) .none kV520 dc520 pm520 an520 cd520 ct520), sl520⟩)
    (g520 : PySem.W.codeIn K cd520 "_law_mixed" = true)
    (k520 : PySem.W.keepIn K (.ref f520) = true)
    (l521 : K.lookup f521 = some ⟨oc521, od521, .func (PySem.W.fnOf "_law_draw" "_law_draw" (defArgs d521.st) (defBody d521.st) (defScope d521.st) .none kV521 dc521 pm521 an521 cd521 ct521), sl521⟩)
    (g521 : PySem.W.codeIn K cd521 "_law_draw" = true)
    (k521 : PySem.W.keepIn K (.ref f521) = true)
    (l522 : K.lookup f522 = some ⟨oc522, od522, .func (PySem.W.fnOf "_law_one_recipe" "_law_one_recipe" (defArgs d522.st) (defBody d522.st) (defScope d522.st) .none kV522 dc522 pm522 an522 cd522 ct522), sl522⟩)
    (g522 : PySem.W.codeIn K cd522 "_law_one_recipe" = true)
    (k522 : PySem.W.keepIn K (.ref f522) = true)
    (l523 : K.lookup f523 = some ⟨oc523, od523, .func (PySem.W.fnOf "_law_cap" "_law_cap" (defArgs d523.st) (defBody d523.st) (defScope d523.st) .none kV523 dc523 pm523 an523 cd523 ct523), sl523⟩)
    (g523 : PySem.W.codeIn K cd523 "_law_cap" = true)
    (k523 : PySem.W.keepIn K (.ref f523) = true)
    (l524 : K.lookup f524 = some ⟨oc524, od524, .func (PySem.W.fnOf "_law_net" "_law_net" (defArgs d524.st) (defBody d524.st) (defScope d524.st) .none kV524 dc524 pm524 an524 cd524 ct524), sl524⟩)
    (g524 : PySem.W.codeIn K cd524 "_law_net" = true)
    (k524 : PySem.W.keepIn K (.ref f524) = true)
    (l526 : K.lookup f526 = some ⟨oc526, od526, .func (PySem.W.fnOf "_law_place" "_law_place" (defArgs d526.st) (defBody d526.st) (defScope d526.st) .none kV526 dc526 pm526 an526 cd526 ct526), sl526⟩)
    (g526 : PySem.W.codeIn K cd526 "_law_place" = true)
    (k526 : PySem.W.keepIn K (.ref f526) = true)
    (l527 : K.lookup f527 = some ⟨oc527, od527, .func (PySem.W.fnOf "_law_root" "_law_root" (defArgs d527.st) (defBody d527.st) (defScope d527.st) .none kV527 dc527 pm527 an527 cd527 ct527), sl527⟩)
    (g527 : PySem.W.codeIn K cd527 "_law_root" = true)
    (k527 : PySem.W.keepIn K (.ref f527) = true)
    (l559 : K.lookup f559 = some ⟨oc559, od559, .func (PySem.W.fnOf "_law_recipes_hold" "_law_recipes_hold" (defArgs d559.st) (defBody d559.st) (defScope d559.st) .none kV559 dc559 pm559 an559 cd559 ct559), sl559⟩)
    (g559 : PySem.W.codeIn K cd559 "_law_recipes_hold" = true)
    (k559 : PySem.W.keepIn K (.ref f559) = true)
    (l560 : K.lookup f560 = some ⟨oc560, od560, .func (PySem.W.fnOf "law" "law" (defArgs d560.st) (defBody d560.st) (defScope d560.st) .none kV560 dc560 pm560 an560 cd560 ct560), sl560⟩)
    (g560 : PySem.W.codeIn K cd560 "law" = true)
    (k560 : PySem.W.keepIn K (.ref f560) = true)
    (pg0 : PySem.W.plainGet K c0 Str.empty = true)
    (hd0 : PySem.W.hasDictIn K c0 = true)
    (po0 : PySem.W.plainOver K c0 = true)
    (sa0 : PySem.W.findIn K (.ref c0) "__setattr__" = some (some (.builtin "object.__setattr__")))
    (na0_recipes : PySem.W.findIn K (.ref c0) "recipes" = some none)
    (na0_prices : PySem.W.findIn K (.ref c0) "prices" = some none)
    (na0_size : PySem.W.findIn K (.ref c0) "size" = some none)
    (mk0 : PySem.W.makesIn K c0 = true)
    (kc0 : PySem.W.keepIn K (.ref c0) = true)
    (g_MOST_PRICE : PySem.W.nsIn K mainGlobals "MOST_PRICE" = some (some (.int 9 t_MOST_PRICE)))
    (g_MOST_RECIPES : PySem.W.nsIn K mainGlobals "MOST_RECIPES" = some (some (.int 4 t_MOST_RECIPES)))
    (g_MOST_ROOMS : PySem.W.nsIn K mainGlobals "MOST_ROOMS" = some (some (.int 10 t_MOST_ROOMS)))
    (g_MOST_VALUES : PySem.W.nsIn K mainGlobals "MOST_VALUES" = some (some (.int 10 t_MOST_VALUES)))
    (z_bool : PySem.W.nsIn K mainGlobals "bool" = some none)
    (z_enumerate : PySem.W.nsIn K mainGlobals "enumerate" = some none)
    (z_int : PySem.W.nsIn K mainGlobals "int" = some none)
    (z_isinstance : PySem.W.nsIn K mainGlobals "isinstance" = some none)
    (z_len : PySem.W.nsIn K mainGlobals "len" = some none)
    (z_list : PySem.W.nsIn K mainGlobals "list" = some none)
    (z_max : PySem.W.nsIn K mainGlobals "max" = some none)
    (z_min : PySem.W.nsIn K mainGlobals "min" = some none)
    (z_range : PySem.W.nsIn K mainGlobals "range" = some none)
    (z_sorted : PySem.W.nsIn K mainGlobals "sorted" = some none)
    (z_tuple : PySem.W.nsIn K mainGlobals "tuple" = some none)
    : ∃ C, Facts T fs 560 "_law_script" fd C K mg := by
  let C : Ct := ⟨fun c => match c with | 0 => c0 | _ => default, fun f => match f with | 1 => f1 | 2 => f2 | 3 => f3 | 4 => f4 | 5 => f5 | 6 => f6 | 7 => f7 | 9 => f9 | 14 => f14 | 16 => f16 | 17 => f17 | 18 => f18 | 19 => f19 | 20 => f20 | 21 => f21 | 36 => f36 | 37 => f37 | 38 => f38 | 105 => f105 | 106 => f106 | 107 => f107 | 108 => f108 | 109 => f109 | 110 => f110 | 111 => f111 | 518 => f518 | 519 => f519 | 520 => f520 | 521 => f521 | 522 => f522 | 523 => f523 | 524 => f524 | 526 => f526 | 527 => f527 | 559 => f559 | 560 => f560 | _ => default, T.cn⟩
  refine ⟨C, rfl, fun f hf => ?_, fun f hf => ?_, fun s hs => ?_, fun c m f hc hm => ?_, fun c hc => ?_, fun c f hc hm => ?_, fun x i hx => ?_, fun x i hx => ?_, fun x hx => ?_⟩
  · have hf : f ∈ ([1, 2, 3, 4, 5, 6, 7, 16, 17, 18, 19, 20, 21, 105, 106, 107, 108, 109, 110, 111, 518, 519, 520, 521, 522, 523, 524, 526, 527, 559, 560] : List Nat) := List.contains_iff_mem.mp hf
    simp only [List.mem_cons, List.not_mem_nil, or_false] at hf
    rcases hf with rfl | rfl | rfl | rfl | rfl | rfl | rfl | rfl | rfl | rfl | rfl | rfl | rfl | rfl | rfl | rfl | rfl | rfl | rfl | rfl | rfl | rfl | rfl | rfl | rfl | rfl | rfl | rfl | rfl | rfl | rfl
    · exact PySem.W.mg_of X G a1
    · exact PySem.W.mg_of X G a2
    · exact PySem.W.mg_of X G a3
    · exact PySem.W.mg_of X G a4
    · exact PySem.W.mg_of X G a5
    · exact PySem.W.mg_of X G a6
    · exact PySem.W.mg_of X G a7
    · exact PySem.W.mg_of X G a16
    · exact PySem.W.mg_of X G a17
    · exact PySem.W.mg_of X G a18
    · exact PySem.W.mg_of X G a19
    · exact PySem.W.mg_of X G a20
    · exact PySem.W.mg_of X G a21
    · exact PySem.W.mg_of X G a105
    · exact PySem.W.mg_of X G a106
    · exact PySem.W.mg_of X G a107
    · exact PySem.W.mg_of X G a108
    · exact PySem.W.mg_of X G a109
    · exact PySem.W.mg_of X G a110
    · exact PySem.W.mg_of X G a111
    · exact PySem.W.mg_of X G a518
    · exact PySem.W.mg_of X G a519
    · exact PySem.W.mg_of X G a520
    · exact PySem.W.mg_of X G a521
    · exact PySem.W.mg_of X G a522
    · exact PySem.W.mg_of X G a523
    · exact PySem.W.mg_of X G a524
    · exact PySem.W.mg_of X G a526
    · exact PySem.W.mg_of X G a527
    · exact PySem.W.mg_of X G a559
    · exact PySem.W.mg_of X G a560
  · simp only [fs, List.mem_cons, List.not_mem_nil, or_false] at hf
    rcases hf with rfl | rfl | rfl | rfl | rfl | rfl | rfl | rfl | rfl | rfl | rfl | rfl | rfl | rfl | rfl | rfl | rfl | rfl | rfl | rfl | rfl | rfl | rfl | rfl | rfl | rfl | rfl | rfl | rfl | rfl | rfl | rfl | rfl | rfl | rfl | rfl
    · exact ⟨_, funG_mk (st := d1.st) l1 g1, fun e => absurd e (by decide)⟩
    · exact ⟨_, funG_mk (st := d2.st) l2 g2, fun e => absurd e (by decide)⟩
    · exact ⟨_, funG_mk (st := d3.st) l3 g3, fun e => absurd e (by decide)⟩
    · exact ⟨_, funG_mk (st := d4.st) l4 g4, fun e => absurd e (by decide)⟩
    · exact ⟨_, funG_mk (st := d5.st) l5 g5, fun e => absurd e (by decide)⟩
    · exact ⟨_, funG_mk (st := d6.st) l6 g6, fun e => absurd e (by decide)⟩
    · exact ⟨_, funG_mk (st := d7.st) l7 g7, fun e => absurd e (by decide)⟩
    · exact ⟨_, funG_mk (st := d9.st) l9 g9, fun e => absurd e (by decide)⟩
    · exact ⟨_, funG_mk (st := d14.st) l14 g14, fun e => absurd e (by decide)⟩
    · exact ⟨_, funG_mk (st := d16.st) l16 g16, fun e => absurd e (by decide)⟩
    · exact ⟨_, funG_mk (st := d17.st) l17 g17, fun e => absurd e (by decide)⟩
    · exact ⟨_, funG_mk (st := d18.st) l18 g18, fun e => absurd e (by decide)⟩
    · exact ⟨_, funG_mk (st := d19.st) l19 g19, fun e => absurd e (by decide)⟩
    · exact ⟨_, funG_mk (st := d20.st) l20 g20, fun e => absurd e (by decide)⟩
    · exact ⟨_, funG_mk (st := d21.st) l21 g21, fun e => absurd e (by decide)⟩
    · exact ⟨_, funG_mk (st := d36.st) l36 g36, fun e => absurd e (by decide)⟩
    · exact ⟨_, funG_mk (st := d37.st) l37 g37, fun e => absurd e (by decide)⟩
    · exact ⟨_, funG_mk (st := d38.st) l38 g38, fun e => absurd e (by decide)⟩
    · exact ⟨_, funG_mk (st := d105.st) l105 g105, fun e => absurd e (by decide)⟩
    · exact ⟨_, funG_mk (st := d106.st) l106 g106, fun e => absurd e (by decide)⟩
    · exact ⟨_, funG_mk (st := d107.st) l107 g107, fun e => absurd e (by decide)⟩
    · exact ⟨_, funG_mk (st := d108.st) l108 g108, fun e => absurd e (by decide)⟩
    · exact ⟨_, funG_mk (st := d109.st) l109 g109, fun e => absurd e (by decide)⟩
    · exact ⟨_, funG_mk (st := d110.st) l110 g110, fun e => absurd e (by decide)⟩
    · exact ⟨_, funG_mk (st := d111.st) l111 g111, fun e => absurd e (by decide)⟩
    · exact ⟨_, funG_mk (st := d518.st) l518 g518, fun e => absurd e (by decide)⟩
    · exact ⟨_, funG_mk (st := d519.st) l519 g519, fun e => absurd e (by decide)⟩
    · exact ⟨_, funG_mk (st := d520.st) l520 g520, fun e => absurd e (by decide)⟩
    · exact ⟨_, funG_mk (st := d521.st) l521 g521, fun e => absurd e (by decide)⟩
    · exact ⟨_, funG_mk (st := d522.st) l522 g522, fun e => absurd e (by decide)⟩
    · exact ⟨_, funG_mk (st := d523.st) l523 g523, fun e => absurd e (by decide)⟩
    · exact ⟨_, funG_mk (st := d524.st) l524 g524, fun e => absurd e (by decide)⟩
    · exact ⟨_, funG_mk (st := d526.st) l526 g526, fun e => absurd e (by decide)⟩
    · exact ⟨_, funG_mk (st := d527.st) l527 g527, fun e => absurd e (by decide)⟩
    · exact ⟨_, funG_mk (st := d559.st) l559 g559, fun e => absurd e (by decide)⟩
    · exact ⟨_, funG_mk (st := d560.st) l560 g560, fun _ s u => bT_eq rfl⟩
  · have hs : s ∈ shs := hs
    simp only [shs, List.mem_cons, List.not_mem_nil, or_false] at hs
    rcases hs with rfl | rfl | rfl | rfl | rfl | rfl | rfl | rfl | rfl | rfl | rfl | rfl | rfl | rfl | rfl | rfl | rfl | rfl | rfl | rfl | rfl | rfl | rfl | rfl | rfl | rfl | rfl | rfl | rfl | rfl | rfl | rfl | rfl | rfl | rfl | rfl
    · exact ⟨_, funG_mk (st := d1.st) l1 g1, k1, bindR_none (fun s0 us ws hK l1 l2 => match us, l1, ws, l2 with | [_], _, [], _ => bT_eq rfl) rfl⟩
    · exact ⟨_, funG_mk (st := d3.st) l3 g3, k3, bindR_none (fun s0 us ws hK l1 l2 => match us, l1, ws, l2 with | [_, _], _, [], _ => bT_eq rfl) rfl⟩
    · exact ⟨_, funG_mk (st := d2.st) l2 g2, k2, bindR_none (fun s0 us ws hK l1 l2 => match us, l1, ws, l2 with | [_, _], _, [], _ => bT_eq rfl) rfl⟩
    · exact ⟨_, funG_mk (st := d5.st) l5 g5, k5, bindR_none (fun s0 us ws hK l1 l2 => match us, l1, ws, l2 with | [_, _], _, [], _ => bT_eq rfl) rfl⟩
    · exact ⟨_, funG_mk (st := d7.st) l7 g7, k7, bindR_none (fun s0 us ws hK l1 l2 => match us, l1, ws, l2 with | [_, _], _, [], _ => bT_eq rfl) rfl⟩
    · exact ⟨_, funG_mk (st := d6.st) l6 g6, k6, bindR_none (fun s0 us ws hK l1 l2 => match us, l1, ws, l2 with | [_], _, [], _ => bT_eq rfl) rfl⟩
    · exact ⟨_, funG_mk (st := d9.st) l9 g9, k9, bindR_none (fun s0 us ws hK l1 l2 => match us, l1, ws, l2 with | [_, _], _, [_], _ => bT_eq rfl) rfl⟩
    · exact ⟨_, funG_mk (st := d16.st) l16 g16, k16, bindR_none (fun s0 us ws hK l1 l2 => match us, l1, ws, l2 with | [_, _], _, [], _ => bT_eq rfl) rfl⟩
    · exact ⟨_, funG_mk (st := d19.st) l19 g19, k19, bindR_none (fun s0 us ws hK l1 l2 => match us, l1, ws, l2 with | [_, _], _, [], _ => bT_eq rfl) rfl⟩
    · exact ⟨_, funG_mk (st := d36.st) l36 g36, k36, bindR_none (fun s0 us ws hK l1 l2 => match us, l1, ws, l2 with | [_, _, _], _, [], _ => bT_eq rfl) rfl⟩
    · exact ⟨_, funG_mk (st := d4.st) l4 g4, k4, bindR_none (fun s0 us ws hK l1 l2 => match us, l1, ws, l2 with | [_, _], _, [], _ => bT_eq rfl) rfl⟩
    · exact ⟨_, funG_mk (st := d106.st) l106 g106, k106, bindR_none (fun s0 us ws hK l1 l2 => match us, l1, ws, l2 with | [_, _], _, [], _ => bT_eq rfl) rfl⟩
    · exact ⟨_, funG_mk (st := d20.st) l20 g20, k20, bindR_none (fun s0 us ws hK l1 l2 => match us, l1, ws, l2 with | [_, _, _], _, [], _ => bT_eq rfl) rfl⟩
    · exact ⟨_, funG_mk (st := d21.st) l21 g21, k21, bindR_none (fun s0 us ws hK l1 l2 => match us, l1, ws, l2 with | [_, _], _, [], _ => bT_eq rfl) rfl⟩
    · exact ⟨_, funG_mk (st := d108.st) l108 g108, k108, bindR_none (fun s0 us ws hK l1 l2 => match us, l1, ws, l2 with | [_, _, _], _, [], _ => bT_eq rfl) rfl⟩
    · exact ⟨_, funG_mk (st := d105.st) l105 g105, k105, bindR_none (fun s0 us ws hK l1 l2 => match us, l1, ws, l2 with | [_, _], _, [], _ => bT_eq rfl) rfl⟩
    · exact ⟨_, funG_mk (st := d107.st) l107 g107, k107, bindR_none (fun s0 us ws hK l1 l2 => match us, l1, ws, l2 with | [_], _, [], _ => bT_eq rfl) rfl⟩
    · exact ⟨_, funG_mk (st := d17.st) l17 g17, k17, bindR_none (fun s0 us ws hK l1 l2 => match us, l1, ws, l2 with | [_, _], _, [], _ => bT_eq rfl) rfl⟩
    · exact ⟨_, funG_mk (st := d18.st) l18 g18, k18, bindR_none (fun s0 us ws hK l1 l2 => match us, l1, ws, l2 with | [_], _, [], _ => bT_eq rfl) rfl⟩
    · exact ⟨_, funG_mk (st := d109.st) l109 g109, k109, bindR_none (fun s0 us ws hK l1 l2 => match us, l1, ws, l2 with | [_, _, _, _], _, [], _ => bT_eq rfl) rfl⟩
    · exact ⟨_, funG_mk (st := d110.st) l110 g110, k110, bindR_none (fun s0 us ws hK l1 l2 => match us, l1, ws, l2 with | [_, _, _, _], _, [], _ => bT_eq rfl) rfl⟩
    · exact ⟨_, funG_mk (st := d520.st) l520 g520, k520, bindR_none (fun s0 us ws hK l1 l2 => match us, l1, ws, l2 with | [_, _], _, [], _ => bT_eq rfl) rfl⟩
    · exact ⟨_, funG_mk (st := d521.st) l521 g521, k521, bindR_none (fun s0 us ws hK l1 l2 => match us, l1, ws, l2 with | [_, _], _, [], _ => bT_eq rfl) rfl⟩
    · exact ⟨_, funG_mk (st := d522.st) l522 g522, k522, bindR_none (fun s0 us ws hK l1 l2 => match us, l1, ws, l2 with | [_, _], _, [], _ => bT_eq rfl) rfl⟩
    · exact ⟨_, funG_mk (st := d526.st) l526 g526, k526, bindR_none (fun s0 us ws hK l1 l2 => match us, l1, ws, l2 with | [_, _], _, [], _ => bT_eq rfl) rfl⟩
    · exact ⟨_, funG_mk (st := d111.st) l111 g111, k111, bindR_none (fun s0 us ws hK l1 l2 => match us, l1, ws, l2 with | [_, _, _, _], _, [], _ => bT_tup hK dl111 dd111 rfl rfl) rfl⟩
    · exact ⟨_, funG_mk (st := d518.st) l518 g518, k518, bindR_none (fun s0 us ws hK l1 l2 => match us, l1, ws, l2 with | [_], _, [], _ => bT_eq rfl) rfl⟩
    · exact ⟨_, funG_mk (st := d38.st) l38 g38, k38, bindR_none (fun s0 us ws hK l1 l2 => match us, l1, ws, l2 with | [_, _, _], _, [], _ => bT_eq rfl) rfl⟩
    · exact ⟨_, funG_mk (st := d37.st) l37 g37, k37, bindR_none (fun s0 us ws hK l1 l2 => match us, l1, ws, l2 with | [_, _, _], _, [], _ => bT_eq rfl) rfl⟩
    · exact ⟨_, funG_mk (st := d559.st) l559 g559, k559, bindR_none (fun s0 us ws hK l1 l2 => match us, l1, ws, l2 with | [_, _, _, _, _, _], _, [], _ => bT_eq rfl) rfl⟩
    · exact ⟨_, funG_mk (st := d14.st) l14 g14, k14, bindR_none (fun s0 us ws hK l1 l2 => match us, l1, ws, l2 with | [_, _], _, [], _ => bT_eq rfl) rfl⟩
    · exact ⟨_, funG_mk (st := d9.st) l9 g9, k9, bindR_of default (fun s0 us ws hK l1 l2 => match us, l1, ws, l2 with | [_, _], _, [], _ => bT_kw (l := [("prices", .none)]) hK (fun q hq => by rw [List.mem_singleton] at hq; subst hq; exact kd9) ⟨_, _, _, _, _, _, rfl, rfl, rfl⟩) (fun q => by simp at q) rfl (by intro i hi; simp at hi; simp only [List.length_cons, List.length_nil]; omega)⟩
    · exact ⟨_, funG_mk (st := d527.st) l527 g527, k527, bindR_none (fun s0 us ws hK l1 l2 => match us, l1, ws, l2 with | [_, _], _, [], _ => bT_eq rfl) rfl⟩
    · exact ⟨_, funG_mk (st := d524.st) l524 g524, k524, bindR_none (fun s0 us ws hK l1 l2 => match us, l1, ws, l2 with | [_, _], _, [], _ => bT_eq rfl) rfl⟩
    · exact ⟨_, funG_mk (st := d523.st) l523 g523, k523, bindR_none (fun s0 us ws hK l1 l2 => match us, l1, ws, l2 with | [_, _], _, [], _ => bT_eq rfl) rfl⟩
    · exact ⟨_, funG_mk (st := d519.st) l519 g519, k519, bindR_none (fun s0 us ws hK l1 l2 => match us, l1, ws, l2 with | [_], _, [], _ => bT_eq rfl) rfl⟩
  · have hm : (if c = 0 ∧ m = "__init__" then some 9 else if c = 0 ∧ m = "with_prices" then some 14 else if c = 0 ∧ m = "with_recipe" then some 37 else if c = 0 ∧ m = "with_row" then some 36 else if c = 0 ∧ m = "without_recipe" then some 38 else none) = some f := hm
    by_cases e0 : c = 0 ∧ m = "__init__"
    · rw [if_pos e0] at hm; cases hm; obtain ⟨rfl, rfl⟩ := e0; exact ⟨a9, i9, k9⟩
    rw [if_neg e0] at hm
    by_cases e1 : c = 0 ∧ m = "with_prices"
    · rw [if_pos e1] at hm; cases hm; obtain ⟨rfl, rfl⟩ := e1; exact ⟨a14, i14, k14⟩
    rw [if_neg e1] at hm
    by_cases e2 : c = 0 ∧ m = "with_recipe"
    · rw [if_pos e2] at hm; cases hm; obtain ⟨rfl, rfl⟩ := e2; exact ⟨a37, i37, k37⟩
    rw [if_neg e2] at hm
    by_cases e3 : c = 0 ∧ m = "with_row"
    · rw [if_pos e3] at hm; cases hm; obtain ⟨rfl, rfl⟩ := e3; exact ⟨a36, i36, k36⟩
    rw [if_neg e3] at hm
    by_cases e4 : c = 0 ∧ m = "without_recipe"
    · rw [if_pos e4] at hm; cases hm; obtain ⟨rfl, rfl⟩ := e4; exact ⟨a38, i38, k38⟩
    rw [if_neg e4] at hm
    cases hm
  · have hc : c ∈ ([0] : List Nat) := hc
    simp only [List.mem_cons, List.not_mem_nil, or_false] at hc
    subst hc
    · refine ⟨⟨pg0, hd0, po0, sa0⟩, PySem.W.mg_of X G ca0, fun n hn => ?_⟩
      have hn : n ∈ (["recipes", "prices", "size"] : List Str) := hn
      simp only [List.mem_cons, List.not_mem_nil, or_false] at hn
      rcases hn with rfl | rfl | rfl
      · exact na0_recipes
      · exact na0_prices
      · exact na0_size
  · have hm : (if c = 0 ∧ "__init__" = "__init__" then some 9 else if c = 0 ∧ "__init__" = "with_prices" then some 14 else if c = 0 ∧ "__init__" = "with_recipe" then some 37 else if c = 0 ∧ "__init__" = "with_row" then some 36 else if c = 0 ∧ "__init__" = "without_recipe" then some 38 else none) = some f := hm
    by_cases e0 : c = 0 ∧ "__init__" = "__init__"
    · rw [if_pos e0] at hm; cases hm; obtain ⟨rfl, _⟩ := e0; exact ⟨mk0, a9, i9, kc0⟩
    rw [if_neg e0] at hm
    by_cases e1 : c = 0 ∧ "__init__" = "with_prices"
    · exact absurd e1.2 (by decide)
    rw [if_neg e1] at hm
    by_cases e2 : c = 0 ∧ "__init__" = "with_recipe"
    · exact absurd e2.2 (by decide)
    rw [if_neg e2] at hm
    by_cases e3 : c = 0 ∧ "__init__" = "with_row"
    · exact absurd e3.2 (by decide)
    rw [if_neg e3] at hm
    by_cases e4 : c = 0 ∧ "__init__" = "without_recipe"
    · exact absurd e4.2 (by decide)
    rw [if_neg e4] at hm
    cases hm
  · change (if x = "MOST_PRICE" then some (D.int 9) else if x = "MOST_RECIPES" then some (D.int 4) else if x = "MOST_ROOMS" then some (D.int 10) else if x = "MOST_VALUES" then some (D.int 10) else none) = _ at hx
    by_cases e_MOST_PRICE : x = "MOST_PRICE"
    · subst e_MOST_PRICE; rw [if_pos rfl] at hx; cases hx; exact ⟨_, PySem.W.mg_of X G g_MOST_PRICE⟩
    rw [if_neg e_MOST_PRICE] at hx
    by_cases e_MOST_RECIPES : x = "MOST_RECIPES"
    · subst e_MOST_RECIPES; rw [if_pos rfl] at hx; cases hx; exact ⟨_, PySem.W.mg_of X G g_MOST_RECIPES⟩
    rw [if_neg e_MOST_RECIPES] at hx
    by_cases e_MOST_ROOMS : x = "MOST_ROOMS"
    · subst e_MOST_ROOMS; rw [if_pos rfl] at hx; cases hx; exact ⟨_, PySem.W.mg_of X G g_MOST_ROOMS⟩
    rw [if_neg e_MOST_ROOMS] at hx
    by_cases e_MOST_VALUES : x = "MOST_VALUES"
    · subst e_MOST_VALUES; rw [if_pos rfl] at hx; cases hx; exact ⟨_, PySem.W.mg_of X G g_MOST_VALUES⟩
    rw [if_neg e_MOST_VALUES] at hx
    cases hx
  · change (if x = "MOST_PRICE" then some (D.int 9) else if x = "MOST_RECIPES" then some (D.int 4) else if x = "MOST_ROOMS" then some (D.int 10) else if x = "MOST_VALUES" then some (D.int 10) else none) = _ at hx
    by_cases e_MOST_PRICE : x = "MOST_PRICE"
    · subst e_MOST_PRICE; rw [if_pos rfl] at hx; cases hx
    rw [if_neg e_MOST_PRICE] at hx
    by_cases e_MOST_RECIPES : x = "MOST_RECIPES"
    · subst e_MOST_RECIPES; rw [if_pos rfl] at hx; cases hx
    rw [if_neg e_MOST_RECIPES] at hx
    by_cases e_MOST_ROOMS : x = "MOST_ROOMS"
    · subst e_MOST_ROOMS; rw [if_pos rfl] at hx; cases hx
    rw [if_neg e_MOST_ROOMS] at hx
    by_cases e_MOST_VALUES : x = "MOST_VALUES"
    · subst e_MOST_VALUES; rw [if_pos rfl] at hx; cases hx
    rw [if_neg e_MOST_VALUES] at hx
    cases hx
  · have hx : x ∈ (["bool", "enumerate", "int", "isinstance", "len", "list", "max", "min", "range", "sorted", "tuple"] : List String) := List.contains_iff_mem.mp hx
    simp only [List.mem_cons, List.not_mem_nil, or_false] at hx
    rcases hx with rfl | rfl | rfl | rfl | rfl | rfl | rfl | rfl | rfl | rfl | rfl
    · exact PySem.W.mg_none_of X G z_bool
    · exact PySem.W.mg_none_of X G z_enumerate
    · exact PySem.W.mg_none_of X G z_int
    · exact PySem.W.mg_none_of X G z_isinstance
    · exact PySem.W.mg_none_of X G z_len
    · exact PySem.W.mg_none_of X G z_list
    · exact PySem.W.mg_none_of X G z_max
    · exact PySem.W.mg_none_of X G z_min
    · exact PySem.W.mg_none_of X G z_range
    · exact PySem.W.mg_none_of X G z_sorted
    · exact PySem.W.mg_none_of X G z_tuple
end G9

namespace G9
open PySem PySem.Spec L2 N9
theorem fb : FB Gam := ⟨pk_gamT, rfl, rfl, rfl, rfl, rfl, rfl, rfl, rfl, rfl, rfl⟩
theorem fc : FC Gam := ⟨fb, rfl, rfl, rfl, rfl, rfl⟩
theorem plain : ∀ ns : List Int, ns.length ≤ 63 → ∃ h', (run Gam 30000 10).call 560 [.scr ns] [] = .ok (.bl true) h' := fun ns h => law_s (k := 0) ⟨fc, rfl, rfl⟩ h (Nat.le_refl _)
end G9

open PySem PySem.W PyProof.Rows
set_option maxRecDepth 100000 in
set_option maxHeartbeats 0 in
theorem PySem.Challenge.cw_cleanhelpers_k60_prices_scale_holds : PySem.Challenge.rw_cleanhelpers_k60_prices_scale.Holds := by
  w_on; o_law; k_head; (case hw => w_witness2)
  k_fill
  refine N9.walkN (l := PySem.Challenge.rw_cleanhelpers_k60_prices_scale) (n := 63) (k := 10) (lf := 560) (W := 30000) (fs := G9.fs) (Γ := G9.Gam) (T := G9.T) (fd := G9.fd) (x := "_law_script") rfl (by decide) rfl ⟨rfl, by decide, by decide⟩ (fun w h Y => PySem.W.kIn_of Y) (by decide) rfl rfl rfl G9.hok G9.hsh G9.hGam ?F G9.plain
  case F =>
    intro w mg h KX G
    refine' G9.facts KX G ?ca0 ?a1 ?a2 ?a3 ?a4 ?a5 ?a6 ?a7 ?a16 ?a17 ?a18 ?a19 ?a20 ?a21 ?a105 ?a106 ?a107 ?a108 ?a109 ?a110 ?a111 ?a518 ?a519 ?a520 ?a521 ?a522 ?a523 ?a524 ?a526 ?a527 ?a559 ?a560 ?a9 ?i9 ?a14 ?i14 ?a36 ?i36 ?a37 ?i37 ?a38 ?i38 ?l1 ?g1 ?k1 ?l2 ?g2 ?k2 ?l3 ?g3 ?k3 ?l4 ?g4 ?k4 ?l5 ?g5 ?k5 ?l6 ?g6 ?k6 ?l7 ?g7 ?k7 ?l9 ?g9 ?k9 ?kd9 ?l14 ?g14 ?k14 ?l16 ?g16 ?k16 ?l17 ?g17 ?k17 ?l18 ?g18 ?k18 ?l19 ?g19 ?k19 ?l20 ?g20 ?k20 ?l21 ?g21 ?k21 ?l36 ?g36 ?k36 ?l37 ?g37 ?k37 ?l38 ?g38 ?k38 ?l105 ?g105 ?k105 ?l106 ?g106 ?k106 ?l107 ?g107 ?k107 ?l108 ?g108 ?k108 ?l109 ?g109 ?k109 ?l110 ?g110 ?k110 ?l111 ?g111 ?k111 ?dl111 ?dd111 ?el111 ?ec111 ?ed111 ?l518 ?g518 ?k518 ?l519 ?g519 ?k519 ?l520 ?g520 ?k520 ?l521 ?g521 ?k521 ?l522 ?g522 ?k522 ?l523 ?g523 ?k523 ?l524 ?g524 ?k524 ?l526 ?g526 ?k526 ?l527 ?g527 ?k527 ?l559 ?g559 ?k559 ?l560 ?g560 ?k560 ?pg0 ?hd0 ?po0 ?sa0 ?na0_recipes ?na0_prices ?na0_size ?mk0 ?kc0 ?g_MOST_PRICE ?g_MOST_RECIPES ?g_MOST_ROOMS ?g_MOST_VALUES ?z_bool ?z_enumerate ?z_int ?z_isinstance ?z_len ?z_list ?z_max ?z_min ?z_range ?z_sorted ?z_tuple
    (case ca0 => k_is)
    (case a1 => k_is)
    (case a2 => k_is)
    (case a3 => k_is)
    (case a4 => k_is)
    (case a5 => k_is)
    (case a6 => k_is)
    (case a7 => k_is)
    (case a16 => k_is)
    (case a17 => k_is)
    (case a18 => k_is)
    (case a19 => k_is)
    (case a20 => k_is)
    (case a21 => k_is)
    (case a105 => k_is)
    (case a106 => k_is)
    (case a107 => k_is)
    (case a108 => k_is)
    (case a109 => k_is)
    (case a110 => k_is)
    (case a111 => k_is)
    (case a518 => k_is)
    (case a519 => k_is)
    (case a520 => k_is)
    (case a521 => k_is)
    (case a522 => k_is)
    (case a523 => k_is)
    (case a524 => k_is)
    (case a526 => k_is)
    (case a527 => k_is)
    (case a559 => k_is)
    (case a560 => k_is)
    (case a9 => k_is)
    (case i9 => k_is)
    (case a14 => k_is)
    (case i14 => k_is)
    (case a36 => k_is)
    (case i36 => k_is)
    (case a37 => k_is)
    (case i37 => k_is)
    (case a38 => k_is)
    (case i38 => k_is)
    (case l1 => k_is)
    (case g1 => k_is)
    (case k1 => k_is)
    (case l2 => k_is)
    (case g2 => k_is)
    (case k2 => k_is)
    (case l3 => k_is)
    (case g3 => k_is)
    (case k3 => k_is)
    (case l4 => k_is)
    (case g4 => k_is)
    (case k4 => k_is)
    (case l5 => k_is)
    (case g5 => k_is)
    (case k5 => k_is)
    (case l6 => k_is)
    (case g6 => k_is)
    (case k6 => k_is)
    (case l7 => k_is)
    (case g7 => k_is)
    (case k7 => k_is)
    (case l9 => k_is)
    (case g9 => k_is)
    (case k9 => k_is)
    (case kd9 => k_is)
    (case l14 => k_is)
    (case g14 => k_is)
    (case k14 => k_is)
    (case l16 => k_is)
    (case g16 => k_is)
    (case k16 => k_is)
    (case l17 => k_is)
    (case g17 => k_is)
    (case k17 => k_is)
    (case l18 => k_is)
    (case g18 => k_is)
    (case k18 => k_is)
    (case l19 => k_is)
    (case g19 => k_is)
    (case k19 => k_is)
    (case l20 => k_is)
    (case g20 => k_is)
    (case k20 => k_is)
    (case l21 => k_is)
    (case g21 => k_is)
    (case k21 => k_is)
    (case l36 => k_is)
    (case g36 => k_is)
    (case k36 => k_is)
    (case l37 => k_is)
    (case g37 => k_is)
    (case k37 => k_is)
    (case l38 => k_is)
    (case g38 => k_is)
    (case k38 => k_is)
    (case l105 => k_is)
    (case g105 => k_is)
    (case k105 => k_is)
    (case l106 => k_is)
    (case g106 => k_is)
    (case k106 => k_is)
    (case l107 => k_is)
    (case g107 => k_is)
    (case k107 => k_is)
    (case l108 => k_is)
    (case g108 => k_is)
    (case k108 => k_is)
    (case l109 => k_is)
    (case g109 => k_is)
    (case k109 => k_is)
    (case l110 => k_is)
    (case g110 => k_is)
    (case k110 => k_is)
    (case l111 => k_is)
    (case g111 => k_is)
    (case k111 => k_is)
    (case dl111 => k_is)
    (case dd111 => first | rfl | k_is)
    (case el111 => k_is)
    (case ec111 => first | rfl | k_is)
    (case ed111 => first | rfl | k_is)
    (case l518 => k_is)
    (case g518 => k_is)
    (case k518 => k_is)
    (case l519 => k_is)
    (case g519 => k_is)
    (case k519 => k_is)
    (case l520 => k_is)
    (case g520 => k_is)
    (case k520 => k_is)
    (case l521 => k_is)
    (case g521 => k_is)
    (case k521 => k_is)
    (case l522 => k_is)
    (case g522 => k_is)
    (case k522 => k_is)
    (case l523 => k_is)
    (case g523 => k_is)
    (case k523 => k_is)
    (case l524 => k_is)
    (case g524 => k_is)
    (case k524 => k_is)
    (case l526 => k_is)
    (case g526 => k_is)
    (case k526 => k_is)
    (case l527 => k_is)
    (case g527 => k_is)
    (case k527 => k_is)
    (case l559 => k_is)
    (case g559 => k_is)
    (case k559 => k_is)
    (case l560 => k_is)
    (case g560 => k_is)
    (case k560 => k_is)
    (case pg0 => k_is)
    (case hd0 => k_is)
    (case po0 => k_is)
    (case sa0 => k_is)
    (case na0_recipes => k_is)
    (case na0_prices => k_is)
    (case na0_size => k_is)
    (case mk0 => k_is)
    (case kc0 => k_is)
    (case g_MOST_PRICE => k_is)
    (case g_MOST_RECIPES => k_is)
    (case g_MOST_ROOMS => k_is)
    (case g_MOST_VALUES => k_is)
    (case z_bool => k_is)
    (case z_enumerate => k_is)
    (case z_int => k_is)
    (case z_isinstance => k_is)
    (case z_len => k_is)
    (case z_list => k_is)
    (case z_max => k_is)
    (case z_min => k_is)
    (case z_range => k_is)
    (case z_sorted => k_is)
    (case z_tuple => k_is)
