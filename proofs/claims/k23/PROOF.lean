import PyProof.Rows.All
import Wide.All
import OpenK.AllK
import Wide.FinOn
import HandS.ForMost
import HandS.ForExc
import HandS.Flow
import HandS.Style
import HandS.ExcInit
import HandS.Defaults
import HandS.Star
import HandS.TupAny
import HandS.TupMul
import HandS.Deep
import HandS.WideBits
import HandS.Conv
import PyProof.MaxThree
import HandS.SortInts
import OpenK.KMore
import HandS.IsInst
import KE.IntBitsLaws
import PySem.Challenge.RW_cleanhelpers_k23_whole_steps_are_differe
set_option Elab.async false
set_option linter.all false
set_option maxRecDepth 100000
namespace Q9
open PySem PySem.Spec L2

/-! ## values -/
inductive D where
  | non | bl (b : Bool) | int (i : Int) | str (s : Str)
  | tup (l : List D) | lst (l : List D) | flk (l : List D) | dct (ks vs : List D) | set (l : List D)
  | ins (c : Nat) (fs : List D) | own (d : D) | brw (d : D)

abbrev Env := List (Option D)

inductive Re (α : Type) where
  | ok (a : α) (e : Env) | exc (c : Nat) (w : D) (e : Env) | stk

def Re.bind {α β : Type} (x : Re α) (f : α → Env → Re β) : Re β := match x with
  | .ok a e => f a e
  | .exc c w e => .exc c w e
  | .stk => .stk

/-- a call's outcome: value and the parameters' last contents -/
inductive RC where
  | ok (d : D) (ps : Env) | exc (c : Nat) (w : D) (ps : Env) | stk

abbrev Oracle := Nat → List D → RC

inductive Fl where
  | nx (e : Env) | ret (d : D) (e : Env) | brk (e : Env) | ct (e : Env) | exc (c : Nat) (w : D) (e : Env) | stk

/-! ## ownership and representation -/
/-- who owns an address: slot, path (none: the root; some j: the j-th field) -/
abbrev Om := Addr → Option (Nat × Option Nat)

def RdO (K : PySem.W.Frag) (ω : Om) (H : Hp) (a : Addr) (u : HO) : Prop := Rd H a u ∧ ω a = none

def kTup (K : PySem.W.Frag) (a : Addr) (xs : List V) : Prop :=
  ∃ (o : Obj) (its : Array Value) (n : Nat), K.lookup a = some o ∧ o.cls = .type "tuple" ∧ o.data = .seq its n ∧ its.size ≤ sizeLine ∧ Vals xs its.toList

/-- facts of the classes: address of the class c, its attribute names in order -/
structure Ct where
  addr : Nat → Addr
  names : Nat → List Str

def kLst (K : PySem.W.Frag) (a : Addr) (xs : List V) : Prop :=
  ∃ (o : Obj) (its : Array Value) (n : Nat), K.lookup a = some o ∧ o.cls = .type "list" ∧ o.dict = none ∧ o.data = .seq its n ∧ its.size ≤ sizeLine ∧ Vals xs its.toList
/-- a list that nothing changes -/
def FlkR (K : PySem.W.Frag) (ω : Om) (H : Hp) (a : Addr) (xs : List V) : Prop := RdO K ω H a (.lst xs) ∨ kLst K a xs

mutual
/-- a frozen value -/
inductive Rep (C : Ct) (K : PySem.W.Frag) (ω : Om) (H : Hp) : V → D → Prop
  | non : Rep C K ω H .non .non
  | bl (b : Bool) : Rep C K ω H (.bl b) (.bl b)
  | int (i : Int) : Rep C K ω H (.int i) (.int i)
  | str (x : Str) : Rep C K ω H (.str x) (.str x)
  | tup {a : Addr} {xs : List V} {ds : List D} : RdO K ω H a (.tup xs) → Reps C K ω H xs ds → Rep C K ω H (.ref a) (.tup ds)
  | tupK {a : Addr} {xs : List V} {ds : List D} : kTup K a xs → Reps C K ω H xs ds → Rep C K ω H (.ref a) (.tup ds)
  | lst {a : Addr} {xs : List V} {ds : List D} : H a = some (.lst xs) → ω a = none → Reps C K ω H xs ds → Rep C K ω H (.ref a) (.lst ds)
  | flk {a : Addr} {xs : List V} {ds : List D} : FlkR K ω H a xs → Reps C K ω H xs ds → Rep C K ω H (.ref a) (.flk ds)
  | ins {a dx : Addr} {c : Nat} {xs : List V} {ds : List D} : H a = some (.ins (C.addr c) dx ((C.names c).zip xs)) → ω a = none → xs.length ≤ (C.names c).length → Reps C K ω H xs ds → Rep C K ω H (.ref a) (.ins c ds)
inductive Reps (C : Ct) (K : PySem.W.Frag) (ω : Om) (H : Hp) : List V → List D → Prop
  | nil : Reps C K ω H [] []
  | cons {v : V} {vs : List V} {d : D} {ds : List D} : Rep C K ω H v d → Reps C K ω H vs ds → Reps C K ω H (v :: vs) (d :: ds)
end

/-- what an owner's flat content is at path p -/
inductive OwnF (C : Ct) (K : PySem.W.Frag) (ω : Om) (H : Hp) (i : Nat) (p : Option Nat) : V → D → Prop
  | lst {a : Addr} {xs : List V} {ds : List D} : H a = some (.lst xs) → ω a = some (i, p) → Reps C K ω H xs ds → OwnF C K ω H i p (.ref a) (.lst ds)

/-- the fields of an owned instance, from the j-th on -/
inductive OwnFs (C : Ct) (K : PySem.W.Frag) (ω : Om) (H : Hp) (i : Nat) : Nat → List V → List D → Prop
  | nil {j : Nat} : OwnFs C K ω H i j [] []
  | rep {j : Nat} {v : V} {vs : List V} {d : D} {ds : List D} : Rep C K ω H v d → OwnFs C K ω H i (j + 1) vs ds → OwnFs C K ω H i j (v :: vs) (d :: ds)
  | own {j : Nat} {v : V} {vs : List V} {d : D} {ds : List D} : OwnF C K ω H i (some j) v d → OwnFs C K ω H i (j + 1) vs ds → OwnFs C K ω H i j (v :: vs) (.own d :: ds)

/-- an owned root -/
inductive OwnR (C : Ct) (K : PySem.W.Frag) (ω : Om) (H : Hp) (i : Nat) : V → D → Prop
  | flat {v : V} {d : D} : OwnF C K ω H i none v d → OwnR C K ω H i v d
  | ins {a dx : Addr} {c : Nat} {xs : List V} {ds : List D} : H a = some (.ins (C.addr c) dx ((C.names c).zip xs)) → ω a = some (i, none) → xs.length ≤ (C.names c).length → OwnFs C K ω H i 0 xs ds → OwnR C K ω H i (.ref a) (.ins c ds)

inductive ShFs (C : Ct) (K : PySem.W.Frag) (ω : Om) (H : Hp) : List V → List D → Prop
  | nil : ShFs C K ω H [] []
  | rep {v : V} {vs : List V} {d : D} {ds : List D} : Rep C K ω H v d → ShFs C K ω H vs ds → ShFs C K ω H (v :: vs) (d :: ds)
  | own {a : Addr} {xs : List V} {es : List D} {vs : List V} {ds : List D} : H a = some (.lst xs) → Reps C K ω H xs es → ShFs C K ω H vs ds → ShFs C K ω H (.ref a :: vs) (.own (.lst es) :: ds)
/-- the shape is there, the parts are frozen (whoever owns the thing itself) -/
inductive Sh (C : Ct) (K : PySem.W.Frag) (ω : Om) (H : Hp) : V → D → Prop
  | rep {v : V} {d : D} : Rep C K ω H v d → Sh C K ω H v d
  | lst {a : Addr} {xs : List V} {ds : List D} : H a = some (.lst xs) → Reps C K ω H xs ds → Sh C K ω H (.ref a) (.lst ds)
  | ins {a dx : Addr} {c : Nat} {xs : List V} {ds : List D} : H a = some (.ins (C.addr c) dx ((C.names c).zip xs)) → xs.length ≤ (C.names c).length → ShFs C K ω H xs ds → Sh C K ω H (.ref a) (.ins c ds)

end Q9

set_option Elab.async false
set_option linter.all false
set_option maxRecDepth 100000
namespace Q9
open PySem PySem.Spec L2

/-! ## change -/
/-- the owner of what a caller keeps to itself -/
def FO : Nat := 1000000
structure Chg (e : Bool) (ω : Om) (H : Hp) (ω' : Om) (H' : Hp) : Prop where
  keep : ∀ a o, H a = some o → (ω a = none ∨ e = false) → H' a = some o
  free : ∀ a, H a ≠ none → ω a = none → ω' a = none
  there : ∀ a, H a ≠ none → H' a ≠ none
  far : ∀ a p, ω a = some (FO, p) → ω' a = some (FO, p) ∧ ∀ o, H a = some o → H' a = some o

theorem Chg.refl (e : Bool) (ω : Om) (H : Hp) : Chg e ω H ω H := ⟨fun _ _ h _ => h, fun _ _ h => h, fun _ h => h, fun _ _ h => ⟨h, fun _ q => q⟩⟩
theorem Chg.trans {e1 e2 : Bool} {ω0 ω1 ω2 : Om} {H0 H1 H2 : Hp} (a : Chg e1 ω0 H0 ω1 H1) (b : Chg e2 ω1 H1 ω2 H2) : Chg (e1 || e2) ω0 H0 ω2 H2 := by
  refine ⟨fun c o h q => ?_, fun c h q => ?_, fun c h => b.there c (a.there c h), fun c p h => ⟨(b.far c p (a.far c p h).1).1, fun o q => (b.far c p (a.far c p h).1).2 o ((a.far c p h).2 o q)⟩⟩
  · rcases q with q | q
    · exact b.keep c o (a.keep c o h (.inl q)) (.inl (a.free c (by rw [h]; simp) q))
    · have h1 : e1 = false ∧ e2 = false := by simpa using q
      exact b.keep c o (a.keep c o h (.inr h1.1)) (.inr h1.2)
  · exact b.free c (a.there c h) (a.free c h q)
theorem Chg.up {e e' : Bool} {ω0 ω1 : Om} {H0 H1 : Hp} (a : Chg e ω0 H0 ω1 H1) (h : e' = false → e = false) : Chg e' ω0 H0 ω1 H1 :=
  ⟨fun c o x q => a.keep c o x (q.imp id h), a.free, a.there, a.far⟩
theorem Chg.any {e : Bool} {ω0 ω1 : Om} {H0 H1 : Hp} (a : Chg e ω0 H0 ω1 H1) : Chg true ω0 H0 ω1 H1 := a.up (by simp)
theorem Chg.non {e : Bool} {ω0 ω1 : Om} {H0 H1 : Hp} (a : Chg false ω0 H0 ω1 H1) : Chg e ω0 H0 ω1 H1 := a.up (by simp)
/-- a new object -/
theorem Chg.new {ω : Om} {H : Hp} {p : Addr} {o : HO} (h : H p = none) : Chg false ω H ω (upd H p o) := by
  refine ⟨fun a u e _ => ?_, fun _ _ q => q, fun a e => ?_, fun a q e => ⟨e, fun o x => by rw [upd_ne (ne_of_none x h)]; exact x⟩⟩
  · rw [upd_ne (ne_of_none e h)]; exact e
  · by_cases z : a = p
    · subst z; rw [upd_same]; simp
    · rw [upd_ne z]; exact e
/-- all that was tracked stays -/
theorem Chg.same {ω : Om} {H H' : Hp} (h : ∀ a o, H a = some o → H' a = some o) : Chg false ω H ω H' :=
  ⟨fun a o e _ => h a o e, fun _ _ q => q, fun a e => by
    cases q : H a with
    | none => exact absurd q e
    | some o => rw [h a o q]; simp, fun a p e => ⟨e, fun o x => h a o x⟩⟩
theorem Chg.same' {ω ω' : Om} {H H' : Hp} (c : Chg false ω H ω' H') : ∀ a o, H a = some o → H' a = some o := fun a o h => c.keep a o h (.inr rfl)

/-- what a frozen value leans on -/
structure Fz (ω : Om) (H : Hp) (ω' : Om) (H' : Hp) : Prop where
  keep : ∀ a o, H a = some o → ω a = none → H' a = some o
  free : ∀ a, H a ≠ none → ω a = none → ω' a = none
theorem Chg.fz {e : Bool} {ω ω' : Om} {H H' : Hp} (c : Chg e ω H ω' H') : Fz ω H ω' H' := ⟨fun a o h q => c.keep a o h (.inl q), c.free⟩
theorem RdO.mono {K : PySem.W.Frag} {ω ω' : Om} {H H' : Hp} {a : Addr} {u : HO} (r : RdO K ω H a u) (c : Fz ω H ω' H') : RdO K ω' H' a u := by
  obtain ⟨r, q⟩ := r
  have ne : H a ≠ none := by rcases r with r | ⟨o, r⟩ <;> (rw [r]; simp)
  refine ⟨?_, c.free a ne q⟩
  rcases r with r | ⟨o, r⟩
  · exact .inl (c.keep _ _ r q)
  · exact .inr ⟨o, c.keep _ _ r q⟩
theorem Rd.mono {e : Bool} {ω ω' : Om} {H H' : Hp} {a : Addr} {u : HO} (r : Rd H a u) (c : Chg false ω H ω' H') : Rd H' a u := by
  rcases r with r | ⟨o, r⟩
  · exact .inl (c.same' _ _ r)
  · exact .inr ⟨o, c.same' _ _ r⟩

theorem FlkR.mono {K : PySem.W.Frag} {ω ω' : Om} {H H' : Hp} {a : Addr} {xs : List V} (r : FlkR K ω H a xs) (c : Fz ω H ω' H') : FlkR K ω' H' a xs := r.imp (·.mono c) id
theorem FlkR.sq {K : PySem.W.Frag} {ω : Om} {H : Hp} {a : Addr} {xs : List V} (r : FlkR K ω H a xs) : SqL K H a xs := r.imp (·.1) id
section
variable {C : Ct} {K : PySem.W.Frag} {e : Bool} {ω ω' : Om} {H H' : Hp}
mutual
theorem Rep.fz (c : Fz ω H ω' H') : ∀ {v : V} {d : D}, Rep C K ω H v d → Rep C K ω' H' v d
  | _, _, .non => .non
  | _, _, .bl b => .bl b
  | _, _, .int i => .int i
  | _, _, .str x => .str x
  | _, _, .tup r rs => .tup (r.mono c) (Reps.fz c rs)
  | _, _, .tupK r rs => .tupK r (Reps.fz c rs)
  | _, _, .lst r q rs => .lst (c.keep _ _ r q) (c.free _ (by rw [r]; simp) q) (Reps.fz c rs)
  | _, _, .flk r rs => .flk (r.mono c) (Reps.fz c rs)
  | _, _, .ins r q l rs => .ins (c.keep _ _ r q) (c.free _ (by rw [r]; simp) q) l (Reps.fz c rs)
theorem Reps.fz (c : Fz ω H ω' H') : ∀ {v : List V} {d : List D}, Reps C K ω H v d → Reps C K ω' H' v d
  | _, _, .nil => .nil
  | _, _, .cons r rs => .cons (Rep.fz c r) (Reps.fz c rs)
end
theorem Rep.mono (c : Chg e ω H ω' H') {v : V} {d : D} (r : Rep C K ω H v d) : Rep C K ω' H' v d := r.fz c.fz
theorem Reps.mono (c : Chg e ω H ω' H') {v : List V} {d : List D} (r : Reps C K ω H v d) : Reps C K ω' H' v d := r.fz c.fz

theorem Reps.length : ∀ {vs : List V} {ds : List D}, Reps C K ω H vs ds → vs.length = ds.length
  | _, _, .nil => rfl
  | _, _, .cons _ r => by simp [Reps.length r]
theorem Reps.get : ∀ {vs : List V} {ds : List D} {i : Nat} {v : V}, Reps C K ω H vs ds → vs[i]? = some v → ∃ d, ds[i]? = some d ∧ Rep C K ω H v d
  | _, _, i, _, .nil, h => by simp at h
  | _, _, 0, _, .cons r _, h => ⟨_, rfl, by simp at h; subst h; exact r⟩
  | _, _, i + 1, _, .cons _ r, h => by
    obtain ⟨d, e, q⟩ := Reps.get (i := i) r (by simpa using h)
    exact ⟨d, by simpa using e, q⟩
theorem Reps.getD : ∀ {vs : List V} {ds : List D} {i : Nat} {d : D}, Reps C K ω H vs ds → ds[i]? = some d → ∃ v, vs[i]? = some v ∧ Rep C K ω H v d
  | _, _, i, _, .nil, h => by simp at h
  | _, _, 0, _, .cons r _, h => ⟨_, rfl, by simp at h; subst h; exact r⟩
  | _, _, i + 1, _, .cons _ r, h => by
    obtain ⟨d, e, q⟩ := Reps.getD (i := i) r (by simpa using h)
    exact ⟨d, by simpa using e, q⟩
theorem Reps.append : ∀ {vs ws : List V} {ds es : List D}, Reps C K ω H vs ds → Reps C K ω H ws es → Reps C K ω H (vs ++ ws) (ds ++ es)
  | _, _, _, _, .nil, s => s
  | _, _, _, _, .cons r t, s => .cons r (Reps.append t s)
theorem Reps.take : ∀ {vs : List V} {ds : List D} (n : Nat), Reps C K ω H vs ds → Reps C K ω H (vs.take n) (ds.take n)
  | _, _, 0, _ => by simp; exact .nil
  | _, _, n + 1, .nil => .nil
  | _, _, n + 1, .cons r t => .cons r (Reps.take n t)
theorem Reps.drop : ∀ {vs : List V} {ds : List D} (n : Nat), Reps C K ω H vs ds → Reps C K ω H (vs.drop n) (ds.drop n)
  | _, _, 0, r => by simpa using r
  | _, _, n + 1, .nil => .nil
  | _, _, n + 1, .cons r t => Reps.drop n t
theorem Reps.set : ∀ {vs : List V} {ds : List D} (i : Nat) {v : V} {d : D}, Reps C K ω H vs ds → Rep C K ω H v d → Reps C K ω H (vs.set i v) (ds.set i d)
  | _, _, _, _, _, .nil, _ => by simp; exact .nil
  | _, _, 0, _, _, .cons r t, q => .cons q t
  | _, _, i + 1, _, _, .cons r t, q => .cons r (Reps.set i t q)
theorem Reps.dropLast : ∀ {vs : List V} {ds : List D}, Reps C K ω H vs ds → Reps C K ω H vs.dropLast ds.dropLast := by
  intro vs ds r
  rw [List.dropLast_eq_take, List.dropLast_eq_take, r.length]
  exact r.take _
theorem Reps.reverse : ∀ {vs : List V} {ds : List D}, Reps C K ω H vs ds → Reps C K ω H vs.reverse ds.reverse
  | _, _, .nil => .nil
  | _, _, .cons r t => by
    rw [List.reverse_cons, List.reverse_cons]
    exact (Reps.reverse t).append (.cons r .nil)
theorem Reps.ints : ∀ {is : List Int}, Reps C K ω H (is.map V.int) (is.map D.int)
  | [] => .nil
  | i :: is => .cons (.int i) Reps.ints
theorem Reps.of_ints : ∀ {is : List Int} {vs : List V}, Reps C K ω H vs (is.map D.int) → vs = is.map V.int
  | [], _, h => by cases h; rfl
  | i :: is, _, h => by
    cases h with
    | cons r t => cases r; rw [Reps.of_ints t]; rfl
theorem Reps.rep : ∀ {vs : List V} {ds : List D} (n : Nat), Reps C K ω H vs ds → Reps C K ω H (List.replicate n vs).flatten (List.replicate n ds).flatten
  | _, _, 0, _ => by simp; exact .nil
  | _, _, n + 1, r => by
    rw [List.replicate_succ, List.replicate_succ, List.flatten_cons, List.flatten_cons]
    exact r.append (Reps.rep n r)

theorem SqT.ofRep {a : Addr} {ds : List D} (r : Rep C K ω H (.ref a) (.tup ds)) : ∃ xs, SqT K H a xs ∧ Reps C K ω H xs ds := by
  cases r with
  | tup r rs => exact ⟨_, .inl r.1, rs⟩
  | tupK r rs => exact ⟨_, .inr r, rs⟩
theorem rep_tup {v : V} {ds : List D} (r : Rep C K ω H v (.tup ds)) : ∃ a xs, v = .ref a ∧ SqT K H a xs ∧ Reps C K ω H xs ds := by
  cases r with
  | tup r rs => exact ⟨_, _, rfl, .inl r.1, rs⟩
  | tupK r rs => exact ⟨_, _, rfl, .inr r, rs⟩

theorem ShFs.mono (c : Chg false ω H ω' H') : ∀ {v : List V} {d : List D}, ShFs C K ω H v d → ShFs C K ω' H' v d
  | _, _, .nil => .nil
  | _, _, .rep r t => .rep (r.mono c) (ShFs.mono c t)
  | _, _, .own h r t => .own (c.same' _ _ h) (r.mono c) (ShFs.mono c t)
theorem OwnF.re {i j : Nat} {p : Option Nat} {v : V} {d : D} (o : OwnF C K ω H i p v d) (c : Fz ω H ω' H') (hk : ∀ a q o, ω a = some (i, q) → H a = some o → H' a = some o ∧ ω' a = some (j, q)) : OwnF C K ω' H' j p v d := by
  cases o with
  | lst h w r =>
    obtain ⟨h', w'⟩ := hk _ _ _ w h
    exact .lst h' w' (r.fz c)
theorem OwnFs.re {i j : Nat} (c : Fz ω H ω' H') (hk : ∀ a q o, ω a = some (i, q) → H a = some o → H' a = some o ∧ ω' a = some (j, q)) : ∀ {k : Nat} {v : List V} {d : List D}, OwnFs C K ω H i k v d → OwnFs C K ω' H' j k v d
  | _, _, _, .nil => .nil
  | _, _, _, .rep r t => .rep (r.fz c) (OwnFs.re c hk t)
  | _, _, _, .own r t => .own (r.re c hk) (OwnFs.re c hk t)
theorem OwnR.re {i j : Nat} {v : V} {d : D} (o : OwnR C K ω H i v d) (c : Fz ω H ω' H') (hk : ∀ a q o, ω a = some (i, q) → H a = some o → H' a = some o ∧ ω' a = some (j, q)) : OwnR C K ω' H' j v d := by
  cases o with
  | flat f => exact .flat (f.re c hk)
  | ins h w l r =>
    obtain ⟨h', w'⟩ := hk _ _ _ w h
    exact .ins h' w' l (OwnFs.re c hk r)
theorem OwnR.mono {i : Nat} {v : V} {d : D} (o : OwnR C K ω H i v d) (c : Chg e ω H ω' H') (hk : ∀ a q o, ω a = some (i, q) → H a = some o → H' a = some o ∧ ω' a = some (i, q)) : OwnR C K ω' H' i v d := o.re c.fz hk
end

/-! ## what is read off a frozen thing when ownership is dropped -/
def D.strip : D → D
  | .own d => d
  | d => d
def D.un : D → D
  | .own (.ins c fs) => .ins c (fs.map D.strip)
  | .own d => d
  | .brw (.ins c fs) => .ins c (fs.map D.strip)
  | .brw d => d
  | d => d

/-- owner i is struck -/
def strike (ω : Om) (i : Nat) : Om := fun a => match ω a with
  | some (j, p) => if j = i then none else some (j, p)
  | none => none
theorem strike_none {ω : Om} {i : Nat} {a : Addr} (h : ω a = none) : strike ω i a = none := by unfold strike; rw [h]
theorem strike_own {ω : Om} {i : Nat} {a : Addr} {p : Option Nat} (h : ω a = some (i, p)) : strike ω i a = none := by unfold strike; rw [h]; simp
theorem strike_ne {ω : Om} {i j : Nat} {a : Addr} {p : Option Nat} (h : ω a = some (j, p)) (n : j ≠ i) : strike ω i a = some (j, p) := by unfold strike; rw [h]; simp [n]
theorem strike_some {ω : Om} {i j : Nat} {a : Addr} {p : Option Nat} (h : strike ω i a = some (j, p)) : ω a = some (j, p) ∧ j ≠ i := by
  unfold strike at h
  cases q : ω a with
  | none => rw [q] at h; simp at h
  | some z =>
    obtain ⟨k, r⟩ := z
    rw [q] at h
    by_cases hk : k = i
    · simp [hk] at h
    · simp [hk] at h
      exact ⟨by rw [h.1, h.2], by rw [← h.1]; exact hk⟩
theorem Chg.strike {ω : Om} {i : Nat} {H : Hp} (hi : i ≠ FO) : Chg false ω H (strike ω i) H := ⟨fun _ _ h _ => h, fun _ _ q => strike_none q, fun _ h => h, fun a p e => ⟨strike_ne e (Ne.symm hi), fun _ q => q⟩⟩

section
variable {C : Ct} {K : PySem.W.Frag} {ω : Om} {H : Hp}
theorem OwnF.freeze {i : Nat} (hi : i ≠ FO) {p : Option Nat} {v : V} {d : D} (o : OwnF C K ω H i p v d) : Rep C K (strike ω i) H v d := by
  cases o with
  | lst h w r => exact .lst h (strike_own w) (r.mono (Chg.strike hi))
theorem Rep.strip {v : V} {d : D} (r : Rep C K ω H v d) : d.strip = d := by cases r <;> rfl
theorem OwnFs.freeze {i : Nat} (hi : i ≠ FO) : ∀ {j : Nat} {v : List V} {d : List D}, OwnFs C K ω H i j v d → Reps C K (strike ω i) H v (d.map D.strip)
  | _, _, _, .nil => .nil
  | _, _, _, .rep (d := d) r t => by
    rw [List.map_cons, r.strip]
    exact .cons (r.mono (Chg.strike hi)) (OwnFs.freeze hi t)
  | _, _, _, .own r t => .cons (r.freeze hi) (OwnFs.freeze hi t)
theorem OwnR.freeze {i : Nat} (hi : i ≠ FO) {v : V} {d : D} (o : OwnR C K ω H i v d) : Rep C K (strike ω i) H v (D.un (.own d)) ∧ D.un (.brw d) = D.un (.own d) := by
  cases o with
  | flat f =>
    have := f.freeze hi
    cases f with
    | lst h w r => exact ⟨this, rfl⟩
  | ins h w l r => exact ⟨.ins h (strike_own w) l (r.freeze hi), rfl⟩
theorem OwnFs.sh {i : Nat} : ∀ {j : Nat} {v : List V} {d : List D}, OwnFs C K ω H i j v d → ShFs C K ω H v d
  | _, _, _, .nil => .nil
  | _, _, _, .rep r t => .rep r (OwnFs.sh t)
  | _, _, _, .own (.lst h w r) t => .own h r (OwnFs.sh t)
theorem OwnR.sh {i : Nat} {v : V} {d : D} (o : OwnR C K ω H i v d) : Sh C K ω H v d := by
  cases o with
  | flat f => cases f with
    | lst h w r => exact .lst h r
  | ins h w l r => exact .ins h l r.sh
end

theorem mut_some {o : Option HO} (m : Mut o) : o ≠ none := fun z => by subst z; exact m
theorem mut_keep {o o' : Option HO} (h : ∀ u, o = some u → o' = some u) (m : Mut o) : Mut o' := by
  cases o with
  | none => exact m.elim
  | some u => rw [h u rfl]; exact m
/-! ## frames -/
/-- what a slot holds -/
def SlotR (C : Ct) (K : PySem.W.Frag) (ω : Om) (H : Hp) (i : Nat) (v : V) : D → Prop
  | .own d => OwnR C K ω H i v d
  | .brw d => OwnR C K ω H i v d
  | d => Rep C K ω H v d

structure Sim (C : Ct) (K : PySem.W.Frag) (ω : Om) (env : Env) (σ : St) (H : Hp) : Prop where
  len : σ.length = env.length
  sz : env.length < FO
  own : ∀ a i p, ω a = some (i, p) → (i ≤ env.length ∨ i = FO) ∧ Mut (H a)
  slot : ∀ i d, env[i]? = some (some d) → ∃ v, σ[i]? = some (some v) ∧ SlotR C K ω H i v d

theorem Sim.fresh {C : Ct} {K : PySem.W.Frag} {ω : Om} {env : Env} {σ : St} {H : Hp} (S : Sim C K ω env σ H) {p : Addr} (h : H p = none) : ω p = none := by
  cases q : ω p with
  | none => rfl
  | some z => obtain ⟨i, r⟩ := z; exact absurd h (mut_some (S.own p i r q).2)

/-- nothing owned changes, nothing changes owner -/
theorem Sim.same {C : Ct} {K : PySem.W.Frag} {ω : Om} {env : Env} {σ : St} {H H' : Hp} (S : Sim C K ω env σ H) (h : ∀ a o, H a = some o → H' a = some o) : Sim C K ω env σ H' := by
  have c : Chg false ω H ω H' := Chg.same h
  refine ⟨S.len, S.sz, fun a i p q => ⟨(S.own a i p q).1, mut_keep (h a) (S.own a i p q).2⟩, fun i d q => ?_⟩
  obtain ⟨v, e, r⟩ := S.slot i d q
  have hk : ∀ a q o, ω a = some (i, q) → H a = some o → H' a = some o ∧ ω a = some (i, q) := fun a q o w e => ⟨h a o e, w⟩
  refine ⟨v, e, ?_⟩
  cases d <;> first
    | exact Rep.mono c r
    | exact OwnR.mono r c hk

end Q9

set_option Elab.async false
set_option linter.all false
set_option maxRecDepth 100000
namespace Q9
open PySem PySem.Spec L2

/-! ## the terms -/
inductive Bop where | add | sub | mul | fdiv | mod | pow | shl | shr | band deriving DecidableEq
inductive Cop where | eq | ne | lt | le | gt | ge | isn | notn | isin | notin deriving DecidableEq
inductive Bi where | len | sum | min | max | sorted | int | list | tuple | any | all deriving DecidableEq
inductive Bm where | bits deriving DecidableEq
inductive Mm where | append | pop | clear deriving DecidableEq

inductive Tk where | int | bool | str | tuple | list deriving DecidableEq

inductive Tg where | nm (i : Nat) | tp (is : List Nat) deriving DecidableEq

inductive IE where
  | unk
  | con (d : D) | gl (x : String) (d : D) | var (i : Nat)
  | nil | cons (h t : IE) | star (h t : IE)
  | tupE (as : IE) | lstE (as : IE)
  | bin (o : Bop) (a b : IE) | cmp (o : Cop) (a b : IE) | chain (o o' : Cop) (a b c : IE) | chain3 (o o2 o3 : Cop) (a b c d : IE)
  | not (a : IE) | neg (a : IE) | and (a b : IE) | or (a b : IE) | ite (c a b : IE)
  | idx (a i : IE) | slc (a lo hi : IE) | rev (a : IE)
  | bi (f : Bi) (as : IE) | bm (m : Bm) (a as : IE) | mm (m : Mm) (i : Nat) (as : IE)
  | call (f : Nat) (as : IE) | aB (i : Nat) | aP (i : Nat)
  | isi (k : Tk) (a : IE)
  | rng1 (a : IE) | rng2 (a b : IE) | enm (a : IE) | lrng (a b : IE)
  | lc (own : List Nat) (tg : Tg) (it cond elt : IE)

inductive IS where
  | unk | nil | seq (a b : IS) | pass | brk | cont
  | asg (tg : Tg) (e : IE) | asgs (is : List Nat) (e : IE) | par (is : List Nat) (es : IE)
  | setI (i : Nat) (k e : IE) | aug (i : Nat) (o : Bop) (e : IE)
  | exp (e : IE) | ret (e : IE) | retN | retV (i : Nat)
  | ite (c : IE) (a b : IS) | whl (c : IE) (b : IS) | for (tg : Tg) (it : IE) (b : IS) | forO (tg : Tg) (i : Nat) (en : Bool) (b : IS)

/-! ## operations by value -/
def D.truth : D → Option Bool
  | .non => some false
  | .bl b => some b
  | .int i => some (i != 0)
  | .tup l => some (!l.isEmpty)
  | .lst l => some (!l.isEmpty)
  | .flk l => some (!l.isEmpty)
  | _ => none

def D.len : D → Option Nat
  | .tup l => some l.length
  | .lst l => some l.length
  | .flk l => some l.length
  | _ => none

mutual
def D.py : D → Option PyData
  | .non => some .none
  | .bl b => some (.bool b)
  | .int i => some (.int i)
  | .str s => some (.str s)
  | .tup l => (D.pys l).map .tuple
  | .lst l => (D.pys l).map .list
  | _ => none
def D.pys : List D → Option (List PyData)
  | [] => some []
  | d :: ds => match D.py d, D.pys ds with
    | some x, some xs => some (x :: xs)
    | _, _ => none
end

def D.eqv (a b : D) : Option Bool := match D.py a, D.py b with
  | some x, some y => if SeqAt.shaped x && SeqAt.shaped y then some (PyData.eqv x y) else none
  | _, _ => none

def smallMul (i j : Int) : Bool := decide ((-(2 ^ 64) < i ∧ i < 2 ^ 64) ∨ (-(2 ^ 64) < j ∧ j < 2 ^ 64))

def binD : Bop → D → D → Option D
  | .add, .int i, .int j => some (.int (i + j))
  | .add, .lst a, .lst b => if a.length + b.length ≤ sizeLine then some (.own (.lst (a ++ b))) else none
  | .add, .tup a, .tup b => if a.length + b.length ≤ sizeLine then some (.tup (a ++ b)) else none
  | .sub, .int i, .int j => some (.int (i - j))
  | .mul, .int i, .int j => if smallMul i j then some (.int (i * j)) else none
  | .mul, .lst a, .int j => if 0 ≤ j ∧ j ≤ sizeLine ∧ a.length * j.toNat ≤ sizeLine then some (.own (.lst (List.replicate j.toNat a).flatten)) else none
  | .fdiv, .int i, .int j => if 0 < j ∧ j < 1073741824 then some (.int (i / j)) else none
  | .mod, .int i, .int j => if 0 < j then some (.int (i % j)) else none
  | .pow, .int i, .int j => if 0 ≤ j ∧ j ≤ 1000000 ∧ i.natAbs < 2 ^ 64 then some (.int (i ^ j.toNat)) else none
  | .shl, .int i, .int j => if 0 ≤ j ∧ j ≤ 1000000 ∧ i.natAbs < 2 ^ 64 then some (.int (i * 2 ^ j.toNat)) else none
  | .shr, .int i, .int j => if 0 ≤ j then some (.int (i / 2 ^ j.toNat)) else none
  | .band, .int i, .int j => some (.int (Builtin.bitAnd i j))
  | _, _, _ => none

def memD (x : D) (ys : List D) : Option Bool := match D.py x, D.pys ys with
  | some p, some qs => if SeqAt.shaped p && SeqAt.shaped (.list qs) then some (qs.any fun z => PyData.eqv z p) else none
  | _, _ => none

def cmpD : Cop → D → D → Option Bool
  | .eq, a, b => D.eqv a b
  | .ne, a, b => (D.eqv a b).map (!·)
  | .lt, .int i, .int j => some (decide (i < j))
  | .le, .int i, .int j => some (decide (i ≤ j))
  | .gt, .int i, .int j => some (decide (j < i))
  | .ge, .int i, .int j => some (decide (j ≤ i))
  | .isn, .non, .non => some true
  | .isn, .bl _, .non => some false
  | .isn, .int _, .non => some false
  | .isn, .str _, .non => some false
  | .isn, .tup _, .non => some false
  | .isn, .lst _, .non => some false
  | .isn, .flk _, .non => some false
  | .notn, .non, .non => some false
  | .notn, .bl _, .non => some true
  | .notn, .int _, .non => some true
  | .notn, .str _, .non => some true
  | .notn, .tup _, .non => some true
  | .notn, .lst _, .non => some true
  | .notn, .flk _, .non => some true
  | .isin, x, .lst ys => memD x ys
  | .notin, x, .lst ys => (memD x ys).map (!·)
  | _, _, _ => none

def idxD : D → D → Option D
  | .tup l, .int i => atI l i
  | .lst l, .int i => atI l i
  | .flk l, .int i => atI l i
  | _, _ => none

def cutD (xs : List D) (lo hi : Option Int) : List D := (xs.drop (HT.sIx xs.length 0 lo)).take (HT.sIx xs.length xs.length hi - HT.sIx xs.length 0 lo)
def partD : D → Option (Option Int)
  | .non => some none
  | .int i => some (some i)
  | _ => none
def slcD : D → Option Int → Option Int → Option D
  | .lst l, x, y => some (.own (.lst (cutD l x y)))
  | .tup l, x, y => some (.tup (cutD l x y))
  | _, _, _ => none

def intsD : List D → Option (List Int)
  | [] => some []
  | .int i :: ds => (intsD ds).map (i :: ·)
  | _ => none
def minL : List Int → Int
  | [] => 0
  | [a] => a
  | a :: as => min a (minL as)
def maxL : List Int → Int
  | [] => 0
  | [a] => a
  | a :: as => max a (maxL as)
def isort (l : List Int) : List Int := l.mergeSort (fun a b => decide (a ≤ b))

def biD : Bi → List D → Option D
  | .len, [d] => match d.len with
    | some n => some (.int ((n : Nat) : Int))
    | none => none
  | .sum, [.lst l] => (intsD l).map fun is => .int is.sum
  | .min, [.int a, .int b] => some (.int (min a b))
  | .max, [.int a, .int b] => some (.int (max a b))
  | .min, [.int a, .int b, .int c] => some (.int (min (min a b) c))
  | .max, [.int a, .int b, .int c] => some (.int (max (max a b) c))
  | .min, [.lst l] => match intsD l with
    | some (i :: is) => some (.int (minL (i :: is)))
    | _ => none
  | .max, [.lst l] => match intsD l with
    | some (i :: is) => some (.int (maxL (i :: is)))
    | _ => none
  | .sorted, [.lst l] => match intsD l with
    | some is => if is.length ≤ sizeLine then some (.own (.lst ((isort is).map .int))) else none
    | _ => none
  | .int, [.int i] => some (.int i)
  | .int, [.bl b] => some (.int (if b then 1 else 0))
  | .list, [.lst l] => some (.own (.lst l))
  | .list, [.tup l] => some (.own (.lst l))
  | .list, [.flk l] => some (.own (.lst l))
  | .tuple, [.lst l] => some (.tup l)
  | .tuple, [.tup l] => some (.tup l)
  | _, _ => none

def bmD : Bm → D → List D → Option D
  | .bits, .int i, [] => some (.int (Builtin.Int.intBits i : Nat))
  | _, _, _ => none

def mmD : Mm → D → List D → Option (D × D)
  | .append, .lst l, [d] => if l.length < sizeLine then some (.non, .lst (l ++ [d])) else none
  | .pop, .lst l, [] => match l[l.length - 1]? with
    | some d => some (d, .lst l.dropLast)
    | none => none
  | .clear, .lst l, [] => some (.non, .lst [])
  | _, _, _ => none

def Tk.nm : Tk → String
  | .int => "int" | .bool => "bool" | .str => "str" | .tuple => "tuple" | .list => "list"
def tyD : D → Option String
  | .non => some "NoneType"
  | .bl _ => some "bool"
  | .int _ => some "int"
  | .str _ => some "str"
  | .tup _ => some "tuple"
  | .lst _ => some "list"
  | .flk _ => some "list"
  | _ => none
def Tk.has : Tk → D → Option Bool
  | .int, .int _ => some true
  | .int, .bl _ => some true
  | .bool, .bl _ => some true
  | .str, .str _ => some true
  | .tuple, .tup _ => some true
  | .list, .lst _ => some true
  | .list, .flk _ => some true
  | _, d => (tyD d).map fun _ => false

mutual
def D.plain : D → Bool
  | .non => true
  | .bl _ => true
  | .int _ => true
  | .str _ => true
  | .tup l => D.plains l
  | _ => false
def D.plains : List D → Bool
  | [] => true
  | d :: ds => D.plain d && D.plains ds
end

/-! ## evaluation -/
inductive Md where | v | p | t deriving DecidableEq
def fin : Md → Re D → Re D
  | .v, r => r
  | .p, .ok d e => .ok (D.un d) e
  | .p, r => r
  | .t, .ok d e => match D.truth (D.un d) with
    | some b => .ok (.bl b) e
    | none => .stk
  | .t, r => r
def ofO (o : Option D) (e : Env) : Re D := match o with
  | some d => .ok d e
  | none => .stk
def ofB (o : Option Bool) (e : Env) : Re D := match o with
  | some b => .ok (.bl b) e
  | none => .stk

def IE.eff : IE → Bool
  | .mm _ _ _ => true
  | .call _ _ => true
  | .aB _ => true
  | .cons h t | .star h t => h.eff || t.eff
  | .isi _ a => a.eff
  | .tupE a | .lstE a | .not a | .neg a | .rev a | .bi _ a | .rng1 a | .enm a => a.eff
  | .bin _ a b | .cmp _ a b | .and a b | .or a b | .idx a b | .rng2 a b | .lrng a b => a.eff || b.eff
  | .chain _ _ a b c => a.eff || b.eff || c.eff
  | .chain3 _ _ _ a b c d => a.eff || b.eff || c.eff || d.eff
  | .ite a b c | .slc a b c => a.eff || b.eff || c.eff
  | .bm _ a b => a.eff || b.eff
  | .lc _ _ a b c => a.eff || b.eff || c.eff
  | _ => false

def IE.isB : IE → Bool
  | .aB _ | .aP _ => true
  | _ => false
def IE.noB : IE → Bool
  | .cons h t => !h.isB && t.noB
  | .star _ t => t.noB
  | _ => true
def IE.noS : IE → Bool
  | .cons _ t => t.noS
  | .star _ _ => false
  | _ => true
/-- where the slot i is borrowed -/
def posB : IE → Nat → Nat → Option Nat
  | .cons h t, i, j => match h with
    | .aB k => if k = i then some j else posB t i (j + 1)
    | _ => posB t i (j + 1)
  | _, _, _ => none
def pkB : IE → Nat → Bool
  | .cons h t, i => (match h with | .aP k => decide (k = i) | _ => false) || pkB t i
  | _, _ => false
def IE.okB : IE → Bool
  | .nil => true
  | .cons h t => (match h with | .aB k => (posB t k 0).isNone && !pkB t k | .aP k => (posB t k 0).isNone | _ => true) && t.okB
  | _ => false
def IE.hasB : IE → Bool
  | .cons h t => (match h with | .aB _ => true | _ => false) || t.hasB
  | _ => false
def IE.len : IE → Nat
  | .cons _ t => t.len + 1
  | _ => 0
/-- where (from j on) the j-th argument's borrowed slot is -/
def atB : IE → Nat → Option Nat
  | .cons h t, j => match j with
    | 0 => (match h with | .aB k => some k | _ => none)
    | j + 1 => atB t j
  | _, _ => none
/-- the mode for an operand with e behind it -/
def pk (b : IE) : Md := if b.eff then .v else .p

def setSl (e : Env) (i : Nat) (d : D) : Option Env := match e[i]? with
  | some (some (.brw _)) => none
  | some _ => some (e.set i (some d))
  | none => none
def setSls : Env → List Nat → List D → Option Env
  | e, [], [] => some e
  | e, i :: is, d :: ds => match setSl e i d with
    | some e' => setSls e' is ds
    | none => none
  | _, _, _ => none
def bindT (e : Env) : Tg → D → Option Env
  | .nm i, d => setSl e i d
  | .tp is, .tup ds => setSls e is ds
  | _, _ => none

/-- a comprehension's slots ahead of it -/
def wipeD (e : Env) : List Nat → Option Env
  | [] => some e
  | i :: is => match wipeD e is with
    | some e' => match e'[i]? with
      | some (some (.own _)) => none
      | some (some (.brw _)) => none
      | some _ => some (e'.set i none)
      | none => none
    | none => none
def backD (e0 e : Env) : List Nat → Env
  | [] => e
  | i :: is => match e0[i]? with
    | some x => (backD e0 e is).set i x
    | none => backD e0 e is

def cloop (bnd : Env → D → Option Env) (cond elt : Env → Re D) : List D → List D → Env → Re D
  | [], acc, e => .ok (.own (.lst acc)) e
  | d :: ds, acc, e => match bnd e d with
    | none => .stk
    | some e1 => (cond e1).bind fun b e2 => match b with
      | .bl true => (elt e2).bind fun x e3 => if acc.length < sizeLine then cloop bnd cond elt ds (acc ++ [D.un x]) e3 else .stk
      | .bl false => cloop bnd cond elt ds acc e2
      | _ => .stk

/-- the arguments behind the evaluation of all of them -/
def resA : IE → List D → Env → Option (List D)
  | .nil, [], _ => some []
  | .cons (.aB i) t, _ :: ds, e => match e[i]?, resA t ds e with
    | some (some (.own d)), some r => some (.brw d :: r)
    | some (some (.brw d)), some r => some (.brw d :: r)
    | _, _ => none
  | .cons (.aP i) t, _ :: ds, e => match e[i]?, resA t ds e with
    | some (some d), some r => some (D.un d :: r)
    | _, _ => none
  | .cons _ t, d :: ds, e => match resA t ds e with
    | some r => some (d :: r)
    | none => none
  | _, _, _ => none
/-- the borrowed slots behind a call -/
def wbA : IE → Env → Env → Option Env
  | .nil, _, e => some e
  | .cons (.aB i) t, some (.brw d) :: ps, e => match wbA t ps e with
    | some e1 => match e[i]? with
      | some (some (.own _)) => some (e1.set i (some (.own d)))
      | some (some (.brw _)) => some (e1.set i (some (.brw d)))
      | _ => none
    | none => none
  | .cons (.aB i) t, _, e => none
  | .cons _ t, _ :: ps, e => wbA t ps e
  | _, _, _ => none
def IE.hasP : IE → Bool
  | .cons (.aP _) _ => true
  | .cons _ t => t.hasP
  | _ => false

def itemsD : D → Option (List D)
  | .lst l => some l
  | .tup l => some l
  | .flk l => some l
  | _ => none
def isOwnL (e : Env) (i : Nat) : Bool := match e[i]? with
  | some (some (.own (.lst _))) => true
  | some (some (.brw (.lst _))) => true
  | _ => false
def rngL (lo : Int) (n : Nat) : List D := (List.range n).map fun (j : Nat) => D.int (lo + (j : Int))
def rngOk (a b : Int) : Bool := decide (-(2 ^ 62) ≤ a ∧ a < 2 ^ 62 ∧ -(2 ^ 62) ≤ b ∧ b < 2 ^ 62)
def enmL : Nat → List D → List D
  | _, [] => []
  | i, d :: ds => .tup [.int (i : Int), d] :: enmL (i + 1) ds

/-- a name lent to a call -/
def evB : IE → Env → Re D
  | .aB i, e => match e[i]? with
    | some (some (.own d)) => .ok .non e
    | some (some (.brw d)) => .ok .non e
    | _ => .stk
  | .aP i, e => match e[i]? with
    | some (some d) => .ok .non e
    | _ => .stk
  | _, _ => .stk
mutual
def ev (c : Oracle) : IE → Md → Env → Re D
  | .con d, m, e => fin m (.ok d e)
  | .gl _ d, m, e => fin m (.ok d e)
  | .var i, m, e => match e[i]? with
    | some (some (.own d)) => match m with
      | .v => .ok (D.un (.own d)) (e.set i (some (D.un (.own d))))
      | m => fin m (.ok d e)
    | some (some (.brw d)) => match m with
      | .v => .stk
      | m => fin m (.ok d e)
    | some (some d) => fin m (.ok d e)
    | _ => .stk
  | .tupE as, m, e => fin m ((evA c as e).bind fun ds e1 => if ds.length ≤ sizeLine then .ok (.tup ds) e1 else .stk)
  | .lstE as, m, e => fin m ((evA c as e).bind fun ds e1 => if ds.length ≤ sizeLine then .ok (.own (.lst ds)) e1 else .stk)
  | .bin o a b, m, e => fin m ((ev c a (pk b) e).bind fun x e1 => (ev c b .p e1).bind fun y e2 => ofO (binD o (D.un x) y) e2)
  | .cmp o a b, m, e => (ev c a (pk b) e).bind fun x e1 => (ev c b .p e1).bind fun y e2 => ofB (cmpD o (D.un x) y) e2
  | .chain o o' a b d, m, e => (ev c a (pk b) e).bind fun x e1 => (ev c b (pk d) e1).bind fun y e2 => match cmpD o (D.un x) (D.un y) with
    | some true => (ev c d .p e2).bind fun z e3 => ofB (cmpD o' (D.un y) z) e3
    | some false => .ok (.bl false) e2
    | none => .stk
  | .chain3 o o2 o3 a b b2 d, m, e => (ev c a (pk b) e).bind fun x e1 => (ev c b (pk b2) e1).bind fun y e2 => match cmpD o (D.un x) (D.un y) with
    | some true => (ev c b2 (pk d) e2).bind fun z e3 => match cmpD o2 (D.un y) (D.un z) with
      | some true => (ev c d .p e3).bind fun w e4 => ofB (cmpD o3 (D.un z) w) e4
      | some false => .ok (.bl false) e3
      | none => .stk
    | some false => .ok (.bl false) e2
    | none => .stk
  | .not a, .t, e => (ev c a .t e).bind fun x e1 => match x with
    | .bl b => .ok (.bl (!b)) e1
    | _ => .stk
  | .not a, m, e => (ev c a .p e).bind fun x e1 => match x.truth with
    | some b => .ok (.bl (!b)) e1
    | none => .stk
  | .neg a, m, e => fin m ((ev c a .p e).bind fun x e1 => match x with
    | .int i => .ok (.int (-i)) e1
    | _ => .stk)
  | .and a b, m, e => (ev c a m e).bind fun x e1 => match x with
    | .bl true => (ev c b m e1).bind fun y e2 => match y with
      | .bl k => .ok (.bl k) e2
      | _ => .stk
    | .bl false => .ok (.bl false) e1
    | _ => .stk
  | .or a b, m, e => (ev c a m e).bind fun x e1 => match x with
    | .bl true => .ok (.bl true) e1
    | .bl false => (ev c b m e1).bind fun y e2 => match y with
      | .bl k => .ok (.bl k) e2
      | _ => .stk
    | _ => .stk
  | .ite t a b, m, e => (ev c t .t e).bind fun x e1 => match x with
    | .bl true => ev c a m e1
    | .bl false => ev c b m e1
    | _ => .stk
  | .idx a i, m, e => fin m ((ev c a (pk i) e).bind fun x e1 => (ev c i .p e1).bind fun y e2 => ofO (idxD (D.un x) y) e2)
  | .slc a lo hi, m, e => fin m ((ev c a (pk (.cons lo hi)) e).bind fun x e1 => (ev c lo .p e1).bind fun l e2 => match partD l with
    | none => .stk
    | some l' => (ev c hi .p e2).bind fun h e3 => match partD h with
      | none => .stk
      | some h' => ofO (slcD (D.un x) l' h') e3)
  | .rev a, m, e => fin m ((ev c a .p e).bind fun x e1 => match x with
    | .lst l => .ok (.own (.lst l.reverse)) e1
    | _ => .stk)
  | .bi f as, m, e => fin m ((evP c as e).bind fun ds e1 => ofO (biD f ds) e1)
  | .bm f a as, m, e => fin m ((ev c a (pk as) e).bind fun x e1 => (evA c as e1).bind fun ds e2 => ofO (bmD f (D.un x) ds) e2)
  | .mm f i as, m, e => fin m (if isOwnL e i then (evA c as e).bind fun ds e1 => match e1[i]? with
    | some (some (.own d)) => match mmD f d ds with
      | some (r, d') => .ok r (e1.set i (some (.own d')))
      | none => .stk
    | some (some (.brw d)) => match mmD f d ds with
      | some (r, d') => .ok r (e1.set i (some (.brw d')))
      | none => .stk
    | _ => .stk
    else .stk)
  | .call f as, m, e => fin m ((evA c as e).bind fun ds e1 => match resA as ds e1 with
    | none => .stk
    | some args => match c f args with
      | .ok d ps => match wbA as ps e1 with
        | some e2 => if !as.hasP || d.plain then .ok d e2 else .stk
        | none => .stk
      | .exc cl w ps => match wbA as ps e1 with
        | some e2 => if !as.hasP || w.plain then .exc cl w e2 else .stk
        | none => .stk
      | .stk => .stk)
  | .isi k a, m, e => (ev c a .p e).bind fun x e1 => ofB (k.has x) e1
  | .rng1 a, m, e => (ev c a .p e).bind fun x e1 => match x with
    | .int b => if rngOk 0 b then .ok (.lst (rngL 0 b.toNat)) e1 else .stk
    | _ => .stk
  | .rng2 a b, m, e => (ev c a .p e).bind fun x e1 => (ev c b .p e1).bind fun y e2 => match x, y with
    | .int i, .int j => if rngOk i j then .ok (.lst (rngL i (j - i).toNat)) e2 else .stk
    | _, _ => .stk
  | .lrng a b, m, e => fin m ((ev c a .p e).bind fun x e1 => (ev c b .p e1).bind fun y e2 => match x, y with
    | .int i, .int j => if rngOk i j && decide ((j - i).toNat ≤ sizeLine) then .ok (.own (.lst (rngL i (j - i).toNat))) e2 else .stk
    | _, _ => .stk)
  | .enm a, m, e => (ev c a .v e).bind fun x e1 => match (match D.un x with | .lst l => some l | .flk l => some l | _ => none) with
    | some l => .ok (.lst (enmL 0 l)) e1
    | none => .stk
  | .lc own tg it cond elt, m, e => fin m ((ev c it .v e).bind fun x e1 => match itemsD (D.un x), wipeD e1 own with
    | some l, some _ => match cloop (fun e d => match wipeD e own with | some e' => bindT e' tg d | none => none) (fun e => ev c cond .t e) (fun e => ev c elt .v e) l [] e1 with
      | .ok d e3 => .ok d (backD e1 e3 own)
      | _ => .stk
    | _, _ => .stk)
  | _, _, _ => .stk
/-- arguments that are kept: frozen -/
def evA (c : Oracle) : IE → Env → Re (List D)
  | .nil, e => .ok [] e
  | .cons h t, e => (if h.isB then evB h e else ev c h .v e).bind fun d e1 => (evA c t e1).bind fun ds e2 => .ok (D.un d :: ds) e2
  | .star h t, e => (ev c h .v e).bind fun d e1 => match D.un d with
    | .tup l => (evA c t e1).bind fun ds e2 => .ok (l ++ ds) e2
    | .lst l => (evA c t e1).bind fun ds e2 => .ok (l ++ ds) e2
    | _ => .stk
  | _, _ => .stk
/-- arguments that are read at once -/
def evP (c : Oracle) : IE → Env → Re (List D)
  | .nil, e => .ok [] e
  | .cons h t, e => (ev c h (pk t) e).bind fun d e1 => (evP c t e1).bind fun ds e2 => .ok (D.un d :: ds) e2
  | _, _ => .stk
end

/-! ## statements -/
def Re.fl (x : Re D) (f : D → Env → Fl) : Fl := match x with
  | .ok d e => f d e
  | .exc c w e => .exc c w e
  | .stk => .stk
def ofE (o : Option Env) : Fl := match o with
  | some e => .nx e
  | none => .stk
def Fl.then (x : Fl) (f : Env → Fl) : Fl := match x with
  | .nx e => f e
  | r => r

def floop (bnd : Env → D → Option Env) (body : Env → Fl) : List D → Env → Fl
  | [], e => .nx e
  | d :: ds, e => match bnd e d with
    | none => .stk
    | some e1 => match body e1 with
      | .nx e2 => floop bnd body ds e2
      | .ct e2 => floop bnd body ds e2
      | .brk e2 => .nx e2
      | r => r
def wloop (test : Env → Re D) (body : Env → Fl) : Nat → Env → Fl
  | 0, _ => .stk
  | n + 1, e => (test e).fl fun b e1 => match b with
    | .bl true => match body e1 with
      | .nx e2 => wloop test body n e2
      | .ct e2 => wloop test body n e2
      | .brk e2 => .nx e2
      | r => r
    | .bl false => .nx e1
    | _ => .stk

/-- a loop over the list that slot i holds (lent for the while) -/
def iloop (bnd : Env → D → Option Env) (body : Env → Fl) (i : Nat) (en : Bool) : Nat → Nat → Env → Fl
  | 0, j, e => match e[i]? with
    | some (some (.brw (.lst l))) => match l[j]? with
      | none => .nx e
      | some _ => .stk
    | _ => .stk
  | n + 1, j, e => match e[i]? with
    | some (some (.brw (.lst l))) => match l[j]? with
      | none => .nx e
      | some d => match bnd e (if en then .tup [.int (j : Int), d] else d) with
        | none => .stk
        | some e1 => match body e1 with
          | .nx e2 => iloop bnd body i en n (j + 1) e2
          | .ct e2 => iloop bnd body i en n (j + 1) e2
          | .brk e2 => .nx e2
          | r => r
    | _ => .stk
def unbr (i : Nat) : Fl → Fl
  | .nx e => match e[i]? with
    | some (some (.brw d)) => .nx (e.set i (some (.own d)))
    | _ => .stk
  | .ret d e => .ret d e
  | _ => .stk
def setK : D → D → D → Option D
  | .lst l, .int i, d => match ixN l.length i with
    | some j => some (.lst (l.set j d))
    | none => none
  | _, _, _ => none
def augD : Bop → D → D → Option D
  | .add, .own (.lst a), .lst b => if a.length + b.length ≤ sizeLine then some (.own (.lst (a ++ b))) else none
  | .add, .int i, .int j => some (.int (i + j))
  | .sub, .int i, .int j => some (.int (i - j))
  | _, _, _ => none

def ex (c : Oracle) (W : Nat) : IS → Env → Fl
  | .nil, e => .nx e
  | .pass, e => .nx e
  | .brk, e => .brk e
  | .cont, e => .ct e
  | .seq a b, e => (ex c W a e).then (ex c W b)
  | .asg tg v, e => (ev c v .v e).fl fun d e1 => match tg with
    | .nm i => ofE (setSl e1 i d)
    | .tp is => ofE (bindT e1 (.tp is) (D.un d))
  | .asgs is v, e => (ev c v .v e).fl fun d e1 => ofE (setSls e1 is (is.map fun _ => D.un d))
  | .par is vs, e => match evA c vs e with
    | .ok ds e1 => ofE (setSls e1 is ds)
    | .exc cl w e1 => .exc cl w e1
    | .stk => .stk
  | .setI i k v, e => (ev c v .v e).fl fun d e1 => if isOwnL e1 i then (ev c k .v e1).fl fun x e2 => match e2[i]? with
    | some (some (.own o)) => match setK o (D.un x) (D.un d) with
      | some o' => .nx (e2.set i (some (.own o')))
      | none => .stk
    | some (some (.brw o)) => match setK o (D.un x) (D.un d) with
      | some o' => .nx (e2.set i (some (.brw o')))
      | none => .stk
    | _ => .stk
    else .stk
  | .aug i o v, e => match e[i]? with
    | some (some d0) => (ev c v .p e).fl fun d e1 => match e1[i]? with
      | some (some d1) => match augD o d1 d with
        | some r => ofE (setSl e1 i r)
        | none => .stk
      | _ => .stk
    | _ => .stk
  | .exp v, e => (ev c v .v e).fl fun _ e1 => .nx e1
  | .ret v, e => (ev c v .v e).fl fun d e1 => .ret d e1
  | .retN, e => .ret .non e
  | .retV i, e => match e[i]? with
    | some (some (.own d)) => .ret (.own d) (e.set i none)
    | _ => .stk
  | .ite t a b, e => (ev c t .t e).fl fun x e1 => match x with
    | .bl true => ex c W a e1
    | .bl false => ex c W b e1
    | _ => .stk
  | .whl t b, e => wloop (fun e => ev c t .t e) (fun e => ex c W b e) W e
  | .for tg it b, e => (ev c it .v e).fl fun x e1 => match itemsD (D.un x) with
    | some l => floop (fun e d => bindT e tg d) (fun e => ex c W b e) l e1
    | none => .stk
  | .forO tg i en b, e => match e[i]? with
    | some (some (.own (.lst l))) => unbr i (iloop (fun e d => bindT e tg d) (fun e => ex c W b e) i en W 0 (e.set i (some (.brw (.lst l)))))
    | _ => .stk
  | _, _ => .stk

/-! ## defs -/
structure Df where
  params : Nat
  slots : Nat
  body : IS

def startE (n : Nat) (ds : List D) : Env := ds.map some ++ List.replicate (n - ds.length) none
def callF (c : Oracle) (W : Nat) (f : Df) (ds : List D) : RC :=
  if ds.length = f.params then match ex c W f.body (startE f.slots ds) with
    | .nx e => .ok .non (e.take f.params)
    | .ret d e => if e.length = f.slots then .ok d (e.take f.params) else .stk
    | .exc cl w e => .exc cl w (e.take f.params)
    | _ => .stk
  else .stk
/-- k: the depth, W: the turns of a while -/
def run (Γ : Nat → Option Df) (W : Nat) : Nat → Oracle
  | 0 => fun _ _ => .stk
  | k + 1 => fun f ds => match Γ f with
    | some d => callF (run Γ W k) W d ds
    | none => .stk
end Q9

set_option Elab.async false
set_option linter.all false
set_option maxRecDepth 100000
namespace Q9
open PySem PySem.Spec L2

/-! ## the canonical readings -/
def wE (X : Cx) (e : Expr) : TE := fun σ H Q => ∀ pins s, Inv X pins σ H s → wpAny (model X.prog X.w) X.A (eval e X.env) (EP X pins σ Q) X.xe s
def wT (X : Cx) (e : Expr) : TT := fun σ H Q => ∀ pins s, Inv X pins σ H s → wpAny (model X.prog X.w) X.A (isTrue e X.env (eval e X.env)) (TP X pins σ Q) X.xe s
def wW (X : Cx) (e : Expr) : TT := fun σ H Q => ∀ whole pins s, Inv X pins σ H s → wpAny (model X.prog X.w) X.A (isTrue e X.env whole) (TP X pins σ Q) X.xe s
def wA (X : Cx) (es : List Expr) : TA := fun σ H Q => ∀ pos pins s, Inv X pins σ H s → wpAny (model X.prog X.w) X.A (spliced (backTo pos (starEach es X.env))) (AP X pins σ Q) X.xe s
def wS (X : Cx) (st : Stmt) : TS := fun D σ H => ∀ pins s, Inv X pins σ H s → wpAny (model X.prog X.w) X.A (exec st X.env) (SP X pins D) X.xe s
def wB (X : Cx) (st : List Stmt) : TS := fun D σ H => ∀ pins s, Inv X pins σ H s → wpAny (model X.prog X.w) X.A (execs st X.env) (SP X pins D) X.xe s
def wI (X : Cx) (tg iter : Expr) : TI := fun σ H R => ∀ pins s, Inv X pins σ H s →
  wpAny (model X.prog X.w) X.A (eval iter X.env) (fun v s1 => wpAny (model X.prog X.w) X.A (pyIter v) (PIE X pins σ tg R) X.xe s1) X.xe s
def wG (X : Cx) (target : Expr) : TG := fun v σ H Q => ∀ pins s u, Inv X pins σ H s → RelV v u →
  wpAny (model X.prog X.w) X.A (assign target X.env u) (fun _ s' => ∃ σ' H', Inv X pins σ' H' s' ∧ Q σ' H') X.xe s

section
variable {X : Cx}
theorem peW {e : Expr} : PE X e (wE X e) := ⟨fun pins s σ H Q I h => h pins s I⟩
theorem ptW {e : Expr} : PT X e (wT X e) := ⟨fun pins s σ H Q I h => h pins s I⟩
theorem pwW {e : Expr} : PW X e (wW X e) := ⟨fun whole pins s σ H Q I h => h whole pins s I⟩
theorem paW {es : List Expr} : PA X es (wA X es) := ⟨fun pos pins s σ H Q I h => h pos pins s I⟩
theorem psW {st : Stmt} : PS X st (wS X st) := ⟨fun pins s σ H D I h => h pins s I⟩
theorem pbW {st : List Stmt} : PSs X st (wB X st) := ⟨fun pins s σ H D I h => h pins s I⟩
theorem piW {tg iter : Expr} : PI X tg iter (wI X tg iter) := ⟨fun pins s σ H R I h => h pins s I⟩
theorem pgW {tg : Expr} : PG X tg (wG X tg) := ⟨fun pins s σ H v u Q I r h => h pins s u I r⟩
theorem wE.of {e : Expr} {t : TE} (h : PE X e t) {σ : L2.St} {H : Hp} {Q : VK} (q : t σ H Q) : wE X e σ H Q := fun pins s I => h.run pins s σ H Q I q
theorem wT.of {e : Expr} {t : TT} (h : PT X e t) {σ : L2.St} {H : Hp} {Q : Bool → Hp → Prop} (q : t σ H Q) : wT X e σ H Q := fun pins s I => h.run pins s σ H Q I q
theorem wW.of {e : Expr} {t : TT} (h : PW X e t) {σ : L2.St} {H : Hp} {Q : Bool → Hp → Prop} (q : t σ H Q) : wW X e σ H Q := fun w pins s I => h.run w pins s σ H Q I q
theorem wW.t {e : Expr} {σ : L2.St} {H : Hp} {Q : Bool → Hp → Prop} (q : wW X e σ H Q) : wT X e σ H Q := fun pins s I => q _ pins s I
theorem wA.of {e : List Expr} {t : TA} (h : PA X e t) {σ : L2.St} {H : Hp} {Q : List V → Hp → Prop} (q : t σ H Q) : wA X e σ H Q := fun pos pins s I => h.run pos pins s σ H Q I q
theorem wS.of {e : Stmt} {t : TS} (h : PS X e t) {σ : L2.St} {H : Hp} {D : Ends} (q : t D σ H) : wS X e D σ H := fun pins s I => h.run pins s σ H D I q
theorem wB.of {e : List Stmt} {t : TS} (h : PSs X e t) {σ : L2.St} {H : Hp} {D : Ends} (q : t D σ H) : wB X e D σ H := fun pins s I => h.run pins s σ H D I q
theorem wI.of {tg iter : Expr} {t : TI} (h : PI X tg iter t) {σ : L2.St} {H : Hp} {R : It → Hp → Prop} (q : t σ H R) : wI X tg iter σ H R := fun pins s I => h.run pins s σ H R I q
theorem wG.of {tg : Expr} {t : TG} (h : PG X tg t) {v : V} {σ : L2.St} {H : Hp} {Q : L2.St → Hp → Prop} (q : t v σ H Q) : wG X tg v σ H Q := fun pins s u I r => h.run pins s σ H v u Q I r q
theorem wE.mono {e : Expr} {σ : L2.St} {H : Hp} {Q Q' : VK} (h : wE X e σ H Q) (m : ∀ v H', Q v H' → Q' v H') : wE X e σ H Q' := fun pins s I => thn (h pins s I) fun u s' ⟨v, H', I', r, q⟩ => ⟨v, H', I', r, m v H' q⟩
theorem wT.mono {e : Expr} {σ : L2.St} {H : Hp} {Q Q' : Bool → Hp → Prop} (h : wT X e σ H Q) (m : ∀ v H', Q v H' → Q' v H') : wT X e σ H Q' := fun pins s I => thn (h pins s I) fun u s' ⟨H', I', q⟩ => ⟨H', I', m _ H' q⟩
end

/-! ## what is asked -/
def NoT (ω : Om) (n : Nat) : Prop := ∀ a p, ω a ≠ some (n, p)

/-- a made value in mode v: owned by the place n, or frozen; in mode p: readable -/
def Good (C : Ct) (K : PySem.W.Frag) (m : Md) (ω : Om) (H : Hp) (n : Nat) (v : V) (d : D) : Prop :=
  match m with
  | .v => (∃ d0, d = .own d0 ∧ OwnR C K ω H n v d0) ∨ (NoT ω n ∧ Rep C K ω H v d)
  | _ => NoT ω n ∧ Sh C K ω H v d

/-- where an exception's field stands -/
def ExcAt (H : Hp) (dx : Addr) (v : V) : Prop := H dx = some (.xd [(("what" : Str), v)])

section
variable (C : Ct) (K : PySem.W.Frag)
def PostX (ω : Om) (env : Env) (σ : L2.St) (H : Hp) (W : WX) (c : Nat) (w : D) (e' : Env) : Prop :=
  ∀ dx v H' ω', Sim C K ω' e' σ H' → Chg true ω H ω' H' → NoT ω' env.length → ExcAt H' dx v → Rep C K ω' H' v w → W (.ref (C.addr c)) (some dx) σ H'
def Post (m : Md) (r : Re D) (eff : Bool) (ω : Om) (env : Env) (σ : L2.St) (H : Hp) (W : WX) (Q : VK) : Prop :=
  match r with
  | .ok d e' => ∀ v H' ω', Sim C K ω' e' σ H' → Chg eff ω H ω' H' → Good C K m ω' H' env.length v d → Q v H'
  | .exc c w e' => PostX C K ω env σ H W c w e'
  | .stk => False
def PostT (r : Re D) (eff : Bool) (ω : Om) (env : Env) (σ : L2.St) (H : Hp) (W : WX) (Q : Bool → Hp → Prop) : Prop :=
  match r with
  | .ok (.bl b) e' => ∀ H' ω', Sim C K ω' e' σ H' → Chg eff ω H ω' H' → NoT ω' env.length → Q b H'
  | .ok _ _ => False
  | .exc c w e' => PostX C K ω env σ H W c w e'
  | .stk => False
def PostA (r : Re (List D)) (eff : Bool) (ω : Om) (env : Env) (σ : L2.St) (H : Hp) (W : WX) (Q : List V → Hp → Prop) : Prop :=
  match r with
  | .ok ds e' => ∀ vs H' ω', Sim C K ω' e' σ H' → Chg eff ω H ω' H' → NoT ω' env.length → Reps C K ω' H' vs ds → Q vs H'
  | .exc c w e' => PostX C K ω env σ H W c w e'
  | .stk => False
/-- arguments read at once: each readable -/
inductive Shs (ω : Om) (H : Hp) : List V → List D → Prop
  | nil : Shs ω H [] []
  | cons {v : V} {vs : List V} {d : D} {ds : List D} : Sh C K ω H v d → Shs ω H vs ds → Shs ω H (v :: vs) (d :: ds)
def PostP (r : Re (List D)) (eff : Bool) (ω : Om) (env : Env) (σ : L2.St) (H : Hp) (W : WX) (Q : List V → Hp → Prop) : Prop :=
  match r with
  | .ok ds e' => ∀ vs H' ω', Sim C K ω' e' σ H' → Chg eff ω H ω' H' → NoT ω' env.length → Shs C K ω' H' vs ds → Q vs H'
  | .exc c w e' => PostX C K ω env σ H W c w e'
  | .stk => False
end

/-- what holds of the code's surroundings -/
structure XOk (N : List Str) (sc : Scope) (W : WX) (X : Cx) : Prop where
  hN : X.N = N
  nd : N.Nodup
  calm : X.calm = true
  tk : Takes X W
  hu : X.A.units + 200 < cLine
  vis : ∀ x, (sc.names.lookup x = some .local ∨ sc.names.lookup x = some .cell ∨ sc.names.lookup x = some .free) → Vis X.env.scope x
  loc : ∀ x, (sc.names.lookup x = some .local ∨ sc.names.lookup x = some .cell) → Loc X.env.scope x ∧ (X.fn x = true ∨ X.env.scope.names.lookup x = some .local)
  gl : ∀ x, sc.names.lookup x = some .globalImplicit → Gl X x
  cf : ∀ x, (sc.names.lookup x = some .cell ∨ sc.names.lookup x = some .free) → X.env.scope.names.lookup x = some .cell ∨ X.env.scope.names.lookup x = some .free

/-! ## steps of the bookkeeping -/
section
variable {C : Ct} {K : PySem.W.Frag} {ω ω' : Om} {env env' : Env} {σ : L2.St} {H H' : Hp}
theorem Sim.elen (S : Sim C K ω env σ H) (S' : Sim C K ω' env' σ H') : env'.length = env.length := S'.len.symm.trans S.len
/-- the owner i is struck; its slot, if any, is told frozen -/
theorem SlotR.strike' {i j : Nat} {v : V} {d : D} (hi : i ≠ FO) (n : j ≠ i) (r : SlotR C K ω H j v d) : SlotR C K (Q9.strike ω i) H j v d := by
  have hk : ∀ a q o, ω a = some (j, q) → H a = some o → H a = some o ∧ Q9.strike ω i a = some (j, q) := fun a q o w e => ⟨e, strike_ne w n⟩
  cases d <;> first
    | exact Rep.mono (Chg.strike hi) r
    | exact OwnR.mono r (Chg.strike hi) hk
theorem Sim.strikeT (S : Sim C K ω env σ H) : Sim C K (strike ω env.length) env σ H := by
  refine ⟨S.len, S.sz, fun a i p q => S.own a i p (strike_some q).1, fun i d q => ?_⟩
  obtain ⟨v, e, r⟩ := S.slot i d q
  have hi : i < env.length := (List.getElem?_eq_some_iff.mp q).1
  exact ⟨v, e, r.strike' (Nat.ne_of_lt S.sz) (Nat.ne_of_lt hi)⟩
theorem NoT.str {n : Nat} : NoT (strike ω n) n := fun a p q => (strike_some q).2 rfl
theorem Rep.un {v : V} {d : D} (r : Rep C K ω H v d) : D.un d = d := by cases r <;> rfl
theorem Sh.un {v : V} {d : D} (r : Sh C K ω H v d) : D.un d = d := by
  cases r with
  | rep r => exact r.un
  | lst _ _ => rfl
  | ins _ _ _ => rfl
/-- a value made is frozen -/
theorem Good.freeze {v : V} {d : D} (S : Sim C K ω env σ H) (g : Good C K .v ω H env.length v d) :
    Sim C K (strike ω env.length) env σ H ∧ NoT (strike ω env.length) env.length ∧ Rep C K (strike ω env.length) H v (D.un d) := by
  refine ⟨S.strikeT, NoT.str, ?_⟩
  rcases g with ⟨d0, rfl, o⟩ | ⟨_, r⟩
  · exact (o.freeze (Nat.ne_of_lt S.sz)).1
  · rw [r.un]; exact r.mono (Chg.strike (Nat.ne_of_lt S.sz))
theorem Good.read {v : V} {d : D} {m : Md} (S : Sim C K ω env σ H) (g : Good C K m ω H env.length v d) :
    ∃ ω', Sim C K ω' env σ H ∧ Chg false ω H ω' H ∧ NoT ω' env.length ∧ Sh C K ω' H v (D.un d) := by
  cases m with
  | v => obtain ⟨a, b, c⟩ := g.freeze S; exact ⟨_, a, Chg.strike (Nat.ne_of_lt S.sz), b, .rep c⟩
  | p => exact ⟨ω, S, .refl _ _ _, g.1, by rw [g.2.un]; exact g.2⟩
  | t => exact ⟨ω, S, .refl _ _ _, g.1, by rw [g.2.un]; exact g.2⟩
/-- readable things stay readable where nothing is written -/
theorem Sh.mono (c : Chg false ω H ω' H') : ∀ {v : V} {d : D}, Sh C K ω H v d → Sh C K ω' H' v d := by
  intro v d s
  cases s with
  | rep r => exact .rep (r.mono c)
  | lst h r => exact .lst (c.same' _ _ h) (r.mono c)
  | ins h l f =>
    exact .ins (c.same' _ _ h) l (f.mono c)
end
end Q9

set_option Elab.async false
set_option linter.all false
set_option maxRecDepth 100000
namespace Q9
open PySem PySem.Spec L2

/-! ## the check: this term is that text -/
structure Tab where
  fn : Nat → Str
  np : Nat → Nat
  pn : Nat → List Str
  n : Nat
  co : String → Option D
  bl : List String

def isSl : Expr → Bool
  | .Slice .. => true
  | _ => false
def isComp : Expr → Bool
  | .ListComp .. | .SetComp .. | .DictComp .. => true
  | _ => false
def isStar : Expr → Bool
  | .Starred .. => true
  | _ => false
def isSet : Expr → Bool
  | .Set .. => true
  | _ => false
/-- a test by the value's truth -/
def plainT : Expr → Bool
  | .UnaryOp .Not _ _ | .BoolOp .. | .IfExp .. | .Compare .. => false
  | _ => true
def visB (sc : Scope) (x : Str) : Bool := match sc.names.lookup x with
  | some .local | some .cell | some .free => true
  | _ => false
def locB (sc : Scope) (x : Str) : Bool := match sc.names.lookup x with
  | some .local | some .cell => true
  | _ => false
def glB (sc : Scope) (x : Str) : Bool := match sc.names.lookup x with
  | some .globalImplicit => true
  | _ => false
def plainN (x : Str) : Bool := !(x == ("__debug__" : Str)) && !(x == ("__classdict__" : Str)) && !(x == ("__name__" : Str))

def Bop.is : Bop → Operator → Bool
  | .add, .Add | .sub, .Sub | .mul, .Mult | .fdiv, .FloorDiv | .mod, .Mod | .pow, .Pow | .shl, .LShift | .shr, .RShift | .band, .BitAnd => true
  | _, _ => false
def Cop.is : Cop → CmpOp → Bool
  | .eq, .Eq | .ne, .NotEq | .lt, .Lt | .le, .LtE | .gt, .Gt | .ge, .GtE | .isn, .Is | .notn, .IsNot | .isin, .In | .notin, .NotIn => true
  | _, _ => false
def Bi.nm : Bi → String
  | .len => "len" | .sum => "sum" | .min => "min" | .max => "max" | .sorted => "sorted" | .int => "int" | .list => "list" | .tuple => "tuple" | .any => "any" | .all => "all"
def Bm.nm : Bm → String
  | .bits => "bit_length"
def Mm.nm : Mm → String
  | .append => "append" | .pop => "pop" | .clear => "clear"
def Mm.ar : Mm → Nat
  | .append => 1 | .pop => 0 | .clear => 0
def isCall : Expr → Bool
  | .Call .. => true
  | _ => false
def isOne : Expr → Bool
  | .Constant (.int i) _ _ => decide (i = 1)
  | _ => false
def isM1 : Expr → Bool
  | .UnaryOp .USub e _ => isOne e
  | _ => false
def isRev1 : Expr → Bool
  | .Slice none none (some e) _ => isM1 e
  | _ => false
theorem isOne_of {e : Expr} (h : isOne e = true) : ∃ k p, e = .Constant (.int 1) k p := by
  cases e <;> first | exact absurd h Bool.false_ne_true | skip
  rename_i v k p
  cases v <;> first | exact absurd h Bool.false_ne_true | skip
  have h := of_decide_eq_true h
  subst h
  exact ⟨_, _, rfl⟩
theorem isM1_of {e : Expr} (h : isM1 e = true) : ∃ k p p2, e = .UnaryOp .USub (.Constant (.int 1) k p) p2 := by
  cases e <;> first | exact absurd h Bool.false_ne_true | skip
  rename_i op x p2
  cases op <;> first | exact absurd h Bool.false_ne_true | skip
  obtain ⟨k, p, rfl⟩ := isOne_of h
  exact ⟨_, _, _, rfl⟩
theorem isRev1_of {e : Expr} (h : isRev1 e = true) : ∃ k p p2 p3, e = .Slice none none (some (.UnaryOp .USub (.Constant (.int 1) k p) p2)) p3 := by
  cases e <;> first | exact absurd h Bool.false_ne_true | skip
  rename_i lo hi st p3
  cases lo <;> first | exact absurd h Bool.false_ne_true | skip
  cases hi <;> first | exact absurd h Bool.false_ne_true | skip
  cases st <;> first | exact absurd h Bool.false_ne_true | skip
  obtain ⟨k, p, p2, rfl⟩ := isM1_of h
  exact ⟨_, _, _, _, rfl⟩
def conB (d : D) : Expr → Bool
  | .Constant (.int i) _ _ => match d with | .int j => decide (i = j) | _ => false
  | .Constant (.bool i) _ _ => match d with | .bl j => decide (i = j) | _ => false
  | .Constant .none _ _ => match d with | .non => true | _ => false
  | .Constant (.str i) _ _ => match d with | .str j => decide (i = j) | _ => false
  | _ => false
def tgB (N : List Str) (sc : Scope) : Tg → Expr → Bool
  | .nm i, .Name x _ => decide (N[i]? = some x) && locB sc x
  | .tp is, .Tuple es _ _ => decide (is.length = es.length) && (is.zip es).all fun p => match p.2 with
    | .Name x _ => decide (N[p.1]? = some x) && locB sc x
    | _ => false
  | _, _ => false
/-- a block's names (blkC, by the written scope around) -/
def blkB (N : List Str) (sc scope : Scope) (own : List Nat) : Bool :=
  (match scope.kind with | .function => true | _ => false) && (scope.names.all fun y => decide (scope.names.lookup y.1 = some y.2)) && (own.all fun p => decide (p < N.length)) &&
    (scope.names.all fun y => match y.2 with
      | .free => (match sc.names.lookup y.1 with | some .cell => true | some .free => true | _ => false)
      | .local => decide (y.1 ∈ own.map (fun p => N.getD p default)) || decide (y.1 ∉ N)
      | .cell => decide (y.1 ∈ own.map (fun p => N.getD p default)) || decide (y.1 ∉ N)
      | _ => true)
def IE.isNil : IE → Bool
  | .nil => true
  | _ => false
def tgSub (own : List Nat) : Tg → Bool
  | .nm i => own.contains i
  | .tp is => is.all own.contains

section
variable (T : Tab) (N : List Str)
mutual
def chkE : IE → Option Expr → Scope → Expr → Bool
  | .unk, _, _, _ => true
  | .con d, _, _, e => conB d e
  | .gl n d, _, sc, e => match e with
    | .Name x _ => decide (x = Str.ofString n) && glB sc x && plainN x && (match T.co n, d with | some (.int i), .int j => decide (i = j) | some (.str i), .str j => decide (i = j) | _, _ => false)
    | _ => false
  | .var i, _, sc, e => match e with
    | .Name x _ => decide (N[i]? = some x) && visB sc x && plainN x
    | _ => false
  | .tupE as, _, sc, e => match e with
    | .Tuple es _ _ => as.noB && chkA as sc es
    | _ => false
  | .lstE as, _, sc, e => match e with
    | .List es _ => as.noB && chkA as sc es
    | _ => false
  | .bin o a b, _, sc, e => match e with
    | .BinOp x op y _ => o.is op && chkE a none sc x && chkE b none sc y
    | _ => false
  | .cmp o a b, _, sc, e => match e with
    | .Compare x [op] [y] _ => o.is op && chkE a none sc x && chkE b none sc y && !isSet y
    | _ => false
  | .chain o o' a b c, _, sc, e => match e with
    | .Compare x [op, op'] [y, z] _ => o.is op && o'.is op' && chkE a none sc x && chkE b none sc y && chkE c none sc z && !isSet y && !isSet z
    | _ => false
  | .chain3 o o2 o3 a b c d, _, sc, e => match e with
    | .Compare x [p1, p2, p3] [y, z, u] _ => o.is p1 && o2.is p2 && o3.is p3 && chkE a none sc x && chkE b none sc y && chkE c none sc z && chkE d none sc u && !isSet u
    | _ => false
  | .not a, _, sc, e => match e with
    | .UnaryOp .Not x _ => chkE a none sc x
    | _ => false
  | .neg a, _, sc, e => match e with
    | .UnaryOp .USub x _ => chkE a none sc x
    | _ => false
  | .and a b, _, sc, e => match e with
    | .BoolOp .And (x :: y :: r) p => chkE a none sc x && (match r with | [] => chkE b none sc y | _ => chkE b none sc (.BoolOp .And (y :: r) p))
    | _ => false
  | .or a b, _, sc, e => match e with
    | .BoolOp .Or (x :: y :: r) p => chkE a none sc x && (match r with | [] => chkE b none sc y | _ => chkE b none sc (.BoolOp .Or (y :: r) p))
    | _ => false
  | .ite c a b, _, sc, e => match e with
    | .IfExp x y z _ => chkE c none sc x && chkE a none sc y && chkE b none sc z
    | _ => false
  | .idx a i, _, sc, e => match e with
    | .Subscript x y _ => chkE a none sc x && chkE i none sc y && !isSl y
    | _ => false
  | .slc a lo hi, _, sc, e => match e with
    | .Subscript x (.Slice l h none _) _ => chkE a none sc x && (match l with | none => (match lo with | .con .non => true | _ => false) | some l => chkE lo none sc l) && (match h with | none => (match hi with | .con .non => true | _ => false) | some h => chkE hi none sc h)
    | _ => false
  | .rev a, _, sc, e => match e with
    | .Subscript x sl _ => isRev1 sl && chkE a none sc x
    | _ => false
  | .bi f as, _, sc, e => match e with
    | .Call (.Name x _) (y :: ys) [] _ => decide (x = Str.ofString f.nm) && glB sc x && T.bl.contains f.nm && as.noB && as.noS && chkA as sc (y :: ys)
    | _ => false
  | .bm m a as, _, sc, e => match e with
    | .Call (.Attribute x n ap) [] [] cp => decide (n = Str.ofString m.nm) && chkE a none sc x && as.isNil && !isCall x && (ap.endLine == cp.line)
    | _ => false
  | .mm m i as, _, sc, e => match e with
    | .Call (.Attribute (.Name x _) n ap) ys [] cp => decide (n = Str.ofString m.nm) && (ap.endLine == cp.line) && decide (ys.length = m.ar) && as.noS && decide (N[i]? = some x) && visB sc x && plainN x && as.noB && chkA as sc ys
    | _ => false
  | .call f as, _, sc, e => match e with
    | .Call (.Name x _) (y :: ys) [] _ => decide (x = T.fn f) && glB sc x && plainN x && decide ((y :: ys).length = T.np f) && decide (f < T.n) && (as.okB && decide (as.len < FO)) && (!as.hasP || !as.hasB) && chkA as sc (y :: ys)
    | .Call (.Name x _) [] (y :: ys) _ => decide (x = T.fn f) && glB sc x && plainN x && (decide ((y :: ys).map (·.arg) = (T.pn f).map some) && decide ((y :: ys).length = T.np f)) && decide (f < T.n) && (as.okB && decide (as.len < FO)) && (!as.hasP || !as.hasB) && (as.noB && chkA as sc ((y :: ys).map (·.value)))
    | _ => false
  | .aB i, _, sc, e => match e with
    | .Name x _ => decide (N[i]? = some x) && visB sc x && plainN x
    | _ => false
  | .aP i, _, sc, e => match e with
    | .Name x _ => decide (N[i]? = some x) && visB sc x && plainN x
    | _ => false
  | .lc own tg it cond elt, _, sc, e => match e with
    | .ListComp x [⟨t, i, ifs, 0⟩] scope _ => chkE it (some t) sc i && blkB N sc scope own && tgB N scope tg t && tgSub own tg && (match ifs with | [] => (match cond with | .con (.bl true) => true | _ => false) | [c] => chkE cond none scope c | _ => false) && chkE elt none scope x && !isSet i
    | _ => false
  | .isi k a, _, sc, e => match e with
    | .Call (.Name x _) [y, .Name z _] [] _ => decide (x = ("isinstance" : Str)) && glB sc x && T.bl.contains "isinstance" && decide (z = Str.ofString k.nm) && glB sc z && T.bl.contains k.nm && chkE a none sc y && !isStar y
    | _ => false
  | .rng1 a, t, sc, e => match t, e with
    | some _, .Call (.Name x _) [y] [] _ => decide (x = ("range" : Str)) && glB sc x && T.bl.contains "range" && chkE a none sc y && !isStar y
    | _, _ => false
  | .rng2 a b, t, sc, e => match t, e with
    | some _, .Call (.Name x _) [y, z] [] _ => decide (x = ("range" : Str)) && glB sc x && T.bl.contains "range" && chkE a none sc y && chkE b none sc z && !isStar y && !isStar z
    | _, _ => false
  | .lrng a b, _, sc, e => match e with
    | .Call (.Name x _) [.Call (.Name w _) [y, z] [] _] [] _ => decide (x = ("list" : Str)) && glB sc x && T.bl.contains "list" && decide (w = ("range" : Str)) && glB sc w && T.bl.contains "range" && chkE a none sc y && chkE b none sc z && !isStar y && !isStar z
    | _ => false
  | .enm a, t, sc, e => match t, e with
    | some (.Tuple ..), .Call (.Name x _) [y] [] _ => decide (x = ("enumerate" : Str)) && glB sc x && T.bl.contains "enumerate" && chkE a none sc y && !isStar y
    | _, _ => false
  | _, _, _, _ => false
def chkA : IE → Scope → List Expr → Bool
  | .nil, _, es => es.isEmpty
  | .cons h t, sc, es => match es with
    | e :: es => chkE h none sc e && !isStar e && chkA t sc es
    | [] => false
  | .star h t, sc, es => match es with
    | .Starred e _ :: es => chkE h none sc e && chkA t sc es
    | _ => false
  | _, _, _ => false
end


mutual
def chkS : IS → Scope → Stmt → Bool
  | .unk, _, _ => true
  | .pass, _, s => match s with
    | .Pass _ => true
    | _ => false
  | .brk, _, s => match s with
    | .Break _ => true
    | _ => false
  | .cont, _, s => match s with
    | .Continue _ => true
    | _ => false
  | .asg tg v, sc, s => match s with
    | .Assign [t] e _ => tgB N sc tg t && chkE T N v none sc e && (match tg with | .nm _ => true | _ => !isComp e && (match e with | .Tuple .. => false | _ => true))
    | _ => false
  | .asgs is v, sc, s => match s with
    | .Assign [.Name x _, .Name y _] e _ => (match is with | [i, j] => decide (N[i]? = some x) && decide (N[j]? = some y) && locB sc x && locB sc y && decide (i ≠ j) && chkE T N v none sc e && (match e with | .Tuple .. => false | _ => true) && !isComp e | _ => false)
    | _ => false
  | .par is vs, sc, s => match s with
    | .Assign [.Tuple [.Name x px, .Name y py] _ _] (.Tuple [a, b] _ _) _ => (match is with | [i, j] => decide (N[i]? = some x) && decide (N[j]? = some y) && decide (i ≠ j) && decide (sc.names.lookup x = some .local) && decide (sc.names.lookup y = some .local) && decide (px.line = py.line) && (chkA T N vs sc [a, b] && vs.noB) && !([a, b].all (foldedForSure 8)) && !([a, b].all (constantsAlone 8)) && !isStar a && !isStar b | _ => false)
    | _ => false
  | .setI i k v, sc, s => match s with
    | .Assign [.Subscript (.Name x _) y _] e _ => decide (N[i]? = some x) && visB sc x && plainN x && chkE T N k none sc y && chkE T N v none sc e && !isSl y && !isComp e
    | _ => false
  | .aug i o v, sc, s => match s with
    | .AugAssign (.Name x _) op e _ => o.is op && decide (N[i]? = some x) && locB sc x && chkE T N v none sc e
    | _ => false
  | .exp v, sc, s => match s with
    | .Expr e _ => chkE T N v none sc e && !isComp e
    | _ => false
  | .ret v, sc, s => match s with
    | .Return (some e) _ => chkE T N v none sc e
    | _ => false
  | .retV i, sc, s => match s with
    | .Return (some (.Name x _)) _ => decide (N[i]? = some x) && visB sc x && plainN x
    | _ => false
  | .retN, sc, s => match s with
    | .Return none _ => true
    | _ => false
  | .ite t a b, sc, s => match s with
    | .If c x y _ => chkE T N t none sc c && chkB a sc x && chkB b sc y
    | _ => false
  | .whl t b, sc, s => match s with
    | .While c x [] _ => chkE T N t none sc c && chkB b sc x
    | _ => false
  | .for tg it b, sc, s => match s with
    | .For t i x [] _ => chkE T N it (some t) sc i && tgB N sc tg t && chkB b sc x && !isSet i
    | _ => false
  | .forO tg i en b, sc, s => match s with
    | .For t it x [] _ => tgB N sc tg t && chkB b sc x && (match en with
      | false => (match it with
        | .Name y _ => decide (N[i]? = some y) && visB sc y && plainN y
        | _ => false)
      | true => (match it with
        | .Call (.Name f _) [.Name y _] [] _ => (match t with | .Tuple .. => true | _ => false) && decide (f = ("enumerate" : Str)) && glB sc f && T.bl.contains "enumerate" && (decide (N[i]? = some y) && visB sc y && plainN y)
        | _ => false))
    | _ => false
  | _, _, _ => false
def chkB : IS → Scope → List Stmt → Bool
  | .nil, _, ss => ss.isEmpty
  | .seq a b, sc, ss => match ss with
    | s :: ss => chkS a sc s && chkB b sc ss
    | [] => false
  | _, _, _ => false
end
end
end Q9

set_option Elab.async false
set_option linter.all false
set_option maxRecDepth 100000
namespace Q9
open PySem PySem.Spec L2

theorem plainT_is {e : Expr} (h : plainT e = true) (env : PySem.Env) : ∀ whole, isTrue e env whole = (do let v ← whole; standAt e.pos; holding [v] (truthy v)) := by
  intro whole
  cases e <;> first
    | rfl
    | (simp [plainT] at h; done)
    | (rename_i op _ _; cases op <;> first | rfl | (simp [plainT] at h; done))

section
variable {C : Ct} {K : PySem.W.Frag} {ω ω' : Om} {env env' : Env} {σ : L2.St} {H H' : Hp} {W : WX} {N : List Str} {sc : Scope} {X : Cx}

theorem truth_of {v : V} {d : D} {b : Bool} (s : Sh C K ω H v d) (h : D.truth d = some b) : TruV K v H b := by
  cases s with
  | rep r =>
    cases r with
    | non => simp only [D.truth, Option.some.injEq, reduceCtorEq] at h; exact (h.symm : b = false)
    | bl k => simp only [D.truth, Option.some.injEq, reduceCtorEq] at h; exact (h.symm : b = k)
    | int i => simp only [D.truth, Option.some.injEq, reduceCtorEq] at h; exact (h.symm : b = (i != 0))
    | str x => simp only [D.truth, Option.some.injEq, reduceCtorEq] at h
    | tup r rs => simp only [D.truth, Option.some.injEq, reduceCtorEq] at h; subst h; exact .inr (.inl ⟨_, .inl r.1, by cases rs <;> rfl⟩)
    | tupK r rs => simp only [D.truth, Option.some.injEq, reduceCtorEq] at h; subst h; exact .inr (.inl ⟨_, .inr r, by cases rs <;> rfl⟩)
    | lst r q rs => simp only [D.truth, Option.some.injEq, reduceCtorEq] at h; subst h; exact .inl ⟨_, .inl (.inl r), by cases rs <;> rfl⟩
    | flk r rs => simp only [D.truth, Option.some.injEq, reduceCtorEq] at h; subst h; exact .inl ⟨_, r.sq, by cases rs <;> rfl⟩
    | ins r q l rs => simp only [D.truth, Option.some.injEq, reduceCtorEq] at h
  | lst r rs => simp only [D.truth, Option.some.injEq, reduceCtorEq] at h; subst h; exact .inl ⟨_, .inl (.inl r), by cases rs <;> rfl⟩
  | ins h' l f => simp only [D.truth, Option.some.injEq, reduceCtorEq] at h

theorem PostX.trans {c : Nat} {w : D} {e2 : Env} {b : Bool} (c1 : Chg b ω H ω' H') (el : env'.length = env.length) (p : PostX C K ω env σ H W c w e2) : PostX C K ω' env' σ H' W c w e2 := by
  intro dx v H2 ω2 S ch nt ea r
  rw [el] at nt
  exact p dx v H2 ω2 S (by simpa using c1.trans ch) nt ea r

/-- a core's result read in each mode -/
theorem fin_both {e : Expr} {r : Re D} {eff : Bool} (hX : XOk N sc W X)
    (hv : ∀ Q, Post C X.K .v r eff ω env σ H W Q → wE X e σ H Q) (pt : plainT e = true) (S0 : σ.length = env.length) :
    (∀ m Q, m ≠ .t → Post C X.K m (fin m r) eff ω env σ H W Q → wE X e σ H Q) ∧ (∀ Q, PostT C X.K (fin .t r) eff ω env σ H W Q → wT X e σ H Q) := by
  refine ⟨fun m Q hm p => ?_, fun Q p => ?_⟩
  · cases m with
    | t => exact absurd rfl hm
    | v => exact hv Q p
    | p =>
      refine hv Q ?_
      cases r with
      | ok d e' =>
        intro v H' ω' S ch g
        have el : e'.length = env.length := S.len.symm.trans S0
        rw [← el] at g
        obtain ⟨ω2, S2, c2, n2, s2⟩ := Good.read S g
        refine p v H' ω2 S2 (by simpa using ch.trans c2) ⟨by rw [← el]; exact n2, s2⟩
      | exc c w e' => exact p
      | stk => exact p
  · refine wT.of (pt_truth peW (plainT_is pt X.env)) (hv _ ?_)
    cases r with
    | ok d e' =>
      intro v H' ω' S ch g
      have el : e'.length = env.length := S.len.symm.trans S0
      rw [← el] at g
      obtain ⟨ω2, S2, c2, n2, s2⟩ := Good.read S g
      have p' : PostT C X.K (match D.truth (D.un d) with | some b => Re.ok (D.bl b) e' | none => .stk) eff ω env σ H W Q := p
      cases hb : D.truth (D.un d) with
      | none => rw [hb] at p'; exact p'.elim
      | some b =>
        rw [hb] at p'
        exact ⟨b, truth_of s2 hb, p' H' ω2 S2 (by simpa using ch.trans c2) (by rw [← el]; exact n2)⟩
    | exc c w e' => exact p
    | stk => exact p.elim
end

/-! ## the table's facts -/
/-- the arguments of a call, by what the callee is to see -/
inductive ArgsR (C : Ct) (K : PySem.W.Frag) (ω : Om) (H : Hp) : Nat → List V → List D → Prop
  | nil {j : Nat} : ArgsR C K ω H j [] []
  | brw {j : Nat} {v : V} {vs : List V} {d : D} {ds : List D} : OwnR C K ω H j v d → ArgsR C K ω H (j + 1) vs ds → ArgsR C K ω H j (v :: vs) (.brw d :: ds)
  | rep {j : Nat} {v : V} {vs : List V} {d : D} {ds : List D} : Rep C K ω H v d → ArgsR C K ω H (j + 1) vs ds → ArgsR C K ω H j (v :: vs) (d :: ds)

def BackR (C : Ct) (K : PySem.W.Frag) (ω : Om) (H : Hp) (vs : List V) (ds : List D) (ps : Env) : Prop :=
  ∀ j d0, ds[j]? = some (.brw d0) → ∃ d1 v, ps[j]? = some (some (.brw d1)) ∧ vs[j]? = some v ∧ OwnR C K ω H j v d1

/-- a def's promise: it does what the evaluator says -/
def spF (C : Ct) (K : PySem.W.Frag) (np : Nat) (c : List D → RC) : Sp := fun vs H Q E => vs.length = np ∧ ∃ (ds : List D) (ω : Om), ArgsR C K ω H 0 vs ds ∧ (∀ a i p, ω a = some (i, p) → (i < ds.length ∨ i = FO) ∧ Mut (H a)) ∧
  match c ds with
  | .ok d ps => ∀ v H' ω', Chg true ω H ω' H' → BackR C K ω' H' vs ds ps → (∀ a i p, ω' a = some (i, p) → Mut (H' a)) → ((∃ d0 t, d = .own d0 ∧ ds.length ≤ t ∧ t ≠ FO ∧ OwnR C K ω' H' t v d0) ∨ Rep C K ω' H' v d) → Q v H'
  | .exc cl w ps => ∀ dx v H' ω', Chg true ω H ω' H' → BackR C K ω' H' vs ds ps → (∀ a i p, ω' a = some (i, p) → Mut (H' a)) → ExcAt H' dx v → Rep C K ω' H' v w → E (.ref (C.addr cl)) (some dx) H'
  | .stk => False

structure TabOk (T : Tab) (C : Ct) (c : Oracle) (X : Cx) : Prop where
  fns : ∀ f, f < T.n → ∃ fa fd ps k, X.mg (T.fn f) = some (.ref fa) ∧ PySem.W.keepIn X.K (.ref fa) = true ∧ Room k X.A ∧ FnOk X.prog X.w X.K X.mg X.base (L2.CX X.prog X.w) k fa fd ps (spF C X.K (T.np f) (c f)) ∧ Binds X.K fd ps [] ∧ ∀ (s : Shared) (us : List Value), X.K.In s.heap → us.length = ps.length → BindsTo s fd ⟨[], (T.pn f).zip us⟩ (ps.zip us)
  cInt : ∀ n i, T.co n = some (.int i) → ∃ t, X.mg (Str.ofString n) = some (.int i t)
  cStr : ∀ n i, T.co n = some (.str i) → ∃ t, X.mg (Str.ofString n) = some (.str i t)
  bls : ∀ n, T.bl.contains n = true → X.mg (Str.ofString n) = none
end Q9

set_option Elab.async false
set_option linter.all false
set_option maxRecDepth 100000
namespace Q9
open PySem PySem.Spec L2

/-! ## canonical readings of operations by value -/
def wO (X : Cx) (f : Value → Value → Sem Value) : R2 := fun x y H Q => ∀ pins s σ v u, Inv X pins σ H s → RelV x v → RelV y u → wpAny (model X.prog X.w) X.A (f v u) (EP X pins σ Q) X.xe s
def wCall (X : Cx) (f : Value) : List V → Hp → VK → Prop := fun xs H Q => ∀ pins s σ us, Inv X pins σ H s → Vals xs us → wpAny (model X.prog X.w) X.A (call f us) (EP X pins σ Q) X.xe s
section
variable {X : Cx}
theorem wO.op {f : Value → Value → Sem Value} : OpR X f (wO X f) := fun pins s σ H x y v u Q I rx ry h => h pins s σ v u I rx ry
theorem wO.of {f : Value → Value → Sem Value} {r : R2} (h : OpR X f r) {x y : V} {H : Hp} {Q : VK} (q : r x y H Q) : wO X f x y H Q := fun pins s σ v u I rx ry => h pins s σ H x y v u Q I rx ry q
theorem wCall.op {f : Value} : CallR X f (wCall X f) := fun pins s σ H xs us Q I r h => h pins s σ us I r
theorem wCall.of {f : Value} {r : List V → Hp → VK → Prop} (h : CallR X f r) {xs : List V} {H : Hp} {Q : VK} (q : r xs H Q) : wCall X f xs H Q := fun pins s σ us I rx => h pins s σ H xs us Q I rx q
end

section
variable {C : Ct} {K : PySem.W.Frag} {ω ω' : Om} {env env' : Env} {σ : L2.St} {H H' : Hp}

/-- a new address is owned by the place n -/
def ownNew (ω : Om) (p : Addr) (n : Nat) : Om := fun a => if a = p then some (n, none) else ω a
theorem ownNew_ne {p a : Addr} {n : Nat} (h : a ≠ p) : ownNew ω p n a = ω a := if_neg h
theorem ownNew_same {p : Addr} {n : Nat} : ownNew ω p n p = some (n, none) := if_pos rfl
theorem Chg.own {p : Addr} {n : Nat} {o : HO} (h : H p = none) (hw : ω p = none) : Chg false ω H (ownNew ω p n) (upd H p o) := by
  refine ⟨fun a u e _ => ?_, fun a e q => ?_, fun a e => ?_, fun a q e => ⟨?_, fun o x => by rw [upd_ne (ne_of_none x h)]; exact x⟩⟩
  · rw [upd_ne (ne_of_none e h)]; exact e
  · rw [ownNew_ne (fun z => by subst z; exact e h)]; exact q
  · by_cases z : a = p
    · subst z; rw [upd_same]; simp
    · rw [upd_ne z]; exact e
  · rw [ownNew_ne (fun z => by subst z; rw [hw] at e; cases e)]; exact e
theorem Sim.own' {p : Addr} {o : HO} (S : Sim C K ω env σ H) (h : H p = none) (hm : Mut (some o)) : Sim C K (ownNew ω p env.length) env σ (upd H p o) := by
  have c : Chg false ω H (ownNew ω p env.length) (upd H p o) := Chg.own h (S.fresh h)
  refine ⟨S.len, S.sz, fun a i q e => ?_, fun i d q => ?_⟩
  · by_cases z : a = p
    · subst z
      rw [ownNew_same] at e
      cases e
      exact ⟨.inl (Nat.le_refl _), by rw [upd_same]; exact hm⟩
    · rw [ownNew_ne z] at e
      exact ⟨(S.own a i q e).1, by rw [upd_ne z]; exact (S.own a i q e).2⟩
  · obtain ⟨v, e, r⟩ := S.slot i d q
    have hk : ∀ a q o', ω a = some (i, q) → H a = some o' → (upd H p o) a = some o' ∧ ownNew ω p env.length a = some (i, q) := fun a q o' w e' => by
      have z : a ≠ p := ne_of_none e' h
      exact ⟨by rw [upd_ne z]; exact e', by rw [ownNew_ne z]; exact w⟩
    refine ⟨v, e, ?_⟩
    cases d <;> first
      | exact Rep.mono c r
      | exact OwnR.mono r c hk
theorem fresh_lst {p : Addr} {xs : List V} {ds : List D} (S : Sim C K ω env σ H) (nt : NoT ω env.length) (h : H p = none) (r : Reps C K ω H xs ds) :
    ∃ ω', Sim C K ω' env σ (upd H p (.lst xs)) ∧ Chg false ω H ω' (upd H p (.lst xs)) ∧ Good C K .v ω' (upd H p (.lst xs)) env.length (.ref p) (.own (.lst ds)) :=
  ⟨_, S.own' h trivial, Chg.own h (S.fresh h), .inl ⟨_, rfl, .flat (.lst upd_same ownNew_same (r.mono (Chg.own (n := env.length) h (S.fresh h))))⟩⟩
theorem fresh_tup {p : Addr} {xs : List V} {ds : List D} (S : Sim C K ω env σ H) (nt : NoT ω env.length) (h : H p = none) (r : Reps C K ω H xs ds) :
    Sim C K ω env σ (upd H p (.tup xs)) ∧ Chg false ω H ω (upd H p (.tup xs)) ∧ Good C K .v ω (upd H p (.tup xs)) env.length (.ref p) (.tup ds) := by
  have hs : ∀ a o, H a = some o → (upd H p (.tup xs)) a = some o := fun a o e => by rw [upd_ne (ne_of_none e h)]; exact e
  exact ⟨S.same hs, Chg.same hs, .inr ⟨nt, .tup ⟨.inl upd_same, S.fresh h⟩ (r.mono (Chg.same hs))⟩⟩

/-- an operand with b behind it -/
theorem opnd {b : IE} {v : V} {d : D} (S : Sim C K ω env σ H) (g : Good C K (pk b) ω H env.length v d) :
    ∃ ω', Sim C K ω' env σ H ∧ Chg false ω H ω' H ∧ NoT ω' env.length ∧ ∀ ω2 H2, Chg b.eff ω' H ω2 H2 → Sh C K ω2 H2 v (D.un d) := by
  unfold pk at g
  by_cases hb : b.eff = true
  · rw [if_pos hb] at g
    obtain ⟨a, n, r⟩ := g.freeze S
    exact ⟨_, a, Chg.strike (Nat.ne_of_lt S.sz), n, fun ω2 H2 c => .rep (r.mono c)⟩
  · rw [if_neg hb] at g
    have hb' : b.eff = false := by simpa using hb
    exact ⟨ω, S, .refl _ _ _, g.1, fun ω2 H2 c => by rw [g.2.un]; rw [hb'] at c; exact g.2.mono c⟩
theorem pk_ne {b : IE} : pk b ≠ .t := by unfold pk; split <;> simp

theorem Post.shift {W : WX} {m : Md} {r : Re D} {e1 e2 e : Bool} {Q : VK} (c : Chg e1 ω H ω' H') (el : env'.length = env.length) (he : (e1 || e2) = e) (p : Post C K m r e ω env σ H W Q) : Post C K m r e2 ω' env' σ H' W Q := by
  cases r with
  | ok d e' =>
    intro v H2 ω2 S ch g
    rw [el] at g
    exact p v H2 ω2 S (by rw [← he]; exact c.trans ch) g
  | exc cl w e' => exact PostX.trans c el p
  | stk => exact p
theorem PostT.shift {W : WX} {r : Re D} {e1 e2 e : Bool} {Q : Bool → Hp → Prop} (c : Chg e1 ω H ω' H') (el : env'.length = env.length) (he : (e1 || e2) = e) (p : PostT C K r e ω env σ H W Q) : PostT C K r e2 ω' env' σ H' W Q := by
  cases r with
  | ok d e' =>
    cases d <;> first
      | exact p
      | (intro H2 ω2 S ch g
         rw [el] at g
         exact p H2 ω2 S (by rw [← he]; exact c.trans ch) g)
  | exc cl w e' => exact PostX.trans c el p
  | stk => exact p
theorem Post.up {W : WX} {m : Md} {r : Re D} {e e' : Bool} {Q : VK} (p : Post C K m r e ω env σ H W Q) (h : e = false → e' = false) : Post C K m r e' ω env σ H W Q := by
  cases r with
  | ok d e1 => intro v H2 ω2 S ch g; exact p v H2 ω2 S (ch.up h) g
  | exc cl w e1 => exact p
  | stk => exact p

theorem Sh.int {v : V} {i : Int} (s : Sh C K ω H v (.int i)) : v = .int i := by
  cases s with
  | rep r => cases r; rfl
theorem Sh.bl {v : V} {i : Bool} (s : Sh C K ω H v (.bl i)) : v = .bl i := by
  cases s with
  | rep r => cases r; rfl
theorem Sh.non {v : V} (s : Sh C K ω H v .non) : v = .non := by
  cases s with
  | rep r => cases r; rfl
theorem Sh.lstI {v : V} {ds : List D} (s : Sh C K ω H v (.lst ds)) : ∃ a xs, v = .ref a ∧ H a = some (.lst xs) ∧ Reps C K ω H xs ds := by
  cases s with
  | rep r => cases r with | lst h _ r => exact ⟨_, _, rfl, h, r⟩
  | lst h r => exact ⟨_, _, rfl, h, r⟩
theorem Sh.tupI {v : V} {ds : List D} (s : Sh C K ω H v (.tup ds)) : ∃ a xs, v = .ref a ∧ SqT K H a xs ∧ Reps C K ω H xs ds := by
  cases s with
  | rep r => exact rep_tup r
theorem Sh.flkI {v : V} {ds : List D} (s : Sh C K ω H v (.flk ds)) : ∃ a xs, v = .ref a ∧ SqL K H a xs ∧ Reps C K ω H xs ds := by
  cases s with
  | rep r => cases r with | flk h r => exact ⟨_, _, rfl, h.sq, r⟩
theorem good_imm {v : V} {d : D} (nt : NoT ω env.length) (r : Rep C K ω H v d) : Good C K .v ω H env.length v d := .inr ⟨nt, r⟩
end

/-! ## deep data -/
section
variable {C : Ct} {K : PySem.W.Frag} {ω : Om} {H : Hp}
mutual
theorem Rep.dp : ∀ {v : V} {d : D} {p : PyData}, Rep C K ω H v d → D.py d = some p → Dp K H v p
  | _, _, _, .non, h => by simp only [D.py, Option.some.injEq] at h; subst h; exact .non
  | _, _, _, .bl b, h => by simp only [D.py, Option.some.injEq] at h; subst h; exact .bl b
  | _, _, _, .int i, h => by simp only [D.py, Option.some.injEq] at h; subst h; exact .int i
  | _, _, _, .str x, h => by simp only [D.py, Option.some.injEq] at h; subst h; exact .str x
  | _, _, _, .tup r rs, h => by
    simp only [D.py, Option.map_eq_some_iff] at h
    obtain ⟨q, e, rfl⟩ := h
    exact .tup (.inl r.1) (Reps.dp rs e)
  | _, _, _, .tupK r rs, h => by
    simp only [D.py, Option.map_eq_some_iff] at h
    obtain ⟨q, e, rfl⟩ := h
    exact .tup (.inr r) (Reps.dp rs e)
  | _, _, _, .lst r _ rs, h => by
    simp only [D.py, Option.map_eq_some_iff] at h
    obtain ⟨q, e, rfl⟩ := h
    exact .lst (.inl (.inl r)) (Reps.dp rs e)
  | _, _, _, .flk r rs, h => by simp only [D.py, reduceCtorEq] at h
  | _, _, _, .ins .., h => by simp only [D.py, reduceCtorEq] at h
theorem Reps.dp : ∀ {v : List V} {d : List D} {p : List PyData}, Reps C K ω H v d → D.pys d = some p → DpAll K H v p
  | _, _, _, .nil, h => by simp only [D.pys, Option.some.injEq] at h; subst h; exact .nil
  | _, _, _, .cons (d := d) (ds := ds) r rs, h => by
    simp only [D.pys] at h
    cases h1 : D.py d with
    | none => rw [h1] at h; simp at h
    | some x =>
      cases h2 : D.pys ds with
      | none => rw [h1, h2] at h; simp at h
      | some xs =>
        rw [h1, h2] at h
        simp only [Option.some.injEq] at h
        subst h
        exact .cons (Rep.dp r h1) (Reps.dp rs h2)
end
theorem Sh.dp {v : V} {d : D} {p : PyData} (s : Sh C K ω H v d) (h : D.py d = some p) : Dp K H v p := by
  cases s with
  | rep r => exact r.dp h
  | lst a r =>
    simp only [D.py, Option.map_eq_some_iff] at h
    obtain ⟨q, e, rfl⟩ := h
    exact .lst (.inl (.inl a)) (r.dp e)
  | ins _ _ _ => simp only [D.py, reduceCtorEq] at h
end

/-! ## operators -/
section
variable {C : Ct} {ω : Om} {env : Env} {σ : L2.St} {H : Hp} {X : Cx} {N : List Str} {sc : Scope} {W : WX}
theorem bin_ok {o : Bop} {op : Operator} {x y : V} {a b d : D} {Q : VK} (his : o.is op = true) (S : Sim C X.K ω env σ H) (nt : NoT ω env.length) (sa : Sh C X.K ω H x a) (sb : Sh C X.K ω H y b) (h : binD o a b = some d)
    (q : ∀ v H' ω', Sim C X.K ω' env σ H' → Chg false ω H ω' H' → Good C X.K .v ω' H' env.length v d → Q v H') : wO X (binaryOp op) x y H Q := by
  have imm : ∀ i : Int, d = .int i → Q (.int i) H := fun i e => q _ _ ω S (.refl _ _ _) (by subst e; exact good_imm nt (.int i))
  cases o <;> cases op <;> simp only [Bop.is, reduceCtorEq] at his <;> (unfold binD at h; split at h <;> first | contradiction | skip)
  · simp only [Option.some.injEq] at h; have := sa.int; have := sb.int; subst_vars
    exact wO.of op_add ⟨_, _, rfl, rfl, imm _ rfl⟩
  · split at h <;> simp only [Option.some.injEq, reduceCtorEq] at h
    obtain ⟨p, xs, rfl, hx, rx⟩ := sa.lstI; obtain ⟨p', ys, rfl, hy, ry⟩ := sb.lstI; subst h
    refine wO.of op_cat ⟨_, _, _, _, rfl, rfl, hx, hy, by rw [rx.length, ry.length]; assumption, fun z hz => ?_⟩
    obtain ⟨ω', a1, a2, a3⟩ := fresh_lst S nt hz (rx.append ry)
    exact q _ _ ω' a1 a2 a3
  · split at h <;> simp only [Option.some.injEq, reduceCtorEq] at h
    obtain ⟨p, xs, rfl, hx, rx⟩ := sa.tupI; obtain ⟨p', ys, rfl, hy, ry⟩ := sb.tupI; subst h
    refine wO.of op_catA ⟨_, _, _, _, rfl, rfl, hx, hy, by rw [rx.length, ry.length]; assumption, fun e => ?_, fun _ e => ?_, fun _ _ p hp => ?_⟩
    · subst e; cases rx
      exact q _ _ ω S (.refl _ _ _) (good_imm nt (by cases sb; assumption))
    · subst e; cases ry
      exact q _ _ ω S (.refl _ _ _) (good_imm nt (by rw [List.append_nil]; cases sa; assumption))
    · obtain ⟨a1, a2, a3⟩ := fresh_tup S nt hp (rx.append ry)
      exact q _ _ ω a1 a2 a3
  · simp only [Option.some.injEq] at h; have := sa.int; have := sb.int; subst_vars
    exact wO.of op_sub ⟨_, _, rfl, rfl, imm _ rfl⟩
  · split at h <;> simp only [Option.some.injEq, reduceCtorEq] at h
    have := sa.int; have := sb.int; subst_vars
    exact wO.of op_mul ⟨_, _, rfl, rfl, by unfold CMul; simpa [smallMul] using ‹smallMul _ _ = true›, imm _ rfl⟩
  · split at h <;> simp only [Option.some.injEq, reduceCtorEq] at h
    rename_i hh
    obtain ⟨p, xs, rfl, hx, rx⟩ := sa.lstI; have := sb.int; subst_vars
    have hs : (sizeLine : Nat) = 16777216 := sizeLine_eq
    refine wO.of op_rep ⟨_, _, _, rfl, rfl, hx, by omega, by omega, by rw [rx.length]; exact hh.2.2, fun z hz => ?_⟩
    obtain ⟨ω', a1, a2, a3⟩ := fresh_lst S nt hz (rx.rep _)
    exact q _ _ ω' a1 a2 a3
  · split at h <;> simp only [Option.some.injEq, reduceCtorEq] at h
    have := sa.int; have := sb.int; subst_vars
    exact wO.of op_fdiv ⟨_, _, rfl, rfl, by assumption, imm _ rfl⟩
  · split at h <;> simp only [Option.some.injEq, reduceCtorEq] at h
    have := sa.int; have := sb.int; subst_vars
    exact wO.of op_mod ⟨_, _, rfl, rfl, by assumption, imm _ rfl⟩
  · split at h <;> simp only [Option.some.injEq, reduceCtorEq] at h
    have := sa.int; have := sb.int; subst_vars
    exact wO.of op_pow ⟨_, _, rfl, rfl, by assumption, imm _ rfl⟩
  · split at h <;> simp only [Option.some.injEq, reduceCtorEq] at h
    have := sa.int; have := sb.int; subst_vars
    exact wO.of op_shl ⟨_, _, rfl, rfl, by assumption, imm _ rfl⟩
  · split at h <;> simp only [Option.some.injEq, reduceCtorEq] at h
    have := sa.int; have := sb.int; subst_vars
    exact wO.of op_shr ⟨_, _, rfl, rfl, by assumption, imm _ rfl⟩
  · simp only [Option.some.injEq] at h; have := sa.int; have := sb.int; subst_vars
    exact wO.of op_and ⟨_, _, rfl, rfl, imm _ rfl⟩

theorem rep_ne_brw {K : PySem.W.Frag} {v : V} {d : D} (r : Rep C K ω H v (.own d)) : False := by cases r

theorem cmp_ok {o : Cop} {op : CmpOp} {x y : V} {a b : D} {k : Bool} {Q : VK} (hu : X.A.units + 64 < cLine) (hu1 : X.A.units + 65 < cLine) (his : o.is op = true) (sa : Sh C X.K ω H x a) (sb : Sh C X.K ω H y b) (h : cmpD o a b = some k)
    (q : Q (.bl k) H) : wO X (compareOp op) x y H Q := by
  cases o <;> cases op <;> simp only [Cop.is, reduceCtorEq] at his <;> (unfold cmpD at h; split at h <;> first | contradiction | skip) <;> (try simp only [Option.some.injEq] at h)
  · unfold D.eqv at h
    split at h <;> try contradiction
    rename_i p r e1 e2
    split at h <;> simp only [Option.some.injEq, reduceCtorEq] at h
    rename_i hs
    subst h
    exact wO.of (op_eqD hu) ⟨p, r, sa.dp e1, sb.dp e2, (Bool.and_eq_true_iff.mp hs).1, (Bool.and_eq_true_iff.mp hs).2, q⟩
  · simp only [Option.map_eq_some_iff] at h
    obtain ⟨k', h, rfl⟩ := h
    unfold D.eqv at h
    split at h <;> try contradiction
    rename_i p r e1 e2
    split at h <;> simp only [Option.some.injEq, reduceCtorEq] at h
    rename_i hs
    subst h
    exact wO.of (op_neD hu) ⟨p, r, sa.dp e1, sb.dp e2, (Bool.and_eq_true_iff.mp hs).1, (Bool.and_eq_true_iff.mp hs).2, q⟩
  · have := sa.int; have := sb.int; subst_vars; exact wO.of op_lt ⟨_, _, rfl, rfl, q⟩
  · have := sa.int; have := sb.int; subst_vars; exact wO.of op_le ⟨_, _, rfl, rfl, q⟩
  · have := sa.int; have := sb.int; subst_vars; exact wO.of op_gt ⟨_, _, rfl, rfl, q⟩
  · have := sa.int; have := sb.int; subst_vars; exact wO.of op_ge ⟨_, _, rfl, rfl, q⟩
  all_goals try (have hb := sb.non; subst hb)
  · have := sa.non; subst_vars; exact wO.of op_isN ⟨rfl, q⟩
  · have := sa.bl; subst_vars; exact wO.of op_isN ⟨rfl, q⟩
  · have := sa.int; subst_vars; exact wO.of op_isN ⟨rfl, q⟩
  · cases sa with | rep r => cases r; subst_vars; exact wO.of op_isN ⟨rfl, q⟩
  · obtain ⟨_, _, rfl, _⟩ := sa.tupI; subst_vars; exact wO.of op_isN ⟨rfl, q⟩
  · obtain ⟨_, _, rfl, _⟩ := sa.lstI; subst_vars; exact wO.of op_isN ⟨rfl, q⟩
  · obtain ⟨_, _, rfl, _⟩ := sa.flkI; subst_vars; exact wO.of op_isN ⟨rfl, q⟩
  · have := sa.non; subst_vars; exact wO.of op_notN ⟨rfl, q⟩
  · have := sa.bl; subst_vars; exact wO.of op_notN ⟨rfl, q⟩
  · have := sa.int; subst_vars; exact wO.of op_notN ⟨rfl, q⟩
  · cases sa with | rep r => cases r; subst_vars; exact wO.of op_notN ⟨rfl, q⟩
  · obtain ⟨_, _, rfl, _⟩ := sa.tupI; subst_vars; exact wO.of op_notN ⟨rfl, q⟩
  · obtain ⟨_, _, rfl, _⟩ := sa.lstI; subst_vars; exact wO.of op_notN ⟨rfl, q⟩
  · obtain ⟨_, _, rfl, _⟩ := sa.flkI; subst_vars; exact wO.of op_notN ⟨rfl, q⟩
  · unfold memD at h
    split at h <;> try contradiction
    rename_i p r e1 e2
    split at h <;> simp only [Option.some.injEq, reduceCtorEq] at h
    rename_i hs
    subst h
    exact wO.of (op_inD hu1) ⟨p, r, sa.dp e1, sb.dp (by simp only [D.py, e2, Option.map_some]), (Bool.and_eq_true_iff.mp hs).1, (Bool.and_eq_true_iff.mp hs).2, q⟩
  · simp only [Option.map_eq_some_iff] at h
    obtain ⟨k', h, rfl⟩ := h
    unfold memD at h
    split at h <;> try contradiction
    rename_i p r e1 e2
    split at h <;> simp only [Option.some.injEq, reduceCtorEq] at h
    rename_i hs
    subst h
    exact wO.of (op_notInD hu1) ⟨p, r, sa.dp e1, sb.dp (by simp only [D.py, e2, Option.map_some]), (Bool.and_eq_true_iff.mp hs).1, (Bool.and_eq_true_iff.mp hs).2, q⟩

/-- an item by its index -/
def wIx (X : Cx) : R2 := fun x y H Q => ∀ value slice pins s σ v u, Inv X pins σ H s → RelV x v → RelV y u → subscripted slice false v u = operate [v, u] (getItem v u) → wpAny (model X.prog X.w) X.A (PyProof.Rows.subscriptTail value slice v u) (EP X pins σ Q) X.xe s
theorem wIx.op : IxR X (wIx X) := fun value slice pins s σ H x y v u Q I rx ry h e => h value slice pins s σ v u I rx ry e
theorem wIx.of {r : R2} (h : IxR X r) {x y : V} {H : Hp} {Q : VK} (q : r x y H Q) : wIx X x y H Q := fun value slice pins s σ v u I rx ry e => h value slice pins s σ H x y v u Q I rx ry q e
theorem ixN_len {n : Nat} {i : Int} {j : Nat} (h : ixN n i = some j) : j < n := (ixN_seq h).2.1
theorem Reps.at {K : PySem.W.Frag} {xs : List V} {ds : List D} {i : Int} {d : D} (r : Reps C K ω H xs ds) (h : atI ds i = some d) : ∃ v, atI xs i = some v ∧ Rep C K ω H v d := by
  unfold atI at h ⊢
  rw [r.length]
  cases e : ixN ds.length i with
  | none => rw [e] at h; simp at h
  | some j =>
    rw [e] at h
    simp only [Option.bind_some] at h ⊢
    exact r.getD h
theorem idx_ok {x y : V} {a b d : D} {Q : VK} (nt : NoT ω env.length) (sa : Sh C X.K ω H x a) (sb : Sh C X.K ω H y b) (h : idxD a b = some d)
    (q : ∀ v, Good C X.K .v ω H env.length v d → Q v H) : wIx X x y H Q := by
  unfold idxD at h
  split at h <;> try contradiction
  · obtain ⟨p, xs, rfl, hx, r⟩ := sa.tupI; have := sb.int; subst_vars
    obtain ⟨v, e, rv⟩ := r.at h
    exact wIx.of ix_tup ⟨_, _, _, v, rfl, rfl, hx, e, q v (good_imm nt rv)⟩
  · obtain ⟨p, xs, rfl, hx, r⟩ := sa.lstI; have := sb.int; subst_vars
    obtain ⟨v, e, rv⟩ := r.at h
    exact wIx.of ix_list ⟨_, _, _, v, rfl, rfl, SqL.of hx, e, q v (good_imm nt rv)⟩
  · obtain ⟨p, xs, rfl, hx, r⟩ := sa.flkI; have := sb.int; subst_vars
    obtain ⟨v, e, rv⟩ := r.at h
    exact wIx.of ix_list ⟨_, _, _, v, rfl, rfl, hx, e, q v (good_imm nt rv)⟩
/-- a slice -/
def wSl (X : Cx) : V → Option Int → Option Int → Hp → VK → Prop := fun x lo hi H Q => ∀ pins s σ v vl vu sl, Inv X pins σ H s → RelV x v → s.heap.IsSliceOf sl vl vu .none → IsPart vl lo → IsPart vu hi →
    ∃ T id, typeLookup (.type T) "__getitem__" = pure (some (.builtin id)) ∧ s.TypeIs v T ∧ wpAny (model X.prog X.w) X.A (getItem v (.ref sl)) (EP X pins σ Q) X.xe s
theorem wSl.op : SlR X (wSl X) := fun pins s σ H x v vl vu lo hi sl Q I rx hs pl pu h => h pins s σ v vl vu sl I rx hs pl pu
theorem wSl.of {r : V → Option Int → Option Int → Hp → VK → Prop} (h : SlR X r) {x : V} {lo hi : Option Int} {H : Hp} {Q : VK} (q : r x lo hi H Q) : wSl X x lo hi H Q := fun pins s σ v vl vu sl I rx hs pl pu => h pins s σ H x v vl vu lo hi sl Q I rx hs pl pu q
theorem Reps.cut {K : PySem.W.Frag} {xs : List V} {ds : List D} (r : Reps C K ω H xs ds) (lo hi : Option Int) : Reps C K ω H (cutV xs lo hi) (cutD ds lo hi) := by
  unfold cutV cutD
  rw [r.length]
  exact (r.drop _).take _
theorem slc_ok {x : V} {a d : D} {lo hi : Option Int} {Q : VK} (S : Sim C X.K ω env σ H) (nt : NoT ω env.length) (sa : Sh C X.K ω H x a) (e : slcD a lo hi = some d)
    (q : ∀ v H' ω', Sim C X.K ω' env σ H' → Chg false ω H ω' H' → Good C X.K .v ω' H' env.length v d → Q v H') : wSl X x lo hi H Q := by
  unfold slcD at e
  split at e <;> try contradiction
  · simp only [Option.some.injEq] at e
    subst e
    obtain ⟨p, xs, rfl, hx, r⟩ := sa.lstI
    refine wSl.of sl_list ⟨_, _, rfl, SqL.of hx, fun z hz => ?_⟩
    obtain ⟨ω', a1, a2, a3⟩ := fresh_lst S nt hz (r.cut lo hi)
    exact q _ _ ω' a1 a2 a3
  · simp only [Option.some.injEq] at e
    subst e
    obtain ⟨p, xs, rfl, hx, r⟩ := sa.tupI
    refine wSl.of sl_tupA ⟨_, _, rfl, hx, fun z => ?_, fun _ z hz => ?_⟩
    · have e : cutD ‹List D› lo hi = ‹List D› := by
        unfold cutD
        rw [r.length] at z
        rw [z.1, z.2, List.drop_zero, Nat.sub_zero, List.take_length]
      rw [e] at q
      exact q _ _ ω S (.refl _ _ _) (good_imm nt (by cases sa; assumption))
    · obtain ⟨a1, a2, a3⟩ := fresh_tup S nt hz (r.cut lo hi)
      exact q _ _ ω a1 a2 a3
end
end Q9

set_option Elab.async false
set_option linter.all false
set_option maxRecDepth 100000
namespace Q9
open PySem PySem.Spec L2

/-! ## the arguments of a call -/
inductive RA (C : Ct) (K : PySem.W.Frag) (σ : L2.St) (ω : Om) (H : Hp) : IE → List V → List D → Prop
  | nil : RA C K σ ω H .nil [] []
  | brw {i : Nat} {t : IE} {v : V} {vs : List V} {d : D} {ds : List D} : σ[i]? = some (some v) → RA C K σ ω H t vs ds → RA C K σ ω H (.cons (.aB i) t) (v :: vs) (d :: ds)
  | pk {i : Nat} {t : IE} {v : V} {vs : List V} {d : D} {ds : List D} : σ[i]? = some (some v) → RA C K σ ω H t vs ds → RA C K σ ω H (.cons (.aP i) t) (v :: vs) (d :: ds)
  | cons {h t : IE} {v : V} {vs : List V} {d : D} {ds : List D} : h.isB = false → Rep C K ω H v d → RA C K σ ω H t vs ds → RA C K σ ω H (.cons h t) (v :: vs) (d :: ds)
  | star {h t : IE} {xs vs : List V} {es ds : List D} : Reps C K ω H xs es → RA C K σ ω H t vs ds → RA C K σ ω H (.star h t) (xs ++ vs) (es ++ ds)

section
variable {C : Ct} {K : PySem.W.Frag} {ω ω' : Om} {env env' : Env} {σ : L2.St} {H H' : Hp}
theorem RA.mono {b : Bool} (c : Chg b ω H ω' H') : ∀ {as : IE} {vs : List V} {ds : List D}, RA C K σ ω H as vs ds → RA C K σ ω' H' as vs ds
  | _, _, _, .nil => .nil
  | _, _, _, .brw e r => .brw e (RA.mono c r)
  | _, _, _, .pk e r => .pk e (RA.mono c r)
  | _, _, _, .cons e q r => .cons e (q.mono c) (RA.mono c r)
  | _, _, _, .star q r => .star (q.mono c) (RA.mono c r)
theorem RA.reps : ∀ {as : IE} {vs : List V} {ds : List D}, as.noB = true → RA C K σ ω H as vs ds → Reps C K ω H vs ds
  | _, _, _, _, .nil => .nil
  | _, _, _, h, .brw e r => by simp [IE.noB, IE.isB] at h
  | _, _, _, h, .pk e r => by simp [IE.noB, IE.isB] at h
  | _, _, _, h, .cons e q r => .cons q (RA.reps (by simp only [IE.noB, Bool.and_eq_true] at h; exact h.2) r)
  | _, _, _, h, .star q r => q.append (RA.reps (by simpa only [IE.noB] using h) r)
theorem RA.length {as : IE} {vs : List V} {ds : List D} (r : RA C K σ ω H as vs ds) : vs.length = ds.length := by
  induction r with
  | nil => rfl
  | brw _ _ ih => simp [ih]
  | pk _ _ ih => simp [ih]
  | cons _ _ _ ih => simp [ih]
  | star q _ ih => simp [ih, q.length]
end

section
variable (C : Ct) (K : PySem.W.Frag)
def PostR (as : IE) (r : Re (List D)) (eff : Bool) (ω : Om) (env : Env) (σ : L2.St) (H : Hp) (W : WX) (Q : List V → Hp → Prop) : Prop :=
  match r with
  | .ok ds e' => ∀ vs H' ω', Sim C K ω' e' σ H' → Chg eff ω H ω' H' → NoT ω' env.length → RA C K σ ω' H' as vs ds → Q vs H'
  | .exc c w e' => PostX C K ω env σ H W c w e'
  | .stk => False
/-- what an iterator yields -/
def ItOk (ω : Om) (H : Hp) (J : It) (ds : List D) : Prop := ∀ i ω' H', Chg true ω H ω' H' → (∀ a, H' a = none → ω' a = none) →
  (∀ d, ds[i]? = some d → J.go i H' ∧ ∀ x H'', J.yld i H' x H'' → (∀ a o, H' a = some o → H'' a = some o) ∧ Rep C K ω' H'' x d) ∧ (ds.length ≤ i → J.stop i H')
def PostI (r : Re D) (eff : Bool) (ω : Om) (env : Env) (σ : L2.St) (H : Hp) (W : WX) (R : It → Hp → Prop) : Prop :=
  match r with
  | .ok d e' => match itemsD (D.un d) with
    | some l => ∀ J H' ω', Sim C K ω' e' σ H' → Chg eff ω H ω' H' → NoT ω' env.length → ItOk C K ω' H' J l → R J H'
    | none => False
  | .exc c w e' => PostX C K ω env σ H W c w e'
  | .stk => False
end

section
variable (T : Tab) (N : List Str) (C : Ct) (c : Oracle)
def SE (ie : IE) : Prop := ∀ sc e W X env ω σ H, XOk N sc W X → TabOk T C c X → chkE T N ie none sc e = true → Sim C X.K ω env σ H → NoT ω env.length →
  (∀ m Q, m ≠ .t → Post C X.K m (ev c ie m env) ie.eff ω env σ H W Q → wE X e σ H Q) ∧ (∀ Q, PostT C X.K (ev c ie .t env) ie.eff ω env σ H W Q → wT X e σ H Q)
def SA (ie : IE) : Prop := ∀ sc es W X env ω σ H, XOk N sc W X → TabOk T C c X → chkA T N ie sc es = true → Sim C X.K ω env σ H → NoT ω env.length →
  ∀ Q, PostR C X.K ie (evA c ie env) ie.eff ω env σ H W Q → wA X es σ H Q
def SP (ie : IE) : Prop := ∀ sc es W X env ω σ H, XOk N sc W X → TabOk T C c X → chkA T N ie sc es = true → Sim C X.K ω env σ H → NoT ω env.length →
  ∀ Q, PostP C X.K (evP c ie env) ie.eff ω env σ H W Q → wA X es σ H Q
def SI (ie : IE) : Prop := ∀ sc t e W X env ω σ H, XOk N sc W X → TabOk T C c X → chkE T N ie (some t) sc e = true → Sim C X.K ω env σ H → NoT ω env.length →
  ∀ Q, PostI C X.K (ev c ie .v env) ie.eff ω env σ H W Q → wI X t e σ H Q
end

section
variable {T : Tab} {N : List Str} {C : Ct} {c : Oracle}

theorem vis_of {sc : Scope} {x : Str} (h : visB sc x = true) : sc.names.lookup x = some .local ∨ sc.names.lookup x = some .cell ∨ sc.names.lookup x = some .free := by
  unfold visB at h
  split at h <;> first
    | (left; assumption)
    | (right; left; assumption)
    | (right; right; assumption)
    | contradiction
theorem loc_of {sc : Scope} {x : Str} (h : locB sc x = true) : sc.names.lookup x = some .local ∨ sc.names.lookup x = some .cell := by
  unfold locB at h
  split at h <;> first
    | (left; assumption)
    | (right; assumption)
    | contradiction
theorem gl_of {sc : Scope} {x : Str} (h : glB sc x = true) : sc.names.lookup x = some .globalImplicit := by
  unfold glB at h
  split at h <;> first
    | assumption
    | contradiction
theorem plainN_of {x : Str} (h : plainN x = true) : (x == ("__debug__" : Str)) = false ∧ (x == ("__classdict__" : Str)) = false ∧ x ≠ "__name__" := by
  unfold plainN at h
  simp only [Bool.and_eq_true, Bool.not_eq_true', beq_eq_false_iff_ne] at h
  exact ⟨by simpa using h.1.1, by simpa using h.1.2, h.2⟩

theorem se_con (d : D) : SE T N C c (.con d) := by
  intro sc e W X env ω σ H hX hT hc S nt
  have hc' : conB d e = true := hc
  have key : ∃ (v : V), PE X e (tC v) ∧ Rep C X.K ω H v d ∧ plainT e = true := by
    cases e with
    | Constant k j pos =>
      cases k <;> simp only [conB] at hc' <;> first | contradiction | skip
      all_goals (split at hc' <;> first | contradiction | skip)
      all_goals (try simp only [decide_eq_true_eq] at hc') <;> (try subst hc')
      · exact ⟨_, pe_non, .non, rfl⟩
      · exact ⟨_, pe_bl, .bl _, rfl⟩
      · exact ⟨_, pe_int, .int _, rfl⟩
      · exact ⟨_, pe_str, .str _, rfl⟩
    | _ => simp [conB] at hc'
  obtain ⟨v, pe, r, pt⟩ := key
  have := fin_both (e := e) (r := .ok d env) (eff := false) (C := C) (ω := ω) (σ := σ) (H := H) hX (fun Q p => wE.of pe (p v H ω S (.refl _ _ _) (good_imm nt r))) pt S.len
  exact this

theorem se_var (i : Nat) : SE T N C c (.var i) := by
  intro sc e W X env ω σ H hX hT hc S nt
  have key : ∃ x pos, e = .Name x pos ∧ N[i]? = some x ∧ visB sc x = true ∧ plainN x = true := by
    cases e <;> first | exact absurd hc Bool.false_ne_true | skip
    change (decide _ && _ && _) = true at hc
    simp only [Bool.and_eq_true, decide_eq_true_eq] at hc
    exact ⟨_, _, rfl, hc.1.1, hc.1.2, hc.2⟩
  obtain ⟨x, pos, rfl, hi, hv, hp⟩ := key
  obtain ⟨p1, p2, p3⟩ := plainN_of hp
  have pe : PE X (.Name x pos) (tVar i) := pe_var (by rw [hX.hN]; exact hi) (hX.vis x (vis_of hv)) p1 p2
  show (∀ m Q, _ → Post C X.K m (match env[i]? with
    | some (some (.own d)) => match m with
      | .v => .ok (D.un (.own d)) (env.set i (some (D.un (.own d))))
      | m => fin m (.ok d env)
    | some (some (.brw d)) => match m with
      | .v => .stk
      | m => fin m (.ok d env)
    | some (some d) => fin m (.ok d env)
    | _ => .stk) false ω env σ H W Q → _) ∧ (∀ Q, PostT C X.K (match env[i]? with
    | some (some (.own d)) => fin .t (.ok d env)
    | some (some (.brw d)) => fin .t (.ok d env)
    | some (some d) => fin .t (.ok d env)
    | _ => .stk) false ω env σ H W Q → _)
  cases hs : env[i]? with
  | none => exact ⟨fun _ _ _ p => p.elim, fun _ p => p.elim⟩
  | some o =>
    cases o with
    | none => exact ⟨fun _ _ _ p => p.elim, fun _ p => p.elim⟩
    | some d =>
      obtain ⟨v, hv, r⟩ := S.slot i d hs
      have hil : i < env.length := (List.getElem?_eq_some_iff.mp hs).1
      have hiF : i ≠ FO := by have := S.sz; omega
      have frz : (∀ d0, d ≠ .own d0) → (∀ d0, d ≠ .brw d0) → (∀ m Q, m ≠ .t → Post C X.K m (fin m (.ok d env)) false ω env σ H W Q → wE X (.Name x pos) σ H Q) ∧ (∀ Q, PostT C X.K (fin .t (.ok d env)) false ω env σ H W Q → wT X (.Name x pos) σ H Q) := by
        intro h1 h2
        have r' : Rep C X.K ω H v d := by
          cases d <;> first
            | exact r
            | exact absurd rfl (h1 _)
            | exact absurd rfl (h2 _)
        exact fin_both (r := .ok d env) hX (fun Q p => wE.of pe ⟨v, hv, p v H ω S (.refl _ _ _) (good_imm nt r')⟩) rfl S.len
      have peek : ∀ d0, OwnR C X.K ω H i v d0 → (∀ m Q, m ≠ .t → m ≠ .v → Post C X.K m (fin m (.ok d0 env)) false ω env σ H W Q → wE X (.Name x pos) σ H Q) ∧ (∀ Q, PostT C X.K (fin .t (.ok d0 env)) false ω env σ H W Q → wT X (.Name x pos) σ H Q) := by
        intro d0 o
        have sh := o.sh
        have hun := sh.un
        refine ⟨fun m Q h1 h2 p => ?_, fun Q p => ?_⟩
        · cases m with
          | v => exact absurd rfl h2
          | t => exact absurd rfl h1
          | p => exact wE.of pe ⟨v, hv, p v H ω S (.refl _ _ _) ⟨nt, by rw [hun]; exact sh⟩⟩
        · refine wT.of (pt_truth pe (plainT_is rfl X.env)) ⟨v, hv, ?_⟩
          have p' : PostT C X.K (match D.truth (D.un d0) with | some b => Re.ok (D.bl b) env | none => .stk) false ω env σ H W Q := p
          rw [hun] at p'
          cases hb : D.truth d0 with
          | none => rw [hb] at p'; exact p'.elim
          | some b => rw [hb] at p'; exact ⟨b, truth_of sh hb, p' H ω S (.refl _ _ _) nt⟩
      cases d with
      | own d0 =>
        obtain ⟨pk1, pk2⟩ := peek d0 r
        refine ⟨fun m Q hm p => ?_, pk2⟩
        cases m with
        | t => exact absurd rfl hm
        | p => exact pk1 .p Q (by simp) (by simp) p
        | v =>
          obtain ⟨rf, _⟩ := OwnR.freeze hiF r
          refine wE.of pe ⟨v, hv, p v H (strike ω i) ?_ (Chg.strike hiF) (.inr ⟨fun a q z => nt a q (strike_some z).1, rf⟩)⟩
          refine ⟨by rw [List.length_set]; exact S.len, by rw [List.length_set]; exact S.sz, fun a j q z => by rw [List.length_set]; exact S.own a j q (strike_some z).1, fun j d' q => ?_⟩
          by_cases hj : j = i
          · subst hj
            rw [List.getElem?_set_self hil] at q
            cases q
            refine ⟨v, hv, ?_⟩
            cases r with
            | flat f => cases f with
              | lst h w r => exact rf
            | ins h w l r => exact rf
          · rw [List.getElem?_set_ne (Ne.symm hj)] at q
            obtain ⟨v', e', r'⟩ := S.slot j d' q
            exact ⟨v', e', r'.strike' hiF hj⟩
      | brw d0 =>
        obtain ⟨pk1, pk2⟩ := peek d0 r
        refine ⟨fun m Q hm p => ?_, pk2⟩
        cases m with
        | t => exact absurd rfl hm
        | p => exact pk1 .p Q (by simp) (by simp) p
        | v => exact p.elim
      | _ => exact frz (by simp) (by simp)

/-! ## one step after another -/
theorem step {a : IE} {x : Expr} {sc : Scope} {W : WX} {X : Cx} {env : Env} {ω : Om} {σ : L2.St} {H : Hp} {m : Md} {f : D → Env → Re D} {eff e2 : Bool} {Q R : VK}
    (ha : SE T N C c a) (hX : XOk N sc W X) (hT : TabOk T C c X) (ca : chkE T N a none sc x = true) (S : Sim C X.K ω env σ H) (nt : NoT ω env.length) (hm : m ≠ .t)
    (p : Post C X.K .v ((ev c a m env).bind f) eff ω env σ H W Q) (he : (a.eff || e2) = eff)
    (k : ∀ d e1 v H1 ω1, Sim C X.K ω1 e1 σ H1 → Chg a.eff ω H ω1 H1 → Good C X.K m ω1 H1 e1.length v d → Post C X.K .v (f d e1) e2 ω1 e1 σ H1 W Q → R v H1) : wE X x σ H R := by
  refine (ha sc x W X env ω σ H hX hT ca S nt).1 m R hm ?_
  cases hr : ev c a m env with
  | ok d e1 =>
    rw [hr] at p
    intro v H1 ω1 S1 c1 g1
    have el : e1.length = env.length := S.elen S1
    exact k d e1 v H1 ω1 S1 c1 (by rw [el]; exact g1) (Post.shift c1 el he p)
  | exc cl w e1 => rw [hr] at p; exact p
  | stk => rw [hr] at p; exact p.elim
theorem stepT {a : IE} {x : Expr} {sc : Scope} {W : WX} {X : Cx} {env : Env} {ω : Om} {σ : L2.St} {H : Hp} {m : Md} {f : D → Env → Re D} {eff e2 : Bool} {Q : VK} {R : Bool → Hp → Prop}
    (ha : SE T N C c a) (hX : XOk N sc W X) (hT : TabOk T C c X) (ca : chkE T N a none sc x = true) (S : Sim C X.K ω env σ H) (nt : NoT ω env.length)
    (p : Post C X.K m ((ev c a .t env).bind f) eff ω env σ H W Q) (he : (a.eff || e2) = eff) (hf : ∀ d e1, (∀ b, d ≠ .bl b) → f d e1 = .stk)
    (k : ∀ b e1 H1 ω1, Sim C X.K ω1 e1 σ H1 → Chg a.eff ω H ω1 H1 → NoT ω1 e1.length → Post C X.K m (f (.bl b) e1) e2 ω1 e1 σ H1 W Q → R b H1) : wT X x σ H R := by
  refine (ha sc x W X env ω σ H hX hT ca S nt).2 R ?_
  cases hr : ev c a .t env with
  | ok d e1 =>
    rw [hr] at p
    by_cases hd : ∃ b, d = .bl b
    · obtain ⟨b, rfl⟩ := hd
      intro H1 ω1 S1 c1 n1
      have el : e1.length = env.length := S.elen S1
      exact k b e1 H1 ω1 S1 c1 (by rw [el]; exact n1) (Post.shift c1 el he p)
    · have p' : Post C X.K m (f d e1) eff ω env σ H W Q := p
      rw [hf d e1 (fun b e => hd ⟨b, e⟩)] at p'
      exact p'.elim
  | exc cl w e1 => rw [hr] at p; exact p
  | stk => rw [hr] at p; exact p.elim
theorem stepTT {a : IE} {x : Expr} {sc : Scope} {W : WX} {X : Cx} {env : Env} {ω : Om} {σ : L2.St} {H : Hp} {f : D → Env → Re D} {eff e2 : Bool} {Q : Bool → Hp → Prop} {R : Bool → Hp → Prop}
    (ha : SE T N C c a) (hX : XOk N sc W X) (hT : TabOk T C c X) (ca : chkE T N a none sc x = true) (S : Sim C X.K ω env σ H) (nt : NoT ω env.length)
    (p : PostT C X.K ((ev c a .t env).bind f) eff ω env σ H W Q) (he : (a.eff || e2) = eff) (hf : ∀ d e1, (∀ b, d ≠ .bl b) → f d e1 = .stk)
    (k : ∀ b e1 H1 ω1, Sim C X.K ω1 e1 σ H1 → Chg a.eff ω H ω1 H1 → NoT ω1 e1.length → PostT C X.K (f (.bl b) e1) e2 ω1 e1 σ H1 W Q → R b H1) : wT X x σ H R := by
  refine (ha sc x W X env ω σ H hX hT ca S nt).2 R ?_
  cases hr : ev c a .t env with
  | ok d e1 =>
    rw [hr] at p
    by_cases hd : ∃ b, d = .bl b
    · obtain ⟨b, rfl⟩ := hd
      intro H1 ω1 S1 c1 n1
      have el : e1.length = env.length := S.elen S1
      exact k b e1 H1 ω1 S1 c1 (by rw [el]; exact n1) (PostT.shift c1 el he p)
    · have p' : PostT C X.K (f d e1) eff ω env σ H W Q := p
      rw [hf d e1 (fun b e => hd ⟨b, e⟩)] at p'
      exact p'.elim
  | exc cl w e1 => rw [hr] at p; exact p
  | stk => rw [hr] at p; exact p.elim
/-- .. the test's value of a value -/
theorem stepET {a : IE} {x : Expr} {sc : Scope} {W : WX} {X : Cx} {env : Env} {ω : Om} {σ : L2.St} {H : Hp} {m : Md} {f : D → Env → Re D} {eff e2 : Bool} {Q : Bool → Hp → Prop} {R : VK}
    (ha : SE T N C c a) (hX : XOk N sc W X) (hT : TabOk T C c X) (ca : chkE T N a none sc x = true) (S : Sim C X.K ω env σ H) (nt : NoT ω env.length) (hm : m ≠ .t)
    (p : PostT C X.K ((ev c a m env).bind f) eff ω env σ H W Q) (he : (a.eff || e2) = eff)
    (k : ∀ d e1 v H1 ω1, Sim C X.K ω1 e1 σ H1 → Chg a.eff ω H ω1 H1 → Good C X.K m ω1 H1 e1.length v d → PostT C X.K (f d e1) e2 ω1 e1 σ H1 W Q → R v H1) : wE X x σ H R := by
  refine (ha sc x W X env ω σ H hX hT ca S nt).1 m R hm ?_
  cases hr : ev c a m env with
  | ok d e1 =>
    rw [hr] at p
    intro v H1 ω1 S1 c1 g1
    have el : e1.length = env.length := S.elen S1
    exact k d e1 v H1 ω1 S1 c1 (by rw [el]; exact g1) (PostT.shift c1 el he p)
  | exc cl w e1 => rw [hr] at p; exact p
  | stk => rw [hr] at p; exact p.elim
theorem stepA {as : IE} {es : List Expr} {sc : Scope} {W : WX} {X : Cx} {env : Env} {ω : Om} {σ : L2.St} {H : Hp} {f : List D → Env → Re D} {eff e2 : Bool} {Q : VK} {R : List V → Hp → Prop}
    (ha : SA T N C c as) (hX : XOk N sc W X) (hT : TabOk T C c X) (ca : chkA T N as sc es = true) (S : Sim C X.K ω env σ H) (nt : NoT ω env.length)
    (p : Post C X.K .v ((evA c as env).bind f) eff ω env σ H W Q) (he : (as.eff || e2) = eff)
    (k : ∀ ds e1 vs H1 ω1, Sim C X.K ω1 e1 σ H1 → Chg as.eff ω H ω1 H1 → NoT ω1 e1.length → RA C X.K σ ω1 H1 as vs ds → Post C X.K .v (f ds e1) e2 ω1 e1 σ H1 W Q → R vs H1) : wA X es σ H R := by
  refine ha sc es W X env ω σ H hX hT ca S nt R ?_
  cases hr : evA c as env with
  | ok ds e1 =>
    rw [hr] at p
    intro vs H1 ω1 S1 c1 n1 g1
    have el : e1.length = env.length := S.elen S1
    exact k ds e1 vs H1 ω1 S1 c1 (by rw [el]; exact n1) g1 (Post.shift c1 el he p)
  | exc cl w e1 => rw [hr] at p; exact p
  | stk => rw [hr] at p; exact p.elim
theorem stepP {as : IE} {es : List Expr} {sc : Scope} {W : WX} {X : Cx} {env : Env} {ω : Om} {σ : L2.St} {H : Hp} {f : List D → Env → Re D} {eff e2 : Bool} {Q : VK} {R : List V → Hp → Prop}
    (ha : SP T N C c as) (hX : XOk N sc W X) (hT : TabOk T C c X) (ca : chkA T N as sc es = true) (S : Sim C X.K ω env σ H) (nt : NoT ω env.length)
    (p : Post C X.K .v ((evP c as env).bind f) eff ω env σ H W Q) (he : (as.eff || e2) = eff)
    (k : ∀ ds e1 vs H1 ω1, Sim C X.K ω1 e1 σ H1 → Chg as.eff ω H ω1 H1 → NoT ω1 e1.length → Shs C X.K ω1 H1 vs ds → Post C X.K .v (f ds e1) e2 ω1 e1 σ H1 W Q → R vs H1) : wA X es σ H R := by
  refine ha sc es W X env ω σ H hX hT ca S nt R ?_
  cases hr : evP c as env with
  | ok ds e1 =>
    rw [hr] at p
    intro vs H1 ω1 S1 c1 n1 g1
    have el : e1.length = env.length := S.elen S1
    exact k ds e1 vs H1 ω1 S1 c1 (by rw [el]; exact n1) g1 (Post.shift c1 el he p)
  | exc cl w e1 => rw [hr] at p; exact p
  | stk => rw [hr] at p; exact p.elim

theorem Bop.is_noSet : True := trivial
theorem se_bin {o : Bop} {a b : IE} (ha : SE T N C c a) (hb : SE T N C c b) : SE T N C c (.bin o a b) := by
  intro sc e W X env ω σ H hX hT hc S nt
  have key : ∃ x op y pos, e = .BinOp x op y pos ∧ o.is op = true ∧ chkE T N a none sc x = true ∧ chkE T N b none sc y = true := by
    cases e <;> first | exact absurd hc Bool.false_ne_true | skip
    change (_ && _ && _) = true at hc
    simp only [Bool.and_eq_true] at hc
    exact ⟨_, _, _, _, rfl, hc.1.1, hc.1.2, hc.2⟩
  obtain ⟨x, op, y, pos, rfl, ho, ca, cb⟩ := key
  refine fin_both hX (fun Q p => ?_) rfl S.len
  refine wE.of (pe_op wO.op peW peW) ?_
  refine step ha hX hT ca S nt pk_ne p (e2 := b.eff) rfl fun d e1 v H1 ω1 S1 c1 g1 p1 => ?_
  obtain ⟨ω1', S1', c1', n1, keep⟩ := opnd S1 g1
  have p1 := Post.shift c1' rfl (by rfl : (false || b.eff) = b.eff) p1
  refine step hb hX hT cb S1' n1 (by simp) p1 (e2 := false) (by simp) fun d2 e2 v2 H2 ω2 S2 c2 g2 p2 => ?_
  unfold ofO at p2
  split at p2
  · exact bin_ok ho S2 g2.1 (keep ω2 H2 c2) g2.2 (by assumption) p2
  · exact p2.elim
theorem hu65 {N : List Str} {sc : Scope} {W : WX} {X : Cx} (hX : XOk N sc W X) : True := trivial
theorem isSet_mark {op : CmpOp} {y : Expr} (h : isSet y = false) : behindInMarks op y = false := by
  cases y <;> first | rfl | (simp [isSet] at h)
theorem se_idx {a b : IE} (ha : SE T N C c a) (hb : SE T N C c b) : SE T N C c (.idx a b) := by
  intro sc e W X env ω σ H hX hT hc S nt
  have key : ∃ x y pos, e = .Subscript x y pos ∧ chkE T N a none sc x = true ∧ chkE T N b none sc y = true ∧ isSl y = false := by
    cases e <;> first | exact absurd hc Bool.false_ne_true | skip
    change (_ && _ && !_) = true at hc
    simp only [Bool.and_eq_true, Bool.not_eq_true'] at hc
    exact ⟨_, _, _, rfl, hc.1.1, hc.1.2, hc.2⟩
  obtain ⟨x, y, pos, rfl, ca, cb, hs⟩ := key
  refine fin_both hX (fun Q p => ?_) rfl S.len
  have hp : PlainIx y := by intro o i; cases y <;> first | rfl | (simp [isSl] at hs)
  refine wE.of (pe_ix wIx.op peW peW hp) ?_
  refine step ha hX hT ca S nt pk_ne p (e2 := b.eff) rfl fun d e1 v H1 ω1 S1 c1 g1 p1 => ?_
  obtain ⟨ω1', S1', c1', n1, keep⟩ := opnd S1 g1
  have p1 := Post.shift c1' rfl (by rfl : (false || b.eff) = b.eff) p1
  refine step hb hX hT cb S1' n1 (by simp) p1 (e2 := false) (by simp) fun d2 e2 v2 H2 ω2 S2 c2 g2 p2 => ?_
  unfold ofO at p2
  split at p2
  · exact idx_ok g2.1 (keep ω2 H2 c2) g2.2 (by assumption) (fun v g => p2 v H2 ω2 S2 (.refl _ _ _) g)
  · exact p2.elim
end
end Q9

set_option Elab.async false
set_option linter.all false
set_option maxRecDepth 100000
namespace Q9
open PySem PySem.Spec L2
section
variable {T : Tab} {N : List Str} {C : Ct} {c : Oracle}

theorem se_unk : SE T N C c .unk := fun sc e W X env ω σ H hX hT hc S nt => ⟨fun m Q hm p => p.elim, fun Q p => p.elim⟩

theorem se_gl (n : String) (d : D) : SE T N C c (.gl n d) := by
  intro sc e W X env ω σ H hX hT hc S nt
  have key : ∃ pos, e = .Name (Str.ofString n) pos ∧ glB sc (Str.ofString n) = true ∧ plainN (Str.ofString n) = true ∧ ((∃ i, d = .int i ∧ T.co n = some (.int i)) ∨ ∃ i, d = .str i ∧ T.co n = some (.str i)) := by
    cases e <;> first | exact absurd hc Bool.false_ne_true | skip
    rename_i x pos
    change (decide (x = Str.ofString n) && _ && _ && (match (generalizing := false) T.co n, d with | some (.int i), .int j => decide (i = j) | some (.str i), .str j => decide (i = j) | _, _ => false)) = true at hc
    simp only [Bool.and_eq_true, decide_eq_true_eq] at hc
    obtain ⟨⟨⟨rfl, h2⟩, h3⟩, h4⟩ := hc
    refine ⟨_, rfl, h2, h3, ?_⟩
    split at h4
    · simp only [decide_eq_true_eq] at h4; subst h4; exact .inl ⟨_, rfl, by assumption⟩
    · simp only [decide_eq_true_eq] at h4; subst h4; exact .inr ⟨_, rfl, by assumption⟩
    · exact absurd h4 Bool.false_ne_true
  obtain ⟨pos, rfl, hg, hp, hd⟩ := key
  obtain ⟨p1, p2, p3⟩ := plainN_of hp
  have pe : ∃ v, PE X (.Name (Str.ofString n) pos) (tC v) ∧ Rep C X.K ω H v d := by
    rcases hd with ⟨i, rfl, hi⟩ | ⟨i, rfl, hi⟩
    · obtain ⟨t, ht⟩ := hT.cInt n i hi
      exact ⟨.int i, pe_glob (hX.gl _ (gl_of hg)) ht ⟨t, rfl⟩ p1, .int i⟩
    · obtain ⟨t, ht⟩ := hT.cStr n i hi
      exact ⟨.str i, pe_glob (hX.gl _ (gl_of hg)) ht ⟨t, rfl⟩ p1, .str i⟩
  obtain ⟨v, pe, r⟩ := pe
  exact fin_both (r := .ok d env) hX (fun Q p => wE.of pe (p v H ω S (.refl _ _ _) (good_imm nt r))) rfl S.len

theorem se_tup {as : IE} (ha : SA T N C c as) : SE T N C c (.tupE as) := by
  intro sc e W X env ω σ H hX hT hc S nt
  have key : ∃ es k pos, e = .Tuple es k pos ∧ as.noB = true ∧ chkA T N as sc es = true := by
    cases e <;> first | exact absurd hc Bool.false_ne_true | skip
    change (_ && _) = true at hc
    simp only [Bool.and_eq_true] at hc
    exact ⟨_, _, _, rfl, hc.1, hc.2⟩
  obtain ⟨es, k, pos, rfl, hB, ca⟩ := key
  refine fin_both hX (fun Q p => ?_) rfl S.len
  refine wE.of (pe_tup paW) ?_
  refine stepA ha hX hT ca S nt p (e2 := false) (Bool.or_false _) fun ds e1 vs H1 ω1 S1 c1 n1 r1 p1 => ?_
  have rs := r1.reps hB
  by_cases hl : ds.length ≤ sizeLine
  · rw [if_pos hl] at p1
    refine ⟨by rw [rs.length]; exact hl, fun q hq => ?_⟩
    obtain ⟨a1, a2, a3⟩ := fresh_tup S1 n1 hq rs
    exact p1 _ _ ω1 a1 a2 a3
  · rw [if_neg hl] at p1; exact p1.elim
theorem se_lst {as : IE} (ha : SA T N C c as) : SE T N C c (.lstE as) := by
  intro sc e W X env ω σ H hX hT hc S nt
  have key : ∃ es pos, e = .List es pos ∧ as.noB = true ∧ chkA T N as sc es = true := by
    cases e <;> first | exact absurd hc Bool.false_ne_true | skip
    change (_ && _) = true at hc
    simp only [Bool.and_eq_true] at hc
    exact ⟨_, _, rfl, hc.1, hc.2⟩
  obtain ⟨es, pos, rfl, hB, ca⟩ := key
  refine fin_both hX (fun Q p => ?_) rfl S.len
  refine wE.of (pe_lst paW) ?_
  refine stepA ha hX hT ca S nt p (e2 := false) (Bool.or_false _) fun ds e1 vs H1 ω1 S1 c1 n1 r1 p1 => ?_
  have rs := r1.reps hB
  by_cases hl : ds.length ≤ sizeLine
  · rw [if_pos hl] at p1
    refine ⟨by rw [rs.length]; exact hl, fun q hq => ?_⟩
    obtain ⟨ω', a1, a2, a3⟩ := fresh_lst S1 n1 hq rs
    exact p1 _ _ ω' a1 a2 a3
  · rw [if_neg hl] at p1; exact p1.elim

/-- a comparison's value is a bool -/
theorem cmp_both {e : Expr} {sc : Scope} {W : WX} {X : Cx} {env : Env} {ω : Om} {σ : L2.St} {H : Hp} {r : Re D} {eff : Bool} (hX : XOk N sc W X) (S : Sim C X.K ω env σ H) (hb : ∀ d e1, r = .ok d e1 → ∃ b, d = .bl b)
    (h : ∀ Q : VK, Post C X.K .v r eff ω env σ H W Q → wE X e σ H Q) (t : ∀ Q : Bool → Hp → Prop, Post C X.K .v r eff ω env σ H W (fun v H' => ∃ k, v = .bl k ∧ Q k H') → wT X e σ H Q) :
    (∀ m Q, m ≠ .t → Post C X.K m r eff ω env σ H W Q → wE X e σ H Q) ∧ (∀ Q, PostT C X.K r eff ω env σ H W Q → wT X e σ H Q) := by
  refine ⟨fun m Q hm p => ?_, fun Q p => ?_⟩
  · refine h Q ?_
    cases r with
    | ok d e1 =>
      obtain ⟨b, rfl⟩ := hb d e1 rfl
      intro v H' ω' S' ch g
      rcases g with ⟨d0, z, _⟩ | ⟨n, r⟩
      · cases z
      · refine p v H' ω' S' ch ?_
        cases m with
        | v => exact .inr ⟨n, r⟩
        | p => exact ⟨n, .rep r⟩
        | t => exact absurd rfl hm
    | exc cl w e1 => exact p
    | stk => exact p
  · refine t Q ?_
    cases r with
    | ok d e1 =>
      obtain ⟨b, rfl⟩ := hb d e1 rfl
      intro v H' ω' S' ch g
      rcases g with ⟨d0, z, _⟩ | ⟨n, r⟩
      · cases z
      · cases r
        exact ⟨b, rfl, p H' ω' S' ch n⟩
    | exc cl w e1 => exact p
    | stk => exact p.elim
theorem bind_bl {r : Re D} {f : D → Env → Re D} (hf : ∀ x e d e1, f x e = .ok d e1 → ∃ b, d = .bl b) : ∀ d e1, r.bind f = .ok d e1 → ∃ b, d = .bl b := by
  intro d e1 h
  cases r with
  | ok x e => exact hf x e d e1 h
  | exc _ _ _ => cases h
  | stk => cases h
theorem ofB_bl {o : Option Bool} {e : Env} : ∀ d e1, ofB o e = .ok d e1 → ∃ b, d = .bl b := by
  intro d e1 h
  unfold ofB at h
  split at h
  · cases h; exact ⟨_, rfl⟩
  · cases h

theorem se_cmp {o : Cop} {a b : IE} (ha : SE T N C c a) (hb : SE T N C c b) : SE T N C c (.cmp o a b) := by
  intro sc e W X env ω σ H hX hT hc S nt
  have key : ∃ x op y pos, e = .Compare x [op] [y] pos ∧ o.is op = true ∧ chkE T N a none sc x = true ∧ chkE T N b none sc y = true ∧ isSet y = false := by
    cases e <;> first | exact absurd hc Bool.false_ne_true | skip
    rename_i x ops ys pos
    match ops, ys, hc with
    | [], _, hc => exact absurd hc Bool.false_ne_true
    | [op], [], hc => exact absurd hc Bool.false_ne_true
    | [op], [y], hc =>
      change (_ && _ && _ && !_) = true at hc
      simp only [Bool.and_eq_true, Bool.not_eq_true'] at hc
      exact ⟨_, _, _, _, rfl, hc.1.1.1, hc.1.1.2, hc.1.2, hc.2⟩
    | [op], _ :: _ :: _, hc => exact absurd hc Bool.false_ne_true
    | _ :: _ :: _, [], hc => exact absurd hc Bool.false_ne_true
    | _ :: _ :: _, [_], hc => exact absurd hc Bool.false_ne_true
    | _ :: _ :: [], _ :: _ :: _, hc => exact absurd hc Bool.false_ne_true
    | _ :: _ :: _ :: _, _ :: _ :: _, hc => exact absurd hc Bool.false_ne_true
  obtain ⟨x, op, y, pos, rfl, ho, ca, cb, hs⟩ := key
  have hu := hX.hu
  have core : ∀ Q : VK, Post C X.K .v ((ev c a (pk b) env).bind fun x e1 => (ev c b .p e1).bind fun y e2 => ofB (cmpD o (D.un x) y) e2) (a.eff || b.eff) ω env σ H W Q → tOp (wO X (compareOp op)) (wE X x) (wE X y) σ H Q := by
    intro Q p
    refine step ha hX hT ca S nt pk_ne p (e2 := b.eff) rfl fun d e1 v H1 ω1 S1 c1 g1 p1 => ?_
    obtain ⟨ω1', S1', c1', n1, keep⟩ := opnd S1 g1
    have p1 := Post.shift c1' rfl (by rfl : (false || b.eff) = b.eff) p1
    refine step hb hX hT cb S1' n1 (by simp) p1 (e2 := false) (by simp) fun d2 e2 v2 H2 ω2 S2 c2 g2 p2 => ?_
    unfold ofB at p2
    split at p2
    · exact cmp_ok (by omega) (by omega) ho (keep ω2 H2 c2) g2.2 (by assumption) (p2 _ H2 ω2 S2 (.refl _ _ _) (good_imm g2.1 (.bl _)))
    · exact p2.elim
  exact cmp_both hX S (bind_bl fun _ _ => bind_bl fun _ _ => ofB_bl) (fun Q p => wE.of (pe_cmpR wO.op peW peW (isSet_mark hs)) (core Q p)) (fun Q p => wT.of (pt_cmpR wO.op peW peW (isSet_mark hs)) (core _ p))

theorem se_chain {o o' : Cop} {a b b2 : IE} (ha : SE T N C c a) (hb : SE T N C c b) (hb2 : SE T N C c b2) : SE T N C c (.chain o o' a b b2) := by
  intro sc e W X env ω σ H hX hT hc S nt
  have key : ∃ x op op' y z pos, e = .Compare x [op, op'] [y, z] pos ∧ o.is op = true ∧ o'.is op' = true ∧ chkE T N a none sc x = true ∧ chkE T N b none sc y = true ∧ chkE T N b2 none sc z = true ∧ isSet z = false := by
    cases e <;> first | exact absurd hc Bool.false_ne_true | skip
    rename_i x ops ys pos
    match ops, ys, hc with
    | [], _, hc => exact absurd hc Bool.false_ne_true
    | [op], [], hc => exact absurd hc Bool.false_ne_true
    | [op], [y], hc => exact absurd hc Bool.false_ne_true
    | [op], _ :: _ :: _, hc => exact absurd hc Bool.false_ne_true
    | [_, _], [], hc => exact absurd hc Bool.false_ne_true
    | _ :: _ :: _ :: _, [], hc => exact absurd hc Bool.false_ne_true
    | [_, _], [_], hc => exact absurd hc Bool.false_ne_true
    | [_, _], [y, z], hc =>
      change (_ && _ && _ && _ && _ && !_ && !_) = true at hc
      simp only [Bool.and_eq_true, Bool.not_eq_true'] at hc
      exact ⟨_, _, _, _, _, _, rfl, hc.1.1.1.1.1.1, hc.1.1.1.1.1.2, hc.1.1.1.1.2, hc.1.1.1.2, hc.1.1.2, hc.2⟩
    | [_, _], _ :: _ :: _ :: _, hc => exact absurd hc Bool.false_ne_true
    | _ :: _ :: _ :: _, [_], hc => exact absurd hc Bool.false_ne_true
    | _ :: _ :: _ :: _, _ :: _ :: _, hc => exact absurd hc Bool.false_ne_true
  obtain ⟨x, op, op', y, z, pos, rfl, ho, ho', ca, cb, cb2, hs⟩ := key
  have hu := hX.hu
  have core : ∀ Q : VK, Post C X.K .v ((ev c a (pk b) env).bind fun x e1 => (ev c b (pk b2) e1).bind fun y e2 => match cmpD o (D.un x) (D.un y) with
    | some true => (ev c b2 .p e2).bind fun z e3 => ofB (cmpD o' (D.un y) z) e3
    | some false => .ok (.bl false) e2
    | none => .stk) (a.eff || b.eff || b2.eff) ω env σ H W Q → tChain (wO X (compareOp op)) (wO X (compareOp op')) (wE X x) (wE X y) (wE X z) σ H Q := by
    intro Q p
    refine step ha hX hT ca S nt pk_ne p (e2 := b.eff || b2.eff) (Bool.or_assoc _ _ _).symm fun d e1 v H1 ω1 S1 c1 g1 p1 => ?_
    obtain ⟨ω1', S1', c1', n1, keep⟩ := opnd S1 g1
    have p1 := Post.shift c1' rfl (by rfl : (false || (b.eff || b2.eff)) = (b.eff || b2.eff)) p1
    refine step hb hX hT cb S1' n1 pk_ne p1 (e2 := b2.eff) rfl fun d2 e2 v2 H2 ω2 S2 c2 g2 p2 => ?_
    obtain ⟨ω2', S2', c2', n2, keep2⟩ := opnd S2 g2
    have p2 := Post.shift c2' rfl (by rfl : (false || b2.eff) = b2.eff) p2
    have sx : Sh C X.K ω2' H2 v (D.un d) := keep ω2' H2 (by simpa using c2.trans c2')
    have sy : Sh C X.K ω2' H2 v2 (D.un d2) := keep2 ω2' H2 (.refl _ _ _)
    cases hk : cmpD o (D.un d) (D.un d2) with
    | none => rw [hk] at p2; exact p2.elim
    | some k =>
      rw [hk] at p2
      refine cmp_ok (by omega) (by omega) ho sx sy hk ⟨k, rfl, ?_⟩
      cases k with
      | false =>
        refine (if_neg (by simp)).mpr ?_
        exact p2 _ H2 ω2' S2' (.refl _ _ _) (good_imm n2 (.bl _))
      | true =>
        refine (if_pos rfl).mpr ?_
        refine step hb2 hX hT cb2 S2' n2 (by simp) p2 (e2 := false) (by simp) fun d3 e3 v3 H3 ω3 S3 c3 g3 p3 => ?_
        unfold ofB at p3
        split at p3
        · exact cmp_ok (by omega) (by omega) ho' (keep2 ω3 H3 c3) g3.2 (by assumption) (p3 _ H3 ω3 S3 (.refl _ _ _) (good_imm g3.1 (.bl _)))
        · exact p3.elim
  have hm : lastMarks [op, op'] [y, z] = false := by
    show behindInMarks op' z = false
    exact isSet_mark hs
  refine cmp_both hX S (bind_bl fun _ _ => bind_bl fun _ _ d e1 h => ?_) (fun Q p => wE.of (pe_chain wO.op wO.op peW peW peW hm) (core Q p)) (fun Q p => wT.of (pt_chain wO.op wO.op peW peW peW hm) ?_)
  · split at h
    · exact bind_bl (fun _ _ => ofB_bl) d e1 h
    · cases h; exact ⟨_, rfl⟩
    · cases h
  · exact core _ p
open PyProof.Rows (Compare_chain isTrue_chain chain_link chain_last test_link test_last ite_ff ite_tt)
def tChain3 (r r' r2 : R2) (ta tb tc td : TE) : TE := fun σ H Q => ta σ H fun x H1 => tb σ H1 fun y H2 => r x y H2 fun z H3 => ∃ k, z = .bl k ∧
  (if k = true then tc σ H3 fun w' H4 => r' y w' H4 fun z2 H5 => ∃ k2, z2 = .bl k2 ∧ (if k2 = true then td σ H5 fun u H6 => r2 w' u H6 Q else Q (.bl false) H5) else Q (.bl false) H3)
theorem pe_chain3 {X : Cx} {p1 p2 p3 : CmpOp} {r r' r2 : R2} {a b c d : Expr} {pos : Pos} {ta tb tc td : TE} (ho : OpR X (compareOp p1) r) (ho' : OpR X (compareOp p2) r') (ho2 : OpR X (compareOp p3) r2) (ha : PE X a ta) (hb : PE X b tb) (hc : PE X c tc) (hd : PE X d td)
    (hm : lastMarks [p1, p2, p3] [b, c, d] = false) : PE X (.Compare a [p1, p2, p3] [b, c, d] pos) (tChain3 r r' r2 ta tb tc td) := by
  refine ⟨fun pins s σ H Q I h => ?_⟩
  refine Compare_chain (thn (ha.run pins s σ H _ I h) fun v s1 ⟨x, H1, I1, r1, q1⟩ => chain_link (thn (hb.run pins s1 σ H1 _ I1 q1) fun u s2 ⟨y, H2, I2, r2', q2⟩ =>
    thn (ho pins s2 σ H2 x y v u _ I2 r1 r2' q2) fun d s3 ⟨z, H3, I3, r3, k, e, q3⟩ => ?_)) hm
  subst e
  cases r3
  refine wpAny_truthy_bool ?_
  cases k with
  | false => exact ite_ff ⟨.bl false, H3, I3, rfl, q3⟩
  | true =>
    refine ite_tt (chain_link (thn (hc.run pins s3 σ H3 _ I3 q3) fun w' s4 ⟨z', H4, I4, r4, q4⟩ => thn (ho' pins s4 σ H4 y z' u w' _ I4 r2' r4 q4) fun d2 s5 ⟨z5, H5, I5, r5, k2, e2, q5⟩ => ?_))
    subst e2
    cases r5
    refine wpAny_truthy_bool ?_
    cases k2 with
    | false => exact ite_ff ⟨.bl false, H5, I5, rfl, q5⟩
    | true => exact ite_tt (chain_last (thn (hd.run pins s5 σ H5 _ I5 q5) fun w2 s6 ⟨z6, H6, I6, r6, q6⟩ => ho2 pins s6 σ H6 z' z6 w' w2 Q I6 r4 r6 q6))
theorem pt_chain3 {X : Cx} {p1 p2 p3 : CmpOp} {r r' r2 : R2} {a b c d : Expr} {pos : Pos} {ta tb tc td : TE} (ho : OpR X (compareOp p1) r) (ho' : OpR X (compareOp p2) r') (ho2 : OpR X (compareOp p3) r2) (ha : PE X a ta) (hb : PE X b tb) (hc : PE X c tc) (hd : PE X d td)
    (hm : lastMarks [p1, p2, p3] [b, c, d] = false) : PT X (.Compare a [p1, p2, p3] [b, c, d] pos) (tTest (tChain3 r r' r2 ta tb tc td)) := by
  refine ⟨fun pins s σ H Q I h => ?_⟩
  refine isTrue_chain (thn (ha.run pins s σ H _ I h) fun v s1 ⟨x, H1, I1, r1, q1⟩ => test_link (thn (hb.run pins s1 σ H1 _ I1 q1) fun u s2 ⟨y, H2, I2, r2', q2⟩ =>
    thn (ho pins s2 σ H2 x y v u _ I2 r1 r2' q2) fun d s3 ⟨z, H3, I3, r3, k, e, q3⟩ => ?_)) hm
  subst e
  cases r3
  refine wpAny_truthy_bool ?_
  cases k with
  | false =>
    obtain ⟨k', e', q'⟩ := q3
    cases e'
    exact ite_ff ⟨H3, I3, q'⟩
  | true =>
    refine ite_tt (test_link (thn (hc.run pins s3 σ H3 _ I3 q3) fun w' s4 ⟨z', H4, I4, r4, q4⟩ => thn (ho' pins s4 σ H4 y z' u w' _ I4 r2' r4 q4) fun d2 s5 ⟨z5, H5, I5, r5, k2, e2, q5⟩ => ?_))
    subst e2
    cases r5
    refine wpAny_truthy_bool ?_
    cases k2 with
    | false =>
      obtain ⟨k', e', q'⟩ := q5
      cases e'
      exact ite_ff ⟨H5, I5, q'⟩
    | true =>
      refine ite_tt (test_last (thn (hd.run pins s5 σ H5 _ I5 q5) fun w2 s6 ⟨z6, H6, I6, r6, q6⟩ => thn (ho2 pins s6 σ H6 z' z6 w' w2 _ I6 r4 r6 q6) fun d' s7 ⟨z7, H7, I7, r7, k7, e7, q7⟩ => ?_))
      subst e7
      cases r7
      exact wpAny_truthy_bool ⟨H7, I7, q7⟩
theorem se_chain3 {o o2 o3 : Cop} {a b b2 b3 : IE} (ha : SE T N C c a) (hb : SE T N C c b) (hb2 : SE T N C c b2) (hb3 : SE T N C c b3) : SE T N C c (.chain3 o o2 o3 a b b2 b3) := by
  intro sc e W X env ω σ H hX hT hc S nt
  have key : ∃ x p1 p2 p3 y z u pos, e = .Compare x [p1, p2, p3] [y, z, u] pos ∧ o.is p1 = true ∧ o2.is p2 = true ∧ o3.is p3 = true ∧ chkE T N a none sc x = true ∧ chkE T N b none sc y = true ∧ chkE T N b2 none sc z = true ∧ chkE T N b3 none sc u = true ∧ isSet u = false := by
    cases e <;> first | exact absurd hc Bool.false_ne_true | skip
    rename_i x ops ys pos
    have h0 : (match (generalizing := false) Expr.Compare x ops ys pos with
      | .Compare x [p1, p2, p3] [y, z, u] _ => o.is p1 && o2.is p2 && o3.is p3 && chkE T N a none sc x && chkE T N b none sc y && chkE T N b2 none sc z && chkE T N b3 none sc u && !isSet u
      | _ => false) = true := hc
    clear hc
    split at h0
    · rename_i h
      injection h with h1 h2 h3 h4
      subst h1 h2 h3 h4
      rw [Bool.and_eq_true, Bool.and_eq_true, Bool.and_eq_true, Bool.and_eq_true, Bool.and_eq_true, Bool.and_eq_true, Bool.and_eq_true, Bool.not_eq_true'] at h0
      exact ⟨_, _, _, _, _, _, _, _, rfl, h0.1.1.1.1.1.1.1, h0.1.1.1.1.1.1.2, h0.1.1.1.1.1.2, h0.1.1.1.1.2, h0.1.1.1.2, h0.1.1.2, h0.1.2, h0.2⟩
    · exact absurd h0 Bool.false_ne_true
  obtain ⟨x, p1, p2, p3, y, z, u, pos, rfl, ho, ho2, ho3, ca, cb, cb2, cb3, hs⟩ := key
  have hu := hX.hu
  have core : ∀ Q : VK, Post C X.K .v ((ev c a (pk b) env).bind fun x e1 => (ev c b (pk b2) e1).bind fun y e2 => match cmpD o (D.un x) (D.un y) with
    | some true => (ev c b2 (pk b3) e2).bind fun z e3 => match cmpD o2 (D.un y) (D.un z) with
      | some true => (ev c b3 .p e3).bind fun w e4 => ofB (cmpD o3 (D.un z) w) e4
      | some false => .ok (.bl false) e3
      | none => .stk
    | some false => .ok (.bl false) e2
    | none => .stk) (a.eff || b.eff || b2.eff || b3.eff) ω env σ H W Q → tChain3 (wO X (compareOp p1)) (wO X (compareOp p2)) (wO X (compareOp p3)) (wE X x) (wE X y) (wE X z) (wE X u) σ H Q := by
    intro Q p
    refine step ha hX hT ca S nt pk_ne p (e2 := b.eff || (b2.eff || b3.eff)) (by simp [Bool.or_assoc]) fun d e1 v H1 ω1 S1 c1 g1 p1 => ?_
    obtain ⟨ω1', S1', c1', n1, keep⟩ := opnd S1 g1
    have p1 := Post.shift c1' rfl (by rfl : (false || (b.eff || (b2.eff || b3.eff))) = (b.eff || (b2.eff || b3.eff))) p1
    refine step hb hX hT cb S1' n1 pk_ne p1 (e2 := b2.eff || b3.eff) rfl fun d2 e2 v2 H2 ω2 S2 c2 g2 p2 => ?_
    obtain ⟨ω2', S2', c2', n2, keep2⟩ := opnd S2 g2
    have p2 := Post.shift c2' rfl (by rfl : (false || (b2.eff || b3.eff)) = (b2.eff || b3.eff)) p2
    have sx : Sh C X.K ω2' H2 v (D.un d) := keep ω2' H2 (by simpa using c2.trans c2')
    have sy : Sh C X.K ω2' H2 v2 (D.un d2) := keep2 ω2' H2 (.refl _ _ _)
    cases hk : cmpD o (D.un d) (D.un d2) with
    | none => rw [hk] at p2; exact p2.elim
    | some k =>
      rw [hk] at p2
      refine cmp_ok (by omega) (by omega) ho sx sy hk ⟨k, rfl, ?_⟩
      cases k with
      | false =>
        refine (if_neg (by simp)).mpr ?_
        exact p2 _ H2 ω2' S2' (.refl _ _ _) (good_imm n2 (.bl _))
      | true =>
        refine (if_pos rfl).mpr ?_
        refine step hb2 hX hT cb2 S2' n2 pk_ne p2 (e2 := b3.eff) rfl fun d3 e3 v3 H3 ω3 S3 c3 g3 p3 => ?_
        obtain ⟨ω3', S3', c3', n3, keep3⟩ := opnd S3 g3
        have p3 := Post.shift c3' rfl (by rfl : (false || b3.eff) = b3.eff) p3
        have sy2 : Sh C X.K ω3' H3 v2 (D.un d2) := keep2 ω3' H3 (by simpa using c3.trans c3')
        have sz : Sh C X.K ω3' H3 v3 (D.un d3) := keep3 ω3' H3 (.refl _ _ _)
        cases hk2 : cmpD o2 (D.un d2) (D.un d3) with
        | none => rw [hk2] at p3; exact p3.elim
        | some k2 =>
          rw [hk2] at p3
          refine cmp_ok (by omega) (by omega) ho2 sy2 sz hk2 ⟨k2, rfl, ?_⟩
          cases k2 with
          | false =>
            refine (if_neg (by simp)).mpr ?_
            exact p3 _ H3 ω3' S3' (.refl _ _ _) (good_imm n3 (.bl _))
          | true =>
            refine (if_pos rfl).mpr ?_
            refine step hb3 hX hT cb3 S3' n3 (by simp) p3 (e2 := false) (by simp) fun d4 e4 v4 H4 ω4 S4 c4 g4 p4 => ?_
            unfold ofB at p4
            split at p4
            · exact cmp_ok (by omega) (by omega) ho3 (keep3 ω4 H4 c4) g4.2 (by assumption) (p4 _ H4 ω4 S4 (.refl _ _ _) (good_imm g4.1 (.bl _)))
            · exact p4.elim
  have hm : lastMarks [p1, p2, p3] [y, z, u] = false := by
    show behindInMarks p3 u = false
    exact isSet_mark hs
  refine cmp_both hX S (bind_bl fun _ _ => bind_bl fun _ _ d e1 h => ?_) (fun Q p => wE.of (pe_chain3 wO.op wO.op wO.op peW peW peW peW hm) (core Q p)) (fun Q p => wT.of (pt_chain3 wO.op wO.op wO.op peW peW peW peW hm) ?_)
  · split at h
    · refine bind_bl (fun _ _ d2 e2 h2 => ?_) d e1 h
      split at h2
      · exact bind_bl (fun _ _ => ofB_bl) d2 e2 h2
      · cases h2; exact ⟨_, rfl⟩
      · cases h2
    · cases h; exact ⟨_, rfl⟩
    · cases h
  · exact core _ p
end
end Q9

set_option Elab.async false
set_option linter.all false
set_option maxRecDepth 100000
namespace Q9
open PySem PySem.Spec L2
section
variable {T : Tab} {N : List Str} {C : Ct} {c : Oracle}

theorem PostT.of {C : Ct} {K : PySem.W.Frag} {r : Re D} {eff : Bool} {ω : Om} {env : Env} {σ : L2.St} {H : Hp} {W : WX} {Q : Bool → Hp → Prop} {b : Bool} {e1 : Env} (h : r = .ok (.bl b) e1) (p : PostT C K r eff ω env σ H W Q) : ∀ H' ω', Sim C K ω' e1 σ H' → Chg eff ω H ω' H' → NoT ω' env.length → Q b H' := by
  subst h; exact p

theorem se_not {a : IE} (ha : SE T N C c a) : SE T N C c (.not a) := by
  intro sc e W X env ω σ H hX hT hc S nt
  have key : ∃ x pos, e = .UnaryOp .Not x pos ∧ chkE T N a none sc x = true := by
    cases e <;> first | exact absurd hc Bool.false_ne_true | skip
    rename_i op x pos
    cases op <;> first | exact absurd hc Bool.false_ne_true | skip
    exact ⟨_, _, rfl, hc⟩
  obtain ⟨x, pos, rfl, ca⟩ := key
  refine ⟨fun m Q hm p => ?_, fun Q p => ?_⟩
  · refine wE.of (pe_notT peW) ?_
    have key2 : Post C X.K m ((ev c a .p env).bind fun x e1 => match x.truth with | some b => .ok (.bl (!b)) e1 | none => .stk) a.eff ω env σ H W Q := by
      cases m with
      | t => exact absurd rfl hm
      | v => exact p
      | p => exact p
    refine (ha sc x W X env ω σ H hX hT ca S nt).1 .p _ (by simp) ?_
    cases hr : ev c a .p env with
    | ok d e1 =>
      rw [hr] at key2
      intro v H1 ω1 S1 c1 g1
      have key3 : Post C X.K m (match d.truth with | some b => .ok (.bl (!b)) e1 | none => .stk) a.eff ω env σ H W Q := key2
      cases hb : d.truth with
      | none => rw [hb] at key3; exact key3.elim
      | some b =>
        rw [hb] at key3
        refine ⟨b, truth_of g1.2 hb, key3 _ H1 ω1 S1 c1 ?_⟩
        cases m with
        | t => exact absurd rfl hm
        | v => exact .inr ⟨g1.1, .bl _⟩
        | p => exact ⟨g1.1, .rep (.bl _)⟩
    | exc cl w e1 => rw [hr] at key2; exact key2
    | stk => rw [hr] at key2; exact key2.elim
  · refine wT.of (pt_not ptW) ?_
    refine (ha sc x W X env ω σ H hX hT ca S nt).2 _ ?_
    have p' : PostT C X.K ((ev c a .t env).bind fun x e1 => match x with | .bl b => .ok (.bl (!b)) e1 | _ => .stk) a.eff ω env σ H W Q := p
    cases hr : ev c a .t env with
    | ok d e1 =>
      rw [hr] at p'
      cases d <;> first | exact p'.elim | exact p'
    | exc cl w e1 => rw [hr] at p'; exact p'
    | stk => rw [hr] at p'; exact p'.elim

theorem se_neg {a : IE} (ha : SE T N C c a) : SE T N C c (.neg a) := by
  intro sc e W X env ω σ H hX hT hc S nt
  have key : ∃ x pos, e = .UnaryOp .USub x pos ∧ chkE T N a none sc x = true := by
    cases e <;> first | exact absurd hc Bool.false_ne_true | skip
    rename_i op x pos
    cases op <;> first | exact absurd hc Bool.false_ne_true | skip
    exact ⟨_, _, rfl, hc⟩
  obtain ⟨x, pos, rfl, ca⟩ := key
  refine fin_both hX (fun Q p => ?_) rfl S.len
  refine wE.of (pe_un un_neg peW) ?_
  refine step ha hX hT ca S nt (by simp) p (e2 := false) (Bool.or_false _) fun d e1 v H1 ω1 S1 c1 g1 p1 => ?_
  cases d <;> first | exact p1.elim | skip
  rename_i i
  have := g1.2.int
  subst this
  exact ⟨i, rfl, p1 _ H1 ω1 S1 (.refl _ _ _) (good_imm g1.1 (.int _))⟩

/-- the rest of a chain of and, or, as a text -/
theorem wW_bool {X : Cx} {op : BoolOp} {vs : List Expr} {pos : Pos} {σ : L2.St} {H : Hp} {Q : Bool → Hp → Prop} (h : wT X (.BoolOp op vs pos) σ H Q) : wW X (.BoolOp op vs pos) σ H Q := fun whole pins s I => h pins s I

theorem se_and {a b : IE} (ha : SE T N C c a) (hb : SE T N C c b) : SE T N C c (.and a b) := by
  intro sc e W X env ω σ H hX hT hc S nt
  have key : ∃ x y r pos, e = .BoolOp .And (x :: y :: r) pos ∧ chkE T N a none sc x = true ∧ (match r with | [] => chkE T N b none sc y = true | _ => chkE T N b none sc (.BoolOp .And (y :: r) pos) = true) := by
    cases e <;> first | exact absurd hc Bool.false_ne_true | skip
    rename_i op vs pos
    match op, vs, hc with
    | .Or, _, hc => exact absurd hc Bool.false_ne_true
    | .And, [], hc => exact absurd hc Bool.false_ne_true
    | .And, [_], hc => exact absurd hc Bool.false_ne_true
    | .And, [x, y], hc =>
      change (_ && _) = true at hc
      simp only [Bool.and_eq_true] at hc
      exact ⟨x, y, [], pos, rfl, hc.1, hc.2⟩
    | .And, x :: y :: z :: r, hc =>
      change (_ && _) = true at hc
      simp only [Bool.and_eq_true] at hc
      exact ⟨x, y, z :: r, pos, rfl, hc.1, hc.2⟩
  obtain ⟨x, y, r, pos, rfl, ca, cb⟩ := key
  -- the rest
  have rest : ∀ (env : Env) (ω : Om) (H : Hp), Sim C X.K ω env σ H → NoT ω env.length → (∀ m Q, m ≠ .t → Post C X.K m (ev c b m env) b.eff ω env σ H W Q → wE X (.BoolOp .And (y :: r) pos) σ H Q) ∧ (∀ Q, PostT C X.K (ev c b .t env) b.eff ω env σ H W Q → wW X (.BoolOp .And (y :: r) pos) σ H Q) := by
    intro env ω H S nt
    cases r with
    | nil =>
      obtain ⟨h1, h2⟩ := hb sc y W X env ω σ H hX hT cb S nt
      exact ⟨fun m Q hm p => wE.of (pe_one peW) (h1 m Q hm p), fun Q p => wW.of (pw_and1 ptW) (h2 Q p)⟩
    | cons z r =>
      obtain ⟨h1, h2⟩ := hb sc _ W X env ω σ H hX hT cb S nt
      exact ⟨h1, fun Q p => wW_bool (h2 Q p)⟩
  refine ⟨fun m Q hm p => ?_, fun Q p => ?_⟩
  · refine wE.of (pe_and peW peW) ?_
    have p' : Post C X.K m ((ev c a m env).bind fun x e1 => match x with
      | .bl true => (ev c b m e1).bind fun y e2 => match y with
        | .bl k => .ok (.bl k) e2
        | _ => .stk
      | .bl false => .ok (.bl false) e1
      | _ => .stk) (a.eff || b.eff) ω env σ H W Q := p
    refine (ha sc x W X env ω σ H hX hT ca S nt).1 m _ hm ?_
    cases hr : ev c a m env with
    | ok d e1 =>
      rw [hr] at p'
      intro v H1 ω1 S1 c1 g1
      have el : e1.length = env.length := S.elen S1
      rw [← el] at g1
      have p2 := Post.shift c1 el rfl p'
      have vb : ∀ k, d = .bl k → v = .bl k ∧ NoT ω1 e1.length := by
        intro k e
        subst e
        cases m with
        | t => exact absurd rfl hm
        | p => exact ⟨g1.2.bl, g1.1⟩
        | v =>
          rcases g1 with ⟨d0, z, _⟩ | ⟨n, r⟩
          · cases z
          · cases r; exact ⟨rfl, n⟩
      cases d with
      | bl k =>
        obtain ⟨rfl, n1⟩ := vb k rfl
        refine ⟨k, rfl, ?_⟩
        cases k with
        | false =>
          refine (if_neg (by simp)).mpr (p2 _ H1 ω1 S1 (.refl _ _ _) ?_)
          cases m with
          | t => exact absurd rfl hm
          | p => exact ⟨n1, .rep (.bl _)⟩
          | v => exact .inr ⟨n1, .bl _⟩
        | true =>
          refine (if_pos rfl).mpr ((rest e1 ω1 H1 S1 n1).1 m Q hm ?_)
          have p3 : Post C X.K m ((ev c b m e1).bind fun y e2 => match y with | .bl k => .ok (.bl k) e2 | _ => .stk) b.eff ω1 e1 σ H1 W Q := p2
          cases hr2 : ev c b m e1 with
          | ok d2 e2 => rw [hr2] at p3; cases d2 <;> first | exact p3.elim | exact p3
          | exc cl w e2 => rw [hr2] at p3; exact p3
          | stk => rw [hr2] at p3; exact p3.elim
      | _ => exact p2.elim
    | exc cl w e1 => rw [hr] at p'; exact p'
    | stk => rw [hr] at p'; exact p'.elim
  · refine wW.t (wW.of (pw_and ptW pwW) ?_)
    have p' : PostT C X.K ((ev c a .t env).bind fun x e1 => match x with
      | .bl true => (ev c b .t e1).bind fun y e2 => match y with
        | .bl k => .ok (.bl k) e2
        | _ => .stk
      | .bl false => .ok (.bl false) e1
      | _ => .stk) (a.eff || b.eff) ω env σ H W Q := p
    refine stepTT ha hX hT ca S nt p' rfl (fun d e1 hd => by cases d <;> first | rfl | exact absurd rfl (hd _)) fun k e1 H1 ω1 S1 c1 n1 p1 => ?_
    cases k with
    | false => exact (if_neg (by simp)).mpr (p1 H1 ω1 S1 (.refl _ _ _) n1)
    | true =>
      refine (if_pos rfl).mpr ((rest e1 ω1 H1 S1 n1).2 Q ?_)
      have p3 : PostT C X.K ((ev c b .t e1).bind fun y e2 => match y with | .bl k => .ok (.bl k) e2 | _ => .stk) b.eff ω1 e1 σ H1 W Q := p1
      cases hr2 : ev c b .t e1 with
      | ok d2 e2 => rw [hr2] at p3; cases d2 <;> first | exact p3.elim | exact p3
      | exc cl w e2 => rw [hr2] at p3; exact p3
      | stk => rw [hr2] at p3; exact p3.elim

theorem se_or {a b : IE} (ha : SE T N C c a) (hb : SE T N C c b) : SE T N C c (.or a b) := by
  intro sc e W X env ω σ H hX hT hc S nt
  have key : ∃ x y r pos, e = .BoolOp .Or (x :: y :: r) pos ∧ chkE T N a none sc x = true ∧ (match r with | [] => chkE T N b none sc y = true | _ => chkE T N b none sc (.BoolOp .Or (y :: r) pos) = true) := by
    cases e <;> first | exact absurd hc Bool.false_ne_true | skip
    rename_i op vs pos
    match op, vs, hc with
    | .And, _, hc => exact absurd hc Bool.false_ne_true
    | .Or, [], hc => exact absurd hc Bool.false_ne_true
    | .Or, [_], hc => exact absurd hc Bool.false_ne_true
    | .Or, [x, y], hc =>
      change (_ && _) = true at hc
      simp only [Bool.and_eq_true] at hc
      exact ⟨x, y, [], pos, rfl, hc.1, hc.2⟩
    | .Or, x :: y :: z :: r, hc =>
      change (_ && _) = true at hc
      simp only [Bool.and_eq_true] at hc
      exact ⟨x, y, z :: r, pos, rfl, hc.1, hc.2⟩
  obtain ⟨x, y, r, pos, rfl, ca, cb⟩ := key
  have rest : ∀ (env : Env) (ω : Om) (H : Hp), Sim C X.K ω env σ H → NoT ω env.length → (∀ m Q, m ≠ .t → Post C X.K m (ev c b m env) b.eff ω env σ H W Q → wE X (.BoolOp .Or (y :: r) pos) σ H Q) ∧ (∀ Q, PostT C X.K (ev c b .t env) b.eff ω env σ H W Q → wW X (.BoolOp .Or (y :: r) pos) σ H Q) := by
    intro env ω H S nt
    cases r with
    | nil =>
      obtain ⟨h1, h2⟩ := hb sc y W X env ω σ H hX hT cb S nt
      exact ⟨fun m Q hm p => wE.of (pe_one peW) (h1 m Q hm p), fun Q p => wW.of (pw_or1 ptW) (h2 Q p)⟩
    | cons z r =>
      obtain ⟨h1, h2⟩ := hb sc _ W X env ω σ H hX hT cb S nt
      exact ⟨h1, fun Q p => wW_bool (h2 Q p)⟩
  refine ⟨fun m Q hm p => ?_, fun Q p => ?_⟩
  · refine wE.of (pe_or peW peW) ?_
    have p' : Post C X.K m ((ev c a m env).bind fun x e1 => match x with
      | .bl true => .ok (.bl true) e1
      | .bl false => (ev c b m e1).bind fun y e2 => match y with
        | .bl k => .ok (.bl k) e2
        | _ => .stk
      | _ => .stk) (a.eff || b.eff) ω env σ H W Q := p
    refine (ha sc x W X env ω σ H hX hT ca S nt).1 m _ hm ?_
    cases hr : ev c a m env with
    | ok d e1 =>
      rw [hr] at p'
      intro v H1 ω1 S1 c1 g1
      have el : e1.length = env.length := S.elen S1
      rw [← el] at g1
      have p2 := Post.shift c1 el rfl p'
      have vb : ∀ k, d = .bl k → v = .bl k ∧ NoT ω1 e1.length := by
        intro k e
        subst e
        cases m with
        | t => exact absurd rfl hm
        | p => exact ⟨g1.2.bl, g1.1⟩
        | v =>
          rcases g1 with ⟨d0, z, _⟩ | ⟨n, r⟩
          · cases z
          · cases r; exact ⟨rfl, n⟩
      cases d with
      | bl k =>
        obtain ⟨rfl, n1⟩ := vb k rfl
        refine ⟨k, rfl, ?_⟩
        cases k with
        | true =>
          refine (if_pos rfl).mpr (p2 _ H1 ω1 S1 (.refl _ _ _) ?_)
          cases m with
          | t => exact absurd rfl hm
          | p => exact ⟨n1, .rep (.bl _)⟩
          | v => exact .inr ⟨n1, .bl _⟩
        | false =>
          refine (if_neg (by simp)).mpr ((rest e1 ω1 H1 S1 n1).1 m Q hm ?_)
          have p3 : Post C X.K m ((ev c b m e1).bind fun y e2 => match y with | .bl k => .ok (.bl k) e2 | _ => .stk) b.eff ω1 e1 σ H1 W Q := p2
          cases hr2 : ev c b m e1 with
          | ok d2 e2 => rw [hr2] at p3; cases d2 <;> first | exact p3.elim | exact p3
          | exc cl w e2 => rw [hr2] at p3; exact p3
          | stk => rw [hr2] at p3; exact p3.elim
      | _ => exact p2.elim
    | exc cl w e1 => rw [hr] at p'; exact p'
    | stk => rw [hr] at p'; exact p'.elim
  · refine wW.t (wW.of (pw_or ptW pwW) ?_)
    have p' : PostT C X.K ((ev c a .t env).bind fun x e1 => match x with
      | .bl true => .ok (.bl true) e1
      | .bl false => (ev c b .t e1).bind fun y e2 => match y with
        | .bl k => .ok (.bl k) e2
        | _ => .stk
      | _ => .stk) (a.eff || b.eff) ω env σ H W Q := p
    refine stepTT ha hX hT ca S nt p' rfl (fun d e1 hd => by cases d <;> first | rfl | exact absurd rfl (hd _)) fun k e1 H1 ω1 S1 c1 n1 p1 => ?_
    cases k with
    | true => exact (if_pos rfl).mpr (p1 H1 ω1 S1 (.refl _ _ _) n1)
    | false =>
      refine (if_neg (by simp)).mpr ((rest e1 ω1 H1 S1 n1).2 Q ?_)
      have p3 : PostT C X.K ((ev c b .t e1).bind fun y e2 => match y with | .bl k => .ok (.bl k) e2 | _ => .stk) b.eff ω1 e1 σ H1 W Q := p1
      cases hr2 : ev c b .t e1 with
      | ok d2 e2 => rw [hr2] at p3; cases d2 <;> first | exact p3.elim | exact p3
      | exc cl w e2 => rw [hr2] at p3; exact p3
      | stk => rw [hr2] at p3; exact p3.elim

theorem se_ite {t a b : IE} (ht : SE T N C c t) (ha : SE T N C c a) (hb : SE T N C c b) : SE T N C c (.ite t a b) := by
  intro sc e W X env ω σ H hX hT hc S nt
  have key : ∃ x y z pos, e = .IfExp x y z pos ∧ chkE T N t none sc x = true ∧ chkE T N a none sc y = true ∧ chkE T N b none sc z = true := by
    cases e <;> first | exact absurd hc Bool.false_ne_true | skip
    change (_ && _ && _) = true at hc
    simp only [Bool.and_eq_true] at hc
    exact ⟨_, _, _, _, rfl, hc.1.1, hc.1.2, hc.2⟩
  obtain ⟨x, y, z, pos, rfl, ct, ca, cb⟩ := key
  have hf : ∀ m (d : D) (e1 : Env), (∀ b, d ≠ .bl b) → (match d with | .bl true => ev c a m e1 | .bl false => ev c b m e1 | _ => .stk) = .stk := fun m d e1 hd => by cases d <;> first | rfl | exact absurd rfl (hd _)
  refine ⟨fun m Q hm p => ?_, fun Q p => ?_⟩
  · refine wE.of (pe_ifExp ptW peW peW) ?_
    refine stepT ht hX hT ct S nt (m := m) (f := fun x e1 => match x with | .bl true => ev c a m e1 | .bl false => ev c b m e1 | _ => .stk) p (e2 := a.eff || b.eff) (Bool.or_assoc _ _ _).symm (hf m) fun k e1 H1 ω1 S1 c1 n1 p1 => ?_
    cases k with
    | true => exact (if_pos rfl).mpr ((ha sc y W X e1 ω1 σ H1 hX hT ca S1 n1).1 m Q hm (Post.up p1 (by simp +contextual)))
    | false => exact (if_neg (by simp)).mpr ((hb sc z W X e1 ω1 σ H1 hX hT cb S1 n1).1 m Q hm (Post.up p1 (by simp +contextual)))
  · have h : wT X x σ H (fun k H1 => if k = true then wT X y σ H1 Q else wT X z σ H1 Q) := by
      refine stepTT ht hX hT ct S nt (f := fun x e1 => match x with | .bl true => ev c a .t e1 | .bl false => ev c b .t e1 | _ => .stk) p (e2 := a.eff || b.eff) (Bool.or_assoc _ _ _).symm (hf .t) fun k e1 H1 ω1 S1 c1 n1 p1 => ?_
      have up : ∀ {r : Re D} {e e' : Bool} {Q : Bool → Hp → Prop}, PostT C X.K r e ω1 e1 σ H1 W Q → (e = false → e' = false) → PostT C X.K r e' ω1 e1 σ H1 W Q := by
        intro r e e' Q p h
        cases r with
        | ok d e2 => cases d <;> first | exact p | exact fun H2 ω2 S ch => p H2 ω2 S (ch.up h)
        | exc cl w e2 => exact p
        | stk => exact p
      cases k with
      | true => exact (if_pos rfl).mpr ((ha sc y W X e1 ω1 σ H1 hX hT ca S1 n1).2 Q (up p1 (by simp +contextual)))
      | false => exact (if_neg (by simp)).mpr ((hb sc z W X e1 ω1 σ H1 hX hT cb S1 n1).2 Q (up p1 (by simp +contextual)))
    intro pins s I
    show wpAny (model X.prog X.w) X.A (do if ← isTrue x X.env (eval x X.env) then isTrue y X.env (eval y X.env) else isTrue z X.env (eval z X.env)) (TP X pins σ Q) X.xe s
    refine wpAny_bind (thn (h pins s I) fun b s1 ⟨H1, I1, q1⟩ => ?_)
    cases b with
    | true => exact (if_pos rfl).mp q1 pins s1 I1
    | false => exact (if_neg (by simp)).mp q1 pins s1 I1
end
end Q9

set_option Elab.async false
set_option linter.all false
set_option maxRecDepth 100000
namespace Q9
open PySem PySem.Spec L2
section
variable {T : Tab} {N : List Str} {C : Ct} {c : Oracle}

/-! ## slices -/
def PartV : V → Option Int → Prop
  | .non, o => o = none
  | .int i, o => o = some i
  | _, _ => False
theorem po_val {X : Cx} {e : Expr} {te : TE} (h : PE X e te) : PO X (some e) (fun σ H Q => te σ H fun x H1 => ∃ o, PartV x o ∧ Q o H1) := by
  refine ⟨fun pins s σ H Q I hw => ?_⟩
  rw [evalPart_some]
  refine thn (h.run pins s σ H _ I hw) fun u s1 ⟨x, H1, I1, r1, q1⟩ => ?_
  obtain ⟨o, pv, q⟩ := q1
  cases x <;> first | exact pv.elim | skip
  · cases r1
    have pv : o = none := pv
    subst pv
    exact ⟨none, H1, I1, .none, q⟩
  · obtain ⟨t, rfl⟩ := r1
    have pv : o = some _ := pv
    subst pv
    exact ⟨some _, H1, I1, .int _ t, q⟩
theorem partV_of {C : Ct} {K : PySem.W.Frag} {ω : Om} {H : Hp} {v : V} {d : D} {o : Option Int} (s : Sh C K ω H v d) (h : partD d = some o) : PartV v o := by
  cases d <;> simp only [partD, Option.some.injEq, reduceCtorEq] at h
  · have := s.non; subst this; exact h.symm
  · have := s.int; subst this; exact h.symm
theorem se_slc {a l h : IE} (ha : SE T N C c a) (hl : SE T N C c l) (hh : SE T N C c h) : SE T N C c (.slc a l h) := by
  intro sc e W X env ω σ H hX hT hc S nt
  have key : ∃ x lo hi p2 pos, e = .Subscript x (.Slice lo hi none p2) pos ∧ chkE T N a none sc x = true ∧ (match lo with | none => l = .con .non | some lo => chkE T N l none sc lo = true) ∧ (match hi with | none => h = .con .non | some hi => chkE T N h none sc hi = true) := by
    cases e <;> first | exact absurd hc Bool.false_ne_true | skip
    rename_i x sl pos
    cases sl <;> first | exact absurd hc Bool.false_ne_true | skip
    rename_i lo hi st p2
    cases st with
    | some st => exact absurd hc Bool.false_ne_true
    | none =>
      have con_non : ∀ ie : IE, (match ie with | .con .non => true | _ => false) = true → ie = .con .non := by
        intro ie h
        cases ie <;> first | exact absurd h Bool.false_ne_true | skip
        rename_i d
        cases d <;> first | exact absurd h Bool.false_ne_true | rfl
      cases lo with
      | none =>
        cases hi with
        | none =>
          change (_ && _ && _) = true at hc
          simp only [Bool.and_eq_true] at hc
          exact ⟨_, _, _, _, _, rfl, hc.1.1, con_non l hc.1.2, con_non h hc.2⟩
        | some hi =>
          change (_ && _ && _) = true at hc
          simp only [Bool.and_eq_true] at hc
          exact ⟨_, _, _, _, _, rfl, hc.1.1, con_non l hc.1.2, hc.2⟩
      | some lo =>
        cases hi with
        | none =>
          change (_ && _ && _) = true at hc
          simp only [Bool.and_eq_true] at hc
          exact ⟨_, _, _, _, _, rfl, hc.1.1, hc.1.2, con_non h hc.2⟩
        | some hi =>
          change (_ && _ && _) = true at hc
          simp only [Bool.and_eq_true] at hc
          exact ⟨_, _, _, _, _, rfl, hc.1.1, hc.1.2, hc.2⟩
  obtain ⟨x, lo, hi, p2, pos, rfl, ca, cl, ch⟩ := key
  refine fin_both hX (fun Q p => ?_) rfl S.len
  -- a part: left out, or a value
  have part : ∀ (eo : Option Expr) (ie : IE), SE T N C c ie → (match eo with | none => ie = .con .non | some e => chkE T N ie none sc e = true) → ∃ t : TO, PO X eo t ∧
      ∀ (env : Env) (ω : Om) (H : Hp) (eff e2 : Bool) (f : Option Int → Env → Re D) (Q : VK) (R : Option Int → Hp → Prop), Sim C X.K ω env σ H → NoT ω env.length →
        Post C X.K .v ((ev c ie .p env).bind fun d e => match partD d with | none => .stk | some o => f o e) eff ω env σ H W Q → (ie.eff || e2) = eff →
        (∀ o e1 H1 ω1, Sim C X.K ω1 e1 σ H1 → Chg ie.eff ω H ω1 H1 → NoT ω1 e1.length → Post C X.K .v (f o e1) e2 ω1 e1 σ H1 W Q → R o H1) → t σ H R := by
    intro eo ie hie hc
    cases eo with
    | none =>
      subst hc
      exact ⟨_, po_none, fun env ω H eff e2 f Q R S nt p he k => k none env H ω S (.refl _ _ _) nt (Post.shift (.refl false _ _) rfl he p)⟩
    | some e =>
      refine ⟨_, po_val peW, fun env ω H eff e2 f Q R S nt p he k => ?_⟩
      refine step hie hX hT hc S nt (by simp) p (e2 := e2) he fun d e1 v H1 ω1 S1 c1 g1 p1 => ?_
      cases ho : partD d with
      | none => rw [ho] at p1; exact p1.elim
      | some o => rw [ho] at p1; exact ⟨o, partV_of g1.2 ho, k o e1 H1 ω1 S1 c1 g1.1 p1⟩
  obtain ⟨tl, pl, kl⟩ := part lo l hl cl
  obtain ⟨th, ph, kh⟩ := part hi h hh ch
  refine wE.of (pe_slice wSl.op peW pl ph) ?_
  refine step ha hX hT ca S nt pk_ne p (e2 := l.eff || h.eff) (Bool.or_assoc _ _ _).symm fun d e1 v H1 ω1 S1 c1 g1 p1 => ?_
  obtain ⟨ω1', S1', c1', n1, keep⟩ := opnd S1 g1
  have p1 := Post.shift c1' rfl (by rfl : (false || (l.eff || h.eff)) = (l.eff || h.eff)) p1
  refine kl e1 ω1' H1 _ h.eff _ _ _ S1' n1 p1 rfl fun o e2 H2 ω2 S2 c2 n2 p2 => ?_
  refine kh e2 ω2 H2 _ false _ _ _ S2 n2 p2 (Bool.or_false _) fun o' e3 H3 ω3 S3 c3 n3 p3 => ?_
  have sx := keep ω3 H3 (by have := c2.trans c3; exact this)
  unfold ofO at p3
  split at p3
  · exact slc_ok S3 n3 sx (by assumption) p3
  · exact p3.elim

theorem se_rev {a : IE} (ha : SE T N C c a) : SE T N C c (.rev a) := by
  intro sc e W X env ω σ H hX hT hc S nt
  have key : ∃ x k p1 p2 p3 pos, e = .Subscript x (.Slice none none (some (.UnaryOp .USub (.Constant (.int 1) k p1) p2)) p3) pos ∧ chkE T N a none sc x = true := by
    cases e <;> first | exact absurd hc Bool.false_ne_true | skip
    rename_i x sl pos
    change (_ && _) = true at hc
    simp only [Bool.and_eq_true] at hc
    obtain ⟨k, p1, p2, p3, rfl⟩ := isRev1_of hc.1
    exact ⟨_, _, _, _, _, _, rfl, hc.2⟩
  obtain ⟨x, k, p1, p2, p3, pos, rfl, ca⟩ := key
  refine fin_both hX (fun Q p => ?_) rfl S.len
  refine wE.of (pe_revL peW) ?_
  refine step ha hX hT ca S nt (by simp) p (e2 := false) (Bool.or_false _) fun d e1 v H1 ω1 S1 c1 g1 p1 => ?_
  cases d <;> first | exact p1.elim | skip
  obtain ⟨q, xs, rfl, hx, r⟩ := g1.2.lstI
  refine ⟨q, xs, rfl, SqL.of hx, fun z hz => ?_⟩
  obtain ⟨ω', a1, a2, a3⟩ := fresh_lst S1 g1.1 hz r.reverse
  exact p1 _ _ ω' a1 a2 a3
end
end Q9

set_option Elab.async false
set_option linter.all false
set_option maxRecDepth 100000
namespace Q9
open PySem PySem.Spec L2
section
variable {T : Tab} {N : List Str} {C : Ct} {c : Oracle}

theorem starCons {e : Expr} {es : List Expr} {env : PySem.Env} (h : isStar e = false) : starEach (e :: es) env = (false, eval e env) :: starEach es env := by
  cases e <;> first | rfl | exact absurd h (fun z => Bool.false_ne_true z.symm)
theorem chkA_noS : ∀ {as : IE} {sc : Scope} {es : List Expr}, chkA T N as sc es = true → as.noS = true → ∀ e ∈ es, isStar e = false
  | .nil, sc, es, h, _ => by
    have h : es.isEmpty = true := h
    cases es with
    | nil => simp
    | cons e es => exact absurd h (by simp)
  | .cons a t, sc, [], h, _ => absurd h Bool.false_ne_true
  | .cons a t, sc, e :: es, h, hs => by
    have h : (chkE T N a none sc e && !isStar e && chkA T N t sc es) = true := h
    simp only [Bool.and_eq_true, Bool.not_eq_true'] at h
    intro x hx
    rcases List.mem_cons.mp hx with rfl | hx
    · exact h.1.2
    · exact chkA_noS h.2 hs x hx
  | .star a t, sc, es, h, hs => absurd hs Bool.false_ne_true
  | .unk, _, _, h, _ | .con _, _, _, h, _ | .gl _ _, _, _, h, _ | .var _, _, _, h, _ | .tupE _, _, _, h, _ | .lstE _, _, _, h, _ | .bin _ _ _, _, _, h, _ | .cmp _ _ _, _, _, h, _ | .chain _ _ _ _ _, _, _, h, _
  | .chain3 _ _ _ _ _ _ _, _, _, h, _
  | .not _, _, _, h, _ | .neg _, _, _, h, _ | .and _ _, _, _, h, _ | .or _ _, _, _, h, _ | .ite _ _ _, _, _, h, _ | .idx _ _, _, _, h, _ | .slc _ _ _, _, _, h, _ | .rev _, _, _, h, _ | .bi _ _, _, _, h, _ | .bm _ _ _, _, _, h, _
  | .mm _ _ _, _, _, h, _ | .call _ _, _, _, h, _ | .aB _, _, _, h, _ | .aP _, _, _, h, _ | .rng1 _, _, _, h, _ | .rng2 _ _, _, _, h, _ | .isi _ _, _, _, h, _ | .enm _, _, _, h, _ | .lrng _ _, _, _, h, _ | .lc _ _ _ _ _, _, _, h, _ => absurd h Bool.false_ne_true
theorem noStar_any {pos : Pos} {env : PySem.Env} : ∀ {es : List Expr}, (∀ e ∈ es, isStar e = false) → (backTo pos (starEach es env)).any (·.1) = false
  | [], _ => rfl
  | e :: es, h => by
    rw [starCons (h e List.mem_cons_self)]
    show (false || (backTo pos (starEach es env)).any (·.1)) = false
    rw [Bool.false_or]
    exact noStar_any fun x hx => h x (List.mem_cons_of_mem _ hx)

/-! ## lists of arguments -/
theorem PostR.shift {C : Ct} {K : PySem.W.Frag} {as : IE} {r : Re (List D)} {ω ω' : Om} {env env' : Env} {σ : L2.St} {H H' : Hp} {W : WX} {e1 e2 e : Bool} {Q : List V → Hp → Prop} (c : Chg e1 ω H ω' H') (el : env'.length = env.length) (he : (e1 || e2) = e) (p : PostR C K as r e ω env σ H W Q) : PostR C K as r e2 ω' env' σ H' W Q := by
  cases r with
  | ok d e' =>
    intro v H2 ω2 S ch n g
    rw [el] at n
    exact p v H2 ω2 S (by rw [← he]; exact c.trans ch) n g
  | exc cl w e' => exact PostX.trans c el p
  | stk => exact p
theorem PostP.shift {C : Ct} {K : PySem.W.Frag} {r : Re (List D)} {ω ω' : Om} {env env' : Env} {σ : L2.St} {H H' : Hp} {W : WX} {e1 e2 e : Bool} {Q : List V → Hp → Prop} (c : Chg e1 ω H ω' H') (el : env'.length = env.length) (he : (e1 || e2) = e) (p : PostP C K r e ω env σ H W Q) : PostP C K r e2 ω' env' σ H' W Q := by
  cases r with
  | ok d e' =>
    intro v H2 ω2 S ch n g
    rw [el] at n
    exact p v H2 ω2 S (by rw [← he]; exact c.trans ch) n g
  | exc cl w e' => exact PostX.trans c el p
  | stk => exact p
theorem sa_nil : SA T N C c .nil := by
  intro sc es W X env ω σ H hX hT hc S nt Q p
  have h : es.isEmpty = true := hc
  cases es with
  | cons e es => exact absurd h (by simp)
  | nil => exact wA.of pa_nil (p [] H ω S (.refl _ _ _) nt .nil)
theorem sp_nil : SP T N C c .nil := by
  intro sc es W X env ω σ H hX hT hc S nt Q p
  have h : es.isEmpty = true := hc
  cases es with
  | cons e es => exact absurd h (by simp)
  | nil => exact wA.of pa_nil (p [] H ω S (.refl _ _ _) nt .nil)
theorem chkA_cons {a t : IE} {sc : Scope} {es : List Expr} (h : chkA T N (.cons a t) sc es = true) : ∃ e es', es = e :: es' ∧ chkE T N a none sc e = true ∧ isStar e = false ∧ chkA T N t sc es' = true := by
  cases es with
  | nil => exact absurd h Bool.false_ne_true
  | cons e es =>
    have h : (chkE T N a none sc e && !isStar e && chkA T N t sc es) = true := h
    simp only [Bool.and_eq_true, Bool.not_eq_true'] at h
    exact ⟨e, es, rfl, h.1.1, h.1.2, h.2⟩
/-- a borrowed or peeked name -/
theorem wE_slot {i : Nat} {sc : Scope} {e : Expr} {W : WX} {X : Cx} {σ : L2.St} {H : Hp} {v : V} {Q : VK} (hX : XOk N sc W X) (h : ∃ x pos, e = .Name x pos ∧ N[i]? = some x ∧ visB sc x = true ∧ plainN x = true) (hv : σ[i]? = some (some v)) (q : Q v H) : wE X e σ H Q := by
  obtain ⟨x, pos, rfl, hi, hvis, hp⟩ := h
  obtain ⟨p1, p2, p3⟩ := plainN_of hp
  exact wE.of (pe_var (by rw [hX.hN]; exact hi) (hX.vis x (vis_of hvis)) p1 p2) ⟨v, hv, q⟩
theorem chk_slot {i : Nat} {sc : Scope} {e : Expr} (hc : (match e with | .Name x _ => decide (N[i]? = some x) && visB sc x && plainN x | _ => false) = true) : ∃ x pos, e = .Name x pos ∧ N[i]? = some x ∧ visB sc x = true ∧ plainN x = true := by
  cases e <;> first | exact absurd hc Bool.false_ne_true | skip
  simp only [Bool.and_eq_true, decide_eq_true_eq] at hc
  exact ⟨_, _, rfl, hc.1.1, hc.1.2, hc.2⟩
theorem slot_val {C : Ct} {K : PySem.W.Frag} {ω : Om} {env : Env} {σ : L2.St} {H : Hp} {i : Nat} {d : D} (S : Sim C K ω env σ H) (h : env[i]? = some (some d)) : ∃ v, σ[i]? = some (some v) := let ⟨v, e, _⟩ := S.slot i d h; ⟨v, e⟩
theorem sa_cons {h t : IE} (hh : SE T N C c h) (ht : SA T N C c t) : SA T N C c (.cons h t) := by
  intro sc es W X env ω σ H hX hT hc S nt Q p
  obtain ⟨e, es, rfl, ch, hs, ct⟩ := chkA_cons hc
  refine wA.of (pa_cons peW paW (starCons hs)) ?_
  have p : PostR C X.K (.cons h t) ((if h.isB then evB h env else ev c h .v env).bind fun d e1 => (evA c t e1).bind fun ds e2 => .ok (D.un d :: ds) e2) (h.eff || t.eff) ω env σ H W Q := p
  -- what is left, behind the head's value v
  have tail : ∀ (v : V) (d : D) (e1 : Env) (ω1 : Om) (H1 : Hp), Sim C X.K ω1 e1 σ H1 → NoT ω1 e1.length → (∀ vs ds ω2 H2, Chg t.eff ω1 H1 ω2 H2 → RA C X.K σ ω2 H2 t vs ds → RA C X.K σ ω2 H2 (.cons h t) (v :: vs) (D.un d :: ds)) →
      PostR C X.K (.cons h t) ((evA c t e1).bind fun ds e2 => .ok (D.un d :: ds) e2) t.eff ω1 e1 σ H1 W Q → wA X es σ H1 fun xs H2 => Q (v :: xs) H2 := by
    intro v d e1 ω1 H1 S1 n1 hr p1
    refine ht sc es W X e1 ω1 σ H1 hX hT ct S1 n1 _ ?_
    cases hr2 : evA c t e1 with
    | ok ds e2 =>
      rw [hr2] at p1
      intro vs H2 ω2 S2 c2 n2 r2
      exact p1 (v :: vs) H2 ω2 S2 c2 n2 (hr vs ds ω2 H2 c2 r2)
    | exc cl w e2 => rw [hr2] at p1; exact p1
    | stk => rw [hr2] at p1; exact p1.elim
  by_cases hB : h.isB = true
  · -- a borrowed or peeked name
    cases h <;> first | exact absurd hB Bool.false_ne_true | skip
    · rename_i i _
      have hsl := chk_slot (N := N) (i := i) (sc := sc) (e := e) ch
      have p : PostR C X.K (.cons (.aB i) t) ((match env[i]? with | some (some (.own d)) => Re.ok D.non env | some (some (.brw d)) => .ok .non env | _ => .stk).bind fun d e1 => (evA c t e1).bind fun ds e2 => .ok (D.un d :: ds) e2) (true || t.eff) ω env σ H W Q := p
      cases he : env[i]? with
      | none => rw [he] at p; exact p.elim
      | some o =>
        rw [he] at p
        cases o with
        | none => exact p.elim
        | some d =>
          obtain ⟨v, hv⟩ := slot_val S he
          cases d <;> first | exact p.elim | skip
          all_goals
            refine wE_slot hX hsl hv ?_
            refine tail v .non env ω H S nt (fun vs ds ω2 H2 c2 r2 => .brw hv r2) ?_
            exact PostR.shift (Chg.refl true _ _) rfl rfl p
    · rename_i i _
      have hsl := chk_slot (N := N) (i := i) (sc := sc) (e := e) ch
      have p : PostR C X.K (.cons (.aP i) t) ((match env[i]? with | some (some d) => Re.ok D.non env | _ => .stk).bind fun d e1 => (evA c t e1).bind fun ds e2 => .ok (D.un d :: ds) e2) (false || t.eff) ω env σ H W Q := p
      cases he : env[i]? with
      | none => rw [he] at p; exact p.elim
      | some o =>
        rw [he] at p
        cases o with
        | none => exact p.elim
        | some d =>
          obtain ⟨v, hv⟩ := slot_val S he
          refine wE_slot hX hsl hv ?_
          refine tail v .non env ω H S nt (fun vs ds ω2 H2 c2 r2 => .pk hv r2) ?_
          exact PostR.shift (Chg.refl false _ _) rfl rfl p
  · have hB : h.isB = false := by simpa using hB
    rw [if_neg (by rw [hB]; simp)] at p
    refine (hh sc e W X env ω σ H hX hT ch S nt).1 .v _ (by simp) ?_
    cases hr : ev c h .v env with
    | ok d e1 =>
      rw [hr] at p
      intro v H1 ω1 S1 c1 g1
      have el : e1.length = env.length := S.elen S1
      rw [← el] at g1
      obtain ⟨S1', n1, r1⟩ := g1.freeze S1
      have cs : Chg false ω1 H1 (strike ω1 e1.length) H1 := Chg.strike (Nat.ne_of_lt S1.sz)
      refine tail v d e1 _ H1 S1' n1 (fun vs ds ω2 H2 c2 r2 => .cons hB (r1.mono c2) r2) ?_
      exact PostR.shift (c1.trans cs) el (by simp) p
    | exc cl w e1 => rw [hr] at p; exact p
    | stk => rw [hr] at p; exact p.elim
theorem sa_star {h t : IE} (hh : SE T N C c h) (ht : SA T N C c t) : SA T N C c (.star h t) := by
  intro sc es W X env ω σ H hX hT hc S nt Q p
  have key : ∃ e pos es', es = .Starred e pos :: es' ∧ chkE T N h none sc e = true ∧ chkA T N t sc es' = true := by
    cases es with
    | nil => exact absurd hc Bool.false_ne_true
    | cons e es =>
      cases e <;> first | exact absurd hc Bool.false_ne_true | skip
      have hc : (_ && _) = true := hc
      simp only [Bool.and_eq_true] at hc
      exact ⟨_, _, _, rfl, hc.1, hc.2⟩
  obtain ⟨e, pos, es, rfl, ch, ct⟩ := key
  refine wA.of (StX.pa_star peW paW) ?_
  have p : PostR C X.K (.star h t) ((ev c h .v env).bind fun d e1 => match D.un d with
    | .tup l => (evA c t e1).bind fun ds e2 => .ok (l ++ ds) e2
    | .lst l => (evA c t e1).bind fun ds e2 => .ok (l ++ ds) e2
    | _ => .stk) (h.eff || t.eff) ω env σ H W Q := p
  refine (hh sc e W X env ω σ H hX hT ch S nt).1 .v _ (by simp) ?_
  cases hr : ev c h .v env with
  | ok d e1 =>
    rw [hr] at p
    intro v H1 ω1 S1 c1 g1
    have el : e1.length = env.length := S.elen S1
    rw [← el] at g1
    obtain ⟨S1', n1, r1⟩ := g1.freeze S1
    have cs : Chg false ω1 H1 (strike ω1 e1.length) H1 := Chg.strike (Nat.ne_of_lt S1.sz)
    have p1 : PostR C X.K (.star h t) (match D.un d with
      | .tup l => (evA c t e1).bind fun ds e2 => .ok (l ++ ds) e2
      | .lst l => (evA c t e1).bind fun ds e2 => .ok (l ++ ds) e2
      | _ => .stk) t.eff (strike ω1 e1.length) e1 σ H1 W Q := PostR.shift (c1.trans cs) el (by simp) p
    have go : ∀ l xs, Reps C X.K (strike ω1 e1.length) H1 xs l → PostR C X.K (.star h t) ((evA c t e1).bind fun ds e2 => .ok (l ++ ds) e2) t.eff (strike ω1 e1.length) e1 σ H1 W Q → wA X es σ H1 fun vs H2 => Q (xs ++ vs) H2 := by
      intro l xs rs p2
      refine ht sc es W X e1 _ σ H1 hX hT ct S1' n1 _ ?_
      cases hr2 : evA c t e1 with
      | ok ds e2 =>
        rw [hr2] at p2
        intro vs H2 ω2 S2 c2 n2 r2
        exact p2 (xs ++ vs) H2 ω2 S2 c2 n2 (.star (rs.mono c2) r2)
      | exc cl w e2 => rw [hr2] at p2; exact p2
      | stk => rw [hr2] at p2; exact p2.elim
    generalize D.un d = u at p1 r1
    cases u <;> first | exact p1.elim | skip
    · obtain ⟨a, xs, rfl, hx, rs⟩ := rep_tup r1
      exact ⟨a, xs, rfl, .inl hx, go _ xs rs p1⟩
    · cases r1 with
      | lst hx _ rs => exact ⟨_, _, rfl, .inr (SqL.of hx), go _ _ rs p1⟩
  | exc cl w e1 => rw [hr] at p; exact p
  | stk => rw [hr] at p; exact p.elim
theorem sp_cons {h t : IE} (hh : SE T N C c h) (ht : SP T N C c t) : SP T N C c (.cons h t) := by
  intro sc es W X env ω σ H hX hT hc S nt Q p
  obtain ⟨e, es, rfl, ch, hs, ct⟩ := chkA_cons hc
  refine wA.of (pa_cons peW paW (starCons hs)) ?_
  have p : PostP C X.K ((ev c h (pk t) env).bind fun d e1 => (evP c t e1).bind fun ds e2 => .ok (D.un d :: ds) e2) (h.eff || t.eff) ω env σ H W Q := p
  refine (hh sc e W X env ω σ H hX hT ch S nt).1 (pk t) _ pk_ne ?_
  cases hr : ev c h (pk t) env with
  | ok d e1 =>
    rw [hr] at p
    intro v H1 ω1 S1 c1 g1
    have el : e1.length = env.length := S.elen S1
    rw [← el] at g1
    obtain ⟨ω1', S1', c1', n1, keep⟩ := opnd S1 g1
    have p1 : PostP C X.K ((evP c t e1).bind fun ds e2 => .ok (D.un d :: ds) e2) t.eff ω1' e1 σ H1 W Q := PostP.shift (c1.trans c1') el (by simp) p
    refine ht sc es W X e1 _ σ H1 hX hT ct S1' n1 _ ?_
    cases hr2 : evP c t e1 with
    | ok ds e2 =>
      rw [hr2] at p1
      intro vs H2 ω2 S2 c2 n2 r2
      exact p1 (v :: vs) H2 ω2 S2 c2 n2 (.cons (keep ω2 H2 c2) r2)
    | exc cl w e2 => rw [hr2] at p1; exact p1
    | stk => rw [hr2] at p1; exact p1.elim
  | exc cl w e1 => rw [hr] at p; exact p
  | stk => rw [hr] at p; exact p.elim
end
end Q9

set_option Elab.async false
set_option linter.all false
set_option maxRecDepth 100000
namespace PySem
open Sem (wp)
namespace Q9M
variable {prog : Program} {w : World} {A : Around} {E : Value → Shared → Prop} {s : Shared}
theorem argsMin3 (a b c : Value) : argsOk "min" ⟨[a, b, c], []⟩ := by
  unfold argsOk
  kernel_rfl
/-- min of three, over the walk of the tuple that it makes -/
theorem min3_call {a b c : Value} {Q : Value → Shared → Prop}
    (h : wpAny (model prog w) A.in1 (pyIter (.ref s.heap.objs.size))
      (fun it s₂ => ∃ I fp wr n P St bt, it = .ref I ∧ Walks prog w A.in1 I fp wr n P St
        ∧ St 0 s₂.heap ∧ (∀ b ∈ fp, b < s₂.heap.objs.size) ∧ 0 < n
        ∧ CmpOf prog w A.in1 .Lt P bt
        ∧ ∀ v h' tk, P (argBest bt (n - 1)) v → (∀ b o, b ∉ wr → s₂.heap.get? b = some o → h'.get? b = some o)
          → Q v { s₂ with heap := h', toks := tk })
      E { s with heap := s.heap.push { cls := .type "tuple", data := .seq #[a, b, c] } }) :
    wpAny (model prog w) A (call (.builtin "min") [a, b, c]) Q E s := by
  have hname : (toString "min" ++ toString ".loop" : String) = "min.loop" := by
    decide
  refine call_function_tree F.kind_min F.plain_min F.entry_min (argsMin3 _ _ _) ?_
  show wpAny _ A.in1
    (Builtin.Builtins.bindParams "min" ["key", "default"] 0 ⟨[], []⟩ >>= _) _ _ s
  have hb : Builtin.Builtins.bindParams "min" ["key", "default"] 0 ⟨[], []⟩
    = pure [none, none] := rfl
  refine wpAny_bind (wpAny_of_eq hb ?_)
  show wpAny _ A.in1 (newTuple [a, b, c] >>= _) _ _ s
  refine wpAny_bind (wpAny_newObj_type ?_)
  refine wpAny_bind (wpAny_mono h (fun it s₂ h₂ => ?_)
    fun _ _ e => e)
  obtain ⟨I, fp, wr, n, P, St, bt, rfl, W, hst, hfp, hn, hcmp, hQ⟩ := h₂
  refine wpAny_bind (wpAny_newObj_type ?_)
  have hSf : s₂.heap.objs.size ∉ fp :=
    fun hm => Nat.lt_irrefl _ (hfp _ hm)
  rw [hname]
  refine wpAny_pure ⟨plainId_quiet F.plain_min_loop _,
    codeAny_min_loop_first W bt hcmp s₂.heap.objs.size hSf hn
      (W.frame _ _ _ hst fun b _ o e => Heap.get?_push_of_some _ e)
      (Heap.get?_push_size _ rfl) fun v h' tk hP hk => ?_⟩
  exact hQ v h' tk hP
    fun b o hbw e => hk b o hbw (Nat.ne_of_lt (Heap.lt_size e))
      (Heap.get?_push_of_some _ e)
theorem min3_ints {a b c : Int} {t u x : Tok} {Q : Value → Shared → Prop} (hh : A.handled = none)
    (h : ∀ h' tk y, (∀ d o, s.heap.get? d = some o → h'.get? d = some o)
      → Q (.int (min (min a b) c) y) { s with heap := h', toks := tk }) :
    wpAny (model prog w) A (call (.builtin "min") [.int a t, .int b u, .int c x]) Q E s := by
  let its : Array (Int × Tok) := #[(a, t), (b, u), (c, x)]
  have hT : (s.heap.push { cls := .type "tuple", data := .seq #[.int a t, .int b u, .int c x] }).IsTuple
    s.heap.objs.size (intItems its) := ⟨_, Heap.get?_push_size _ rfl, rfl, 0, by simp [its, intItems]⟩
  refine min3_call (wpAny_pyIter_tuple hT ?_)
  have hsz : (s.heap.push { cls := .type "tuple", data := .seq #[.int a t, .int b u, .int c x] }).objs.size
    = s.heap.objs.size + 1 := Heap.size_push ..
  have hne : s.heap.objs.size ≠
    (s.heap.push { cls := .type "tuple", data := .seq #[.int a t, .int b u, .int c x] }).objs.size := by
    rw [hsz]; exact Nat.ne_of_lt (Nat.lt_succ_self _)
  refine ⟨_, [_, s.heap.objs.size], [_], _, _, _, _, rfl,
    Walks.tuple (A := A.in1) hh _ s.heap.objs.size hne (intItems its),
    ⟨⟨_, Heap.get?_push_size _ rfl, rfl, rfl⟩, hT.push _⟩, fun d hd => ?_, by simp [its, intItems],
    CmpOf.ints_lt (numAt its) (fun _ _ => intItems_at), fun v h' tk hP hk => ?_⟩
  · show d < ((s.heap.push _).push _).objs.size
    rw [Heap.size_push, hsz]
    simp only [List.mem_cons, List.not_mem_nil, or_false] at hd
    rcases hd with rfl | rfl
    · rw [hsz]; exact Nat.lt_succ_self _
    · exact Nat.lt_succ_of_lt (Nat.lt_succ_self _)
  · have hold : ∀ d o, s.heap.get? d = some o → h'.get? d = some o := fun d o e => by
      refine hk d o (fun hm => ?_)
        (Heap.get?_push_of_some _ (Heap.get?_push_of_some _ e))
      simp only [List.mem_cons, List.not_mem_nil, or_false] at hm
      have z := Heap.lt_size e
      rw [hm, hsz] at z
      exact Nat.lt_irrefl _ (Nat.lt_of_succ_lt z)
    have hP' : (intItems its)[argBest (fun i j => decide (numAt its i < numAt its j)) 2]? = some v := by
      have hsz2 : (intItems its).size - 1 = 2 := by simp [its, intItems]
      rw [← hsz2]
      exact hP
    have hv : ∃ y, v = .int (min (min a b) c) y := by
      by_cases h1 : b < a
      · by_cases h2 : c < b
        · have e : argBest (fun i j => decide (numAt its i < numAt its j)) 2 = 2 := by
            simp [its, argBest, numAt, h1, h2]
          rw [e] at hP'
          refine ⟨x, ?_⟩
          rw [show min (min a b) c = c by omega]
          simpa [its, intItems] using hP'.symm
        · have e : argBest (fun i j => decide (numAt its i < numAt its j)) 2 = 1 := by
            simp [its, argBest, numAt, h1, h2]
          rw [e] at hP'
          refine ⟨u, ?_⟩
          rw [show min (min a b) c = b by omega]
          simpa [its, intItems] using hP'.symm
      · by_cases h2 : c < a
        · have e : argBest (fun i j => decide (numAt its i < numAt its j)) 2 = 2 := by
            simp [its, argBest, numAt, h1, h2]
          rw [e] at hP'
          refine ⟨x, ?_⟩
          rw [show min (min a b) c = c by omega]
          simpa [its, intItems] using hP'.symm
        · have e : argBest (fun i j => decide (numAt its i < numAt its j)) 2 = 0 := by
            simp [its, argBest, numAt, h1, h2]
          rw [e] at hP'
          refine ⟨t, ?_⟩
          rw [show min (min a b) c = a by omega]
          simpa [its, intItems] using hP'.symm
    obtain ⟨y, rfl⟩ := hv
    exact h h' tk y hold
end Q9M
end PySem

set_option Elab.async false
set_option linter.all false
set_option maxRecDepth 100000
namespace Q9
open PySem PySem.Spec L2

/-! ## built-in functions -/
def Bi.val : Bi → Value
  | .len => .builtin "len" | .sum => .builtin "sum" | .min => .builtin "min" | .max => .builtin "max" | .sorted => .builtin "sorted"
  | .any => .builtin "any" | .all => .builtin "all" | .int => .type "int" | .list => .type "list" | .tuple => .type "tuple"
theorem Bi.boot (f : Bi) : bootBuiltins (Str.ofString f.nm) = some f.val := by
  cases f <;> decide +kernel
theorem Bi.nmOk (f : Bi) : Str.ofString f.nm ≠ "__name__" ∧ (Str.ofString f.nm == ("__debug__" : Str)) = false := by
  cases f <;> decide +kernel

theorem min3_op {X : Cx} (hc : X.calm = true) : CallR X (.builtin "min") (fun xs H Q => ∃ i j k, xs = [.int i, .int j, .int k] ∧ Q (.int (min (min i j) k)) H) := by
  intro pins s σ H xs us Q I r h
  obtain ⟨i, j, k, rfl, q⟩ := h
  cases r with
  | cons r1 r => cases r with
    | cons r2 r => cases r with
      | cons r3 r =>
        cases r
        obtain ⟨t, rfl⟩ := r1
        obtain ⟨t2, rfl⟩ := r2
        obtain ⟨t3, rfl⟩ := r3
        exact PySem.Q9M.min3_ints (I.ok.hd hc) fun h' tk y hk => ⟨.int _, H, I.kept hk, ⟨y, rfl⟩, q⟩
theorem max3_op {X : Cx} (hc : X.calm = true) : CallR X (.builtin "max") (fun xs H Q => ∃ i j k, xs = [.int i, .int j, .int k] ∧ Q (.int (max (max i j) k)) H) := by
  intro pins s σ H xs us Q I r h
  obtain ⟨i, j, k, rfl, q⟩ := h
  cases r with
  | cons r1 r => cases r with
    | cons r2 r => cases r with
      | cons r3 r =>
        cases r
        obtain ⟨t, rfl⟩ := r1
        obtain ⟨t2, rfl⟩ := r2
        obtain ⟨t3, rfl⟩ := r3
        refine max_three_ints (I.ok.hd hc) fun h' tk hk => ?_
        have e : ∃ y, (if j > i then (if k > j then Value.int k t3 else .int j t2) else (if k > i then .int k t3 else .int i t)) = .int (max (max i j) k) y := by
          by_cases h1 : j > i
          · rw [if_pos h1]
            by_cases h2 : k > j
            · rw [if_pos h2]; exact ⟨_, by rw [show max (max i j) k = k by omega]⟩
            · rw [if_neg h2]; exact ⟨_, by rw [show max (max i j) k = j by omega]⟩
          · rw [if_neg h1]
            by_cases h2 : k > i
            · rw [if_pos h2]; exact ⟨_, by rw [show max (max i j) k = k by omega]⟩
            · rw [if_neg h2]; exact ⟨_, by rw [show max (max i j) k = i by omega]⟩
        obtain ⟨y, e⟩ := e
        rw [e]
        exact ⟨.int _, H, I.kept hk, ⟨y, rfl⟩, q⟩

theorem maxL_mem : ∀ {i : Int} {is : List Int}, maxL (i :: is) ∈ i :: is ∧ ∀ y ∈ i :: is, y ≤ maxL (i :: is)
  | i, [] => by simp [maxL]
  | i, j :: is => by
    obtain ⟨h1, h2⟩ := maxL_mem (i := j) (is := is)
    have e : maxL (i :: j :: is) = max i (maxL (j :: is)) := rfl
    rw [e]
    refine ⟨?_, fun y hy => ?_⟩
    · by_cases h : i ≤ maxL (j :: is)
      · rw [show max i (maxL (j :: is)) = maxL (j :: is) by omega]; exact List.mem_cons_of_mem _ h1
      · rw [show max i (maxL (j :: is)) = i by omega]; exact List.mem_cons_self
    · rcases List.mem_cons.mp hy with rfl | hy
      · omega
      · have := h2 y hy; omega
theorem minL_mem : ∀ {i : Int} {is : List Int}, minL (i :: is) ∈ i :: is ∧ ∀ y ∈ i :: is, minL (i :: is) ≤ y
  | i, [] => by simp [minL]
  | i, j :: is => by
    obtain ⟨h1, h2⟩ := minL_mem (i := j) (is := is)
    have e : minL (i :: j :: is) = min i (minL (j :: is)) := rfl
    rw [e]
    refine ⟨?_, fun y hy => ?_⟩
    · by_cases h : minL (j :: is) ≤ i
      · rw [show min i (minL (j :: is)) = minL (j :: is) by omega]; exact List.mem_cons_of_mem _ h1
      · rw [show min i (minL (j :: is)) = i by omega]; exact List.mem_cons_self
    · rcases List.mem_cons.mp hy with rfl | hy
      · omega
      · have := h2 y hy; omega
theorem sorted_one : ∀ {l m : List Int}, l.Perm m → l.Pairwise (· ≤ ·) → m.Pairwise (· ≤ ·) → l = m
  | [], m, p, _, _ => by rw [p.nil_eq]
  | a :: l, [], p, _, _ => absurd p.symm.nil_eq (by simp)
  | a :: l, b :: m, p, h1, h2 => by
    rw [List.pairwise_cons] at h1 h2
    have e : a = b := by
      have ha : a ∈ b :: m := p.mem_iff.mp List.mem_cons_self
      have hb : b ∈ a :: l := p.mem_iff.mpr List.mem_cons_self
      rcases List.mem_cons.mp ha with e | ha
      · exact e
      · rcases List.mem_cons.mp hb with e | hb
        · exact e.symm
        · have := h1.1 b hb; have := h2.1 a ha; omega
    subst e
    rw [sorted_one (List.perm_cons a |>.mp p) h1.2 h2.2]
theorem isort_perm (l : List Int) : (isort l).Perm l := List.mergeSort_perm l _
theorem isort_sorted (l : List Int) : (isort l).Pairwise (· ≤ ·) := by
  have := List.pairwise_mergeSort (le := fun a b : Int => decide (a ≤ b)) (by intro a b c h1 h2; simp only [decide_eq_true_eq] at *; omega) (by intro a b; simp only [Bool.or_eq_true, decide_eq_true_eq]; omega) l
  exact this.imp fun h => by simpa using h

section
variable {C : Ct} {K : PySem.W.Frag} {ω : Om} {H : Hp}
theorem intsD_of : ∀ {ds : List D} {is : List Int}, intsD ds = some is → ds = is.map D.int
  | [], is, h => by simp only [intsD, Option.some.injEq] at h; subst h; rfl
  | d :: ds, is, h => by
    cases d <;> simp only [intsD, reduceCtorEq, Option.map_eq_some_iff] at h
    obtain ⟨js, e, rfl⟩ := h
    rw [intsD_of e]; rfl
end

theorem Shs.inv1 {C : Ct} {K : PySem.W.Frag} {ω : Om} {H : Hp} {vs : List V} {a : D} (r : Shs C K ω H vs [a]) : ∃ v, vs = [v] ∧ Sh C K ω H v a := by
  cases r with
  | cons s r => cases r; exact ⟨_, rfl, s⟩
theorem Shs.inv2 {C : Ct} {K : PySem.W.Frag} {ω : Om} {H : Hp} {vs : List V} {a b : D} (r : Shs C K ω H vs [a, b]) : ∃ v w, vs = [v, w] ∧ Sh C K ω H v a ∧ Sh C K ω H w b := by
  cases r with
  | cons s r => obtain ⟨w, rfl, t⟩ := r.inv1; exact ⟨_, _, rfl, s, t⟩
theorem Shs.inv3 {C : Ct} {K : PySem.W.Frag} {ω : Om} {H : Hp} {vs : List V} {a b e : D} (r : Shs C K ω H vs [a, b, e]) : ∃ v w z, vs = [v, w, z] ∧ Sh C K ω H v a ∧ Sh C K ω H w b ∧ Sh C K ω H z e := by
  cases r with
  | cons s r => obtain ⟨w, z, rfl, t, u⟩ := r.inv2; exact ⟨_, _, _, rfl, s, t, u⟩
section
variable {C : Ct} {ω : Om} {env : Env} {σ : L2.St} {H : Hp} {X : Cx}
theorem bi_ok {f : Bi} {vs : List V} {ds : List D} {d : D} {Q : VK} (hc : X.calm = true) (S : Sim C X.K ω env σ H) (nt : NoT ω env.length) (r : Shs C X.K ω H vs ds) (h : biD f ds = some d)
    (q : ∀ v H' ω', Sim C X.K ω' env σ H' → Chg false ω H ω' H' → Good C X.K .v ω' H' env.length v d → Q v H') : wCall X f.val vs H Q := by
  have imm : ∀ i : Int, d = .int i → Q (.int i) H := fun i e => q _ _ ω S (.refl _ _ _) (by subst e; exact good_imm nt (.int i))
  unfold biD at h
  split at h <;> first | contradiction | skip
  · split at h <;> simp only [Option.some.injEq, reduceCtorEq] at h
    subst h
    rename_i d o n hn
    obtain ⟨_, rfl, s⟩ := r.inv1
    cases d <;> simp only [D.len, Option.some.injEq, reduceCtorEq] at hn
    · obtain ⟨a, xs, rfl, hx, rs⟩ := s.tupI; subst hn
      exact wCall.of call_len_seq ⟨a, xs, rfl, .inr hx, by rw [rs.length]; exact imm _ rfl⟩
    · obtain ⟨a, xs, rfl, hx, rs⟩ := s.lstI; subst hn
      exact wCall.of call_len_seq ⟨a, xs, rfl, .inl (SqL.of hx), by rw [rs.length]; exact imm _ rfl⟩
    · obtain ⟨a, xs, rfl, hx, rs⟩ := s.flkI; subst hn
      exact wCall.of call_len_seq ⟨a, xs, rfl, .inl hx, by rw [rs.length]; exact imm _ rfl⟩
  · simp only [Option.map_eq_some_iff] at h
    obtain ⟨is, hn, rfl⟩ := h
    obtain ⟨_, rfl, s⟩ := r.inv1
    obtain ⟨a, xs, rfl, hx, rs⟩ := s.lstI
    rw [intsD_of hn] at rs
    rw [rs.of_ints] at hx
    exact wCall.of (cr_sum hc) ⟨a, is, rfl, SqL.of hx, imm _ rfl⟩
  · simp only [Option.some.injEq] at h; subst h
    obtain ⟨_, _, rfl, s1, s2⟩ := r.inv2
    have := s1.int; have := s2.int; subst_vars
    refine wCall.of (call_min2 hc) ⟨_, _, rfl, ?_⟩
    split
    · exact imm _ (by rw [show min _ _ = _ from Int.min_eq_right (by omega)])
    · exact imm _ (by rw [show min _ _ = _ from Int.min_eq_left (by omega)])
  · simp only [Option.some.injEq] at h; subst h
    obtain ⟨_, _, rfl, s1, s2⟩ := r.inv2
    have := s1.int; have := s2.int; subst_vars
    refine wCall.of (call_max2 hc) ⟨_, _, rfl, ?_⟩
    split
    · exact imm _ (by rw [show max _ _ = _ from Int.max_eq_right (by omega)])
    · exact imm _ (by rw [show max _ _ = _ from Int.max_eq_left (by omega)])
  · simp only [Option.some.injEq] at h; subst h
    obtain ⟨_, _, _, rfl, s1, s2, s3⟩ := r.inv3
    have := s1.int; have := s2.int; have := s3.int; subst_vars
    exact wCall.of (min3_op hc) ⟨_, _, _, rfl, imm _ rfl⟩
  · simp only [Option.some.injEq] at h; subst h
    obtain ⟨_, _, _, rfl, s1, s2, s3⟩ := r.inv3
    have := s1.int; have := s2.int; have := s3.int; subst_vars
    exact wCall.of (max3_op hc) ⟨_, _, _, rfl, imm _ rfl⟩
  · split at h <;> simp only [Option.some.injEq, reduceCtorEq] at h
    subst h
    obtain ⟨_, rfl, s⟩ := r.inv1
    obtain ⟨a, xs, rfl, hx, rs⟩ := s.lstI
    rename_i i is hn
    rw [intsD_of hn] at rs
    rw [rs.of_ints] at hx
    refine wCall.of (cr_min hc) ⟨a, _, rfl, SqL.of hx, by simp, fun m hm hl => ?_⟩
    obtain ⟨e1, e2⟩ := minL_mem (i := i) (is := is)
    have := hl _ e1; have := e2 _ hm
    exact imm _ (by rw [show minL (i :: is) = m by omega])
  · split at h <;> simp only [Option.some.injEq, reduceCtorEq] at h
    subst h
    obtain ⟨_, rfl, s⟩ := r.inv1
    obtain ⟨a, xs, rfl, hx, rs⟩ := s.lstI
    rename_i i is hn
    rw [intsD_of hn] at rs
    rw [rs.of_ints] at hx
    refine wCall.of (cr_max hc) ⟨a, _, rfl, SqL.of hx, by simp, fun m hm hl => ?_⟩
    obtain ⟨e1, e2⟩ := maxL_mem (i := i) (is := is)
    have := hl _ e1; have := e2 _ hm
    exact imm _ (by rw [show maxL (i :: is) = m by omega])
  · split at h <;> first | contradiction | skip
    rename_i is hn
    split at h <;> simp only [Option.some.injEq, reduceCtorEq] at h
    subst h
    obtain ⟨_, rfl, s⟩ := r.inv1
    obtain ⟨a, xs, rfl, hx, rs⟩ := s.lstI
    rw [intsD_of hn] at rs
    rw [rs.of_ints] at hx
    refine wCall.of cr_sortedI ⟨a, _, rfl, SqL.of hx, fun ns' p hp hs hz => ?_⟩
    have e : ns' = isort is := sorted_one (hp.trans (isort_perm is).symm) hs (isort_sorted is)
    subst e
    obtain ⟨ω', a1, a2, a3⟩ := fresh_lst S nt hz (Reps.ints (C := C) (K := X.K) (ω := ω) (H := H) (is := isort is))
    exact q _ _ ω' a1 a2 a3
  · simp only [Option.some.injEq] at h; subst h
    obtain ⟨_, rfl, s⟩ := r.inv1
    have := s.int; subst_vars
    exact wCall.of call_int1 (.inl ⟨_, rfl, imm _ rfl⟩)
  · simp only [Option.some.injEq] at h; subst h
    obtain ⟨_, rfl, s⟩ := r.inv1
    have := s.bl; subst_vars
    exact wCall.of call_int1 (.inr ⟨_, rfl, imm _ rfl⟩)
  · simp only [Option.some.injEq] at h; subst h
    obtain ⟨_, rfl, s⟩ := r.inv1
    obtain ⟨a, xs, rfl, hx, rs⟩ := s.lstI
    refine wCall.of call_list_of ⟨a, xs, rfl, .inl (SqL.of hx), fun z hz => ?_⟩
    obtain ⟨ω', a1, a2, a3⟩ := fresh_lst S nt hz rs
    exact q _ _ ω' a1 a2 a3
  · simp only [Option.some.injEq] at h; subst h
    obtain ⟨_, rfl, s⟩ := r.inv1
    obtain ⟨a, xs, rfl, hx, rs⟩ := s.tupI
    refine wCall.of call_list_of ⟨a, xs, rfl, .inr hx, fun z hz => ?_⟩
    obtain ⟨ω', a1, a2, a3⟩ := fresh_lst S nt hz rs
    exact q _ _ ω' a1 a2 a3
  · simp only [Option.some.injEq] at h; subst h
    obtain ⟨_, rfl, s⟩ := r.inv1
    obtain ⟨a, xs, rfl, hx, rs⟩ := s.flkI
    refine wCall.of call_list_of ⟨a, xs, rfl, .inl hx, fun z hz => ?_⟩
    obtain ⟨ω', a1, a2, a3⟩ := fresh_lst S nt hz rs
    exact q _ _ ω' a1 a2 a3
  · simp only [Option.some.injEq] at h; subst h
    obtain ⟨_, rfl, s⟩ := r.inv1
    obtain ⟨a, xs, rfl, hx, rs⟩ := s.lstI
    refine wCall.of call_tuple_of ⟨a, xs, rfl, .inl ⟨SqL.of hx, fun z hz => ?_⟩⟩
    obtain ⟨a1, a2, a3⟩ := fresh_tup S nt hz rs
    exact q _ _ ω a1 a2 a3
  · simp only [Option.some.injEq] at h; subst h
    obtain ⟨_, rfl, s⟩ := r.inv1
    have hs := s
    obtain ⟨a, xs, rfl, hx, rs⟩ := s.tupI
    refine wCall.of call_tuple_of ⟨a, xs, rfl, .inr ⟨hx, ?_⟩⟩
    exact q _ _ ω S (.refl _ _ _) (good_imm nt (by cases hs; assumption))
end

section
variable {T : Tab} {N : List Str} {C : Ct} {c : Oracle}
theorem se_bi {f : Bi} {as : IE} (ha : SP T N C c as) : SE T N C c (.bi f as) := by
  intro sc e W X env ω σ H hX hT hc S nt
  have key : ∃ y ys p pos, e = .Call (.Name (Str.ofString f.nm) p) (y :: ys) [] pos ∧ glB sc (Str.ofString f.nm) = true ∧ T.bl.contains f.nm = true ∧ as.noS = true ∧ chkA T N as sc (y :: ys) = true := by
    cases e <;> first | exact absurd hc Bool.false_ne_true | skip
    rename_i fe args kws pos
    cases fe <;> first | exact absurd hc Bool.false_ne_true | skip
    rename_i x p
    cases args <;> first | exact absurd hc Bool.false_ne_true | skip
    cases kws <;> first | exact absurd hc Bool.false_ne_true | skip
    rename_i y ys
    change (decide (x = Str.ofString f.nm) && _ && _ && _ && _ && _) = true at hc
    simp only [Bool.and_eq_true, decide_eq_true_eq] at hc
    obtain ⟨⟨⟨⟨⟨rfl, h2⟩, h3⟩, h4⟩, h5⟩, h6⟩ := hc
    exact ⟨_, _, _, _, rfl, h2, h3, h5, h6⟩
  obtain ⟨y, ys, p0, pos, rfl, hg, hb, hs, ca⟩ := key
  have hns := chkA_noS ca hs
  refine fin_both hX (fun Q p => ?_) rfl S.len
  have pe : PE X (.Call (.Name (Str.ofString f.nm) p0) (y :: ys) [] pos) (tCB (wCall X f.val) (wA X (y :: ys))) := by
    have he := starCons (es := ys) (env := X.env) (hns y List.mem_cons_self)
    have hpl := noStar_any (pos := pos) (env := X.env) fun e he => hns e (List.mem_cons_of_mem _ he)
    have hm := hT.bls _ hb
    have hgl := hX.gl _ (gl_of hg)
    have hv := f.boot
    obtain ⟨n1, n2⟩ := f.nmOk
    cases f <;> first
      | exact pe_callB wCall.op hgl hm hv paW n1 n2 he hpl
      | exact pe_callTy wCall.op hgl hm hv paW n1 n2 he hpl
  refine wE.of pe ?_
  refine stepP ha hX hT ca S nt p (e2 := false) (Bool.or_false _) fun ds e1 vs H1 ω1 S1 c1 n1 r1 p1 => ?_
  unfold ofO at p1
  split at p1
  · exact bi_ok hX.calm S1 n1 r1 (by assumption) p1
  · exact p1.elim
end
end Q9

set_option Elab.async false
set_option linter.all false
set_option maxRecDepth 100000
namespace Q9
open PySem PySem.Spec L2

theorem attrB {o : Expr} {nm : Str} {env : PySem.Env} {whole : Sem Value} (h : isCall o = false) : attributeBase o nm env whole = whole := by
  cases o <;> first | rfl | exact absurd h (fun z => Bool.false_ne_true z.symm)

theorem mut_upd {H : Hp} {a b : Addr} {xs : List V} (m : Mut (H b)) : Mut (upd H a (.lst xs) b) := by
  by_cases z : b = a
  · subst z; rw [upd_same]; trivial
  · rw [upd_ne z]; exact m
section
variable {C : Ct} {K : PySem.W.Frag} {ω : Om} {env : Env} {σ : L2.St} {H : Hp}
/-- an owned list is written -/
theorem own_write {i : Nat} {a : Addr} {xs : List V} {ds : List D} {old : D} {nw : D} (S : Sim C K ω env σ H) (hi : env[i]? = some (some old)) (hs : σ[i]? = some (some (.ref a))) (ha : H a ≠ none) (hw : ω a = some (i, none)) (r : Reps C K ω H xs ds) (hn : nw = .own (.lst ds) ∨ nw = .brw (.lst ds)) :
    Sim C K ω (env.set i (some nw)) σ (upd H a (.lst xs)) ∧ Chg true ω H ω (upd H a (.lst xs)) := by
  have hil : i < env.length := (List.getElem?_eq_some_iff.mp hi).1
  have hF : i ≠ FO := by have := S.sz; omega
  have ch : Chg true ω H ω (upd H a (.lst xs)) := by
    refine ⟨fun b o e q => ?_, fun _ _ q => q, fun b e => ?_, fun b p e => ⟨e, fun o x => ?_⟩⟩
    · rcases q with q | q
      · rw [upd_ne (fun z => by subst z; rw [hw] at q; cases q)]; exact e
      · cases q
    · by_cases z : b = a
      · subst z; rw [upd_same]; simp
      · rw [upd_ne z]; exact e
    · rw [upd_ne (fun z => by subst z; rw [hw] at e; cases e; exact hF rfl)]; exact x
  refine ⟨⟨by rw [List.length_set]; exact S.len, by rw [List.length_set]; exact S.sz, fun b j p e => by rw [List.length_set]; exact ⟨(S.own b j p e).1, mut_upd (S.own b j p e).2⟩, fun j d q => ?_⟩, ch⟩
  by_cases hj : j = i
  · subst hj
    rw [List.getElem?_set_self hil] at q
    cases q
    refine ⟨_, hs, ?_⟩
    rcases hn with rfl | rfl
    · exact .flat (.lst upd_same hw (r.mono ch))
    · exact .flat (.lst upd_same hw (r.mono ch))
  · rw [List.getElem?_set_ne (Ne.symm hj)] at q
    obtain ⟨v, e, r'⟩ := S.slot j d q
    refine ⟨v, e, ?_⟩
    have hk : ∀ b q o', ω b = some (j, q) → H b = some o' → (upd H a (.lst xs)) b = some o' ∧ ω b = some (j, q) := fun b q o' w e' => by
      have z : b ≠ a := fun z => by subst z; rw [hw] at w; cases w; exact hj rfl
      exact ⟨by rw [upd_ne z]; exact e', w⟩
    cases d <;> first
      | exact Rep.mono ch r'
      | exact OwnR.mono r' ch hk
theorem own_lst {i : Nat} {v : V} {ds : List D} (o : OwnR C K ω H i v (.lst ds)) : ∃ a xs, v = .ref a ∧ H a = some (.lst xs) ∧ ω a = some (i, none) ∧ Reps C K ω H xs ds := by
  cases o with
  | flat f => cases f with | lst h w r => exact ⟨_, _, rfl, h, w, r⟩
end

section
variable {T : Tab} {N : List Str} {C : Ct} {c : Oracle}
theorem se_bm {m : Bm} {a as : IE} (ha : SE T N C c a) : SE T N C c (.bm m a as) := by
  intro sc e W X env ω σ H hX hT hc S nt
  have key : ∃ x ap pos, e = .Call (.Attribute x (Str.ofString m.nm) ap) [] [] pos ∧ chkE T N a none sc x = true ∧ as = .nil ∧ isCall x = false ∧ (ap.endLine == pos.line) = true := by
    cases e <;> first | exact absurd hc Bool.false_ne_true | skip
    rename_i fe args kws pos
    cases fe <;> first | exact absurd hc Bool.false_ne_true | skip
    rename_i x n ap
    cases args <;> first | exact absurd hc Bool.false_ne_true | skip
    cases kws <;> first | exact absurd hc Bool.false_ne_true | skip
    change (decide (n = Str.ofString m.nm) && _ && _ && !_ && _) = true at hc
    simp only [Bool.and_eq_true, decide_eq_true_eq, Bool.not_eq_true'] at hc
    obtain ⟨⟨⟨⟨rfl, h2⟩, h3⟩, h4⟩, h5⟩ := hc
    refine ⟨_, _, _, rfl, h2, ?_, h4, h5⟩
    cases as <;> first | rfl | exact absurd h3 Bool.false_ne_true
  obtain ⟨x, ap, pos, rfl, ca, rfl, hcall, hl⟩ := key
  refine fin_both hX (fun Q p => ?_) rfl S.len
  cases m
  refine wE.of (pe_bits peW (attrB hcall) hl) ?_
  have p : Post C X.K .v ((ev c a (pk .nil) env).bind fun x e1 => (Re.ok [] e1 : Re (List D)).bind fun ds e2 => ofO (bmD .bits (D.un x) ds) e2) (a.eff || false) ω env σ H W Q := p
  refine step ha hX hT ca S nt pk_ne p (e2 := false) rfl fun d e1 v H1 ω1 S1 c1 g1 p1 => ?_
  obtain ⟨ω1', S1', c1', n1, keep⟩ := opnd (b := .nil) S1 g1
  have sh := keep ω1' H1 (.refl _ _ _)
  have p1 : Post C X.K .v (ofO (bmD .bits (D.un d) []) e1) false ω1' e1 σ H1 W Q := Post.shift c1' rfl rfl p1
  generalize D.un d = u at sh p1
  cases u <;> first | exact p1.elim | skip
  have := sh.int
  subst this
  exact ⟨_, rfl, p1 _ H1 ω1' S1' (.refl _ _ _) (good_imm n1 (.int _))⟩

theorem chk_mm {m : Mm} {i : Nat} {as : IE} {sc : Scope} {e : Expr} (hc : chkE T N (.mm m i as) none sc e = true) : ∃ x p ap ys pos, e = .Call (.Attribute (.Name x p) (Str.ofString m.nm) ap) ys [] pos ∧ (ap.endLine == pos.line) = true ∧ ys.length = m.ar ∧ as.noS = true ∧ N[i]? = some x ∧ visB sc x = true ∧ plainN x = true ∧ as.noB = true ∧ chkA T N as sc ys = true := by
  cases e <;> first | exact absurd hc Bool.false_ne_true | skip
  rename_i fe args kws pos
  cases fe <;> first | exact absurd hc Bool.false_ne_true | skip
  rename_i o n ap
  cases o <;> first | exact absurd hc Bool.false_ne_true | skip
  rename_i x p
  cases kws <;> first | exact absurd hc Bool.false_ne_true | skip
  change (decide (n = Str.ofString m.nm) && _ && decide (args.length = m.ar) && _ && decide (N[i]? = some x) && _ && _ && _ && _) = true at hc
  simp only [Bool.and_eq_true, decide_eq_true_eq] at hc
  obtain ⟨⟨⟨⟨⟨⟨⟨⟨rfl, h2⟩, h3⟩, h4⟩, h5⟩, h6⟩, h7⟩, h8⟩, h9⟩ := hc
  exact ⟨_, _, _, _, _, rfl, h2, h3, h4, h5, h6, h7, h8, h9⟩

theorem se_mm {m : Mm} {i : Nat} {as : IE} (ha : SA T N C c as) : SE T N C c (.mm m i as) := by
  intro sc e W X env ω σ H hX hT hc S nt
  obtain ⟨x, p0, ap, ys, pos, rfl, hl, har, hnS, hi, hv, hp, hB, ca⟩ := chk_mm hc
  obtain ⟨p1, p2, p3⟩ := plainN_of hp
  have hns := chkA_noS ca hnS
  refine fin_both hX (fun Q p => ?_) rfl S.len
  have p : Post C X.K .v (if isOwnL env i then (evA c as env).bind fun ds e1 => match e1[i]? with
    | some (some (.own d)) => match mmD m d ds with
      | some (r, d') => .ok r (e1.set i (some (.own d')))
      | none => .stk
    | some (some (.brw d)) => match mmD m d ds with
      | some (r, d') => .ok r (e1.set i (some (.brw d')))
      | none => .stk
    | _ => .stk
    else .stk) true ω env σ H W Q := p
  by_cases hown : isOwnL env i = true
  · rw [if_pos hown] at p
    -- the list, ahead of the arguments
    have hlist : ∃ a xs, σ[i]? = some (some (.ref a)) ∧ H a = some (.lst xs) := by
      unfold isOwnL at hown
      split at hown <;> first | exact absurd hown Bool.false_ne_true | skip
      all_goals
        rename_i hs
        obtain ⟨v, e, r⟩ := S.slot i _ hs
        obtain ⟨a, xs, rfl, h, _, _⟩ := own_lst r
        exact ⟨a, xs, e, h⟩
    obtain ⟨a, xs0, hsl, hH0⟩ := hlist
    have pname : PE X (.Name x p0) (tVar i) := pe_var (by rw [hX.hN]; exact hi) (hX.vis x (vis_of hv)) p1 p2
    have hty : tyV X.K "list" (.ref a) H := Or.inl ⟨rfl, _, Or.inl (Or.inl hH0)⟩
    -- what the call does, behind the arguments
    have fin : ∀ (ds : List D) (e1 : Env) (vs : List V) (H1 : Hp) (ω1 : Om), Sim C X.K ω1 e1 σ H1 → NoT ω1 e1.length → Reps C X.K ω1 H1 vs ds →
        Post C X.K .v (match e1[i]? with
          | some (some (.own d)) => match mmD m d ds with
            | some (r, d') => .ok r (e1.set i (some (.own d')))
            | none => .stk
          | some (some (.brw d)) => match mmD m d ds with
            | some (r, d') => .ok r (e1.set i (some (.brw d')))
            | none => .stk
          | _ => .stk) true ω1 e1 σ H1 W Q → ∃ xs1, H1 a = some (.lst xs1) ∧ (m = .append → ∃ v, vs = [v] ∧ xs1.length < sizeLine ∧ Q .non (upd H1 a (.lst (xs1 ++ [v])))) ∧ (m = .pop → vs = [] ∧ ∃ y, xs1[xs1.length - 1]? = some y ∧ Q y (upd H1 a (.lst xs1.dropLast))) ∧ (m = .clear → vs = [] ∧ Q .non (upd H1 a (.lst []))) := by
      intro ds e1 vs H1 ω1 S1 n1 rs p1
      have go : ∀ (d : D) (mk : D → D), (mk = D.own ∨ mk = D.brw) → e1[i]? = some (some (mk d)) → OwnR C X.K ω1 H1 i (.ref a) d → Post C X.K .v (match mmD m d ds with | some (r, d') => .ok r (e1.set i (some (mk d'))) | none => .stk) true ω1 e1 σ H1 W Q → ∃ xs1, H1 a = some (.lst xs1) ∧ (m = .append → ∃ v, vs = [v] ∧ xs1.length < sizeLine ∧ Q .non (upd H1 a (.lst (xs1 ++ [v])))) ∧ (m = .pop → vs = [] ∧ ∃ y, xs1[xs1.length - 1]? = some y ∧ Q y (upd H1 a (.lst xs1.dropLast))) ∧ (m = .clear → vs = [] ∧ Q .non (upd H1 a (.lst []))) := by
        intro d mk hmk he o p2
        cases hm : mmD m d ds with
        | none => rw [hm] at p2; exact p2.elim
        | some z =>
          obtain ⟨r, d'⟩ := z
          rw [hm] at p2
          have wr : ∀ {ys : List V} {es : List D}, Reps C X.K ω1 H1 ys es → H1 a ≠ none → ω1 a = some (i, none) → d' = .lst es → ∀ v, Rep C X.K ω1 H1 v r → Q v (upd H1 a (.lst ys)) := by
            intro ys es ry ha hw hd' v rv
            subst hd'
            obtain ⟨S2, c2⟩ := own_write S1 he hsl ha hw ry (nw := mk (.lst es)) (by rcases hmk with rfl | rfl; exact .inl rfl; exact .inr rfl)
            refine p2 v _ ω1 S2 c2 (.inr ⟨n1, rv.mono c2⟩)
          unfold mmD at hm
          split at hm <;> first | contradiction | skip
          · split at hm <;> simp only [Option.some.injEq, reduceCtorEq, Prod.mk.injEq] at hm
            obtain ⟨rfl, rfl⟩ := hm
            obtain ⟨a', xs1, e', h1, h2, h3⟩ := own_lst o
            cases e'
            cases rs with
            | cons rd rn =>
              cases rn
              refine ⟨xs1, h1, fun _ => ⟨_, rfl, by rw [h3.length]; assumption, wr (h3.append (.cons rd .nil)) (by rw [h1]; simp) h2 rfl _ .non⟩, (fun z => by cases z), (fun z => by cases z)⟩
          · split at hm <;> simp only [Option.some.injEq, reduceCtorEq, Prod.mk.injEq] at hm
            obtain ⟨rfl, rfl⟩ := hm
            obtain ⟨a', xs1, e', h1, h2, h3⟩ := own_lst o
            cases e'
            cases rs
            rename_i hd
            rw [← h3.length] at hd
            obtain ⟨y, ey, ry⟩ := h3.getD hd
            exact ⟨xs1, h1, (fun z => by cases z), fun _ => ⟨rfl, y, ey, wr h3.dropLast (by rw [h1]; simp) h2 rfl _ ry⟩, (fun z => by cases z)⟩
          · simp only [Option.some.injEq, Prod.mk.injEq] at hm
            obtain ⟨rfl, rfl⟩ := hm
            obtain ⟨a', xs1, e', h1, h2, h3⟩ := own_lst o
            cases e'
            cases rs
            exact ⟨xs1, h1, (fun z => by cases z), (fun z => by cases z), fun _ => ⟨rfl, wr .nil (by rw [h1]; simp) h2 rfl _ .non⟩⟩
      split at p1
      · rename_i d he
        obtain ⟨v, ev, r⟩ := S1.slot i _ he
        rw [hsl] at ev
        cases ev
        exact go d D.own (.inl rfl) he r p1
      · rename_i d he
        obtain ⟨v, ev, r⟩ := S1.slot i _ he
        rw [hsl] at ev
        cases ev
        exact go d D.brw (.inr rfl) he r p1
      · exact p1.elim
    cases m with
    | append =>
      match ys, har with
      | [y], _ =>
        have hst := starCons (es := []) (env := X.env) (hns y (by simp))
        have hpl := noStar_any (pos := pos) (env := X.env) (es := []) (by simp)
        refine wE.of (pe_bm PySem.F.plainAttrs_list PySem.F.slot_list_append PySem.F.type_list_append mt_append pname paW rfl (by rw [hst]; rfl) hl hst hpl) ⟨_, hsl, hty, ?_⟩
        refine stepA ha hX hT ca S nt p (e2 := true) (Bool.or_true _) fun ds e1 vs H1 ω1 S1 c1 n1 r1 p1 => ?_
        obtain ⟨xs1, h1, h2, _, _⟩ := fin ds e1 vs H1 ω1 S1 n1 (r1.reps hB) p1
        obtain ⟨v, rfl, h3, h4⟩ := h2 rfl
        exact ⟨a, xs1, v, rfl, rfl, h1, h3, h4⟩
    | pop =>
      match ys, har with
      | [], _ =>
        refine wE.of (pe_bm0 PySem.F.plainAttrs_list PySem.F.slot_list_pop PySem.F.type_list_pop mt_pop pname rfl hl) ⟨_, hsl, hty, ?_⟩
        cases as <;> first | exact absurd ca Bool.false_ne_true | skip
        obtain ⟨xs1, h1, _, h2, _⟩ := fin [] env [] H ω S nt .nil p
        obtain ⟨_, y, h3, h4⟩ := h2 rfl
        exact ⟨a, xs1, y, rfl, rfl, h1, h3, h4⟩
    | clear =>
      match ys, har with
      | [], _ =>
        refine wE.of (pe_bm0 PySem.F.plainAttrs_list PySem.F.slot_list_clear PySem.F.type_list_clear mt_clear pname rfl hl) ⟨_, hsl, hty, ?_⟩
        cases as <;> first | exact absurd ca Bool.false_ne_true | skip
        obtain ⟨xs1, h1, _, _, h2⟩ := fin [] env [] H ω S nt .nil p
        exact ⟨a, xs1, rfl, rfl, h1, (h2 rfl).2⟩
  · rw [if_neg hown] at p; exact p.elim
end
end Q9

set_option Elab.async false
set_option linter.all false
set_option maxRecDepth 100000
namespace Q9
open PySem PySem.Spec L2

/-! ## places of borrowed slots -/
theorem okB_noS : ∀ {as : IE}, as.okB = true → as.noS = true
  | .nil, _ => rfl
  | .cons h t, e => by
    have e : (_ && t.okB) = true := e
    rw [Bool.and_eq_true] at e
    exact okB_noS (as := t) e.2
  | .star _ _, e => absurd e Bool.false_ne_true
  | .unk, e | .con _, e | .gl _ _, e | .var _, e | .tupE _, e | .lstE _, e | .bin _ _ _, e | .cmp _ _ _, e | .chain _ _ _ _ _, e | .chain3 _ _ _ _ _ _ _, e | .not _, e | .neg _, e | .and _ _, e | .or _ _, e | .ite _ _ _, e | .idx _ _, e | .slc _ _ _, e | .rev _, e | .bi _ _, e | .bm _ _ _, e
  | .mm _ _ _, e | .call _ _, e | .aB _, e | .aP _, e | .rng1 _, e | .rng2 _ _, e | .isi _ _, e | .enm _, e | .lrng _ _, e | .lc _ _ _ _ _, e => absurd e Bool.false_ne_true
theorem chkA_len {T : Tab} {N : List Str} : ∀ {as : IE} {sc : Scope} {es : List Expr}, chkA T N as sc es = true → as.okB = true → es.length = as.len
  | .nil, sc, es, h, _ => by
    have h : es.isEmpty = true := h
    cases es with
    | nil => rfl
    | cons e es => exact absurd h (by simp)
  | .cons a t, sc, es, h, hs => by
    obtain ⟨e, es', rfl, _, _, ct⟩ := chkA_cons h
    have hs : (_ && t.okB) = true := hs
    rw [Bool.and_eq_true] at hs
    show es'.length + 1 = t.len + 1
    rw [chkA_len ct hs.2]
  | .star _ _, _, _, _, e => absurd e Bool.false_ne_true
  | .unk, _, _, _, e | .con _, _, _, _, e | .gl _ _, _, _, _, e | .var _, _, _, _, e | .tupE _, _, _, _, e | .lstE _, _, _, _, e | .bin _ _ _, _, _, _, e | .cmp _ _ _, _, _, _, e | .chain _ _ _ _ _, _, _, _, e | .chain3 _ _ _ _ _ _ _, _, _, _, e | .not _, _, _, _, e | .neg _, _, _, _, e | .and _ _, _, _, _, e | .or _ _, _, _, _, e
  | .ite _ _ _, _, _, _, e | .idx _ _, _, _, _, e | .slc _ _ _, _, _, _, e | .rev _, _, _, _, e | .bi _ _, _, _, _, e | .bm _ _ _, _, _, _, e
  | .mm _ _ _, _, _, _, e | .call _ _, _, _, _, e | .aB _, _, _, _, e | .aP _, _, _, _, e | .rng1 _, _, _, _, e | .rng2 _ _, _, _, _, e | .isi _ _, _, _, _, e | .enm _, _, _, _, e | .lrng _ _, _, _, _, e | .lc _ _ _ _ _, _, _, _, e => absurd e Bool.false_ne_true
theorem RA.len {C : Ct} {K : PySem.W.Frag} {σ : L2.St} {ω : Om} {H : Hp} {as : IE} {vs : List V} {ds : List D} (r : RA C K σ ω H as vs ds) (h : as.okB = true) : vs.length = as.len := by
  induction r with
  | nil => rfl
  | brw _ _ ih => have h : (_ && _) = true := h; rw [Bool.and_eq_true] at h; simp [IE.len, ih h.2]
  | pk _ _ ih => have h : (_ && _) = true := h; rw [Bool.and_eq_true] at h; simp [IE.len, ih h.2]
  | cons _ _ _ ih => have h : (_ && _) = true := h; rw [Bool.and_eq_true] at h; simp [IE.len, ih h.2]
  | star _ _ _ => exact absurd h Bool.false_ne_true

theorem posB_cons {h t : IE} {i j : Nat} : posB (.cons h t) i j = (match h with | .aB k => if k = i then some j else posB t i (j + 1) | _ => posB t i (j + 1)) := rfl
theorem posB_ge : ∀ {as : IE} {i j m : Nat}, posB as i j = some m → j ≤ m
  | .cons h t, i, j, m, e => by
    rw [posB_cons] at e
    split at e
    · split at e
      · simp only [Option.some.injEq] at e; omega
      · have := posB_ge e; omega
    · have := posB_ge e; omega
  | .nil, _, _, _, e | .star _ _, _, _, _, e => nomatch e
  | .unk, _, _, _, e | .con _, _, _, _, e | .gl _ _, _, _, _, e | .var _, _, _, _, e | .tupE _, _, _, _, e | .lstE _, _, _, _, e | .bin _ _ _, _, _, _, e | .cmp _ _ _, _, _, _, e | .chain _ _ _ _ _, _, _, _, e | .chain3 _ _ _ _ _ _ _, _, _, _, e | .not _, _, _, _, e | .neg _, _, _, _, e | .and _ _, _, _, _, e | .or _ _, _, _, _, e
  | .ite _ _ _, _, _, _, e | .idx _ _, _, _, _, e | .slc _ _ _, _, _, _, e | .rev _, _, _, _, e | .bi _ _, _, _, _, e | .bm _ _ _, _, _, _, e
  | .mm _ _ _, _, _, _, e | .call _ _, _, _, _, e | .aB _, _, _, _, e | .aP _, _, _, _, e | .rng1 _, _, _, _, e | .rng2 _ _, _, _, _, e | .isi _ _, _, _, _, e | .enm _, _, _, _, e | .lrng _ _, _, _, _, e | .lc _ _ _ _ _, _, _, _, e => nomatch e
theorem posB_none {t : IE} {k j : Nat} (h : posB t k 0 = none) : posB t k j = none := by
  have sh : ∀ (t : IE) (i j : Nat), (posB t i j).isNone = (posB t i (j + 1)).isNone := by
    intro t
    induction t <;> intro i j <;> try rfl
    rename_i h t ih1 ih2
    rw [posB_cons, posB_cons]
    split
    · split
      · rfl
      · exact ih2 i (j + 1)
    · exact ih2 i (j + 1)
  have all : ∀ j, (posB t k j).isNone = true := by
    intro j
    induction j with
    | zero => rw [h]; rfl
    | succ j ih => rw [← sh]; exact ih
  simpa using all j
/-- the two ways of telling a place agree -/
theorem at_pos : ∀ {as : IE}, as.okB = true → ∀ {i j m : Nat}, posB as i j = some m → atB as (m - j) = some i
  | .cons h t, hok, i, j, m, e => by
    have hok : (_ && t.okB) = true := hok
    rw [Bool.and_eq_true] at hok
    rw [posB_cons] at e
    have tl : posB t i (j + 1) = some m → atB (.cons h t) (m - j) = some i := by
      intro e
      have g := posB_ge e
      have := at_pos hok.2 e
      rw [show m - j = (m - (j + 1)) + 1 by omega]
      exact this
    split at e
    · split at e
      · rename_i k hk
        simp only [Option.some.injEq] at e
        subst e hk
        rw [Nat.sub_self]
        rfl
      · exact tl e
    · exact tl e
  | .nil, _, _, _, _, e | .star _ _, _, _, _, _, e => nomatch e
  | .unk, _, _, _, _, e | .con _, _, _, _, _, e | .gl _ _, _, _, _, _, e | .var _, _, _, _, _, e | .tupE _, _, _, _, _, e | .lstE _, _, _, _, _, e | .bin _ _ _, _, _, _, _, e | .cmp _ _ _, _, _, _, _, e | .chain _ _ _ _ _, _, _, _, _, e | .chain3 _ _ _ _ _ _ _, _, _, _, _, e | .not _, _, _, _, _, e | .neg _, _, _, _, _, e | .and _ _, _, _, _, _, e | .or _ _, _, _, _, _, e
  | .ite _ _ _, _, _, _, _, e | .idx _ _, _, _, _, _, e | .slc _ _ _, _, _, _, _, e | .rev _, _, _, _, _, e | .bi _ _, _, _, _, _, e | .bm _ _ _, _, _, _, _, e
  | .mm _ _ _, _, _, _, _, e | .call _ _, _, _, _, _, e | .aB _, _, _, _, _, e | .aP _, _, _, _, _, e | .rng1 _, _, _, _, _, e | .rng2 _ _, _, _, _, _, e | .isi _ _, _, _, _, _, e | .enm _, _, _, _, _, e | .lrng _ _, _, _, _, _, e | .lc _ _ _ _ _, _, _, _, _, e => nomatch e
theorem pos_at : ∀ {as : IE}, as.okB = true → ∀ {i j m : Nat}, atB as m = some i → posB as i j = some (m + j)
  | .cons h t, hok, i, j, m, e => by
    have hok : ((match (generalizing := false) h with | .aB k => (posB t k 0).isNone && !pkB t k | .aP k => (posB t k 0).isNone | _ => true) && t.okB) = true := hok
    rw [Bool.and_eq_true] at hok
    rw [posB_cons]
    cases m with
    | zero =>
      cases h <;> first | exact absurd (show (none : Option Nat) = some i from e) (by simp) | skip
      have e : some _ = some i := e
      simp only [Option.some.injEq] at e
      subst e
      simp
    | succ m =>
      have e : atB t m = some i := e
      have ih := pos_at hok.2 (j := j + 1) e
      rw [show m + 1 + j = m + (j + 1) by omega, ← ih]
      split
      · rename_i k
        split
        · rename_i hk
          subst hk
          have h1 := hok.1
          simp only [Bool.and_eq_true, Option.isNone_iff_eq_none] at h1
          rw [posB_none h1.1] at ih
          cases ih
        · rfl
      · rfl
  | .nil, _, _, _, _, e | .star _ _, _, _, _, _, e => nomatch e
  | .unk, _, _, _, _, e | .con _, _, _, _, _, e | .gl _ _, _, _, _, _, e | .var _, _, _, _, _, e | .tupE _, _, _, _, _, e | .lstE _, _, _, _, _, e | .bin _ _ _, _, _, _, _, e | .cmp _ _ _, _, _, _, _, e | .chain _ _ _ _ _, _, _, _, _, e | .chain3 _ _ _ _ _ _ _, _, _, _, _, e | .not _, _, _, _, _, e | .neg _, _, _, _, _, e | .and _ _, _, _, _, _, e | .or _ _, _, _, _, _, e
  | .ite _ _ _, _, _, _, _, e | .idx _ _, _, _, _, _, e | .slc _ _ _, _, _, _, _, e | .rev _, _, _, _, _, e | .bi _ _, _, _, _, _, e | .bm _ _ _, _, _, _, _, e
  | .mm _ _ _, _, _, _, _, e | .call _ _, _, _, _, _, e | .aB _, _, _, _, _, e | .aP _, _, _, _, _, e | .rng1 _, _, _, _, _, e | .rng2 _ _, _, _, _, _, e | .isi _ _, _, _, _, _, e | .enm _, _, _, _, _, e | .lrng _ _, _, _, _, _, e | .lc _ _ _ _ _, _, _, _, _, e => nomatch e

/-! ## what the callee sees -/
def calleeO (as : IE) (ω : Om) : Om := fun a => match ω a with
  | none => none
  | some (i, p) => match posB as i 0 with
    | some j => some (j, p)
    | none => if pkB as i then none else some (FO, p)
theorem calleeO_none {as : IE} {ω : Om} {a : Addr} (h : ω a = none) : calleeO as ω a = none := by unfold calleeO; rw [h]
theorem calleeO_pos {as : IE} {ω : Om} {a : Addr} {i j : Nat} {p : Option Nat} (h : ω a = some (i, p)) (hp : posB as i 0 = some j) : calleeO as ω a = some (j, p) := by unfold calleeO; rw [h]; simp only; rw [hp]
theorem calleeO_pk {as : IE} {ω : Om} {a : Addr} {i : Nat} {p : Option Nat} (h : ω a = some (i, p)) (hp : posB as i 0 = none) (hk : pkB as i = true) : calleeO as ω a = none := by unfold calleeO; rw [h]; simp only; rw [hp]; simp only; rw [if_pos hk]
theorem calleeO_far {as : IE} {ω : Om} {a : Addr} {i : Nat} {p : Option Nat} (h : ω a = some (i, p)) (hp : posB as i 0 = none) (hk : pkB as i = false) : calleeO as ω a = some (FO, p) := by unfold calleeO; rw [h]; simp only; rw [hp]; simp only; rw [if_neg (by rw [hk]; simp)]
theorem calleeO_some {as : IE} {ω : Om} {a : Addr} {j : Nat} {p : Option Nat} (h : calleeO as ω a = some (j, p)) : ∃ i, ω a = some (i, p) ∧ (posB as i 0 = some j ∨ (posB as i 0 = none ∧ pkB as i = false ∧ j = FO)) := by
  unfold calleeO at h
  cases q : ω a with
  | none => rw [q] at h; cases h
  | some z =>
    obtain ⟨i, r⟩ := z
    rw [q] at h
    simp only at h
    cases hp : posB as i 0 with
    | some j' => rw [hp] at h; simp only [Option.some.injEq, Prod.mk.injEq] at h; exact ⟨i, by rw [h.2], .inl (by rw [hp, h.1])⟩
    | none =>
      rw [hp] at h
      simp only at h
      by_cases hk : pkB as i = true
      · rw [if_pos hk] at h; cases h
      · rw [if_neg hk] at h
        simp only [Option.some.injEq, Prod.mk.injEq] at h
        exact ⟨i, by rw [h.2], .inr ⟨hp, by simpa using hk, h.1.symm⟩⟩

/-- what a resolved argument list tells of the slots -/
theorem resA_len : ∀ {as : IE} {ds : List D} {e : Env} {args : List D}, resA as ds e = some args → args.length = ds.length ∧ ds.length = as.len
  | .nil, [], _, _, h => by
    have h : some [] = some _ := h
    simp only [Option.some.injEq] at h
    subst h
    exact ⟨rfl, rfl⟩
  | .nil, _ :: _, _, _, h => nomatch h
  | .cons a t, [], e, args, h => by cases a <;> exact nomatch h
  | .cons a t, d :: ds, e, args, h => by
    have key : ∃ d' r, args = d' :: r ∧ resA t ds e = some r := by
      cases a <;> first
        | (have h : (match (generalizing := false) resA t ds e with | some r => some (d :: r) | none => none) = some args := h
           cases hr : resA t ds e with
           | none => rw [hr] at h; cases h
           | some r => rw [hr] at h; simp only [Option.some.injEq] at h; exact ⟨_, r, h.symm, rfl⟩)
        | skip
      · rename_i i
        have h : (match (generalizing := false) e[i]?, resA t ds e with
          | some (some (.own d)), some r => some (D.brw d :: r)
          | some (some (.brw d)), some r => some (.brw d :: r)
          | _, _ => none) = some args := h
        split at h <;> first | (simp only [Option.some.injEq] at h; exact ⟨_, _, h.symm, by assumption⟩) | cases h
      · rename_i i
        have h : (match (generalizing := false) e[i]?, resA t ds e with
          | some (some d), some r => some (D.un d :: r)
          | _, _ => none) = some args := h
        split at h <;> first | (simp only [Option.some.injEq] at h; exact ⟨_, _, h.symm, by assumption⟩) | cases h
    obtain ⟨d', r, rfl, hr⟩ := key
    obtain ⟨h1, h2⟩ := resA_len hr
    exact ⟨by simp [h1], by simp [IE.len, h2]⟩
  | .unk, _, _, _, h | .con _, _, _, _, h | .gl _ _, _, _, _, h | .var _, _, _, _, h | .tupE _, _, _, _, h | .lstE _, _, _, _, h | .bin _ _ _, _, _, _, h | .cmp _ _ _, _, _, _, h | .chain _ _ _ _ _, _, _, _, h | .chain3 _ _ _ _ _ _ _, _, _, _, h | .not _, _, _, _, h | .neg _, _, _, _, h | .and _ _, _, _, _, h | .or _ _, _, _, _, h
  | .ite _ _ _, _, _, _, h | .idx _ _, _, _, _, h | .slc _ _ _, _, _, _, h | .rev _, _, _, _, h | .bi _ _, _, _, _, h | .bm _ _ _, _, _, _, h | .star _ _, _, _, _, h
  | .mm _ _ _, _, _, _, h | .call _ _, _, _, _, h | .aB _, _, _, _, h | .aP _, _, _, _, h | .rng1 _, _, _, _, h | .rng2 _ _, _, _, _, h | .isi _ _, _, _, _, h | .enm _, _, _, _, h | .lrng _ _, _, _, _, h | .lc _ _ _ _ _, _, _, _, h => nomatch h
end Q9

set_option Elab.async false
set_option linter.all false
set_option maxRecDepth 100000
namespace Q9
open PySem PySem.Spec L2

/-- the slot at a borrowed place is a slot of the frame -/
theorem resA_pos : ∀ {as : IE} {ds : List D} {e : Env} {args : List D} {m i : Nat}, resA as ds e = some args → atB as m = some i → ∃ d, (e[i]? = some (some (.own d)) ∨ e[i]? = some (some (.brw d))) ∧ args[m]? = some (.brw d)
  | .cons a t, [], e, args, m, i, h, _ => by cases a <;> exact nomatch h
  | .cons a t, d :: ds, e, args, m, i, h, hm => by
    have key : ∃ d' r, args = d' :: r ∧ resA t ds e = some r ∧ (m = 0 → ∃ d, (e[i]? = some (some (.own d)) ∨ e[i]? = some (some (.brw d))) ∧ d' = .brw d) := by
      cases a <;> first
        | (have h : (match (generalizing := false) resA t ds e with | some r => some (d :: r) | none => none) = some args := h
           cases hr : resA t ds e with
           | none => rw [hr] at h; cases h
           | some r =>
             rw [hr] at h; simp only [Option.some.injEq] at h
             exact ⟨_, r, h.symm, rfl, fun z => by subst z; exact nomatch hm⟩)
        | skip
      · rename_i k
        have h : (match (generalizing := false) e[k]?, resA t ds e with
          | some (some (.own d)), some r => some (D.brw d :: r)
          | some (some (.brw d)), some r => some (.brw d :: r)
          | _, _ => none) = some args := h
        have hk : m = 0 → k = i := fun z => by subst z; have hm : some k = some i := hm; exact Option.some.inj hm
        split at h <;> first | cases h | skip
        all_goals
          refine ⟨_, _, rfl, by assumption, fun z => ?_⟩
          have := hk z
          subst this
          exact ⟨_, by first | exact .inl (by assumption) | exact .inr (by assumption), rfl⟩
      · rename_i k
        have h : (match (generalizing := false) e[k]?, resA t ds e with
          | some (some d), some r => some (D.un d :: r)
          | _, _ => none) = some args := h
        split at h <;> first | cases h | skip
        exact ⟨_, _, rfl, by assumption, fun z => by subst z; exact nomatch hm⟩
    obtain ⟨d', r, rfl, hr, h0⟩ := key
    cases m with
    | zero => obtain ⟨d0, h1, h2⟩ := h0 rfl; exact ⟨d0, h1, by rw [h2]; rfl⟩
    | succ m =>
      obtain ⟨d0, h1, h2⟩ := resA_pos (m := m) hr hm
      exact ⟨d0, h1, by simpa using h2⟩
  | .nil, _, _, _, _, _, _, h | .star _ _, _, _, _, _, _, _, h => nomatch h
  | .unk, _, _, _, _, _, _, h | .con _, _, _, _, _, _, _, h | .gl _ _, _, _, _, _, _, _, h | .var _, _, _, _, _, _, _, h | .tupE _, _, _, _, _, _, _, h | .lstE _, _, _, _, _, _, _, h | .bin _ _ _, _, _, _, _, _, _, h | .cmp _ _ _, _, _, _, _, _, _, h | .chain _ _ _ _ _, _, _, _, _, _, _, h
  | .chain3 _ _ _ _ _ _ _, _, _, _, _, _, _, h
  | .not _, _, _, _, _, _, _, h | .neg _, _, _, _, _, _, _, h | .and _ _, _, _, _, _, _, _, h | .or _ _, _, _, _, _, _, _, h | .ite _ _ _, _, _, _, _, _, _, h | .idx _ _, _, _, _, _, _, _, h | .slc _ _ _, _, _, _, _, _, _, h | .rev _, _, _, _, _, _, _, h | .bi _ _, _, _, _, _, _, _, h
  | .bm _ _ _, _, _, _, _, _, _, h | .mm _ _ _, _, _, _, _, _, _, h | .call _ _, _, _, _, _, _, _, h | .aB _, _, _, _, _, _, _, h | .aP _, _, _, _, _, _, _, h | .rng1 _, _, _, _, _, _, _, h | .rng2 _ _, _, _, _, _, _, _, h | .isi _ _, _, _, _, _, _, _, h | .enm _, _, _, _, _, _, _, h | .lrng _ _, _, _, _, _, _, _, h | .lc _ _ _ _ _, _, _, _, _, _, _, h => nomatch h
theorem resA_pk : ∀ {as : IE} {ds : List D} {e : Env} {args : List D} {i : Nat}, resA as ds e = some args → pkB as i = true → ∃ d, e[i]? = some (some d)
  | .cons a t, [], e, args, i, h, _ => by cases a <;> exact nomatch h
  | .cons a t, d :: ds, e, args, i, h, hm => by
    have hm : ((match (generalizing := false) a with | .aP k => decide (k = i) | _ => false) || pkB t i) = true := hm
    rw [Bool.or_eq_true] at hm
    have tl : ∃ r, resA t ds e = some r := by
      cases hr : resA t ds e with
      | some r => exact ⟨r, rfl⟩
      | none =>
        exfalso
        cases a <;> first
          | (have h : (match (generalizing := false) resA t ds e with | some r => some (d :: r) | none => none) = some args := h
             rw [hr] at h; cases h)
          | skip
        · rename_i k _
          have h : (match (generalizing := false) e[k]?, resA t ds e with
            | some (some (.own d)), some r => some (D.brw d :: r)
            | some (some (.brw d)), some r => some (.brw d :: r)
            | _, _ => none) = some args := h
          rw [hr] at h
          split at h <;> contradiction
        · rename_i k _
          have h : (match (generalizing := false) e[k]?, resA t ds e with
            | some (some d), some r => some (D.un d :: r)
            | _, _ => none) = some args := h
          rw [hr] at h
          split at h <;> contradiction
    obtain ⟨r, hr⟩ := tl
    rcases hm with hm | hm
    · cases a <;> first | exact absurd hm Bool.false_ne_true | skip
      rename_i k _
      have hk : k = i := of_decide_eq_true hm
      subst hk
      have h : (match (generalizing := false) e[k]?, resA t ds e with
        | some (some d), some r => some (D.un d :: r)
        | _, _ => none) = some args := h
      split at h <;> first | cases h | skip
      exact ⟨_, by assumption⟩
    · exact resA_pk hr hm
  | .nil, _, _, _, _, _, h | .star _ _, _, _, _, _, _, h => nomatch h
  | .unk, _, _, _, _, _, h | .con _, _, _, _, _, _, h | .gl _ _, _, _, _, _, _, h | .var _, _, _, _, _, _, h | .tupE _, _, _, _, _, _, h | .lstE _, _, _, _, _, _, h | .bin _ _ _, _, _, _, _, _, h | .cmp _ _ _, _, _, _, _, _, h | .chain _ _ _ _ _, _, _, _, _, _, h
  | .chain3 _ _ _ _ _ _ _, _, _, _, _, _, h
  | .not _, _, _, _, _, _, h | .neg _, _, _, _, _, _, h | .and _ _, _, _, _, _, _, h | .or _ _, _, _, _, _, _, h | .ite _ _ _, _, _, _, _, _, h | .idx _ _, _, _, _, _, _, h | .slc _ _ _, _, _, _, _, _, h | .rev _, _, _, _, _, _, h | .bi _ _, _, _, _, _, _, h
  | .bm _ _ _, _, _, _, _, _, h | .mm _ _ _, _, _, _, _, _, h | .call _ _, _, _, _, _, _, h | .aB _, _, _, _, _, _, h | .aP _, _, _, _, _, _, h | .rng1 _, _, _, _, _, _, h | .rng2 _ _, _, _, _, _, _, h | .isi _ _, _, _, _, _, _, h | .enm _, _, _, _, _, _, h | .lrng _ _, _, _, _, _, _, h | .lc _ _ _ _ _, _, _, _, _, _, h => nomatch h

section
variable {C : Ct} {K : PySem.W.Frag} {ω : Om} {env : Env} {σ : L2.St} {H : Hp}
theorem sim_lt (S : Sim C K ω env σ H) {i : Nat} {d : Option D} (h : env[i]? = some d) : i < env.length ∧ i ≠ FO := by
  have hl : i < env.length := (List.getElem?_eq_some_iff.mp h).1
  have := S.sz
  exact ⟨hl, by omega⟩
/-- a slot's content, frozen: what a peeking callee sees -/
theorem slot_un {i : Nat} {d : D} {v : V} (hi : i ≠ FO) (r : SlotR C K ω H i v d) : Rep C K (strike ω i) H v (D.un d) := by
  cases d with
  | own d => exact (OwnR.freeze hi r).1
  | brw d =>
    obtain ⟨h1, h2⟩ := OwnR.freeze hi r
    rw [h2]
    exact h1
  | _ => exact Rep.mono (Chg.strike hi) (by first | exact r)

/-- the callee's view is a view -/
theorem callee_chg {as : IE} {ds : List D} {args : List D} (S : Sim C K ω env σ H) (hok : as.okB = true) (hr : resA as ds env = some args) : Chg true ω H (calleeO as ω) H := by
  refine ⟨fun _ _ h _ => h, fun _ _ q => calleeO_none q, fun _ h => h, fun a p e => ⟨?_, fun _ q => q⟩⟩
  have h1 : posB as FO 0 = none := by
    cases hp : posB as FO 0 with
    | none => rfl
    | some m =>
      have := at_pos hok hp
      obtain ⟨d, h1, _⟩ := resA_pos hr this
      rcases h1 with h1 | h1 <;> exact absurd rfl (sim_lt S h1).2
  have h2 : pkB as FO = false := by
    cases hk : pkB as FO with
    | false => rfl
    | true =>
      obtain ⟨d, h1⟩ := resA_pk hr hk
      exact absurd rfl (sim_lt S h1).2
  exact calleeO_far e h1 h2

set_option maxHeartbeats 0 in
theorem args_ok {as0 : IE} (S : Sim C K ω env σ H) (c0 : Chg true ω H (calleeO as0 ω) H) : ∀ {as : IE} {ds args : List D} {vs : List V} {j : Nat}, as.okB = true → RA C K σ ω H as vs ds → resA as ds env = some args →
    (∀ i m, posB as i j = some m → posB as0 i 0 = some m) → (∀ i, pkB as i = true → pkB as0 i = true ∧ posB as0 i 0 = none) → ArgsR C K (calleeO as0 ω) H j vs args
  | .nil, _, args, _, j, hok, .nil, hr, _, _ => by
    have hr : some [] = some args := hr
    cases hr
    exact .nil
  | .cons (.aB i) t, d :: ds, args, v :: vs, j, hok, .brw hv r, hr, h1, h2 => by
    have hok' : (((posB t i 0).isNone && !pkB t i) && t.okB) = true := hok
    simp only [Bool.and_eq_true, Option.isNone_iff_eq_none, Bool.not_eq_true'] at hok'
    have hr : (match (generalizing := false) env[i]?, resA t ds env with
      | some (some (.own d)), some r => some (D.brw d :: r)
      | some (some (.brw d)), some r => some (.brw d :: r)
      | _, _ => none) = some args := hr
    have hp : posB as0 i 0 = some j := h1 i j (by rw [posB_cons]; simp)
    have tl : ∀ rest, resA t ds env = some rest → ArgsR C K (calleeO as0 ω) H (j + 1) vs rest := fun rest hrest => by
      refine args_ok S c0 hok'.2 r hrest (fun i' m e => h1 i' m ?_) (fun i' e => h2 i' ?_)
      · rw [posB_cons]
        simp only
        split
        · rename_i z; subst z; rw [posB_none hok'.1.1] at e; cases e
        · exact e
      · show (_ || pkB t i') = true
        rw [e, Bool.or_true]
    have hd : ∀ d0, OwnR C K ω H i v d0 → OwnR C K (calleeO as0 ω) H j v d0 := fun d0 o => o.re c0.fz fun a q o w e => ⟨e, calleeO_pos w hp⟩
    split at hr <;> first | cases hr | skip
    · rename_i d0 rest he hrest
      obtain ⟨v', ev, rr⟩ := S.slot i _ he
      rw [hv] at ev; cases ev
      exact .brw (hd _ rr) (tl _ hrest)
    · rename_i d0 rest he hrest
      obtain ⟨v', ev, rr⟩ := S.slot i _ he
      rw [hv] at ev; cases ev
      exact .brw (hd _ rr) (tl _ hrest)
  | .cons (.aP i) t, d :: ds, args, v :: vs, j, hok, .pk hv r, hr, h1, h2 => by
    have hok' : ((posB t i 0).isNone && t.okB) = true := hok
    simp only [Bool.and_eq_true, Option.isNone_iff_eq_none] at hok'
    have hr : (match (generalizing := false) env[i]?, resA t ds env with
      | some (some d), some r => some (D.un d :: r)
      | _, _ => none) = some args := hr
    obtain ⟨k1, k2⟩ := h2 i (by show (decide (i = i) || _) = true; simp)
    have tl : ∀ rest, resA t ds env = some rest → ArgsR C K (calleeO as0 ω) H (j + 1) vs rest := fun rest hrest => by
      refine args_ok S c0 hok'.2 r hrest (fun i' m e => h1 i' m ?_) (fun i' e => h2 i' ?_)
      · rw [posB_cons]; exact e
      · show (_ || pkB t i') = true
        rw [e, Bool.or_true]
    split at hr <;> first | cases hr | skip
    rename_i d0 rest he hrest
    obtain ⟨v', ev, rr⟩ := S.slot i _ he
    rw [hv] at ev; cases ev
    have hi := (sim_lt S he).2
    refine .rep ((slot_un hi rr).fz ⟨fun _ _ h _ => h, fun a hn hs => ?_⟩) (tl _ hrest)
    cases q : ω a with
    | none => exact calleeO_none q
    | some z =>
      obtain ⟨i', p⟩ := z
      by_cases z : i' = i
      · subst z; exact calleeO_pk q k2 k1
      · rw [strike_ne q z] at hs; cases hs
  | .cons h t, d :: ds, args, v :: vs, j, hok, .cons hB hrep r, hr, h1, h2 => by
    have hok' : t.okB = true := by
      have hok : (_ && t.okB) = true := hok
      rw [Bool.and_eq_true] at hok
      exact hok.2
    have key : ∃ rest, args = d :: rest ∧ resA t ds env = some rest := by
      cases h <;> first
        | exact absurd hB (fun z => Bool.false_ne_true z.symm)
        | (have hr : (match (generalizing := false) resA t ds env with | some r => some (d :: r) | none => none) = some args := hr
           cases hq : resA t ds env with
           | none => rw [hq] at hr; cases hr
           | some rest => rw [hq] at hr; simp only [Option.some.injEq] at hr; exact ⟨rest, hr.symm, rfl⟩)
    obtain ⟨rest, rfl, hrest⟩ := key
    refine .rep (hrep.mono c0) (args_ok S c0 hok' r hrest (fun i' m e => h1 i' m ?_) (fun i' e => h2 i' ?_))
    · rw [posB_cons]
      cases h <;> first | exact absurd hB (fun z => Bool.false_ne_true z.symm) | exact e
    · show (_ || pkB t i') = true
      rw [e, Bool.or_true]
  | .star _ _, _, _, _, _, hok, _, _, _, _ => absurd hok Bool.false_ne_true

/-- the slots behind a call -/
theorem wbA_at : ∀ {as : IE} {ps e e2 : Env}, as.okB = true → wbA as ps e = some e2 → e2.length = e.length ∧
    (∀ m i, atB as m = some i → ∃ d, ps[m]? = some (some (.brw d)) ∧ ((∃ d0, e[i]? = some (some (.own d0))) ∧ e2[i]? = some (some (.own d)) ∨ (∃ d0, e[i]? = some (some (.brw d0))) ∧ e2[i]? = some (some (.brw d)))) ∧
    (∀ i, (∀ m, atB as m ≠ some i) → e2[i]? = e[i]?)
  | .nil, ps, e, e2, _, h => by
    have h : some e = some e2 := h
    cases h
    exact ⟨rfl, fun m i z => absurd (show (none : Option Nat) = some i from z) (by simp), fun _ _ => rfl⟩
  | .cons a t, ps, e, e2, hok, h => by
    have hok' : ((match (generalizing := false) a with | .aB k => (posB t k 0).isNone && !pkB t k | .aP k => (posB t k 0).isNone | _ => true) && t.okB) = true := hok
    rw [Bool.and_eq_true] at hok'
    by_cases ha : ∃ i, a = .aB i
    · obtain ⟨i, rfl⟩ := ha
      have h1 := hok'.1
      simp only [Bool.and_eq_true, Option.isNone_iff_eq_none] at h1
      cases ps with
      | nil => exact nomatch h
      | cons p ps =>
        cases p with
        | none => exact nomatch h
        | some p =>
          cases p <;> first | exact absurd (show (none : Option Env) = some e2 from h) (by simp) | skip
          rename_i d
          have h : (match (generalizing := false) wbA t ps e with
            | some e1 => match e[i]? with
              | some (some (.own _)) => some (e1.set i (some (.own d)))
              | some (some (.brw _)) => some (e1.set i (some (.brw d)))
              | _ => none
            | none => none) = some e2 := h
          cases hw : wbA t ps e with
          | none => rw [hw] at h; cases h
          | some e1 =>
            rw [hw] at h
            simp only at h
            obtain ⟨l1, f1, g1⟩ := wbA_at hok'.2 hw
            have nat : ∀ m, atB t m ≠ some i := fun m z => by
              have := pos_at hok'.2 (j := 0) z
              rw [h1.1] at this; cases this
            have fin : ∀ nd : D, i < e.length → e2 = e1.set i (some nd) → ((∃ d0, e[i]? = some (some (.own d0))) ∧ nd = .own d ∨ (∃ d0, e[i]? = some (some (.brw d0))) ∧ nd = .brw d) → e2.length = e.length ∧
                (∀ m i', atB (.cons (.aB i) t) m = some i' → ∃ d', (some (D.brw d) :: ps)[m]? = some (some (.brw d')) ∧ ((∃ d0, e[i']? = some (some (.own d0))) ∧ e2[i']? = some (some (.own d')) ∨ (∃ d0, e[i']? = some (some (.brw d0))) ∧ e2[i']? = some (some (.brw d')))) ∧
                (∀ i', (∀ m, atB (.cons (.aB i) t) m ≠ some i') → e2[i']? = e[i']?) := by
              intro nd hl he hnd
              subst he
              have hl1 : i < e1.length := by omega
              refine ⟨by rw [List.length_set]; exact l1, fun m i' z => ?_, fun i' z => ?_⟩
              · cases m with
                | zero =>
                  have z : some i = some i' := z
                  cases z
                  refine ⟨d, rfl, ?_⟩
                  rw [List.getElem?_set_self hl1]
                  rcases hnd with ⟨q, rfl⟩ | ⟨q, rfl⟩
                  · exact .inl ⟨q, rfl⟩
                  · exact .inr ⟨q, rfl⟩
                | succ m =>
                  have z : atB t m = some i' := z
                  have ne : i ≠ i' := fun q => by subst q; exact nat m z
                  obtain ⟨d', q1, q2⟩ := f1 m i' z
                  refine ⟨d', by simpa using q1, ?_⟩
                  rw [List.getElem?_set_ne ne]
                  exact q2
              · have ne : i ≠ i' := fun q => by subst q; exact z 0 rfl
                rw [List.getElem?_set_ne ne]
                exact g1 i' fun m q => z (m + 1) q
            split at h <;> first | cases h | skip
            · rename_i q
              exact fin _ (List.getElem?_eq_some_iff.mp q).1 rfl (.inl ⟨⟨_, q⟩, rfl⟩)
            · rename_i q
              exact fin _ (List.getElem?_eq_some_iff.mp q).1 rfl (.inr ⟨⟨_, q⟩, rfl⟩)
    · have key : ∃ p ps', ps = p :: ps' ∧ wbA t ps' e = some e2 := by
        cases ps with
        | nil => cases a <;> first | exact nomatch h | exact absurd ⟨_, rfl⟩ ha
        | cons p ps => cases a <;> first | exact ⟨p, ps, rfl, h⟩ | exact absurd ⟨_, rfl⟩ ha
      obtain ⟨p, ps', rfl, hw⟩ := key
      obtain ⟨l1, f1, g1⟩ := wbA_at hok'.2 hw
      refine ⟨l1, fun m i z => ?_, fun i z => g1 i fun m q => z (m + 1) q⟩
      cases m with
      | zero => cases a <;> first | exact absurd (show (none : Option Nat) = some i from z) (by simp) | exact absurd ⟨_, rfl⟩ ha
      | succ m =>
        obtain ⟨d', q1, q2⟩ := f1 m i z
        exact ⟨d', by simpa using q1, q2⟩
  | .star _ _, _, _, _, hok, _ => absurd hok Bool.false_ne_true
  | .unk, _, _, _, e, _ | .con _, _, _, _, e, _ | .gl _ _, _, _, _, e, _ | .var _, _, _, _, e, _ | .tupE _, _, _, _, e, _ | .lstE _, _, _, _, e, _ | .bin _ _ _, _, _, _, e, _ | .cmp _ _ _, _, _, _, e, _ | .chain _ _ _ _ _, _, _, _, e, _ | .chain3 _ _ _ _ _ _ _, _, _, _, e, _ | .not _, _, _, _, e, _ | .neg _, _, _, _, e, _ | .and _ _, _, _, _, e, _ | .or _ _, _, _, _, e, _
  | .ite _ _ _, _, _, _, e, _ | .idx _ _, _, _, _, e, _ | .slc _ _ _, _, _, _, e, _ | .rev _, _, _, _, e, _ | .bi _ _, _, _, _, e, _ | .bm _ _ _, _, _, _, e, _
  | .mm _ _ _, _, _, _, e, _ | .call _ _, _, _, _, e, _ | .aB _, _, _, _, e, _ | .aP _, _, _, _, e, _ | .rng1 _, _, _, _, e, _ | .rng2 _ _, _, _, _, e, _ | .isi _ _, _, _, _, e, _ | .enm _, _, _, _, e, _ | .lrng _ _, _, _, _, e, _ | .lc _ _ _ _ _, _, _, _, e, _ => absurd e Bool.false_ne_true
end
end Q9

set_option Elab.async false
set_option linter.all false
set_option maxRecDepth 100000
namespace Q9
open PySem PySem.Spec L2

section
variable {C : Ct} {K : PySem.W.Frag} {ω ω' : Om} {env : Env} {σ : L2.St} {H H' : Hp}
/-- the caller's view behind a call; t: who owns what is handed back new -/
def callerO (as : IE) (ω ω' : Om) (n : Nat) (t : Option Nat) : Om := fun a => match ω' a with
  | some (j, p) => if j = FO then ω a else match atB as j with
    | some i => some (i, p)
    | none => if t = some j then some (n, p) else none
  | none => match ω a with
    | some (i, p) => if pkB as i then some (i, p) else none
    | none => none
mutual
theorem Rep.pl (h : ∀ a xs, Rd H a (.tup xs) → ω a = none → ω' a = none) : ∀ {v : V} {d : D}, d.plain = true → Rep C K ω H v d → Rep C K ω' H v d
  | _, _, _, .non => .non
  | _, _, _, .bl b => .bl b
  | _, _, _, .int i => .int i
  | _, _, _, .str x => .str x
  | _, _, p, .tup r rs => .tup ⟨r.1, h _ _ r.1 r.2⟩ (Reps.pl h (by simpa only [D.plain] using p) rs)
  | _, _, p, .tupK r rs => .tupK r (Reps.pl h (by simpa only [D.plain] using p) rs)
  | _, _, p, .lst r q rs => absurd p (by simp [D.plain])
  | _, _, p, .flk r rs => absurd p (by simp [D.plain])
  | _, _, p, .ins r q l rs => absurd p (by simp [D.plain])
theorem Reps.pl (h : ∀ a xs, Rd H a (.tup xs) → ω a = none → ω' a = none) : ∀ {v : List V} {d : List D}, D.plains d = true → Reps C K ω H v d → Reps C K ω' H v d
  | _, _, _, .nil => .nil
  | _, _, p, .cons r rs => by
    simp only [D.plains, Bool.and_eq_true] at p
    exact .cons (Rep.pl h p.1 r) (Reps.pl h p.2 rs)
end
theorem hasP_pk : ∀ {as : IE} {i : Nat}, as.hasP = false → as.okB = true → pkB as i = false
  | .nil, _, _, _ => rfl
  | .cons a t, i, h, hok => by
    have hok : (_ && t.okB) = true := hok
    rw [Bool.and_eq_true] at hok
    have ht : t.hasP = false := by cases a <;> first | exact h | exact absurd h (by simp [IE.hasP])
    show ((match (generalizing := false) a with | .aP k => decide (k = i) | _ => false) || pkB t i) = false
    rw [hasP_pk ht hok.2, Bool.or_false]
    cases a <;> first | rfl | exact absurd h (by simp [IE.hasP])
  | .star _ _, _, _, e => absurd e Bool.false_ne_true
  | .unk, _, _, e | .con _, _, _, e | .gl _ _, _, _, e | .var _, _, _, e | .tupE _, _, _, e | .lstE _, _, _, e | .bin _ _ _, _, _, e | .cmp _ _ _, _, _, e | .chain _ _ _ _ _, _, _, e | .chain3 _ _ _ _ _ _ _, _, _, e | .not _, _, _, e | .neg _, _, _, e | .and _ _, _, _, e | .or _ _, _, _, e
  | .ite _ _ _, _, _, e | .idx _ _, _, _, e | .slc _ _ _, _, _, e | .rev _, _, _, e | .bi _ _, _, _, e | .bm _ _ _, _, _, e
  | .mm _ _ _, _, _, e | .call _ _, _, _, e | .aB _, _, _, e | .aP _, _, _, e | .rng1 _, _, _, e | .rng2 _ _, _, _, e | .isi _ _, _, _, e | .enm _, _, _, e | .lrng _ _, _, _, e | .lc _ _ _ _ _, _, _, e => absurd e Bool.false_ne_true
theorem hasB_at : ∀ {as : IE} {m i : Nat}, as.hasB = false → as.okB = true → atB as m ≠ some i
  | .nil, _, _, _, _ => fun z => absurd (show (none : Option Nat) = some _ from z) (by simp)
  | .cons a t, m, i, h, hok => by
    have hok : (_ && t.okB) = true := hok
    rw [Bool.and_eq_true] at hok
    have h : ((match (generalizing := false) a with | .aB _ => true | _ => false) || t.hasB) = false := h
    rw [Bool.or_eq_false_iff] at h
    cases m with
    | zero => cases a <;> first | exact fun z => absurd (show (none : Option Nat) = some i from z) (by simp) | exact absurd h.1 (by simp)
    | succ m => exact hasB_at (as := t) h.2 hok.2
  | .star _ _, _, _, _, e => absurd e Bool.false_ne_true
  | .unk, _, _, _, e | .con _, _, _, _, e | .gl _ _, _, _, _, e | .var _, _, _, _, e | .tupE _, _, _, _, e | .lstE _, _, _, _, e | .bin _ _ _, _, _, _, e | .cmp _ _ _, _, _, _, e | .chain _ _ _ _ _, _, _, _, e | .chain3 _ _ _ _ _ _ _, _, _, _, e | .not _, _, _, _, e | .neg _, _, _, _, e | .and _ _, _, _, _, e | .or _ _, _, _, _, e
  | .ite _ _ _, _, _, _, e | .idx _ _, _, _, _, e | .slc _ _ _, _, _, _, e | .rev _, _, _, _, e | .bi _ _, _, _, _, e | .bm _ _ _, _, _, _, e
  | .mm _ _ _, _, _, _, e | .call _ _, _, _, _, e | .aB _, _, _, _, e | .aP _, _, _, _, e | .rng1 _, _, _, _, e | .rng2 _ _, _, _, _, e | .isi _ _, _, _, _, e | .enm _, _, _, _, e | .lrng _ _, _, _, _, e | .lc _ _ _ _ _, _, _, _, e => absurd e Bool.false_ne_true

theorem okB_pk : ∀ {as : IE} {i : Nat}, as.okB = true → pkB as i = true → posB as i 0 = none
  | .cons a t, i, hok, h => by
    have hok : ((match (generalizing := false) a with | .aB k => (posB t k 0).isNone && !pkB t k | .aP k => (posB t k 0).isNone | _ => true) && t.okB) = true := hok
    rw [Bool.and_eq_true] at hok
    have h : ((match (generalizing := false) a with | .aP k => decide (k = i) | _ => false) || pkB t i) = true := h
    rw [Bool.or_eq_true] at h
    rw [posB_cons]
    rcases h with h | h
    · cases a <;> first | exact absurd h Bool.false_ne_true | skip
      have hk := of_decide_eq_true h
      subst hk
      exact posB_none (by simpa using hok.1)
    · have ih := posB_none (j := 0 + 1) (okB_pk hok.2 h)
      cases a with
      | aB k =>
        show (if k = i then some 0 else posB t i (0 + 1)) = none
        have h1 := hok.1
        by_cases z : k = i
        · exfalso
          subst z
          have h1 : ((posB t k 0).isNone && !pkB t k) = true := h1
          rename_i h2
          rw [Bool.and_eq_true, h2] at h1
          exact Bool.false_ne_true h1.2
        · rw [if_neg z]; exact ih
      | _ => exact ih
  | .nil, _, _, h | .star _ _, _, _, h => nomatch h
  | .unk, _, _, h | .con _, _, _, h | .gl _ _, _, _, h | .var _, _, _, h | .tupE _, _, _, h | .lstE _, _, _, h | .bin _ _ _, _, _, h | .cmp _ _ _, _, _, h | .chain _ _ _ _ _, _, _, h | .chain3 _ _ _ _ _ _ _, _, _, h | .not _, _, _, h | .neg _, _, _, h | .and _ _, _, _, h | .or _ _, _, _, h
  | .ite _ _ _, _, _, h | .idx _ _, _, _, h | .slc _ _ _, _, _, h | .rev _, _, _, h | .bi _ _, _, _, h | .bm _ _ _, _, _, h
  | .mm _ _ _, _, _, h | .call _ _, _, _, h | .aB _, _, _, h | .aP _, _, _, h | .rng1 _, _, _, h | .rng2 _ _, _, _, h | .isi _ _, _, _, h | .enm _, _, _, h | .lrng _ _, _, _, h | .lc _ _ _ _ _, _, _, h => nomatch h
theorem atB_zero {a t : IE} (h : a.isB = false) : atB (.cons a t) 0 = none := by
  cases a <;> first | rfl | exact absurd h (fun z => Bool.false_ne_true (Eq.symm z))
theorem RA_at {as : IE} {vs : List V} {ds : List D} (r : RA C K σ ω H as vs ds) : ∀ {m i : Nat}, as.noS = true → atB as m = some i → ∃ v, vs[m]? = some v ∧ σ[i]? = some (some v) := by
  induction r with
  | nil => intro m i _ h; exact absurd (show (none : Option Nat) = some i from h) (by simp)
  | brw e _ ih =>
    intro m i hs h
    cases m with
    | zero => have h := Option.some.inj (show some _ = some i from h); subst h; exact ⟨_, rfl, e⟩
    | succ m => obtain ⟨v, h1, h2⟩ := ih (m := m) hs h; exact ⟨v, by simpa using h1, h2⟩
  | pk e _ ih =>
    intro m i hs h
    cases m with
    | zero => exact absurd (show (none : Option Nat) = some i from h) (by simp)
    | succ m => obtain ⟨v, h1, h2⟩ := ih (m := m) hs h; exact ⟨v, by simpa using h1, h2⟩
  | cons e _ _ ih =>
    intro m i hs h
    cases m with
    | zero => rw [atB_zero e] at h; exact absurd h (by simp)
    | succ m => obtain ⟨v, h1, h2⟩ := ih (m := m) hs h; exact ⟨v, by simpa using h1, h2⟩
  | star _ _ _ => intro m i hs h; exact absurd hs Bool.false_ne_true

theorem callerO_none {as : IE} {n : Nat} {t : Option Nat} {a : Addr} (h : ω' a = none) (h2 : ω a = none) : callerO as ω ω' n t a = none := by unfold callerO; rw [h]; simp only; rw [h2]
theorem callerO_pk {as : IE} {n i : Nat} {p : Option Nat} {t : Option Nat} {a : Addr} (h : ω' a = none) (h2 : ω a = some (i, p)) (hk : pkB as i = true) : callerO as ω ω' n t a = some (i, p) := by unfold callerO; rw [h]; simp only; rw [h2]; simp only; rw [if_pos hk]
theorem callerO_free {as : IE} {n i : Nat} {p : Option Nat} {t : Option Nat} {a : Addr} (h : ω' a = none) (h2 : ω a = some (i, p)) (hk : pkB as i = false) : callerO as ω ω' n t a = none := by unfold callerO; rw [h]; simp only; rw [h2]; simp only; rw [if_neg (by rw [hk]; simp)]
theorem callerO_far {as : IE} {n : Nat} {p : Option Nat} {t : Option Nat} {a : Addr} (h : ω' a = some (FO, p)) : callerO as ω ω' n t a = ω a := by unfold callerO; rw [h]; simp
theorem callerO_at {as : IE} {n i j : Nat} {p : Option Nat} {t : Option Nat} {a : Addr} (h : ω' a = some (j, p)) (hj : j ≠ FO) (ha : atB as j = some i) : callerO as ω ω' n t a = some (i, p) := by unfold callerO; rw [h]; simp only; rw [if_neg hj, ha]
theorem callerO_t {as : IE} {n j : Nat} {p : Option Nat} {t : Option Nat} {a : Addr} (h : ω' a = some (j, p)) (hj : j ≠ FO) (ha : atB as j = none) : callerO as ω ω' n t a = if t = some j then some (n, p) else none := by unfold callerO; rw [h]; simp only; rw [if_neg hj, ha]

/-- all that a caller wants to know behind a call -/
theorem behind {as : IE} {ds args : List D} {vs : List V} {ps e2 : Env} {t : Option Nat} (S : Sim C K ω env σ H) (nt : NoT ω env.length) (hok : as.okB = true) (hfo : as.len < FO) (hpb : (!as.hasP || !as.hasB) = true) (hra : RA C K σ ω H as vs ds) (hr : resA as ds env = some args)
    (c : Chg true (calleeO as ω) H ω' H') (bk : BackR C K ω' H' vs args ps) (tr : ∀ a i p, ω' a = some (i, p) → Mut (H' a)) (hw : wbA as ps env = some e2) (ht : ∀ k, t = some k → args.length ≤ k ∧ k ≠ FO ∧ as.hasP = false) :
    Sim C K (callerO as ω ω' env.length t) e2 σ H' ∧ Chg true ω H (callerO as ω ω' env.length t) H' ∧ (t = none → NoT (callerO as ω ω' env.length t) env.length) ∧
      (∀ v d, (as.hasP = false ∨ d.plain = true) → Rep C K ω' H' v d → Rep C K (callerO as ω ω' env.length t) H' v d) ∧
      (∀ v d k, t = some k → OwnR C K ω' H' k v d → OwnR C K (callerO as ω ω' env.length t) H' env.length v d) := by
  have c0 := callee_chg S hok hr
  obtain ⟨la, ld⟩ := resA_len hr
  have at_lt : ∀ m i, atB as m = some i → i < env.length ∧ m < args.length ∧ m ≠ FO := by
    intro m i h
    obtain ⟨d, h1, h2⟩ := resA_pos hr h
    have hi : i < env.length := by rcases h1 with h1 | h1 <;> exact (sim_lt S h1).1
    have hm : m < args.length := (List.getElem?_eq_some_iff.mp h2).1
    exact ⟨hi, hm, by omega⟩
  have ch : Chg true ω H (callerO as ω ω' env.length t) H' := by
    refine ⟨fun a o h q => ?_, fun a hn q => ?_, c.there, fun a p e => ?_⟩
    · rcases q with q | q
      · exact c.keep a o h (.inl (calleeO_none q))
      · cases q
    · exact callerO_none (c.free a hn (calleeO_none q)) q
    · obtain ⟨h1, h2⟩ := c.far a p (c0.far a p e).1
      exact ⟨by rw [callerO_far h1]; exact e, h2⟩
  -- a frozen thing of the callee's
  have fz : as.hasP = false → Fz ω' H' (callerO as ω ω' env.length t) H' := fun hp => ⟨fun _ _ h _ => h, fun a hn q => by
    cases q2 : ω a with
    | none => exact callerO_none q q2
    | some z => obtain ⟨i, p⟩ := z; exact callerO_free q q2 (hasP_pk hp hok)⟩
  have noP_of : ∀ m i, atB as m = some i → as.hasP = false := by
    intro m i h
    rw [Bool.or_eq_true, Bool.not_eq_true', Bool.not_eq_true'] at hpb
    rcases hpb with hpb | hpb
    · exact hpb
    · exact absurd h (hasB_at hpb hok)
  obtain ⟨wl, w1, w2⟩ := wbA_at hok hw
  refine ⟨⟨by rw [wl]; exact S.len, by rw [wl]; exact S.sz, fun a i p e => ?_, fun i d q => ?_⟩, ch, fun htn a p e => ?_, fun v d hpd r => ?_, fun v d k htk o => ?_⟩
  · rw [wl]
    cases q : ω' a with
    | some z =>
      obtain ⟨j, r⟩ := z
      have hm := tr a j r q
      by_cases hj : j = FO
      · subst hj
        rw [callerO_far q] at e
        exact ⟨(S.own a i p e).1, hm⟩
      · cases ha : atB as j with
        | some i' => rw [callerO_at q hj ha] at e; cases e; exact ⟨.inl (Nat.le_of_lt (at_lt _ _ ha).1), hm⟩
        | none =>
          rw [callerO_t q hj ha] at e
          split at e
          · cases e; exact ⟨.inl (Nat.le_refl _), hm⟩
          · cases e
    | none =>
      cases q2 : ω a with
      | none => rw [callerO_none q q2] at e; cases e
      | some z =>
        obtain ⟨i', p'⟩ := z
        by_cases hk : pkB as i' = true
        · rw [callerO_pk q q2 hk] at e
          cases e
          have hm := (S.own a i p q2).2
          exact ⟨(S.own a i p q2).1, mut_keep (fun o ho => c.keep a o ho (.inl (calleeO_pk q2 (okB_pk hok hk) hk))) hm⟩
        · rw [callerO_free q q2 (by simpa using hk)] at e; cases e
  · by_cases hm : ∃ m, atB as m = some i
    · obtain ⟨m, hm⟩ := hm
      obtain ⟨d1, hps, hsl⟩ := w1 m i hm
      obtain ⟨d0, _, hargs⟩ := resA_pos hr hm
      obtain ⟨d1', v, e1, e2', o⟩ := bk m d0 hargs
      rw [hps] at e1
      cases e1
      obtain ⟨v', e3, e4⟩ := RA_at hra (okB_noS hok) hm
      rw [e2'] at e3
      cases e3
      have o2 : OwnR C K (callerO as ω ω' env.length t) H' i v d1 := o.re (fz (noP_of m i hm)) fun a q' o' w' e' => ⟨e', callerO_at w' (at_lt m i hm).2.2 hm⟩
      refine ⟨v, e4, ?_⟩
      rcases hsl with ⟨_, hsl⟩ | ⟨_, hsl⟩
      · rw [hsl] at q; cases q; exact o2
      · rw [hsl] at q; cases q; exact o2
    · have hm' : ∀ m, atB as m ≠ some i := fun m z => hm ⟨m, z⟩
      rw [w2 i hm'] at q
      obtain ⟨v, ev, r⟩ := S.slot i d q
      refine ⟨v, ev, ?_⟩
      have hpos : posB as i 0 = none := by
        cases z : posB as i 0 with
        | none => rfl
        | some j => exact absurd (at_pos hok z) (hm' _)
      have hk : ∀ a q o, ω a = some (i, q) → H a = some o → H' a = some o ∧ callerO as ω ω' env.length t a = some (i, q) := by
        intro a q' o w e
        by_cases hkp : pkB as i = true
        · have hc := calleeO_pk w hpos hkp
          exact ⟨c.keep a o e (.inl hc), callerO_pk (c.free a (by rw [e]; simp) hc) w hkp⟩
        · have hc := calleeO_far w hpos (by simpa using hkp)
          obtain ⟨h1, h2⟩ := c.far a q' hc
          exact ⟨h2 o e, by rw [callerO_far h1]; exact w⟩
      cases d <;> first
        | exact Rep.mono ch r
        | exact OwnR.mono r ch hk
  · cases q : ω' a with
    | some z =>
      obtain ⟨j, r⟩ := z
      by_cases hj : j = FO
      · subst hj
        rw [callerO_far q] at e
        exact nt a p e
      · cases ha : atB as j with
        | some i' => rw [callerO_at q hj ha] at e; cases e; exact Nat.lt_irrefl _ (at_lt _ _ ha).1
        | none => rw [callerO_t q hj ha, htn] at e; simp at e
    | none =>
      cases q2 : ω a with
      | none => rw [callerO_none q q2] at e; cases e
      | some z =>
        obtain ⟨i', p'⟩ := z
        by_cases hk : pkB as i' = true
        · rw [callerO_pk q q2 hk] at e; cases e; exact nt a p q2
        · rw [callerO_free q q2 (by simpa using hk)] at e; cases e
  · rcases hpd with hp | hp
    · exact r.fz (fz hp)
    · refine r.pl (fun a xs rd q => ?_) hp
      cases q2 : ω a with
      | none => exact callerO_none q q2
      | some z =>
        obtain ⟨i', p'⟩ := z
        by_cases hk : pkB as i' = true
        · exfalso
          have hm := (S.own a i' p' q2).2
          have hm' : Mut (H' a) := mut_keep (fun o ho => c.keep a o ho (.inl (calleeO_pk q2 (okB_pk hok hk) hk))) hm
          rcases rd with rd | ⟨o, rd⟩ <;> (rw [rd] at hm'; exact hm')
        · exact callerO_free q q2 (by simpa using hk)
  · obtain ⟨h1, h2, h3⟩ := ht k htk
    refine o.re (fz h3) fun a q' o' w' e' => ⟨e', ?_⟩
    have ha : atB as k = none := by
      cases z : atB as k with
      | none => rfl
      | some i => have := (at_lt k i z).2.1; omega
    rw [callerO_t w' h2 ha, if_pos htk]
end
end Q9

set_option Elab.async false
set_option linter.all false
set_option maxRecDepth 100000
namespace Q9
open PySem PySem.Spec L2
/-! ## keywords, all in the parameters' order -/
def wK (X : Cx) (kws : List Keyword) : TA := fun σ H Q => ∀ pos pins s, Inv X pins σ H s → wpAny (model X.prog X.w) X.A (evalAll ((backToKw pos (keywordEach kws X.env)).map (·.2))) (AP X pins σ Q) X.xe s
theorem pkW {X : Cx} {kws : List Keyword} : PK X kws (wK X kws) := ⟨fun pos pins s σ H Q I h => h pos pins s I⟩
theorem wK.of {X : Cx} {kws : List Keyword} {t : TA} (h : PK X kws t) {σ : L2.St} {H : Hp} {Q : List V → Hp → Prop} (q : t σ H Q) : wK X kws σ H Q := fun pos pins s I => h.run pos pins s σ H Q I q
section
variable {T : Tab} {N : List Str} {C : Ct} {c : Oracle}
def SK (T : Tab) (N : List Str) (C : Ct) (c : Oracle) (ie : IE) : Prop := ∀ sc kws W X env ω σ H, XOk N sc W X → TabOk T C c X → ie.noB = true → ie.noS = true → chkA T N ie sc (kws.map (·.value)) = true → Sim C X.K ω env σ H → NoT ω env.length →
  ∀ Q, PostR C X.K ie (evA c ie env) ie.eff ω env σ H W Q → wK X kws σ H Q
theorem sk_nil : SK T N C c .nil := by
  intro sc kws W X env ω σ H hX hT hb hns hc S nt Q p
  cases kws with
  | cons e es => exact absurd hc Bool.false_ne_true
  | nil => exact wK.of pk_nil (p [] H ω S (.refl _ _ _) nt .nil)
theorem sk_cons {h t : IE} (hh : SE T N C c h) (ht : SK T N C c t) : SK T N C c (.cons h t) := by
  intro sc kws W X env ω σ H hX hT hb hns hc S nt Q p
  cases kws with
  | nil => exact absurd hc Bool.false_ne_true
  | cons kw kws =>
  obtain ⟨nm, e, kp⟩ := kw
  obtain ⟨e', es, e1, ch, hs, ct⟩ := chkA_cons hc
  rw [List.map_cons] at e1
  injection e1 with ee1 ee2
  subst ee1 ee2
  have hb' : (!h.isB && t.noB) = true := hb
  rw [Bool.and_eq_true, Bool.not_eq_true'] at hb'
  refine wK.of (pk_cons peW pkW) ?_
  have p : PostR C X.K (.cons h t) ((if h.isB then evB h env else ev c h .v env).bind fun d e1 => (evA c t e1).bind fun ds e2 => .ok (D.un d :: ds) e2) (h.eff || t.eff) ω env σ H W Q := p
  have hB := hb'.1
  rw [if_neg (by rw [hB]; simp)] at p
  refine (hh sc e W X env ω σ H hX hT ch S nt).1 .v _ (by simp) ?_
  cases hr : ev c h .v env with
  | ok d e1 =>
    rw [hr] at p
    intro v H1 ω1 S1 c1 g1
    have el : e1.length = env.length := S.elen S1
    rw [← el] at g1
    obtain ⟨S1', n1, r1⟩ := g1.freeze S1
    have cs : Chg false ω1 H1 (strike ω1 e1.length) H1 := Chg.strike (Nat.ne_of_lt S1.sz)
    have p1 : PostR C X.K (.cons h t) ((evA c t e1).bind fun ds e2 => .ok (D.un d :: ds) e2) t.eff (strike ω1 e1.length) e1 σ H1 W Q := PostR.shift (c1.trans cs) el (by simp) p
    refine ht sc kws W X e1 _ σ H1 hX hT hb'.2 hns ct S1' n1 _ ?_
    cases hr2 : evA c t e1 with
    | ok ds e2 =>
      rw [hr2] at p1
      intro vs H2 ω2 S2 c2 n2 r2
      exact p1 (v :: vs) H2 ω2 S2 c2 n2 (.cons hB (r1.mono c2) r2)
    | exc cl w e2 => rw [hr2] at p1; exact p1
    | stk => rw [hr2] at p1; exact p1.elim
  | exc cl w e1 => rw [hr] at p; exact p
  | stk => rw [hr] at p; exact p.elim
theorem sk_star {h t : IE} : SK T N C c (.star h t) := fun sc kws W X env ω σ H hX hT hb hns => absurd hns Bool.false_ne_true
theorem stepK {as : IE} {kws : List Keyword} {sc : Scope} {W : WX} {X : Cx} {env : Env} {ω : Om} {σ : L2.St} {H : Hp} {f : List D → Env → Re D} {eff e2 : Bool} {Q : VK} {R : List V → Hp → Prop}
    (ha : SK T N C c as) (hX : XOk N sc W X) (hT : TabOk T C c X) (hb : as.noB = true) (hns : as.noS = true) (ca : chkA T N as sc (kws.map (·.value)) = true) (S : Sim C X.K ω env σ H) (nt : NoT ω env.length)
    (p : Post C X.K .v ((evA c as env).bind f) eff ω env σ H W Q) (he : (as.eff || e2) = eff)
    (k : ∀ ds e1 vs H1 ω1, Sim C X.K ω1 e1 σ H1 → Chg as.eff ω H ω1 H1 → NoT ω1 e1.length → RA C X.K σ ω1 H1 as vs ds → Post C X.K .v (f ds e1) e2 ω1 e1 σ H1 W Q → R vs H1) : wK X kws σ H R := by
  refine ha sc kws W X env ω σ H hX hT hb hns ca S nt R ?_
  cases hr : evA c as env with
  | ok ds e1 =>
    rw [hr] at p
    intro vs H1 ω1 S1 c1 n1 g1
    have el : e1.length = env.length := S.elen S1
    exact k ds e1 vs H1 ω1 S1 c1 (by rw [el]; exact n1) g1 (Post.shift c1 el he p)
  | exc cl w e1 => rw [hr] at p; exact p
  | stk => rw [hr] at p; exact p.elim
end
/-! a call with keywords alone -/
section
variable {X : Cx} {CX : CXT} {k : Nat} {f : Addr} {fd : FuncData} {ps : List Str} {sp : Sp} {E : L2.St → XK} {x : Str} {p pos : Pos} {kws : List Keyword} {t : TA} {ns : List Str}
theorem pe_callSK (F : FnOk X.prog X.w X.K X.mg X.base CX k f fd ps sp) (hr : Room k X.A) (hg : Gl X x) (hm : X.mg x = some (.ref f)) (hk : PySem.W.keepIn X.K (.ref f) = true) (hb : ∀ (s : Shared) (us : List Value), X.K.In s.heap → us.length = ps.length → BindsTo s fd ⟨[], ns.zip us⟩ (ps.zip us)) (hx : ∀ σ, PassesAt CX X σ (E σ))
    (ha : PK X kws t) (hn : kws.map (·.arg) = ns.map some) (hdb : (x == ("__debug__" : Str)) = false) :
    PE X (.Call (.Name x p) [] kws pos) (tCallS sp E t) := by
  have kn : ∀ (kws : List Keyword), (backToKw pos (keywordEach kws X.env)).map (·.1) = kws.map (·.arg) := by
    intro kws
    induction kws with
    | nil => rfl
    | cons q kws ih =>
      obtain ⟨a, b, d⟩ := q
      show a :: (backToKw pos (keywordEach kws X.env)).map (·.1) = _
      rw [ih]; rfl
  have hall : (backToKw pos (keywordEach kws X.env)).all (·.1.isSome) = true := by
    have h1 : ((backToKw pos (keywordEach kws X.env)).map (·.1)).all Option.isSome = true := by rw [kn, hn, List.all_map]; simp
    rw [List.all_map] at h1; exact h1
  have hany : (backToKw pos (keywordEach kws X.env)).any (·.1.isNone) = false := by
    have h1 : ((backToKw pos (keywordEach kws X.env)).map (·.1)).any Option.isNone = false := by rw [kn, hn, List.any_map]; simp
    rw [List.any_map] at h1; exact h1
  have hks : (backToKw pos (keywordEach kws X.env)).filterMap (·.1) = ns := by
    have h1 : ((backToKw pos (keywordEach kws X.env)).map (·.1)).filterMap id = ns := by rw [kn, hn, List.filterMap_map]; simp
    rw [List.filterMap_map] at h1; exact h1
  refine ⟨fun pins s σ H Q I h => ?_⟩
  refine wpAny_Call_Name_kw (ld_glob I hg hm ?_ hdb)
  refine PySem.W.callWith_KW0 (h₀ := X.base) I.ok.mod.kin hk hall (thn (ha.run pos pins s σ H _ I h) fun us s1 ⟨vs, H1, I1, r, q⟩ => ⟨I1.kIn, ?_⟩) (by show (false || _) = false; rw [hany]; rfl)
  rw [hks]
  have hl : us.length = ps.length := by rw [← r.length]; exact F.len _ _ _ _ q
  refine wpAny_call (codeAny_mono (F.run X.A X.stack s1 H1 ⟨[], ns.zip us⟩ us vs Q (E σ) hr I1.env0 (hb s1 us I1.kIn hl) r q) fun r s' hq => ?_)
  cases r with
  | error e => exact hx σ pins H1 s1 e s' I1 hq
  | ok fl =>
    cases fl with
    | ret u => exact I1.after hq
    | next => exact False.elim hq
    | brk => exact False.elim hq
    | cont => exact False.elim hq
end
end Q9

set_option Elab.async false
set_option linter.all false
set_option maxRecDepth 100000
namespace Q9
open PySem PySem.Spec L2
section
variable {T : Tab} {N : List Str} {C : Ct} {c : Oracle}
theorem chk_call {f : Nat} {as : IE} {sc : Scope} {e : Expr} (hc : chkE T N (.call f as) none sc e = true) :
    (∃ p y ys pos, e = .Call (.Name (T.fn f) p) (y :: ys) [] pos ∧ glB sc (T.fn f) = true ∧ plainN (T.fn f) = true ∧ (y :: ys).length = T.np f ∧ f < T.n ∧ as.okB = true ∧ as.len < FO ∧ (!as.hasP || !as.hasB) = true ∧ chkA T N as sc (y :: ys) = true) ∨
    (∃ p y ys pos, e = .Call (.Name (T.fn f) p) [] (y :: ys) pos ∧ glB sc (T.fn f) = true ∧ plainN (T.fn f) = true ∧ ((y :: ys).map (·.arg) = (T.pn f).map some ∧ (y :: ys).length = T.np f) ∧ f < T.n ∧ as.okB = true ∧ as.len < FO ∧ (!as.hasP || !as.hasB) = true ∧ as.noB = true ∧ chkA T N as sc ((y :: ys).map (·.value)) = true) := by
  cases e <;> first | exact absurd hc Bool.false_ne_true | skip
  rename_i g xs ks pos
  cases g <;> first | exact absurd hc Bool.false_ne_true | skip
  rename_i x p
  cases xs with
  | nil =>
    cases ks with
    | nil => exact absurd hc Bool.false_ne_true
    | cons y ys =>
      right
      have hc : (decide (x = T.fn f) && glB sc x && plainN x && (decide ((y :: ys).map (·.arg) = (T.pn f).map some) && decide ((y :: ys).length = T.np f)) && decide (f < T.n) && (as.okB && decide (as.len < FO)) && (!as.hasP || !as.hasB) && (as.noB && chkA T N as sc ((y :: ys).map (·.value)))) = true := hc
      rw [Bool.and_eq_true, Bool.and_eq_true, Bool.and_eq_true, Bool.and_eq_true, Bool.and_eq_true, Bool.and_eq_true, Bool.and_eq_true, Bool.and_eq_true, Bool.and_eq_true, Bool.and_eq_true, decide_eq_true_eq, decide_eq_true_eq, decide_eq_true_eq, decide_eq_true_eq, decide_eq_true_eq] at hc
      obtain ⟨⟨⟨⟨⟨⟨⟨rfl, h1⟩, h2⟩, h3, h3'⟩, h4⟩, h5, h6⟩, h7⟩, h8, h9⟩ := hc
      exact ⟨_, _, _, _, rfl, h1, h2, ⟨h3, h3'⟩, h4, h5, h6, h7, h8, h9⟩
  | cons y ys =>
  left
  cases ks <;> first | exact absurd hc Bool.false_ne_true | skip
  have hc : (decide (x = T.fn f) && glB sc x && plainN x && decide ((y :: ys).length = T.np f) && decide (f < T.n) && (as.okB && decide (as.len < FO)) && (!as.hasP || !as.hasB) && chkA T N as sc (y :: ys)) = true := hc
  rw [Bool.and_eq_true, Bool.and_eq_true, Bool.and_eq_true, Bool.and_eq_true, Bool.and_eq_true, Bool.and_eq_true, Bool.and_eq_true, Bool.and_eq_true, decide_eq_true_eq, decide_eq_true_eq, decide_eq_true_eq, decide_eq_true_eq] at hc
  obtain ⟨⟨⟨⟨⟨⟨⟨rfl, h1⟩, h2⟩, h3⟩, h4⟩, h5, h6⟩, h7⟩, h8⟩ := hc
  exact ⟨_, _, _, _, rfl, h1, h2, h3, h4, h5, h6, h7, h8⟩

theorem se_call {f : Nat} {as : IE} (ha : SA T N C c as) (hka : SK T N C c as) : SE T N C c (.call f as) := by
  intro sc e W X env ω σ H hX hT hc S nt
  have hf : f < T.n := by
    rcases chk_call hc with ⟨p, y, ys, pos, rfl, hg, hp, hlen, hf, _⟩ | ⟨p, y, ys, pos, rfl, hg, hp, hlen, hf, _⟩ <;> exact hf
  obtain ⟨fa, fd, ps, k, hm, hk, hr, F, hb, hkb⟩ := hT.fns f hf
  have hpl : plainT e = true := by
    rcases chk_call hc with ⟨p, y, ys, pos, rfl, _⟩ | ⟨p, y, ys, pos, rfl, _⟩ <;> rfl
  refine fin_both hX (fun Q p => ?_) hpl S.len
  have after : ∀ (es : List Expr), chkA T N as sc es = true → es.length = T.np f → as.okB = true → as.len < FO → (!as.hasP || !as.hasB) = true → ∀ ds e1 vs H1 ω1, Sim C X.K ω1 e1 σ H1 → Chg as.eff ω H ω1 H1 → NoT ω1 e1.length → RA C X.K σ ω1 H1 as vs ds → Post C X.K .v (match resA as ds e1 with
      | none => .stk
      | some args => match c f args with
        | .ok d ps => match wbA as ps e1 with
          | some e2 => if !as.hasP || d.plain then .ok d e2 else .stk
          | none => .stk
        | .exc cl w ps => match wbA as ps e1 with
          | some e2 => if !as.hasP || w.plain then .exc cl w e2 else .stk
          | none => .stk
        | .stk => .stk) true ω1 e1 σ H1 W Q → spF C X.K (T.np f) (c f) vs H1 Q (WE W σ) := by
    intro es ca hlen hok hfo hpb ds e1 vs H1 ω1 S1 c1 n1 r1 p1
    cases hra : resA as ds e1 with
    | none => rw [hra] at p1; exact p1.elim
    | some args =>
      rw [hra] at p1
      have c0 := callee_chg S1 hok hra
      refine ⟨by rw [r1.len hok, ← chkA_len ca hok, hlen], args, calleeO as ω1, args_ok S1 c0 hok r1 hra (fun i m h => h) (fun i h => ⟨h, okB_pk hok h⟩), fun a i q e => ?_, ?_⟩
      · obtain ⟨i0, h0, h1⟩ := calleeO_some e
        refine ⟨?_, (S1.own a i0 q h0).2⟩
        rcases h1 with h1 | ⟨_, _, h1⟩
        · left
          have ha := at_pos hok h1
          obtain ⟨d, _, h2⟩ := resA_pos hra ha
          simpa using (List.getElem?_eq_some_iff.mp h2).1
        · exact .inr h1
      · have p1 : Post C X.K .v (match c f args with
          | .ok d ps => match wbA as ps e1 with
            | some e2 => if !as.hasP || d.plain then .ok d e2 else .stk
            | none => .stk
          | .exc cl w ps => match wbA as ps e1 with
            | some e2 => if !as.hasP || w.plain then .exc cl w e2 else .stk
            | none => .stk
          | .stk => .stk) true ω1 e1 σ H1 W Q := p1
        cases hcf : c f args with
        | stk => rw [hcf] at p1; exact p1.elim
        | ok d qs =>
          rw [hcf] at p1
          simp only at p1
          cases hw : wbA as qs e1 with
          | none => rw [hw] at p1; exact p1.elim
          | some e2 =>
            rw [hw] at p1
            simp only at p1
            by_cases hcd : (!as.hasP || d.plain) = true
            · rw [if_pos hcd] at p1
              intro v H' ω' ch bk tr hd
              rcases hd with ⟨d0, t, rfl, h1, h2, o⟩ | r
              · have hp' : as.hasP = false := by
                  have h3 : (!as.hasP || false) = true := hcd
                  simpa using h3
                obtain ⟨S', ch', _, _, ow⟩ := behind S1 n1 hok hfo hpb r1 hra ch bk tr hw (t := some t) (fun k hk => by cases hk; exact ⟨h1, h2, hp'⟩)
                exact p1 v H' _ S' ch' (.inl ⟨d0, rfl, ow v d0 t rfl o⟩)
              · obtain ⟨S', ch', n', rp, _⟩ := behind S1 n1 hok hfo hpb r1 hra ch bk tr hw (t := none) (fun k hk => nomatch hk)
                refine p1 v H' _ S' ch' (.inr ⟨n' rfl, rp v d ?_ r⟩)
                rw [Bool.or_eq_true, Bool.not_eq_true'] at hcd
                exact hcd
            · rw [if_neg hcd] at p1; exact p1.elim
        | exc cl w qs =>
          rw [hcf] at p1
          simp only at p1
          cases hw : wbA as qs e1 with
          | none => rw [hw] at p1; exact p1.elim
          | some e2 =>
            rw [hw] at p1
            simp only at p1
            by_cases hcd : (!as.hasP || w.plain) = true
            · rw [if_pos hcd] at p1
              intro dx v H' ω' ch bk tr hx r
              obtain ⟨S', ch', n', rp, _⟩ := behind S1 n1 hok hfo hpb r1 hra ch bk tr hw (t := none) (fun k hk => nomatch hk)
              refine p1 dx v H' _ S' ch' (n' rfl) hx (rp v w ?_ r)
              rw [Bool.or_eq_true, Bool.not_eq_true'] at hcd
              exact hcd
            · rw [if_neg hcd] at p1; exact p1.elim
  rcases chk_call hc with ⟨p', y, ys, pos, rfl, hg, hp, hlen, _, hok, hfo, hpb, ca⟩ | ⟨p', y, ys, pos, rfl, hg, hp, ⟨hn, hlen⟩, _, hok, hfo, hpb, hnb, ca⟩
  · obtain ⟨p1, p2, p3⟩ := plainN_of hp
    have hst := chkA_noS ca (okB_noS hok)
    refine wE.of (pe_callS (E := WE W) F hr (hX.gl _ (gl_of hg)) hm hk hb (passAt hX.tk) paW p1 (starCons (hst y (by simp))) (noStar_any fun e he => hst e (List.mem_cons_of_mem _ he))) ?_
    exact stepA ha hX hT ca S nt p (e2 := true) (Bool.or_true _) (after _ ca hlen hok hfo hpb)
  · obtain ⟨p1, p2, p3⟩ := plainN_of hp
    refine wE.of (pe_callSK (E := WE W) F hr (hX.gl _ (gl_of hg)) hm hk hkb (passAt hX.tk) pkW hn p1) ?_
    exact stepK hka hX hT hnb (okB_noS hok) ca S nt p (e2 := true) (Bool.or_true _) (after _ ca (by rw [List.length_map]; exact hlen) hok hfo hpb)
end
end Q9

set_option Elab.async false
set_option linter.all false
set_option maxRecDepth 100000
namespace Q9
open PySem PySem.Spec L2
section
variable {T : Tab} {N : List Str} {C : Ct} {c : Oracle}

theorem it_lst {K : PySem.W.Frag} {ω : Om} {H : Hp} {a : Addr} {xs : List V} {ds : List D} (q : ∀ ω' H', Chg true ω H ω' H' → SqL K H' a xs ∧ Reps C K ω' H' xs ds) : ItOk C K ω H (Itl K a) ds := by
  intro i ω' H' ch _
  obtain ⟨h, r⟩ := q ω' H' ch
  refine ⟨fun d hd => ?_, fun hl => ⟨xs, h, by rw [r.length]; exact hl⟩⟩
  obtain ⟨x, hx, rx⟩ := r.getD hd
  refine ⟨⟨xs, x, h, hx⟩, fun y H'' hy => ?_⟩
  obtain ⟨rfl, hy⟩ := hy
  have := hy xs h
  rw [hx] at this
  cases this
  exact ⟨fun _ _ e => e, rx⟩
theorem it_tup {K : PySem.W.Frag} {ω : Om} {H : Hp} {a : Addr} {xs : List V} {ds : List D} (q : ∀ ω' H', Chg true ω H ω' H' → SqT K H' a xs ∧ Reps C K ω' H' xs ds) : ItOk C K ω H (Itt K a) ds := by
  intro i ω' H' ch _
  obtain ⟨h, r⟩ := q ω' H' ch
  refine ⟨fun d hd => ?_, fun hl => ⟨xs, h, by rw [r.length]; exact hl⟩⟩
  obtain ⟨x, hx, rx⟩ := r.getD hd
  refine ⟨⟨xs, x, h, hx⟩, fun y H'' hy => ?_⟩
  obtain ⟨rfl, hy⟩ := hy
  have := hy xs h
  rw [hx] at this
  cases this
  exact ⟨fun _ _ e => e, rx⟩
theorem it_rng {K : PySem.W.Frag} {ω : Om} {H : Hp} {lo : Int} {n : Nat} : ItOk C K ω H (Itr lo n) (rngL lo n) := by
  intro i ω' H' ch _
  have hl : (rngL lo n).length = n := by unfold rngL; simp
  refine ⟨fun d hd => ?_, fun hl' => by rw [hl] at hl'; exact hl'⟩
  have hi : i < n := by have := (List.getElem?_eq_some_iff.mp hd).1; rw [hl] at this; exact this
  refine ⟨hi, fun x H'' hy => ?_⟩
  obtain ⟨rfl, rfl⟩ := hy
  refine ⟨fun _ _ e => e, ?_⟩
  unfold rngL at hd
  rw [List.getElem?_map, List.getElem?_range hi] at hd
  simp only [Option.map_some, Option.some.injEq] at hd
  subst hd
  exact .int _
theorem enmL_length : ∀ {i : Nat} {l : List D}, (enmL i l).length = l.length
  | _, [] => rfl
  | i, d :: ds => by show (enmL (i + 1) ds).length + 1 = ds.length + 1; rw [enmL_length]
theorem enmL_get : ∀ {i j : Nat} {l : List D} {d : D}, (enmL i l)[j]? = some d → ∃ x, l[j]? = some x ∧ d = .tup [.int ((i + j : Nat) : Int), x]
  | _, _, [], _, h => by simp [enmL] at h
  | i, 0, x :: l, d, h => by
    have h : some (D.tup [.int (i : Int), x]) = some d := h
    cases h
    exact ⟨x, rfl, rfl⟩
  | i, j + 1, x :: l, d, h => by
    obtain ⟨y, h1, h2⟩ := enmL_get (i := i + 1) (j := j) (l := l) (d := d) (by simpa [enmL] using h)
    refine ⟨y, by simpa using h1, ?_⟩
    rw [h2, show i + 1 + j = i + (j + 1) by omega]
theorem it_enm {K : PySem.W.Frag} {ω : Om} {H : Hp} {a : Addr} {xs : List V} {ds : List D} (q : ∀ ω' H', Chg true ω H ω' H' → SqL K H' a xs ∧ Reps C K ω' H' xs ds) : ItOk C K ω H (Ite K a) (enmL 0 ds) := by
  intro i ω' H' ch hn
  obtain ⟨h, r⟩ := q ω' H' ch
  refine ⟨fun d hd => ?_, fun hl => ⟨xs, h, by rw [r.length]; rw [enmL_length] at hl; exact hl⟩⟩
  obtain ⟨d0, hd0, rfl⟩ := enmL_get hd
  obtain ⟨x, hx, rx⟩ := r.getD hd0
  refine ⟨⟨xs, x, h, hx⟩, fun y H'' hy => ?_⟩
  obtain ⟨p, z, rfl, hp, rfl, hy⟩ := hy
  have := hy xs h
  rw [hx] at this
  cases this
  have hs : ∀ b o, H' b = some o → (upd H' p (.tup [.int (i : Nat), x])) b = some o := fun b o e => by rw [upd_ne (ne_of_none e hp)]; exact e
  refine ⟨hs, .tup ⟨.inl upd_same, hn p hp⟩ ?_⟩
  have cg : Chg false ω' H' ω' (upd H' p (.tup [.int (i : Nat), x])) := Chg.same hs
  rw [Nat.zero_add]
  exact .cons (.int _) (.cons (rx.mono cg) .nil)

def IE.isIt : IE → Bool
  | .rng1 _ | .rng2 _ _ | .enm _ => true
  | _ => false
theorem chk_non {ie : IE} (h : ie.isIt = false) {t : Expr} {sc : Scope} {e : Expr} (hc : chkE T N ie (some t) sc e = true) : chkE T N ie none sc e = true := by
  cases ie <;> first | exact absurd h (fun z => Bool.false_ne_true z.symm) | exact hc

/-- a list or tuple is walked -/
theorem si_val {ie : IE} (hi : ie.isIt = false) (ha : SE T N C c ie) : SI T N C c ie := by
  intro sc t e W X env ω σ H hX hT hc S nt Q p
  have hc := chk_non hi hc
  have h1 := (ha sc e W X env ω σ H hX hT hc S nt).1 .v
  cases hr : ev c ie .v env with
  | stk => rw [hr] at p; exact p.elim
  | exc cl w e1 =>
    rw [hr] at p h1
    exact wI.of (pi_list peW) (h1 _ (by simp) p)
  | ok d e1 =>
    rw [hr] at p h1
    have p : (match itemsD (D.un d) with
      | some l => ∀ J H' ω', Sim C X.K ω' e1 σ H' → Chg ie.eff ω H ω' H' → NoT ω' env.length → ItOk C X.K ω' H' J l → Q J H'
      | none => False) := p
    cases hu : D.un d <;> (rw [hu] at p; first | exact p.elim | skip)
    · rename_i l
      refine wI.of (pi_tup peW) (h1 _ (by simp) fun v H1 ω1 S1 c1 g1 => ?_)
      have el : e1.length = env.length := S.elen S1
      rw [← el] at g1
      obtain ⟨S1', n1, r1⟩ := g1.freeze S1
      rw [hu] at r1
      have cs : Chg false ω1 H1 (strike ω1 e1.length) H1 := Chg.strike (Nat.ne_of_lt S1.sz)
      cases r1 with
      | tup hx rs => exact ⟨_, rfl, ⟨_, .inl hx.1⟩, p _ H1 _ S1' (by simpa using c1.trans cs) (by rw [← el]; exact n1) (it_tup fun ω' H' ch => ⟨.inl (hx.mono ch.fz).1, rs.mono ch⟩)⟩
      | tupK hx rs => exact ⟨_, rfl, ⟨_, .inr hx⟩, p _ H1 _ S1' (by simpa using c1.trans cs) (by rw [← el]; exact n1) (it_tup fun ω' H' ch => ⟨.inr hx, rs.mono ch⟩)⟩
    · rename_i l
      refine wI.of (pi_list peW) (h1 _ (by simp) fun v H1 ω1 S1 c1 g1 => ?_)
      have el : e1.length = env.length := S.elen S1
      rw [← el] at g1
      obtain ⟨S1', n1, r1⟩ := g1.freeze S1
      rw [hu] at r1
      have cs : Chg false ω1 H1 (strike ω1 e1.length) H1 := Chg.strike (Nat.ne_of_lt S1.sz)
      cases r1 with
      | lst hx hw rs => exact ⟨_, rfl, ⟨_, SqL.of hx⟩, p _ H1 _ S1' (by simpa using c1.trans cs) (by rw [← el]; exact n1) (it_lst fun ω' H' ch => ⟨SqL.of (ch.keep _ _ hx (.inl hw)), rs.mono ch⟩)⟩
    · rename_i l
      refine wI.of (pi_list peW) (h1 _ (by simp) fun v H1 ω1 S1 c1 g1 => ?_)
      have el : e1.length = env.length := S.elen S1
      rw [← el] at g1
      obtain ⟨S1', n1, r1⟩ := g1.freeze S1
      rw [hu] at r1
      have cs : Chg false ω1 H1 (strike ω1 e1.length) H1 := Chg.strike (Nat.ne_of_lt S1.sz)
      cases r1 with
      | flk hx rs => exact ⟨_, rfl, ⟨_, hx.sq⟩, p _ H1 _ S1' (by simpa using c1.trans cs) (by rw [← el]; exact n1) (it_lst fun ω' H' ch => ⟨(hx.mono ch.fz).sq, rs.mono ch⟩)⟩
theorem it_head {X : Cx} {x : String} {p : Pos} {ys : List Expr} (h : ∀ e ∈ ys, isStar e = false) : starEach ys X.env = ys.map fun e => (false, eval e X.env) := by
  induction ys with
  | nil => rfl
  | cons e es ih => rw [starCons (h e List.mem_cons_self), ih fun e he => h e (List.mem_cons_of_mem _ he)]; rfl

theorem si_rng1 {a : IE} (ha : SE T N C c a) : SI T N C c (.rng1 a) := by
  intro sc t e W X env ω σ H hX hT hc S nt Q p
  have key : ∃ q y pos, e = .Call (.Name "range" q) [y] [] pos ∧ glB sc "range" = true ∧ T.bl.contains "range" = true ∧ chkE T N a none sc y = true ∧ isStar y = false := by
    cases e <;> first | exact absurd hc Bool.false_ne_true | skip
    rename_i g xs ks pos
    cases g <;> first | exact absurd hc Bool.false_ne_true | skip
    rename_i x q
    match xs, ks, hc with
    | [y], [], hc =>
      have hc : (decide (x = ("range" : Str)) && glB sc x && T.bl.contains "range" && chkE T N a none sc y && !isStar y) = true := hc
      rw [Bool.and_eq_true, Bool.and_eq_true, Bool.and_eq_true, Bool.and_eq_true, decide_eq_true_eq, Bool.not_eq_true'] at hc
      obtain ⟨⟨⟨⟨rfl, h1⟩, h2⟩, h3⟩, h4⟩ := hc
      exact ⟨_, _, _, rfl, h1, h2, h3, h4⟩
    | [], _, hc => exact absurd hc Bool.false_ne_true
    | [y], _ :: _, hc => exact absurd hc Bool.false_ne_true
    | _ :: _ :: _, [], hc => exact absurd hc Bool.false_ne_true
    | _ :: _ :: _, _ :: _, hc => exact absurd hc Bool.false_ne_true
  obtain ⟨q, y, pos, rfl, hg, hb, ca, hs⟩ := key
  have p : PostI C X.K ((ev c a .p env).bind fun x e1 => match x with
    | .int b => if rngOk 0 b then .ok (.lst (rngL 0 b.toNat)) e1 else .stk
    | _ => .stk) a.eff ω env σ H W Q := p
  refine wI.of (pi_range1 (hX.gl _ (gl_of hg)) (hT.bls _ hb) (pa_cons peW pa_nil (starCons hs)) (starCons hs)) ?_
  refine (ha sc y W X env ω σ H hX hT ca S nt).1 .p _ (by simp) ?_
  cases hr : ev c a .p env with
  | stk => rw [hr] at p; exact p.elim
  | exc cl w e1 => rw [hr] at p; exact p
  | ok d e1 =>
    rw [hr] at p
    intro v H1 ω1 S1 c1 g1
    cases d <;> first | exact p.elim | skip
    rename_i b
    have p : PostI C X.K (if rngOk 0 b then .ok (.lst (rngL 0 b.toNat)) e1 else .stk) a.eff ω env σ H W Q := p
    split at p
    · rename_i hk
      have := g1.2.int
      subst this
      unfold rngOk at hk
      rw [decide_eq_true_eq] at hk
      exact ⟨b, rfl, hk.2.2.1, hk.2.2.2, p _ H1 ω1 S1 c1 g1.1 it_rng⟩
    · exact p.elim
theorem si_rng2 {a b : IE} (ha : SE T N C c a) (hb : SE T N C c b) : SI T N C c (.rng2 a b) := by
  intro sc t e W X env ω σ H hX hT hc S nt Q p
  have key : ∃ q y z pos, e = .Call (.Name "range" q) [y, z] [] pos ∧ glB sc "range" = true ∧ T.bl.contains "range" = true ∧ chkE T N a none sc y = true ∧ chkE T N b none sc z = true ∧ isStar y = false ∧ isStar z = false := by
    cases e <;> first | exact absurd hc Bool.false_ne_true | skip
    rename_i g xs ks pos
    cases g <;> first | exact absurd hc Bool.false_ne_true | skip
    rename_i x q
    match xs, ks, hc with
    | [y, z], [], hc =>
      have hc : (decide (x = ("range" : Str)) && glB sc x && T.bl.contains "range" && chkE T N a none sc y && chkE T N b none sc z && !isStar y && !isStar z) = true := hc
      rw [Bool.and_eq_true, Bool.and_eq_true, Bool.and_eq_true, Bool.and_eq_true, Bool.and_eq_true, Bool.and_eq_true, decide_eq_true_eq, Bool.not_eq_true', Bool.not_eq_true'] at hc
      obtain ⟨⟨⟨⟨⟨⟨rfl, h1⟩, h2⟩, h3⟩, h4⟩, h5⟩, h6⟩ := hc
      exact ⟨_, _, _, _, rfl, h1, h2, h3, h4, h5, h6⟩
    | [], _, hc => exact absurd hc Bool.false_ne_true
    | [y], [], hc => exact absurd hc Bool.false_ne_true
    | [y], _ :: _, hc => exact absurd hc Bool.false_ne_true
    | [_, _], _ :: _, hc => exact absurd hc Bool.false_ne_true
    | _ :: _ :: _ :: _, [], hc => exact absurd hc Bool.false_ne_true
    | _ :: _ :: _ :: _, _ :: _, hc => exact absurd hc Bool.false_ne_true
  obtain ⟨q, y, z, pos, rfl, hg, hbl, ca, cb, hs, hs2⟩ := key
  have p : PostI C X.K ((ev c a .p env).bind fun x e1 => (ev c b .p e1).bind fun y e2 => match x, y with
    | .int i, .int j => if rngOk i j then .ok (.lst (rngL i (j - i).toNat)) e2 else .stk
    | _, _ => .stk) (a.eff || b.eff) ω env σ H W Q := p
  refine wI.of (pi_range2 (hX.gl _ (gl_of hg)) (hT.bls _ hbl) (pa_cons peW (pa_cons peW pa_nil (starCons hs2)) (starCons hs)) (by rw [starCons hs, starCons hs2]; rfl) (starCons hs2)) ?_
  refine (ha sc y W X env ω σ H hX hT ca S nt).1 .p _ (by simp) ?_
  cases hr : ev c a .p env with
  | stk => rw [hr] at p; exact p.elim
  | exc cl w e1 => rw [hr] at p; exact p
  | ok d e1 =>
    rw [hr] at p
    intro v H1 ω1 S1 c1 g1
    have el : e1.length = env.length := S.elen S1
    have p : PostI C X.K ((ev c b .p e1).bind fun y e2 => match (generalizing := false) d, y with
      | .int i, .int j => if rngOk i j then .ok (.lst (rngL i (j - i).toNat)) e2 else .stk
      | _, _ => .stk) (a.eff || b.eff) ω env σ H W Q := p
    refine (hb sc z W X e1 ω1 σ H1 hX hT cb S1 (by rw [el]; exact g1.1)).1 .p _ (by simp) ?_
    cases hr2 : ev c b .p e1 with
    | stk => rw [hr2] at p; exact p.elim
    | exc cl w e2 => rw [hr2] at p; exact PostX.trans c1 el p
    | ok d2 e2 =>
      rw [hr2] at p
      intro v2 H2 ω2 S2 c2 g2
      have el2 : e2.length = e1.length := S1.elen S2
      cases d <;> first | exact p.elim | skip
      rename_i i _
      cases d2 <;> first | exact p.elim | skip
      rename_i j
      have p : PostI C X.K (if rngOk i j then .ok (.lst (rngL i (j - i).toNat)) e2 else .stk) (a.eff || b.eff) ω env σ H W Q := p
      split at p
      · rename_i hk
        have := g1.2.int
        subst this
        have := g2.2.int
        subst this
        unfold rngOk at hk
        rw [decide_eq_true_eq] at hk
        exact ⟨i, j, rfl, hk, p _ H2 ω2 S2 (c1.trans c2) (by rw [← el]; exact g2.1) it_rng⟩
      · exact p.elim
theorem si_enm {a : IE} (ha : SE T N C c a) : SI T N C c (.enm a) := by
  intro sc t e W X env ω σ H hX hT hc S nt Q p
  have key : ∃ es k tp q y pos, t = .Tuple es k tp ∧ e = .Call (.Name "enumerate" q) [y] [] pos ∧ glB sc "enumerate" = true ∧ T.bl.contains "enumerate" = true ∧ chkE T N a none sc y = true ∧ isStar y = false := by
    cases t <;> first | exact absurd hc Bool.false_ne_true | skip
    cases e <;> first | exact absurd hc Bool.false_ne_true | skip
    rename_i g xs ks pos
    cases g <;> first | exact absurd hc Bool.false_ne_true | skip
    rename_i x q
    match xs, ks, hc with
    | [y], [], hc =>
      have hc : (decide (x = ("enumerate" : Str)) && glB sc x && T.bl.contains "enumerate" && chkE T N a none sc y && !isStar y) = true := hc
      rw [Bool.and_eq_true, Bool.and_eq_true, Bool.and_eq_true, Bool.and_eq_true, decide_eq_true_eq, Bool.not_eq_true'] at hc
      obtain ⟨⟨⟨⟨rfl, h1⟩, h2⟩, h3⟩, h4⟩ := hc
      exact ⟨_, _, _, _, _, _, rfl, rfl, h1, h2, h3, h4⟩
    | [], _, hc => exact absurd hc Bool.false_ne_true
    | [y], _ :: _, hc => exact absurd hc Bool.false_ne_true
    | _ :: _ :: _, [], hc => exact absurd hc Bool.false_ne_true
    | _ :: _ :: _, _ :: _, hc => exact absurd hc Bool.false_ne_true
  obtain ⟨es, k, tp, q, y, pos, rfl, rfl, hg, hb, ca, hs⟩ := key
  have p : PostI C X.K ((ev c a .v env).bind fun x e1 => match (match D.un x with | .lst l => some l | .flk l => some l | _ => none) with
    | some l => .ok (.lst (enmL 0 l)) e1
    | none => .stk) a.eff ω env σ H W Q := p
  refine wI.of (pi_enum (hX.gl _ (gl_of hg)) (hT.bls _ hb) (pa_cons peW pa_nil (starCons hs)) (starCons hs)) ?_
  refine (ha sc y W X env ω σ H hX hT ca S nt).1 .v _ (by simp) ?_
  cases hr : ev c a .v env with
  | stk => rw [hr] at p; exact p.elim
  | exc cl w e1 => rw [hr] at p; exact p
  | ok d e1 =>
    rw [hr] at p
    intro v H1 ω1 S1 c1 g1
    have el : e1.length = env.length := S.elen S1
    rw [← el] at g1
    obtain ⟨S1', n1, r1⟩ := g1.freeze S1
    have cs : Chg false ω1 H1 (strike ω1 e1.length) H1 := Chg.strike (Nat.ne_of_lt S1.sz)
    have p : PostI C X.K (match (match D.un d with | .lst l => some l | .flk l => some l | _ => none) with
      | some l => Re.ok (.lst (enmL 0 l)) e1
      | none => .stk) a.eff ω env σ H W Q := p
    generalize D.un d = u at p r1
    cases r1 <;> first | exact p.elim | skip
    · rename_i hx hw rs
      exact ⟨_, _, rfl, SqL.of hx, p _ H1 _ S1' (by simpa using c1.trans cs) (by rw [← el]; exact n1) (it_enm fun ω' H' ch => ⟨SqL.of (ch.keep _ _ hx (.inl hw)), rs.mono ch⟩)⟩
    · rename_i hx rs
      exact ⟨_, _, rfl, hx.sq, p _ H1 _ S1' (by simpa using c1.trans cs) (by rw [← el]; exact n1) (it_enm fun ω' H' ch => ⟨(hx.mono ch.fz).sq, rs.mono ch⟩)⟩
theorem se_lrng {a b : IE} (ha : SE T N C c a) (hb : SE T N C c b) : SE T N C c (.lrng a b) := by
  intro sc e W X env ω σ H hX hT hc S nt
  have key : ∃ p0 q y z pos pos2, e = .Call (.Name "list" p0) [.Call (.Name "range" q) [y, z] [] pos2] [] pos ∧ glB sc "list" = true ∧ T.bl.contains "list" = true ∧ glB sc "range" = true ∧ T.bl.contains "range" = true ∧ chkE T N a none sc y = true ∧ chkE T N b none sc z = true ∧ isStar y = false ∧ isStar z = false := by
    have h0 : (match (generalizing := false) e with
      | .Call (.Name x _) [.Call (.Name w _) [y, z] [] _] [] _ => decide (x = ("list" : Str)) && glB sc x && T.bl.contains "list" && decide (w = ("range" : Str)) && glB sc w && T.bl.contains "range" && chkE T N a none sc y && chkE T N b none sc z && !isStar y && !isStar z
      | _ => false) = true := hc
    split at h0
    · rw [Bool.and_eq_true, Bool.and_eq_true, Bool.and_eq_true, Bool.and_eq_true, Bool.and_eq_true, Bool.and_eq_true, Bool.and_eq_true, Bool.and_eq_true, Bool.and_eq_true, decide_eq_true_eq, decide_eq_true_eq, Bool.not_eq_true', Bool.not_eq_true'] at h0
      obtain ⟨⟨⟨⟨⟨⟨⟨⟨⟨rfl, h1⟩, h2⟩, rfl⟩, h4⟩, h5⟩, h6⟩, h7⟩, h8⟩, h9⟩ := h0
      exact ⟨_, _, _, _, _, _, rfl, h1, h2, h4, h5, h6, h7, h8, h9⟩
    · exact absurd h0 Bool.false_ne_true
  obtain ⟨p0, q, y, z, pos, pos2, rfl, hg, hbl, hg2, hbl2, ca, cb, hs, hs2⟩ := key
  refine fin_both hX (fun Q p => ?_) rfl S.len
  refine wE.of (pe_listRg hX.calm (hX.gl _ (gl_of hg)) (hT.bls _ hbl) (prg_2 (hX.gl _ (gl_of hg2)) (hT.bls _ hbl2) peW peW (starCons hs) (starCons hs2) (by rw [starCons hs2]; rfl))) ?_
  refine step ha hX hT ca S nt (by simp) p (e2 := b.eff) rfl fun d e1 v H1 ω1 S1 c1 g1 p1 => ?_
  refine step hb hX hT cb S1 g1.1 (by simp) p1 (e2 := false) (by simp) fun d2 e2 v2 H2 ω2 S2 c2 g2 p2 => ?_
  cases d <;> first | exact p2.elim | skip
  rename_i i
  cases d2 <;> first | exact p2.elim | skip
  rename_i j
  have p2 : Post C X.K .v (if rngOk i j && decide ((j - i).toNat ≤ sizeLine) then .ok (.own (.lst (rngL i (j - i).toNat))) e2 else .stk) false ω2 e2 σ H2 W Q := p2
  by_cases hk : (rngOk i j && decide ((j - i).toNat ≤ sizeLine)) = true
  · rw [if_pos hk] at p2
    rw [Bool.and_eq_true, decide_eq_true_eq] at hk
    obtain ⟨hk, hk2⟩ := hk
    unfold rngOk at hk
    rw [decide_eq_true_eq] at hk
    have h1 := g1.2.int
    subst h1
    have h2 := g2.2.int
    subst h2
    refine ⟨i, j, rfl, rfl, ⟨hk.1, hk.2.1, hk.2.2.1, hk.2.2.2, by rw [sizeLine_eq] at hk2; omega⟩, fun q hq => ?_⟩
    have rs : Reps C X.K ω2 H2 (rgV i j) (rngL i (j - i).toNat) := by
      have := Reps.ints (C := C) (K := X.K) (ω := ω2) (H := H2) (is := (List.range (j - i).toNat).map fun (k : Nat) => i + (k : Int))
      rw [List.map_map, List.map_map] at this
      exact this
    obtain ⟨ω', a1, a2, a3⟩ := fresh_lst S2 g2.1 hq rs
    exact p2 _ _ ω' a1 a2 a3
  · rw [if_neg hk] at p2; exact p2.elim
end
end Q9

set_option Elab.async false
set_option linter.all false
set_option maxRecDepth 100000
namespace Q9
open PySem PySem.Spec L2

/-! ## a comprehension's block -/
section
variable {T : Tab} {N : List Str} {C : Ct} {c : Oracle} {sc scope : Scope} {W : WX} {X : Cx} {own : List Nat}
theorem blk_ok (hX : XOk N sc W X) (h : blkB N sc scope own = true) : BlkOk X.N X.env.scope scope (own.map fun p => (N.getD p default, p)) := by
  unfold blkB at h
  simp only [Bool.and_eq_true, List.all_eq_true, decide_eq_true_eq] at h
  obtain ⟨⟨⟨h1, h2⟩, h3⟩, h4⟩ := h
  refine ⟨?_, h2, fun p hp => ?_, fun y hy e => ?_, fun y hy e => ?_⟩
  · split at h1
    · assumption
    · cases h1
  · obtain ⟨q, hq, rfl⟩ := List.mem_map.mp hp
    have := h3 q hq
    rw [hX.hN]
    simp [List.getD, this]
  · have q := h4 y hy
    simp only [e] at q
    refine hX.cf y.1 ?_
    split at q <;> first | exact .inl (by assumption) | exact .inr (by assumption) | cases q
  · have q := h4 y hy
    rw [List.map_map, hX.hN]
    rcases e with e | e <;> (simp only [e, Bool.or_eq_true, decide_eq_true_eq] at q; exact q)
theorem own_snd : (own.map fun p => (N.getD p default, p)).map (·.2) = own := by rw [List.map_map]; exact List.map_id' _
theorem blk_x (hX : XOk N sc W X) (h : blkB N sc scope own = true) (s : Shared) (H : Hp) (D : Addr) (cl : List (Str × Addr)) (fp : List Addr) : XOk N scope (fun _ _ _ _ => False) (X.blk s H scope (compEnvC scope cl D X.env) fp) := by
  have kp : ∀ {x k}, k ≠ NameKind.free → scope.names.lookup x = some k → (compEnvC scope cl D X.env).scope.names.lookup x = some k := fun hk hx => lookup_relS_keep hk hx
  have fr : ∀ {x}, scope.names.lookup x = some .free → (compEnvC scope cl D X.env).scope.names.lookup x = some .cell ∨ (compEnvC scope cl D X.env).scope.names.lookup x = some .free := by
    intro x hx
    cases q : (compEnvC scope cl D X.env).scope.names.lookup x with
    | none =>
      exfalso
      have : ∀ (names : List (Str × NameKind)), names.lookup x = some .free → (names.map fun (n, k) => if (k == NameKind.free && X.env.scope.kind == .function && X.env.scope.names.lookup n == some .cell) then (n, NameKind.cell) else (n, k)).lookup x ≠ none := by
        intro names
        induction names with
        | nil => intro h; cases h
        | cons y r ih =>
          obtain ⟨n, k⟩ := y
          intro h
          show List.lookup x ((if (k == NameKind.free && X.env.scope.kind == .function && X.env.scope.names.lookup n == some .cell) = true then (n, NameKind.cell) else (n, k)) :: (r.map _)) ≠ none
          cases hx' : x == n with
          | true =>
            by_cases hc : (k == NameKind.free && X.env.scope.kind == .function && X.env.scope.names.lookup n == some .cell) = true
            · rw [if_pos hc]; simp only [List.lookup_cons, hx']; simp
            · rw [if_neg hc]; simp only [List.lookup_cons, hx']; simp
          | false =>
            simp only [List.lookup_cons, hx'] at h
            by_cases hc : (k == NameKind.free && X.env.scope.kind == .function && X.env.scope.names.lookup n == some .cell) = true
            · rw [if_pos hc]; simp only [List.lookup_cons, hx']; exact ih h
            · rw [if_neg hc]; simp only [List.lookup_cons, hx']; exact ih h
      exact this _ hx q
    | some k =>
      obtain ⟨k', e, r⟩ := lookup_relS q
      rw [hx] at e
      cases e
      rcases r with r | ⟨_, r⟩
      · subst r; exact .inr rfl
      · subst r; exact .inl rfl
  refine ⟨hX.hN, hX.nd, hX.calm, takes0, hX.hu, fun x hx => ?_, fun x hx => ?_, fun x hx => kp (by simp) hx, fun x hx => ?_⟩
  · rcases hx with hx | hx | hx
    · exact .inl (kp (by simp) hx)
    · exact .inr (.inl (kp (by simp) hx))
    · exact .inr (fr hx)
  · rcases hx with hx | hx
    · exact ⟨.inl (kp (by simp) hx), .inr (kp (by simp) hx)⟩
    · exact ⟨.inr (kp (by simp) hx), .inl (by show (scope.names.lookup x == some .cell) = true; rw [hx]; rfl)⟩
  · rcases hx with hx | hx
    · exact .inl (kp (by simp) hx)
    · exact fr hx
theorem blk_t (hT : TabOk T C c X) (s : Shared) (H : Hp) (D : Addr) (cl : List (Str × Addr)) (fp : List Addr) : TabOk T C c (X.blk s H scope (compEnvC scope cl D X.env) fp) := ⟨hT.fns, hT.cInt, hT.cStr, hT.bls⟩

/-! ## targets -/
def gNms : List Nat → TGs
  | [] => gNil
  | i :: is => gCons (gName i) (gNms is)
def gT (K : PySem.W.Frag) : Tg → TG
  | .nm i => gName i
  | .tp is => gTup K is.length (gNms is)
theorem pg_nm (hX : XOk N sc W X) {i : Nat} {x : Str} {pos : Pos} (hi : N[i]? = some x) (hl : locB sc x = true) : PG X (.Name x pos) (gName i) := by
  obtain ⟨h1, h2⟩ := hX.loc x (loc_of hl)
  exact pg_name (by rw [hX.hN]; exact hX.nd) (by rw [hX.hN]; exact hi) h1 h2
theorem pg_nms (hX : XOk N sc W X) : ∀ {is : List Nat} {es : List Expr}, is.length = es.length → ((is.zip es).all fun p => match p.2 with | .Name x _ => decide (N[p.1]? = some x) && locB sc x | _ => false) = true → PGs X es (gNms is) ∧ (assignEach es X.env).length = is.length ∧ (assignEach es X.env).findIdx? (·.1) = none
  | [], [], _, _ => ⟨pgs_nil, rfl, rfl⟩
  | [], _ :: _, h, _ => by simp at h
  | _ :: _, [], h, _ => by simp at h
  | i :: is, e :: es, hl, h => by
    rw [List.zip_cons_cons, List.all_cons, Bool.and_eq_true] at h
    obtain ⟨h1, h2⟩ := h
    obtain ⟨g1, g2, g3⟩ := pg_nms hX (is := is) (es := es) (by simpa using hl) h2
    cases e <;> first | exact absurd h1 Bool.false_ne_true | skip
    simp only [Bool.and_eq_true, decide_eq_true_eq] at h1
    refine ⟨pgs_cons (pg_nm hX h1.1 h1.2) g1, ?_, ?_⟩
    · show (assignEach es X.env).length + 1 = is.length + 1
      rw [g2]
    · show ((false, _) :: assignEach es X.env).findIdx? (·.1) = none
      rw [List.findIdx?_cons]
      simp [g3]
theorem pgT (hX : XOk N sc W X) {tg : Tg} {t : Expr} (h : tgB N sc tg t = true) : PG X t (gT X.K tg) := by
  cases tg with
  | nm i =>
    cases t <;> first | exact absurd h Bool.false_ne_true | skip
    have h : (decide _ && _) = true := h
    simp only [Bool.and_eq_true, decide_eq_true_eq] at h
    exact pg_nm hX h.1 h.2
  | tp is =>
    cases t <;> first | exact absurd h Bool.false_ne_true | skip
    rename_i es k pos
    have h : (decide (is.length = es.length) && (is.zip es).all fun p => match p.2 with | .Name x _ => decide (N[p.1]? = some x) && locB sc x | _ => false) = true := h
    rw [Bool.and_eq_true, decide_eq_true_eq] at h
    obtain ⟨g1, g2, g3⟩ := pg_nms hX h.1 h.2
    exact pg_tup hX.calm g1 g2 g3
end

section
variable {C : Ct} {K : PySem.W.Frag} {ω ω' : Om} {env env' : Env} {σ : L2.St} {H H' : Hp}
theorem rep_slot {i : Nat} {v : V} {d : D} (r : Rep C K ω H v d) : SlotR C K ω H i v d := by
  have r0 := r
  cases r <;> exact r0
theorem setSl_eq {e e' : Env} {i : Nat} {d : D} (h : setSl e i d = some e') : e' = e.set i (some d) ∧ i < e.length := by
  unfold setSl at h
  split at h
  · cases h
  · rename_i q
    cases h
    exact ⟨rfl, (List.getElem?_eq_some_iff.mp q).1⟩
  · cases h
theorem Sim.setF {i : Nat} {v : V} {d : D} {e' : Env} (S : Sim C K ω env σ H) (r : Rep C K ω H v d) (h : setSl env i d = some e') : Sim C K ω e' (σ.set i (some v)) H := by
  obtain ⟨rfl, hi⟩ := setSl_eq h
  refine ⟨by rw [List.length_set, List.length_set]; exact S.len, by rw [List.length_set]; exact S.sz, fun a j p q => by rw [List.length_set]; exact S.own a j p q, fun j d' q => ?_⟩
  by_cases hj : i = j
  · subst hj
    rw [List.getElem?_set_self hi] at q
    cases q
    exact ⟨v, by rw [List.getElem?_set_self (by rw [S.len]; exact hi)], rep_slot r⟩
  · rw [List.getElem?_set_ne hj] at q
    rw [List.getElem?_set_ne hj]
    exact S.slot j d' q
theorem wipe_set {i : Nat} {x : Option V} : ∀ {vs : List Nat}, i ∈ vs → wipe (σ.set i x) vs = wipe σ vs
  | v :: vs, h => by
    unfold wipe
    by_cases hi : i ∈ vs
    · rw [wipe_set hi]
    · have hv : v = i := by rcases List.mem_cons.mp h with h | h; exact h.symm; exact absurd h hi
      subst hv
      have : ∀ {vs : List Nat}, v ∉ vs → wipe (σ.set v x) vs = (wipe σ vs).set v x := by
        intro vs
        induction vs with
        | nil => intro _; rfl
        | cons w ws ih =>
          intro hn
          simp only [List.mem_cons, not_or] at hn
          unfold wipe
          rw [ih hn.2, List.set_comm _ _ hn.1]
      rw [this hi, List.set_set]
theorem setSls_ok {vs : List V} {Q : L2.St → Hp → Prop} : ∀ {is : List Nat} {xs : List V} {ds : List D} {env e' : Env} {σ : L2.St}, Sim C K ω env σ H → Reps C K ω H xs ds → setSls env is ds = some e' →
    (∀ σ', Sim C K ω e' σ' H → (∀ own : List Nat, is.all own.contains = true → wipe σ' own = wipe σ own) → Q σ' H) → gNms is xs σ H Q
  | [], [], [], env, e', σ, S, .nil, h, k => ⟨rfl, by cases h; exact k σ S fun _ _ => rfl⟩
  | [], _ :: _, _ :: _, _, _, _, _, .cons _ _, h, _ => nomatch h
  | i :: is, [], [], _, _, _, _, .nil, h, _ => nomatch h
  | i :: is, v :: xs, d :: ds, env, e', σ, S, .cons r rs, h, k => by
    have h : (match (generalizing := false) setSl env i d with | some e1 => setSls e1 is ds | none => none) = some e' := h
    cases q : setSl env i d with
    | none => rw [q] at h; cases h
    | some e1 =>
      rw [q] at h
      refine ⟨v, xs, rfl, setSls_ok (vs := vs) (S.setF r q) rs h fun σ' S' hw => k σ' S' fun own ho => ?_⟩
      rw [List.all_cons, Bool.and_eq_true] at ho
      rw [hw own ho.2, wipe_set (by simpa using ho.1)]
/-- a frozen value is bound -/
theorem bind_ok {tg : Tg} {v : V} {d : D} {e' : Env} {Q : L2.St → Hp → Prop} (S : Sim C K ω env σ H) (r : Rep C K ω H v d) (h : bindT env tg d = some e') (k : ∀ σ', Sim C K ω e' σ' H → (∀ own : List Nat, tgSub own tg = true → wipe σ' own = wipe σ own) → Q σ' H) : gT K tg v σ H Q := by
  cases tg with
  | nm i => exact k _ (S.setF r h) fun own ho => wipe_set (by simpa [tgSub] using ho)
  | tp is =>
    cases d <;> first | exact absurd (show (none : Option Env) = some e' from h) (by simp) | skip
    obtain ⟨a, xs, rfl, hx, rs⟩ := rep_tup r
    have h : setSls env is _ = some e' := h
    have hl : ∀ {is : List Nat} {ds : List D} {env e' : Env}, setSls env is ds = some e' → ds.length = is.length := by
      intro is
      induction is with
      | nil => intro ds env e' h; cases ds <;> first | rfl | exact nomatch h
      | cons i is ih =>
        intro ds env e' h
        cases ds with
        | nil => exact nomatch h
        | cons d ds =>
          have h : (match (generalizing := false) setSl env i d with | some e1 => setSls e1 is ds | none => none) = some e' := h
          cases q : setSl env i d with
          | none => rw [q] at h; cases h
          | some e1 => rw [q] at h; simp [ih h]
    refine ⟨a, xs, rfl, hx, by rw [rs.length, hl h], setSls_ok (vs := xs) S rs h k⟩

/-! ## wiping -/
def wipeE (e : Env) : List Nat → Env
  | [] => e
  | i :: is => (wipeE e is).set i none
theorem wipeE_length : ∀ {is : List Nat}, (wipeE env is).length = env.length
  | [] => rfl
  | i :: is => by unfold wipeE; rw [List.length_set, wipeE_length]
theorem wipeE_get {i : Nat} {d : D} : ∀ {is : List Nat}, (wipeE env is)[i]? = some (some d) ↔ (i ∉ is ∧ env[i]? = some (some d))
  | [] => by simp [wipeE]
  | j :: is => by
    unfold wipeE
    by_cases hj : j = i
    · subst hj
      constructor
      · intro h
        by_cases hl : j < (wipeE env is).length
        · rw [List.getElem?_set_self hl] at h; cases h
        · rw [List.getElem?_eq_none (by rw [List.length_set]; omega)] at h; cases h
      · intro h; exact absurd List.mem_cons_self h.1
    · rw [List.getElem?_set_ne hj, wipeE_get]
      simp only [List.mem_cons, not_or]
      exact ⟨fun h => ⟨⟨fun z => hj z.symm, h.1⟩, h.2⟩, fun h => ⟨h.1.2, h.2⟩⟩
theorem wipeD_eq : ∀ {is : List Nat} {e' : Env}, wipeD env is = some e' → e' = wipeE env is ∧ ∀ i ∈ is, i < env.length ∧ (∀ d, env[i]? ≠ some (some (.own d))) ∧ ∀ d, env[i]? ≠ some (some (.brw d))
  | [], e', h => by
    have h : some env = some e' := h
    cases h
    exact ⟨rfl, by simp⟩
  | i :: is, e', h => by
    have h : (match (generalizing := false) wipeD env is with
      | some e' => match e'[i]? with
        | some (some (.own _)) => none
        | some (some (.brw _)) => none
        | some _ => some (e'.set i none)
        | none => none
      | none => none) = some e' := h
    cases q : wipeD env is with
    | none => rw [q] at h; cases h
    | some e1 =>
      rw [q] at h
      simp only at h
      obtain ⟨rfl, h2⟩ := wipeD_eq q
      split at h <;> first | cases h | skip
      rename_i x hne1 hne2 hx
      refine ⟨rfl, fun j hj => ?_⟩
      rcases List.mem_cons.mp hj with rfl | hj
      · by_cases hm : j ∈ is
        · exact h2 j hm
        · have hl : j < env.length := by
            have := (List.getElem?_eq_some_iff.mp hx).1
            rw [wipeE_length] at this; exact this
          refine ⟨hl, fun d z => ?_, fun d z => ?_⟩
          · have := (wipeE_get (is := is)).mpr ⟨hm, z⟩
            rw [hx] at this; exact hne1 d (Option.some.inj this)
          · have := (wipeE_get (is := is)).mpr ⟨hm, z⟩
            rw [hx] at this; exact hne2 d (Option.some.inj this)
      · exact h2 j hj
theorem backD_length {e0 e : Env} : ∀ {is : List Nat}, (backD e0 e is).length = e.length
  | [] => rfl
  | i :: is => by
    unfold backD
    split
    · rw [List.length_set, backD_length]
    · exact backD_length
theorem backD_get {e0 e : Env} {i : Nat} (hl : e0.length = e.length) : ∀ {is : List Nat}, (backD e0 e is)[i]? = if i ∈ is then e0[i]? else e[i]?
  | [] => by simp [backD]
  | j :: is => by
    unfold backD
    by_cases hj : j = i
    · subst hj
      cases q : e0[j]? with
      | none =>
        rw [List.getElem?_eq_none_iff] at q
        rw [if_pos List.mem_cons_self]
        simp only
        exact List.getElem?_eq_none (by rw [backD_length]; omega)
      | some x =>
        rw [if_pos List.mem_cons_self]
        simp only
        have := (List.getElem?_eq_some_iff.mp q).1
        rw [List.getElem?_set_self (by rw [backD_length]; omega)]
    · have e1 : (i ∈ j :: is) = (i ∈ is) := by simp [List.mem_cons, Ne.symm hj]
      split
      · rw [List.getElem?_set_ne hj, backD_get hl]; simp only [e1]
      · rw [backD_get hl]; simp only [e1]
theorem Sim.wipe {is : List Nat} (S : Sim C K ω env σ H) : Sim C K ω (wipeE env is) (L2.wipe σ is) H := by
  refine ⟨by rw [wipe_length, wipeE_length]; exact S.len, by rw [wipeE_length]; exact S.sz, fun a i p q => by rw [wipeE_length]; exact S.own a i p q, fun i d q => ?_⟩
  obtain ⟨hm, q⟩ := wipeE_get.mp q
  obtain ⟨v, e, r⟩ := S.slot i d q
  exact ⟨v, by rw [wipe_out hm]; exact e, r⟩

/-! ## the list of a comprehension, kept apart while the block runs -/
theorem Sim.layF {p : Addr} {o : HO} (S : Sim C K ω env σ H) (h : H p = none) (hm : Mut (some o)) : Sim C K (ownNew ω p FO) env σ (upd H p o) := by
  have c : Chg false ω H (ownNew ω p FO) (upd H p o) := Chg.own h (S.fresh h)
  refine ⟨S.len, S.sz, fun a i q e => ?_, fun i d q => ?_⟩
  · by_cases z : a = p
    · subst z
      rw [ownNew_same] at e
      cases e
      exact ⟨.inr rfl, by rw [upd_same]; exact hm⟩
    · rw [ownNew_ne z] at e
      exact ⟨(S.own a i q e).1, by rw [upd_ne z]; exact (S.own a i q e).2⟩
  · obtain ⟨v, e, r⟩ := S.slot i d q
    have hk : ∀ a q o', ω a = some (i, q) → H a = some o' → (upd H p o) a = some o' ∧ ownNew ω p FO a = some (i, q) := fun a q o' w e' => by
      have z : a ≠ p := ne_of_none e' h
      exact ⟨by rw [upd_ne z]; exact e', by rw [ownNew_ne z]; exact w⟩
    refine ⟨v, e, ?_⟩
    cases d <;> first
      | exact Rep.mono c r
      | exact OwnR.mono r c hk
/-- a slot where another's thing is written or handed over -/
theorem SlotR.re {i : Nat} {v : V} {d : D} (r : SlotR C K ω H i v d) (f : Fz ω H ω' H') (hk : ∀ a q o, ω a = some (i, q) → H a = some o → H' a = some o ∧ ω' a = some (i, q)) : SlotR C K ω' H' i v d := by
  cases d <;> first
    | exact Rep.fz f r
    | exact OwnR.re r f hk
theorem Sim.wrF {p : Addr} {xs : List V} (S : Sim C K ω env σ H) (hp : ω p = some (FO, none)) : Sim C K ω env σ (upd H p (.lst xs)) ∧ Fz ω H ω (upd H p (.lst xs)) := by
  have f : Fz ω H ω (upd H p (.lst xs)) := ⟨fun a o e q => by rw [upd_ne (fun z => by subst z; rw [hp] at q; cases q)]; exact e, fun _ _ q => q⟩
  refine ⟨⟨S.len, S.sz, fun b j q e => ⟨(S.own b j q e).1, mut_upd (S.own b j q e).2⟩, fun j d q => ?_⟩, f⟩
  obtain ⟨v, e, r⟩ := S.slot j d q
  have hj : j < env.length := (List.getElem?_eq_some_iff.mp q).1
  have hj2 := S.sz
  exact ⟨v, e, r.re f fun a q o w e => ⟨by rw [upd_ne (fun z => by subst z; rw [hp] at w; cases w; omega)]; exact e, w⟩⟩
/-- handed over to the place n -/
def give (ω : Om) (p : Addr) (n : Nat) : Om := fun a => if a = p then some (n, none) else ω a
theorem Sim.give {p : Addr} (S : Sim C K ω env σ H) (hp : ω p = some (FO, none)) : Sim C K (give ω p env.length) env σ H ∧ Fz ω H (give ω p env.length) H := by
  have f : Fz ω H (Q9.give ω p env.length) H := ⟨fun a o e q => e, fun a _ q => by unfold Q9.give; rw [if_neg (fun z => by subst z; rw [hp] at q; cases q)]; exact q⟩
  refine ⟨⟨S.len, S.sz, fun a j q e => ?_, fun j d q => ?_⟩, f⟩
  · unfold Q9.give at e
    split at e
    · rename_i z; subst z; cases e; exact ⟨.inl (Nat.le_refl _), (S.own a _ _ hp).2⟩
    · exact S.own a j q e
  · obtain ⟨v, e, r⟩ := S.slot j d q
    have hj : j < env.length := (List.getElem?_eq_some_iff.mp q).1
    have hj2 := S.sz
    exact ⟨v, e, r.re f fun a q o w e => ⟨e, by unfold Q9.give; rw [if_neg (fun z => by subst z; rw [hp] at w; cases w; omega)]; exact w⟩⟩
theorem Chg.apart {b : Bool} {p : Addr} {o : HO} (c : Chg b ω H ω' H') (h : H p = none) : Chg b ω H ω' (upd H' p o) := by
  refine ⟨fun a u e q => by rw [upd_ne (ne_of_none e h)]; exact c.keep a u e q, c.free, fun a e => ?_, fun a q e => ⟨(c.far a q e).1, fun u x => by rw [upd_ne (ne_of_none x h)]; exact (c.far a q e).2 u x⟩⟩
  by_cases z : a = p
  · subst z; exact absurd h e
  · rw [upd_ne z]; exact c.there a e
theorem Chg.given {b : Bool} {p : Addr} {n : Nat} (c : Chg b ω H ω' H') (h : H p = none) (hw : ω p = none) : Chg b ω H (Q9.give ω' p n) H' := by
  refine ⟨c.keep, fun a e q => ?_, c.there, fun a q e => ⟨?_, (c.far a q e).2⟩⟩
  · unfold Q9.give; rw [if_neg (fun z => by subst z; exact e h)]; exact c.free a e q
  · unfold Q9.give; rw [if_neg (fun z => by subst z; rw [hw] at e; cases e)]; exact (c.far a q e).1
end
end Q9

set_option Elab.async false
set_option linter.all false
set_option maxRecDepth 100000
namespace Q9
open PySem PySem.Spec L2
section
variable {T : Tab} {N : List Str} {C : Ct} {c : Oracle}
theorem con_true {cond : IE} (h : (match cond with | .con (.bl true) => true | _ => false) = true) : cond = .con (.bl true) := by
  split at h
  · rfl
  · cases h
theorem chk_lc {own : List Nat} {tg : Tg} {it cond elt : IE} {sc : Scope} {e : Expr} (hc : chkE T N (.lc own tg it cond elt) none sc e = true) :
    ∃ x t i ifs scope pos, e = .ListComp x [⟨t, i, ifs, 0⟩] scope pos ∧ chkE T N it (some t) sc i = true ∧ blkB N sc scope own = true ∧ tgB N scope tg t = true ∧ tgSub own tg = true ∧ ((ifs = [] ∧ cond = .con (.bl true)) ∨ ∃ k, ifs = [k] ∧ chkE T N cond none scope k = true) ∧ chkE T N elt none scope x = true ∧ isSet i = false := by
  cases e <;> first | exact absurd hc Bool.false_ne_true | skip
  rename_i x gs scope pos
  match gs, hc with
  | [], hc => exact absurd hc Bool.false_ne_true
  | ⟨t, i, ifs, a⟩ :: _ :: _, hc =>
    cases a with
    | negSucc n => exact absurd hc Bool.false_ne_true
    | ofNat n => cases n <;> exact absurd hc Bool.false_ne_true
  | [⟨t, i, ifs, a⟩], hc =>
    cases a with
    | negSucc n => exact absurd hc Bool.false_ne_true
    | ofNat n =>
      cases n with
      | succ n => exact absurd hc Bool.false_ne_true
      | zero =>
        have hc : (chkE T N it (some t) sc i && blkB N sc scope own && tgB N scope tg t && tgSub own tg && (match (generalizing := false) ifs with | [] => (match (generalizing := false) cond with | .con (.bl true) => true | _ => false) | [k] => chkE T N cond none scope k | _ => false) && chkE T N elt none scope x && !isSet i) = true := hc
        rw [Bool.and_eq_true, Bool.and_eq_true, Bool.and_eq_true, Bool.and_eq_true, Bool.and_eq_true, Bool.and_eq_true, Bool.not_eq_true'] at hc
        obtain ⟨⟨⟨⟨⟨⟨h1, h2⟩, h3⟩, h4⟩, h5⟩, h6⟩, h7⟩ := hc
        refine ⟨x, t, i, ifs, scope, pos, rfl, h1, h2, h3, h4, ?_, h6, h7⟩
        match ifs, h5 with
        | [], h5 =>
          exact .inl ⟨rfl, con_true h5⟩
        | [k], h5 => exact .inr ⟨k, rfl, h5⟩
        | _ :: _ :: _, h5 => exact absurd h5 Bool.false_ne_true

theorem cloop_cons {bnd : Env → D → Option Env} {cond elt : Env → Re D} {d : D} {ds acc : List D} {e : Env} {dF : D} {eF : Env} (h : cloop bnd cond elt (d :: ds) acc e = .ok dF eF) :
    ∃ e1 b e2, bnd e d = some e1 ∧ cond e1 = .ok (.bl b) e2 ∧ (b = true → ∃ x e3, elt e2 = .ok x e3 ∧ acc.length < sizeLine ∧ cloop bnd cond elt ds (acc ++ [D.un x]) e3 = .ok dF eF) ∧ (b = false → cloop bnd cond elt ds acc e2 = .ok dF eF) := by
  have h : (match (generalizing := false) bnd e d with
    | none => Re.stk
    | some e1 => (cond e1).bind fun b e2 => match b with
      | .bl true => (elt e2).bind fun x e3 => if acc.length < sizeLine then cloop bnd cond elt ds (acc ++ [D.un x]) e3 else .stk
      | .bl false => cloop bnd cond elt ds acc e2
      | _ => .stk) = .ok dF eF := h
  cases h1 : bnd e d with
  | none => rw [h1] at h; cases h
  | some e1 =>
    rw [h1] at h
    simp only at h
    cases h2 : cond e1 with
    | stk => rw [h2] at h; cases h
    | exc _ _ _ => rw [h2] at h; cases h
    | ok b e2 =>
      rw [h2] at h
      cases b <;> first | exact absurd (show Re.stk = Re.ok dF eF from h) (by simp) | skip
      rename_i b
      refine ⟨e1, b, e2, rfl, h2, fun hb => ?_, fun hb => ?_⟩
      · subst hb
        have h : (elt e2).bind (fun x e3 => if acc.length < sizeLine then cloop bnd cond elt ds (acc ++ [D.un x]) e3 else .stk) = .ok dF eF := h
        cases h3 : elt e2 with
        | stk => rw [h3] at h; cases h
        | exc _ _ _ => rw [h3] at h; cases h
        | ok x e3 =>
          rw [h3] at h
          have h : (if acc.length < sizeLine then cloop bnd cond elt ds (acc ++ [D.un x]) e3 else .stk) = .ok dF eF := h
          split at h
          · exact ⟨x, e3, rfl, by assumption, h⟩
          · cases h
      · subst hb; exact h

/-- what holds as a comprehension's turn starts -/
structure LcI (C : Ct) (K : PySem.W.Frag) (own : List Nat) (σ : L2.St) (ω1 : Om) (H1 : Hp) (n : Nat) (eb : Bool) (D : Addr) (acc : List Q9.D) (e : Env) (ω : Om) (H : Hp) : Prop where
  sim : Sim C K ω (wipeE e own) (wipe σ own) H
  chg : Chg eb ω1 H1 ω H
  not : NoT ω n
  lst : ∃ xs, H D = some (.lst xs) ∧ Reps C K ω H xs acc
  far : ω D = some (FO, none)
  len : e.length = n

/-- a turn's end: the item goes to the list -/
theorem LcI.app {K : PySem.W.Frag} {own : List Nat} {σ : L2.St} {ω1 ω : Om} {H1 H : Hp} {n : Nat} {eb : Bool} {D : Addr} {acc : List Q9.D} {e : Env} {x : Q9.D} {v : V} {xs : List V} (h1 : H1 D = none)
    (S : Sim C K ω (wipeE e own) (wipe σ own) H) (c0 : Chg eb ω1 H1 ω H) (nt : NoT ω n) (hD : H D = some (.lst xs)) (rs : Reps C K ω H xs acc) (far : ω D = some (FO, none)) (hl : e.length = n) (r : Rep C K ω H v x) :
    LcI C K own σ ω1 H1 n eb D (acc ++ [x]) e ω (upd H D (.lst (xs ++ [v]))) := by
  obtain ⟨S', f⟩ := S.wrF (xs := xs ++ [v]) far
  exact ⟨S', c0.apart h1, nt, ⟨_, upd_same, (rs.fz f).append (.cons (r.fz f) .nil)⟩, far, hl⟩

/-- the core of a comprehension -/
theorem lc_key {own : List Nat} {tg : Tg} {it cond elt : IE} (hi : SI T N C c it) (hcd : SE T N C c cond) (he : SE T N C c elt) {sc scope : Scope} {x t i : Expr} {ifs : List Expr} {W : WX} {X : Cx} {env : Env} {ω : Om} {σ : L2.St} {H : Hp} (hX : XOk N sc W X) (hT : TabOk T C c X)
    (ci : chkE T N it (some t) sc i = true) (hblk : blkB N sc scope own = true) (htg : tgB N scope tg t = true) (hsub : tgSub own tg = true) (hif : (ifs = [] ∧ cond = .con (.bl true)) ∨ ∃ k, ifs = [k] ∧ chkE T N cond none scope k = true) (cel : chkE T N elt none scope x = true)
    (S : Sim C X.K ω env σ H) (nt : NoT ω env.length) : ∃ (tt : TT) (te : TE), (∀ s H D cl fp, PTs (X.blk s H scope (compEnvC scope cl D X.env) fp) ifs tt) ∧ (∀ s H D cl fp, PE (X.blk s H scope (compEnvC scope cl D X.env) fp) x te) ∧
      ∀ Q : VK, Post C X.K .v ((ev c it .v env).bind fun x e1 => match itemsD (D.un x), wipeD e1 own with
    | some l, some _ => match cloop (fun e d => match wipeD e own with | some e' => bindT e' tg d | none => none) (fun e => ev c cond .t e) (fun e => ev c elt .v e) l [] e1 with
      | .ok d e3 => .ok d (backD e1 e3 own)
      | _ => .stk
    | _, _ => .stk) (it.eff || cond.eff || elt.eff) ω env σ H W Q → tLc (wI X t i) (gT X.K tg) tt te own σ H Q := by
  have bx : ∀ s H D cl fp, XOk N scope (fun _ _ _ _ => False) (X.blk s H scope (compEnvC scope cl D X.env) fp) := fun s H D cl fp => blk_x hX hblk s H D cl fp
  have bt : ∀ s H D cl fp, TabOk T C c (X.blk s H scope (compEnvC scope cl D X.env) fp) := fun s H D cl fp => blk_t hT s H D cl fp
  have tests : ∃ tt : TT, (∀ s H D cl fp, PTs (X.blk s H scope (compEnvC scope cl D X.env) fp) ifs tt) ∧ ∀ env ω σ H Q, Sim C X.K ω env σ H → NoT ω env.length → PostT C X.K (ev c cond .t env) cond.eff ω env σ H (fun _ _ _ _ => False) Q → tt σ H Q := by
    rcases hif with ⟨rfl, rfl⟩ | ⟨k, rfl, ck⟩
    · exact ⟨tYes, fun s H D cl fp => pts_nil, fun env ω σ H Q S nt p => p H ω S (.refl _ _ _) nt⟩
    · refine ⟨fun σ H Q => ∀ s H0 D cl fp, wT (X.blk s H0 scope (compEnvC scope cl D X.env) fp) k σ H Q, fun s H0 D cl fp => pts_one ⟨fun pins s' σ H Q I h => h s H0 D cl fp pins s' I⟩, fun env ω σ H Q S nt p s H0 D cl fp => ?_⟩
      exact (hcd scope k _ (X.blk s H0 scope (compEnvC scope cl D X.env) fp) env ω σ H (bx s H0 D cl fp) (bt s H0 D cl fp) ck S nt).2 Q p
  obtain ⟨tt, ptt, ktt⟩ := tests
  let te : TE := fun σ H Q => ∀ s H0 D cl fp, wE (X.blk s H0 scope (compEnvC scope cl D X.env) fp) x σ H Q
  have pte : ∀ s H D cl fp, PE (X.blk s H scope (compEnvC scope cl D X.env) fp) x te := fun s H0 D cl fp => ⟨fun pins s' σ H Q I h => h s H0 D cl fp pins s' I⟩
  refine ⟨tt, te, ptt, pte, fun Q p => ?_⟩
  refine hi sc t i W X env ω σ H hX hT ci S nt _ ?_
  cases hr : ev c it .v env with
  | stk => rw [hr] at p; exact p.elim
  | exc cl w e1 => rw [hr] at p; exact p
  | ok d0 e1 =>
    rw [hr] at p
    have p : Post C X.K .v (match itemsD (D.un d0), wipeD e1 own with
      | some l, some _ => match cloop (fun e d => match wipeD e own with | some e' => bindT e' tg d | none => none) (fun e => ev c cond .t e) (fun e => ev c elt .v e) l [] e1 with
        | .ok d e3 => .ok d (backD e1 e3 own)
        | _ => .stk
      | _, _ => .stk) (it.eff || cond.eff || elt.eff) ω env σ H W Q := p
    cases hl : itemsD (D.un d0) with
    | none => rw [hl] at p; exact p.elim
    | some l =>
    cases hw : wipeD e1 own with
    | none => rw [hl, hw] at p; exact p.elim
    | some e1' =>
    rw [hl, hw] at p
    simp only at p
    obtain ⟨hw1, hw2⟩ := wipeD_eq hw
    generalize hbnd : (fun (e : Env) (d : D) => (match (generalizing := false) wipeD e own with | some e' => bindT e' tg d | none => none : Option Env)) = bnd at p
    cases hcl : cloop bnd (fun e => ev c cond .t e) (fun e => ev c elt .v e) l [] e1 with
    | stk => rw [hcl] at p; exact p.elim
    | exc _ _ _ => rw [hcl] at p; exact p.elim
    | ok dF eF =>
    rw [hcl] at p
    simp only at p
    show match itemsD (D.un d0) with
      | some l => ∀ J H' ω', Sim C X.K ω' e1 σ H' → Chg it.eff ω H ω' H' → NoT ω' env.length → ItOk C X.K ω' H' J l → _
      | none => False
    rw [hl]
    intro J H1 ω1 S1 c1 n1 it1 D hD
    have el : e1.length = env.length := S.elen S1
    have hωD : ω1 D = none := S1.fresh hD
    refine ⟨fun i m H => m = l.length - i ∧ ∃ acc e ω, cloop bnd (fun e => ev c cond .t e) (fun e => ev c elt .v e) (l.drop i) acc e = .ok dF eF ∧ LcI C X.K own σ ω1 H1 e1.length (cond.eff || elt.eff) D acc e ω H, ⟨l.length, by simp, [], e1, ownNew ω1 D FO, by simpa using hcl, ?_⟩, ?_⟩
    · refine ⟨S1.wipe.layF hD trivial, Chg.non (Chg.own hD hωD), fun a q e => ?_, ⟨[], upd_same, .nil⟩, ownNew_same, rfl⟩
      by_cases z : a = D
      · subst z; rw [ownNew_same] at e; simp only [Option.some.injEq, Prod.mk.injEq] at e; have := S1.sz; omega
      · rw [ownNew_ne z] at e; exact n1 a q (by rw [← el]; exact e)
    · rintro i m H2 ⟨rfl, acc, e, ω2, hloop, I⟩
      have hn2 : ∀ a, H2 a = none → ω2 a = none := fun a h => I.sim.fresh h
      have itk := it1 i ω2 H2 I.chg.any hn2
      have n2 : NoT ω2 e.length := by rw [I.len]; exact I.not
      have sz1 := S1.sz
      cases hd : l.drop i with
      | nil =>
        left
        rw [hd] at hloop
        have hloop : Re.ok (Q9.D.own (.lst acc)) e = .ok dF eF := hloop
        injection hloop with hl1 hl2
        subst hl1 hl2
        refine ⟨itk.2 (by simpa using hd), ?_⟩
        obtain ⟨xs, hx, rx⟩ := I.lst
        have lw : (wipeE e own).length = env.length := by rw [wipeE_length, I.len, el]
        obtain ⟨S', f⟩ := I.sim.give I.far
        rw [lw] at S' f
        have ch : Chg (cond.eff || elt.eff) ω1 H1 (give ω2 D env.length) H2 := I.chg.given hD hωD
        refine p (.ref D) H2 (give ω2 D env.length) ⟨by rw [backD_length, I.len]; exact S1.len, by rw [backD_length, I.len]; exact sz1, fun a j q e' => ?_, fun j d q => ?_⟩ ?_ (.inl ⟨.lst acc, rfl, .flat (.lst hx (if_pos rfl) (rx.fz f))⟩)
        · have := S'.own a j q e'
          rw [backD_length, I.len, el]
          rw [lw] at this
          exact this
        · rw [backD_get I.len.symm] at q
          by_cases hj : j ∈ own
          · rw [if_pos hj] at q
            obtain ⟨v, ev, r⟩ := S1.slot j d q
            obtain ⟨_, q1, q2⟩ := hw2 j hj
            refine ⟨v, ev, ?_⟩
            cases d <;> first
              | exact Rep.mono ch r
              | exact absurd q (q1 _)
              | exact absurd q (q2 _)
          · rw [if_neg hj] at q
            obtain ⟨v, ev, r⟩ := S'.slot j d (wipeE_get.mpr ⟨hj, q⟩)
            exact ⟨v, (wipe_some ev).1, r⟩
        · rw [Bool.or_assoc]; exact c1.trans ch
      | cons d ds =>
        right
        have hlt : i < l.length := by
          have : (l.drop i).length = ds.length + 1 := by rw [hd]; rfl
          rw [List.length_drop] at this; omega
        have hdi : l[i]? = some d := by
          have : (l.drop i)[0]? = some d := by rw [hd]; rfl
          rw [List.getElem?_drop] at this; simpa using this
        have hds : l.drop (i + 1) = ds := by
          have : (l.drop i).drop 1 = ds := by rw [hd]; rfl
          rw [List.drop_drop] at this; exact this
        rw [hd] at hloop
        obtain ⟨e3, b, e4, hb1, hb2, hbt, hbf⟩ := cloop_cons hloop
        obtain ⟨jgo, jyld⟩ := itk.1 d hdi
        refine ⟨jgo, fun H' => ∃ acc e ω, cloop bnd (fun e => ev c cond .t e) (fun e => ev c elt .v e) (l.drop (i + 1)) acc e = .ok dF eF ∧ LcI C X.K own σ ω1 H1 e1.length (cond.eff || elt.eff) D acc e ω H', fun H' h => ⟨l.length - (i + 1), by omega, rfl, h⟩, fun y H3 hy => ?_⟩
        obtain ⟨hsame, ry⟩ := jyld y H3 hy
        have S3 := I.sim.same hsame
        have hb1' : (match (generalizing := false) wipeD e own with | some e' => bindT e' tg d | none => none : Option Env) = some e3 := by rw [← hb1, ← hbnd]
        cases hwe : wipeD e own with
        | none => rw [hwe] at hb1'; cases hb1'
        | some ew =>
        rw [hwe] at hb1'
        simp only at hb1'
        obtain ⟨rfl, _⟩ := wipeD_eq hwe
        refine bind_ok S3 ry hb1' fun σ2 S4 hwp => ?_
        have hwp := hwp own hsub
        have ww : wipe (wipe σ own) own = wipe σ own := by
          apply List.ext_getElem?
          intro j
          by_cases hj : j ∈ own
          · have key : ∀ τ : L2.St, ∀ vs : List Nat, j ∈ vs → j < τ.length → (wipe τ vs)[j]? = some none := by
              intro τ vs
              induction vs with
              | nil => intro h; cases h
              | cons w ws ih =>
                intro h hl
                unfold wipe
                by_cases hw : w = j
                · subst hw; rw [List.getElem?_set_self (by rw [wipe_length]; exact hl)]
                · rw [List.getElem?_set_ne hw]
                  exact ih ((List.mem_cons.mp h).resolve_left (fun z => hw z.symm)) hl
            by_cases hl : j < σ.length
            · rw [key _ _ hj (by rw [wipe_length]; exact hl), key _ _ hj hl]
            · rw [List.getElem?_eq_none (by rw [wipe_length, wipe_length]; omega), List.getElem?_eq_none (by rw [wipe_length]; omega)]
          · rw [wipe_out hj]
        rw [ww] at hwp
        refine ⟨hwp, ?_⟩
        have el3 : e3.length = e1.length := by
          have h1 := S4.len
          have h2 : (wipe σ2 own).length = (wipe σ own).length := by rw [hwp]
          rw [wipe_length, wipe_length] at h2
          rw [← h1, h2, S1.len]
        have farD : ω2 D = some (FO, none) := I.far
        obtain ⟨xs, hx2, rx2⟩ := I.lst
        have cs : Chg false ω2 H2 ω2 H3 := Chg.same hsame
        refine ktt e3 ω2 σ2 H3 _ S4 (by rw [el3, ← I.len]; exact n2) ?_
        rw [hb2]
        intro H4 ω4 S5 c4 n4
        have el4 : e4.length = e1.length := by rw [← el3]; exact (S4.elen S5)
        have c24 : Chg (cond.eff || elt.eff) ω1 H1 ω4 H4 := ((I.chg.trans cs).trans c4).up (fun h => by rw [Bool.or_eq_false_iff] at h; rw [h.1, h.2]; rfl)
        obtain ⟨f4, k4⟩ := c4.far D none farD
        have hx4 : H4 D = some (.lst xs) := k4 _ (hsame _ _ hx2)
        have rx4 : Reps C X.K ω4 H4 xs acc := (rx2.mono cs).mono c4
        cases b with
        | false =>
          refine (if_neg (by simp)).mpr ?_
          refine ⟨acc, e4, ω4, by rw [hds]; exact hbf rfl, ?_, c24, by rw [← el3]; exact n4, ⟨xs, hx4, rx4⟩, f4, el4⟩
          have := S5.wipe (is := own)
          rw [hwp] at this
          exact this
        | true =>
          refine (if_pos rfl).mpr ?_
          obtain ⟨z, e5, hz, hacc, hrest⟩ := hbt rfl
          intro s H0 D0 cl fp
          refine (he scope x _ (X.blk s H0 scope (compEnvC scope cl D0 X.env) fp) e4 ω4 σ2 H4 (bx s H0 D0 cl fp) (bt s H0 D0 cl fp) cel S5 (by rw [el4, ← el3]; exact n4)).1 .v _ (by simp) ?_
          rw [hz]
          intro v H5 ω5 S6 c5 g5
          have el5 : e5.length = e4.length := S5.elen S6
          rw [← el5] at g5
          obtain ⟨S6', n6, r6⟩ := g5.freeze S6
          have cs5 : Chg false ω5 H5 (strike ω5 e5.length) H5 := Chg.strike (Nat.ne_of_lt S6.sz)
          obtain ⟨f5, k5⟩ := (c5.trans cs5).far D none f4
          have hx5 : H5 D = some (.lst xs) := k5 _ hx4
          have rx5 : Reps C X.K (strike ω5 e5.length) H5 xs acc := rx4.mono (c5.trans cs5)
          refine ⟨xs, hx5, by rw [rx5.length]; exact hacc, acc ++ [Q9.D.un z], e5, strike ω5 e5.length, by rw [hds]; exact hrest, ?_⟩
          refine LcI.app hD ?_ ((c24.trans (c5.trans cs5)).up (fun h => by rw [Bool.or_eq_false_iff] at h; rw [h.1, h.2]; rfl)) (by rw [← el4, ← el5]; exact n6) hx5 rx5 f5 (by rw [el5, el4]) r6
          have := S6'.wipe (is := own)
          rw [hwp] at this
          exact this
theorem se_lc {own : List Nat} {tg : Tg} {it cond elt : IE} (hi : SI T N C c it) (hcd : SE T N C c cond) (he : SE T N C c elt) : SE T N C c (.lc own tg it cond elt) := by
  intro sc e W X env ω σ H hX hT hc S nt
  obtain ⟨x, t, i, ifs, scope, pos, rfl, ci, hblk, htg, hsub, hif, cel, hset⟩ := chk_lc hc
  refine fin_both hX (fun Q p => ?_) rfl S.len
  obtain ⟨tt, te, ptt, pte, k⟩ := lc_key hi hcd he hX hT ci hblk htg hsub hif cel S nt
  have hs : ∀ v, foldedSetIterable i X.env v = pure v := by
    intro v
    cases i <;> first | rfl | exact absurd hset (fun z => Bool.false_ne_true z.symm)
  have main := pe_lc (X := X) (tg := t) (g := gT X.K tg) (pos := pos) hX.calm (by rw [hX.hN]; exact hX.nd) piW (blk_ok hX hblk) (fun s H D cl fp => pgT (blk_x hX hblk s H D cl fp) htg) ptt pte hs
  rw [own_snd] at main
  exact wE.of main (k Q p)
end
end Q9

set_option Elab.async false
set_option linter.all false
set_option maxRecDepth 100000
namespace Q9
open PySem PySem.Spec L2
section
variable {T : Tab} {N : List Str} {C : Ct} {c : Oracle}
theorem pe_tyN {X : Cx} {x : Str} {t : String} {p : Pos} (hg : Gl X x) (hm : X.mg x = none) (hv : bootBuiltins x = some (.type t)) (hn : x ≠ "__name__") (hd : (x == ("__debug__" : Str)) = false) : PE X (.Name x p) (tC (.ty t)) :=
  ⟨fun pins s σ H Q I h => ld_blt I hg hm hv ⟨.ty t, H, I, rfl, h⟩ hn hd⟩
theorem Tk.boot (k : Tk) : bootBuiltins (Str.ofString k.nm) = some (.type k.nm) := by cases k <;> decide +kernel
theorem Tk.nmOk (k : Tk) : Str.ofString k.nm ≠ "__name__" ∧ (Str.ofString k.nm == ("__debug__" : Str)) = false := by cases k <;> decide +kernel
theorem isi_nm : ("isinstance" : Str) ≠ "__name__" ∧ (("isinstance" : Str) == ("__debug__" : Str)) = false ∧ bootBuiltins "isinstance" = some (.builtin "isinstance") := by decide +kernel
theorem tyx {K : PySem.W.Frag} {ω : Om} {H : Hp} {v : V} {d : D} {t : String} (s : Sh C K ω H v d) (h : tyD d = some t) : TyX K H v (.type t) := by
  cases s with
  | rep r =>
    cases r with
    | non => cases h; exact .base .non
    | bl b => cases h; exact .base (.bl b)
    | int i => cases h; exact .base (.int i)
    | str x => cases h; exact .base (.str x)
    | tup r rs =>
      cases h
      rcases r.1 with e | ⟨o, e⟩
      · exact .base (.tup e)
      · exact .fTuple e
    | tupK r rs =>
      cases h
      obtain ⟨o, its, n, e, c, _⟩ := r
      exact .kTuple e c
    | lst e _ rs => cases h; exact .base (.lst e)
    | flk r rs =>
      cases h
      rcases r with ⟨r, _⟩ | ⟨o, its, n, e, c, _⟩
      · rcases r with e | ⟨o, e⟩
        · exact .base (.lst e)
        · exact .base (.frz e)
      · exact .kList e c
    | ins _ _ _ _ => cases h
  | lst e rs => cases h; exact .base (.lst e)
  | ins _ _ _ => cases h
theorem has_kit {K : PySem.W.Frag} {k : Tk} {d : D} {b : Bool} (h : k.has d = some b) : ∃ t, tyD d = some t ∧ PySem.W.kitOne K (.type t) (.type k.nm) = some b := by
  cases d <;> cases k <;> first
    | (cases h; exact ⟨_, rfl, kit_ty (by decide +kernel)⟩)
    | exact absurd (show (none : Option Bool) = some b from h) (by simp)
theorem se_isi {k : Tk} {a : IE} (ha : SE T N C c a) : SE T N C c (.isi k a) := by
  intro sc e W X env ω σ H hX hT hc S nt
  have key : ∃ q y q2 pos, e = .Call (.Name "isinstance" q) [y, .Name (Str.ofString k.nm) q2] [] pos ∧ glB sc "isinstance" = true ∧ T.bl.contains "isinstance" = true ∧ glB sc (Str.ofString k.nm) = true ∧ T.bl.contains k.nm = true ∧ chkE T N a none sc y = true ∧ isStar y = false := by
    have hc : (match (generalizing := false) e with
      | .Call (.Name x _) [y, .Name z _] [] _ => decide (x = ("isinstance" : Str)) && glB sc x && T.bl.contains "isinstance" && decide (z = Str.ofString k.nm) && glB sc z && T.bl.contains k.nm && chkE T N a none sc y && !isStar y
      | _ => false) = true := hc
    split at hc
    · rw [Bool.and_eq_true, Bool.and_eq_true, Bool.and_eq_true, Bool.and_eq_true, Bool.and_eq_true, Bool.and_eq_true, Bool.and_eq_true, decide_eq_true_eq, decide_eq_true_eq, Bool.not_eq_true'] at hc
      obtain ⟨⟨⟨⟨⟨⟨⟨rfl, h1⟩, h2⟩, rfl⟩, h3⟩, h4⟩, h5⟩, h6⟩ := hc
      exact ⟨_, _, _, _, rfl, h1, h2, h3, h4, h5, h6⟩
    · cases hc
  obtain ⟨q, y, q2, pos, rfl, g1, b1, g2, b2, ca, hs⟩ := key
  obtain ⟨n1, n2, n3⟩ := isi_nm
  obtain ⟨m1, m2⟩ := k.nmOk
  have pe : PE X (.Call (.Name "isinstance" q) [y, .Name (Str.ofString k.nm) q2] [] pos) _ :=
    pe_callB call_isi (hX.gl _ (gl_of g1)) (hT.bls _ b1) n3 (pa_cons (peW (e := y)) (pa_cons (pe_tyN (hX.gl _ (gl_of g2)) (hT.bls _ b2) k.boot m1 m2) pa_nil rfl) (starCons hs)) n1 n2 (starCons hs) rfl
  have core : ∀ Q : VK, Post C X.K .v ((ev c a .p env).bind fun x e1 => ofB (k.has x) e1) a.eff ω env σ H W Q → tCB (rIsi X.K) (tCons (wE X y) (tCons (tC (.ty k.nm)) tNil)) σ H Q := by
    intro Q p
    refine step ha hX hT ca S nt (by simp) p (e2 := false) (Bool.or_false _) fun d e1 v H1 ω1 S1 c1 g1 p1 => ?_
    unfold ofB at p1
    split at p1
    · rename_i b hb
      obtain ⟨t, ht, hk⟩ := has_kit (K := X.K) hb
      exact ⟨v, .ty k.nm, .type t, .type k.nm, b, rfl, .ty _, tyx g1.2 ht, hk, p1 _ H1 ω1 S1 (.refl _ _ _) (good_imm g1.1 (.bl b))⟩
    · exact p1.elim
  refine cmp_both hX S (bind_bl fun _ _ => ofB_bl) (fun Q p => wE.of pe (core Q p)) (fun Q p => ?_)
  refine wT.of (pt_truth peW (plainT_is rfl X.env)) ?_
  refine wE.of pe (core _ ?_)
  have hb := bind_bl (r := ev c a .p env) (f := fun x e1 => ofB (k.has x) e1) fun _ _ => ofB_bl
  have p : Post C X.K .v ((ev c a .p env).bind fun x e1 => ofB (k.has x) e1) a.eff ω env σ H W (fun v H' => ∃ j, v = .bl j ∧ Q j H') := p
  revert p hb
  generalize (ev c a .p env).bind (fun x e1 => ofB (k.has x) e1) = r
  intro hb p
  cases r with
  | ok d e1 =>
    intro v H' ω' S' ch g
    obtain ⟨j, rfl, hq⟩ := p v H' ω' S' ch g
    exact ⟨j, rfl, hq⟩
  | exc cl w e1 => exact p
  | stk => exact p.elim
end
end Q9

set_option Elab.async false
set_option linter.all false
set_option maxRecDepth 100000
namespace Q9
open PySem PySem.Spec L2
section
variable {T : Tab} {N : List Str} {C : Ct} {c : Oracle}
theorem se_bad {ie : IE} (h : ∀ sc e, chkE T N ie none sc e = false) : SE T N C c ie := fun sc e W X env ω σ H hX hT hc => absurd (h sc e) (by rw [hc]; simp)
theorem sa_bad {ie : IE} (h : ∀ sc e, chkA T N ie sc e = false) : SA T N C c ie := fun sc e W X env ω σ H hX hT hc => absurd (h sc e) (by rw [hc]; simp)
theorem sp_bad {ie : IE} (h : ∀ sc e, chkA T N ie sc e = false) : SP T N C c ie := fun sc e W X env ω σ H hX hT hc => absurd (h sc e) (by rw [hc]; simp)
theorem sp_star {h t : IE} : SP T N C c (.star h t) := fun sc e W X env ω σ H hX hT hc S nt Q p => p.elim
def SAll (T : Tab) (N : List Str) (C : Ct) (c : Oracle) (ie : IE) : Prop := SE T N C c ie ∧ SA T N C c ie ∧ SP T N C c ie ∧ SI T N C c ie ∧ SK T N C c ie
theorem sk_bad {ie : IE} (h : ∀ sc e, chkA T N ie sc e = false) : SK T N C c ie := fun sc kws W X env ω σ H hX hT hb hns hc => absurd (h sc (kws.map (·.value))) (by rw [hc]; simp)
theorem all_e {ie : IE} (h : SE T N C c ie) (hi : ie.isIt = false) (h2 : ∀ sc e, chkA T N ie sc e = false) : SAll T N C c ie := ⟨h, sa_bad h2, sp_bad h2, si_val hi h, sk_bad h2⟩
theorem sound (ie : IE) : SAll T N C c ie := by
  induction ie with
  | unk => exact all_e se_unk rfl (fun _ _ => rfl)
  | con d => exact all_e (se_con d) rfl (fun _ _ => rfl)
  | gl x d => exact all_e (se_gl x d) rfl (fun _ _ => rfl)
  | var i => exact all_e (se_var i) rfl (fun _ _ => rfl)
  | nil => exact ⟨se_bad (fun _ _ => rfl), sa_nil, sp_nil, si_val rfl (se_bad (fun _ _ => rfl)), sk_nil⟩
  | cons h t ih it => exact ⟨se_bad (fun _ _ => rfl), sa_cons ih.1 it.2.1, sp_cons ih.1 it.2.2.1, si_val rfl (se_bad (fun _ _ => rfl)), sk_cons ih.1 it.2.2.2.2⟩
  | star h t ih it => exact ⟨se_bad (fun _ _ => rfl), sa_star ih.1 it.2.1, sp_star, si_val rfl (se_bad (fun _ _ => rfl)), sk_star⟩
  | tupE as ih => exact all_e (se_tup ih.2.1) rfl (fun _ _ => rfl)
  | lstE as ih => exact all_e (se_lst ih.2.1) rfl (fun _ _ => rfl)
  | bin o a b iha ihb => exact all_e (se_bin iha.1 ihb.1) rfl (fun _ _ => rfl)
  | cmp o a b iha ihb => exact all_e (se_cmp iha.1 ihb.1) rfl (fun _ _ => rfl)
  | chain o o' a b d iha ihb ihd => exact all_e (se_chain iha.1 ihb.1 ihd.1) rfl (fun _ _ => rfl)
  | chain3 o o2 o3 a b b2 d iha ihb ihb2 ihd => exact all_e (se_chain3 iha.1 ihb.1 ihb2.1 ihd.1) rfl (fun _ _ => rfl)
  | not a ih => exact all_e (se_not ih.1) rfl (fun _ _ => rfl)
  | neg a ih => exact all_e (se_neg ih.1) rfl (fun _ _ => rfl)
  | and a b iha ihb => exact all_e (se_and iha.1 ihb.1) rfl (fun _ _ => rfl)
  | or a b iha ihb => exact all_e (se_or iha.1 ihb.1) rfl (fun _ _ => rfl)
  | ite t a b iht iha ihb => exact all_e (se_ite iht.1 iha.1 ihb.1) rfl (fun _ _ => rfl)
  | idx a i iha ihi => exact all_e (se_idx iha.1 ihi.1) rfl (fun _ _ => rfl)
  | slc a l h iha ihl ihh => exact all_e (se_slc iha.1 ihl.1 ihh.1) rfl (fun _ _ => rfl)
  | rev a ih => exact all_e (se_rev ih.1) rfl (fun _ _ => rfl)
  | bi f as ih => exact all_e (se_bi ih.2.2.1) rfl (fun _ _ => rfl)
  | bm m a as iha iht => exact all_e (se_bm iha.1) rfl (fun _ _ => rfl)
  | mm m i as ih => exact all_e (se_mm ih.2.1) rfl (fun _ _ => rfl)
  | call f as ih => exact all_e (se_call ih.2.1 ih.2.2.2.2) rfl (fun _ _ => rfl)
  | aB i => exact all_e (fun sc e W X env ω σ H hX hT hc S nt => ⟨fun m Q hm p => p.elim, fun Q p => p.elim⟩) rfl (fun _ _ => rfl)
  | aP i => exact all_e (fun sc e W X env ω σ H hX hT hc S nt => ⟨fun m Q hm p => p.elim, fun Q p => p.elim⟩) rfl (fun _ _ => rfl)
  | isi k a ih => exact all_e (se_isi ih.1) rfl (fun _ _ => rfl)
  | rng1 a ih => exact ⟨se_bad (fun _ _ => rfl), sa_bad (fun _ _ => rfl), sp_bad (fun _ _ => rfl), si_rng1 ih.1, sk_bad (fun _ _ => rfl)⟩
  | rng2 a b iha ihb => exact ⟨se_bad (fun _ _ => rfl), sa_bad (fun _ _ => rfl), sp_bad (fun _ _ => rfl), si_rng2 iha.1 ihb.1, sk_bad (fun _ _ => rfl)⟩
  | enm a ih => exact ⟨se_bad (fun _ _ => rfl), sa_bad (fun _ _ => rfl), sp_bad (fun _ _ => rfl), si_enm ih.1, sk_bad (fun _ _ => rfl)⟩
  | lrng a b iha ihb => exact all_e (se_lrng iha.1 ihb.1) rfl (fun _ _ => rfl)
  | lc own tg it cond elt ihi ihc ihe => exact all_e (se_lc ihi.2.2.2.1 ihc.1 ihe.1) rfl (fun _ _ => rfl)
end
end Q9

set_option Elab.async false
set_option linter.all false
set_option maxRecDepth 100000
namespace Q9
open PySem PySem.Spec L2

/-! ## a borrowed slot stays one -/
def Bk (e e' : Env) : Prop := ∀ (j : Nat) (d0 : D), e[j]? = some (some (.brw d0)) → ∃ d1, e'[j]? = some (some (.brw d1))
def BkR {α : Type} (e : Env) : Re α → Prop
  | .ok _ e' => Bk e e'
  | .exc _ _ e' => Bk e e'
  | .stk => True
theorem Bk.refl (e : Env) : Bk e e := fun j d h => ⟨d, h⟩
theorem Bk.trans {a b d : Env} (x : Bk a b) (y : Bk b d) : Bk a d := fun j d0 h => let ⟨d1, h1⟩ := x j d0 h; y j d1 h1
theorem BkR.bind {α β : Type} {e : Env} {r : Re α} {f : α → Env → Re β} (h : BkR e r) (k : ∀ d e1, BkR e1 (f d e1)) : BkR e (r.bind f) := by
  cases r with
  | ok d e1 =>
    have h : Bk e e1 := h
    have k := k d e1
    show BkR e (f d e1)
    cases hf : f d e1 with
    | ok d2 e2 => rw [hf] at k; exact h.trans k
    | exc cl w e2 => rw [hf] at k; exact h.trans k
    | stk => trivial
  | exc cl w e1 => exact h
  | stk => trivial
theorem BkR.fin {e : Env} {r : Re D} {m : Md} (h : BkR e r) : BkR e (fin m r) := by
  cases m with
  | v => exact h
  | p => cases r <;> exact h
  | t =>
    cases r with
    | ok d e1 =>
      show BkR e (match D.truth (D.un d) with | some b => Re.ok (D.bl b) e1 | none => .stk)
      cases D.truth (D.un d) <;> first | exact h | trivial
    | exc cl w e1 => exact h
    | stk => trivial
theorem bk_ok {α : Type} {e : Env} {d : α} : BkR e (.ok d e) := Bk.refl e
theorem bk_ofO {e : Env} {o : Option D} : BkR e (ofO o e) := by cases o <;> first | exact Bk.refl e | trivial
theorem bk_ofB {e : Env} {o : Option Bool} : BkR e (ofB o e) := by cases o <;> first | exact Bk.refl e | trivial
theorem bk_set {e : Env} {i : Nat} {x : Option D} (h : ∀ d0, e[i]? ≠ some (some (.brw d0))) : Bk e (e.set i x) := fun j d0 q => by
  by_cases z : i = j
  · subst z; exact absurd q (h d0)
  · exact ⟨d0, by rw [List.getElem?_set_ne z]; exact q⟩
theorem bk_setB {e : Env} {i : Nat} {d : D} : Bk e (e.set i (some (.brw d))) := fun j d0 q => by
  by_cases z : i = j
  · subst z; exact ⟨d, List.getElem?_set_self (List.getElem?_eq_some_iff.mp q).1⟩
  · exact ⟨d0, by rw [List.getElem?_set_ne z]; exact q⟩
theorem bk_setSl {e e' : Env} {i : Nat} {d : D} (h : setSl e i d = some e') : Bk e e' := by
  unfold setSl at h
  split at h
  · cases h
  · rename_i hn q
    cases h
    refine bk_set fun d0 z => ?_
    rw [q] at z
    exact hn d0 (Option.some.inj z)
  · cases h
theorem bk_setSls : ∀ {is : List Nat} {ds : List D} {e e' : Env}, setSls e is ds = some e' → Bk e e'
  | [], [], e, e', h => by
    have h : some e = some e' := h
    cases h; exact .refl e
  | [], _ :: _, _, _, h => nomatch h
  | _ :: _, [], _, _, h => nomatch h
  | i :: is, d :: ds, e, e', h => by
    have h : (match (generalizing := false) setSl e i d with | some e1 => setSls e1 is ds | none => none) = some e' := h
    cases q : setSl e i d with
    | none => rw [q] at h; cases h
    | some e1 => rw [q] at h; exact (bk_setSl q).trans (bk_setSls h)
theorem bk_bindT {e e' : Env} {tg : Tg} {d : D} (h : bindT e tg d = some e') : Bk e e' := by
  cases tg with
  | nm i => exact bk_setSl h
  | tp is => cases d <;> first | exact bk_setSls h | exact absurd (show (none : Option Env) = some e' from h) (by simp)
theorem bk_wipe {e e' : Env} {is : List Nat} (h : wipeD e is = some e') : Bk e e' := by
  obtain ⟨rfl, h2⟩ := wipeD_eq h
  exact fun j d0 q => ⟨d0, wipeE_get.mpr ⟨fun z => (h2 j z).2.2 d0 q, q⟩⟩
theorem bk_cloop {bnd : Env → D → Option Env} {cond elt : Env → Re D} (hb : ∀ e d e', bnd e d = some e' → Bk e e') (hc : ∀ e, BkR e (cond e)) (he : ∀ e, BkR e (elt e)) : ∀ (ds acc : List D) (e : Env), BkR e (cloop bnd cond elt ds acc e)
  | [], acc, e => Bk.refl e
  | d :: ds, acc, e => by
    show BkR e (match (generalizing := false) bnd e d with
      | none => Re.stk
      | some e1 => (cond e1).bind fun b e2 => match b with
        | .bl true => (elt e2).bind fun x e3 => if acc.length < sizeLine then cloop bnd cond elt ds (acc ++ [D.un x]) e3 else .stk
        | .bl false => cloop bnd cond elt ds acc e2
        | _ => .stk)
    cases h1 : bnd e d with
    | none => trivial
    | some e1 =>
      have h2 : BkR e1 ((cond e1).bind fun b e2 => match b with
        | .bl true => (elt e2).bind fun x e3 => if acc.length < sizeLine then cloop bnd cond elt ds (acc ++ [D.un x]) e3 else .stk
        | .bl false => cloop bnd cond elt ds acc e2
        | _ => .stk) := by
        refine (hc e1).bind fun b e2 => ?_
        cases b <;> first | trivial | skip
        rename_i b
        cases b with
        | true =>
          refine (he e2).bind fun x e3 => ?_
          split
          · exact bk_cloop hb hc he ds _ e3
          · trivial
        | false => exact bk_cloop hb hc he ds acc e2
      have h3 := hb e d e1 h1
      simp only
      revert h2
      generalize ((cond e1).bind fun b e2 => match b with
        | .bl true => (elt e2).bind fun x e3 => if acc.length < sizeLine then cloop bnd cond elt ds (acc ++ [D.un x]) e3 else .stk
        | .bl false => cloop bnd cond elt ds acc e2
        | _ => .stk) = r
      intro h2
      cases r with
      | ok d2 e2 => exact h3.trans h2
      | exc cl w e2 => exact h3.trans h2
      | stk => trivial
theorem bk_wbA : ∀ {as : IE} {ps e e2 : Env}, wbA as ps e = some e2 → Bk e e2
  | .nil, ps, e, e2, h => by
    have h : some e = some e2 := h
    cases h; exact .refl e
  | .cons a t, ps, e, e2, h => by
    by_cases ha : ∃ i, a = .aB i
    · obtain ⟨i, rfl⟩ := ha
      cases ps with
      | nil => exact nomatch h
      | cons p ps =>
        cases p with
        | none => exact nomatch h
        | some p =>
          cases p <;> first | exact absurd (show (none : Option Env) = some e2 from h) (by simp) | skip
          rename_i d
          have h : (match (generalizing := false) wbA t ps e with
            | some e1 => match e[i]? with
              | some (some (.own _)) => some (e1.set i (some (.own d)))
              | some (some (.brw _)) => some (e1.set i (some (.brw d)))
              | _ => none
            | none => none) = some e2 := h
          cases hw : wbA t ps e with
          | none => rw [hw] at h; cases h
          | some e1 =>
            rw [hw] at h
            simp only at h
            have ih := bk_wbA hw
            split at h <;> first | cases h | skip
            · rename_i q
              intro j d0 z
              by_cases zz : i = j
              · subst zz; rw [q] at z; cases z
              · rw [List.getElem?_set_ne zz]; exact ih j d0 z
            · exact ih.trans bk_setB
    · have key : ∃ p ps', ps = p :: ps' ∧ wbA t ps' e = some e2 := by
        cases ps with
        | nil => cases a <;> first | exact nomatch h | exact absurd ⟨_, rfl⟩ ha
        | cons p ps => cases a <;> first | exact ⟨p, ps, rfl, h⟩ | exact absurd ⟨_, rfl⟩ ha
      obtain ⟨p, ps', rfl, hw⟩ := key
      exact bk_wbA hw
  | .star _ _, ps, _, _, h => by cases ps <;> exact absurd (show (none : Option Env) = some _ from h) (by simp)
  | .unk, ps, _, e2, h | .con _, ps, _, e2, h | .gl _ _, ps, _, e2, h | .var _, ps, _, e2, h | .tupE _, ps, _, e2, h | .lstE _, ps, _, e2, h | .bin _ _ _, ps, _, e2, h | .cmp _ _ _, ps, _, e2, h | .chain _ _ _ _ _, ps, _, e2, h | .chain3 _ _ _ _ _ _ _, ps, _, e2, h | .not _, ps, _, e2, h | .neg _, ps, _, e2, h | .and _ _, ps, _, e2, h | .or _ _, ps, _, e2, h
  | .ite _ _ _, ps, _, e2, h | .idx _ _, ps, _, e2, h | .slc _ _ _, ps, _, e2, h | .rev _, ps, _, e2, h | .bi _ _, ps, _, e2, h | .bm _ _ _, ps, _, e2, h
  | .mm _ _ _, ps, _, e2, h | .call _ _, ps, _, e2, h | .aB _, ps, _, e2, h | .aP _, ps, _, e2, h | .rng1 _, ps, _, e2, h | .rng2 _ _, ps, _, e2, h | .isi _ _, ps, _, e2, h | .enm _, ps, _, e2, h | .lrng _ _, ps, _, e2, h | .lc _ _ _ _ _, ps, _, e2, h => absurd (show (none : Option Env) = some e2 from h) (by simp)

theorem bk_evB {h : IE} {e : Env} : BkR e (evB h e) := by
  cases h <;> first | trivial | skip
  · rename_i i
    show BkR e (match e[i]? with
      | some (some (.own d)) => Re.ok D.non e
      | some (some (.brw d)) => .ok .non e
      | _ => .stk)
    split <;> first | exact Bk.refl e | trivial
  · rename_i i
    show BkR e (match e[i]? with
      | some (some d) => Re.ok D.non e
      | _ => .stk)
    split <;> first | exact Bk.refl e | trivial

section
variable {c : Oracle}
def BAll (c : Oracle) (ie : IE) : Prop := (∀ m e, BkR e (ev c ie m e)) ∧ (∀ e, BkR e (evA c ie e)) ∧ (∀ e, BkR e (evP c ie e))
theorem bk_all (ie : IE) : BAll c ie := by
  induction ie with
  | unk => exact ⟨fun m e => trivial, fun e => trivial, fun e => trivial⟩
  | con d => exact ⟨fun m e => BkR.fin bk_ok, fun e => trivial, fun e => trivial⟩
  | gl x d => exact ⟨fun m e => BkR.fin bk_ok, fun e => trivial, fun e => trivial⟩
  | var i =>
    refine ⟨fun m e => ?_, fun e => trivial, fun e => trivial⟩
    show BkR e (match e[i]? with
      | some (some (.own d)) => match m with
        | .v => .ok (D.un (.own d)) (e.set i (some (D.un (.own d))))
        | m => fin m (.ok d e)
      | some (some (.brw d)) => match m with
        | .v => .stk
        | m => fin m (.ok d e)
      | some (some d) => fin m (.ok d e)
      | _ => .stk)
    split
    · rename_i d q
      split
      · exact bk_set fun d0 z => by rw [q] at z; cases z
      · exact BkR.fin bk_ok
    · split
      · trivial
      · exact BkR.fin bk_ok
    · exact BkR.fin bk_ok
    · trivial
  | nil => exact ⟨fun m e => trivial, fun e => bk_ok, fun e => bk_ok⟩
  | cons h t ih it =>
    refine ⟨fun m e => trivial, fun e => ?_, fun e => (ih.1 _ _).bind fun d e1 => (it.2.2 e1).bind fun ds e2 => bk_ok⟩
    refine BkR.bind ?_ fun d e1 => (it.2.1 e1).bind fun ds e2 => bk_ok
    split
    · exact bk_evB
    · exact ih.1 _ _
  | star h t ih it =>
    refine ⟨fun m e => trivial, fun e => (ih.1 _ _).bind fun d e1 => ?_, fun e => trivial⟩
    split
    · exact (it.2.1 e1).bind fun ds e2 => bk_ok
    · exact (it.2.1 e1).bind fun ds e2 => bk_ok
    · trivial
  | tupE as ih => exact ⟨fun m e => BkR.fin ((ih.2.1 e).bind fun ds e1 => by split <;> first | exact bk_ok | trivial), fun e => trivial, fun e => trivial⟩
  | lstE as ih => exact ⟨fun m e => BkR.fin ((ih.2.1 e).bind fun ds e1 => by split <;> first | exact bk_ok | trivial), fun e => trivial, fun e => trivial⟩
  | bin o a b iha ihb => exact ⟨fun m e => BkR.fin ((iha.1 _ e).bind fun x e1 => (ihb.1 _ e1).bind fun y e2 => bk_ofO), fun e => trivial, fun e => trivial⟩
  | cmp o a b iha ihb => exact ⟨fun m e => ((iha.1 _ e).bind fun x e1 => (ihb.1 _ e1).bind fun y e2 => bk_ofB), fun e => trivial, fun e => trivial⟩
  | chain o o' a b d iha ihb ihd =>
    refine ⟨fun m e => ((iha.1 _ e).bind fun x e1 => (ihb.1 _ e1).bind fun y e2 => ?_), fun e => trivial, fun e => trivial⟩
    split
    · exact (ihd.1 _ e2).bind fun z e3 => bk_ofB
    · exact bk_ok
    · trivial
  | chain3 o o2 o3 a b d f iha ihb ihd ihf =>
    refine ⟨fun m e => ((iha.1 _ e).bind fun x e1 => (ihb.1 _ e1).bind fun y e2 => ?_), fun e => trivial, fun e => trivial⟩
    split
    · refine (ihd.1 _ e2).bind fun z e3 => ?_
      split
      · exact (ihf.1 _ e3).bind fun w e4 => bk_ofB
      · exact bk_ok
      · trivial
    · exact bk_ok
    · trivial
  | not a ih =>
    refine ⟨fun m e => ?_, fun e => trivial, fun e => trivial⟩
    cases m with
    | t => exact (ih.1 _ e).bind fun x e1 => by split <;> first | exact bk_ok | trivial
    | v => exact (ih.1 _ e).bind fun x e1 => by split <;> first | exact bk_ok | trivial
    | p => exact (ih.1 _ e).bind fun x e1 => by split <;> first | exact bk_ok | trivial
  | neg a ih => exact ⟨fun m e => BkR.fin ((ih.1 _ e).bind fun x e1 => by split <;> first | exact bk_ok | trivial), fun e => trivial, fun e => trivial⟩
  | and a b iha ihb =>
    refine ⟨fun m e => ((iha.1 _ e).bind fun x e1 => ?_), fun e => trivial, fun e => trivial⟩
    split
    · exact (ihb.1 _ e1).bind fun y e2 => by split <;> first | exact bk_ok | trivial
    · exact bk_ok
    · trivial
  | or a b iha ihb =>
    refine ⟨fun m e => ((iha.1 _ e).bind fun x e1 => ?_), fun e => trivial, fun e => trivial⟩
    split
    · exact bk_ok
    · exact (ihb.1 _ e1).bind fun y e2 => by split <;> first | exact bk_ok | trivial
    · trivial
  | ite t a b iht iha ihb =>
    refine ⟨fun m e => ((iht.1 _ e).bind fun x e1 => ?_), fun e => trivial, fun e => trivial⟩
    split
    · exact iha.1 _ e1
    · exact ihb.1 _ e1
    · trivial
  | idx a i iha ihi => exact ⟨fun m e => BkR.fin ((iha.1 _ e).bind fun x e1 => (ihi.1 _ e1).bind fun y e2 => bk_ofO), fun e => trivial, fun e => trivial⟩
  | slc a l h iha ihl ihh =>
    refine ⟨fun m e => BkR.fin ((iha.1 _ e).bind fun x e1 => (ihl.1 _ e1).bind fun y e2 => ?_), fun e => trivial, fun e => trivial⟩
    split
    · trivial
    · refine (ihh.1 _ e2).bind fun z e3 => ?_
      split
      · trivial
      · exact bk_ofO
  | rev a ih => exact ⟨fun m e => BkR.fin ((ih.1 _ e).bind fun x e1 => by split <;> first | exact bk_ok | trivial), fun e => trivial, fun e => trivial⟩
  | bi f as ih => exact ⟨fun m e => BkR.fin ((ih.2.2 e).bind fun ds e1 => bk_ofO), fun e => trivial, fun e => trivial⟩
  | bm m a as iha iht => exact ⟨fun m e => BkR.fin ((iha.1 _ e).bind fun x e1 => (iht.2.1 e1).bind fun ds e2 => bk_ofO), fun e => trivial, fun e => trivial⟩
  | mm f i as ih =>
    refine ⟨fun m e => BkR.fin ?_, fun e => trivial, fun e => trivial⟩
    split
    · refine (ih.2.1 e).bind fun ds e1 => ?_
      split
      · rename_i d q
        split
        · exact bk_set fun d0 z => by rw [q] at z; cases z
        · trivial
      · split
        · exact bk_setB
        · trivial
      · trivial
    · trivial
  | call f as ih =>
    refine ⟨fun m e => BkR.fin ((ih.2.1 e).bind fun ds e1 => ?_), fun e => trivial, fun e => trivial⟩
    split
    · trivial
    · split
      · split
        · rename_i q
          split
          · exact bk_wbA q
          · trivial
        · trivial
      · split
        · rename_i q
          split
          · exact bk_wbA q
          · trivial
        · trivial
      · trivial
  | aB i => exact ⟨fun m e => trivial, fun e => trivial, fun e => trivial⟩
  | aP i => exact ⟨fun m e => trivial, fun e => trivial, fun e => trivial⟩
  | isi k a ih => exact ⟨fun m e => ((ih.1 _ e).bind fun x e1 => bk_ofB), fun e => trivial, fun e => trivial⟩
  | rng1 a ih => exact ⟨fun m e => ((ih.1 _ e).bind fun x e1 => by split <;> first | (split <;> first | exact bk_ok | trivial) | trivial), fun e => trivial, fun e => trivial⟩
  | lrng a b iha ihb => exact ⟨fun m e => BkR.fin ((iha.1 _ e).bind fun x e1 => (ihb.1 _ e1).bind fun y e2 => by split <;> first | (split <;> first | exact bk_ok | trivial) | trivial), fun e => trivial, fun e => trivial⟩
  | rng2 a b iha ihb => exact ⟨fun m e => ((iha.1 _ e).bind fun x e1 => (ihb.1 _ e1).bind fun y e2 => by split <;> first | (split <;> first | exact bk_ok | trivial) | trivial), fun e => trivial, fun e => trivial⟩
  | enm a ih => exact ⟨fun m e => ((ih.1 _ e).bind fun x e1 => by split <;> first | exact bk_ok | trivial), fun e => trivial, fun e => trivial⟩
  | lc own tg it cond elt ihi ihc ihe =>
    refine ⟨fun m e => BkR.fin ((ihi.1 _ e).bind fun x e1 => ?_), fun e => trivial, fun e => trivial⟩
    split
    · rename_i l e2 _ hw
      obtain ⟨_, hw2⟩ := wipeD_eq hw
      have hb : ∀ (e : Env) (d : D) (e' : Env), (match (generalizing := false) wipeD e own with | some e' => bindT e' tg d | none => none : Option Env) = some e' → Bk e e' := by
        intro e d e' h
        cases q : wipeD e own with
        | none => rw [q] at h; cases h
        | some e2 => rw [q] at h; exact (bk_wipe q).trans (bk_bindT h)
      have h := bk_cloop hb (fun e => ihc.1 .t e) (fun e => ihe.1 .v e) l [] e1
      split
      · rename_i d e3 hcl
        have h : Bk e1 e3 := by
          have h2 : BkR e1 (Re.ok d e3) := by rw [← hcl]; exact h
          exact h2
        intro j d0 q
        obtain ⟨d1, q1⟩ := h j d0 q
        have hl : e1.length = e3.length ∨ True := .inr trivial
        by_cases hj : j ∈ own
        · exact absurd q ((hw2 j hj).2.2 d0)
        · refine ⟨d1, ?_⟩
          have key : ∀ is : List Nat, j ∉ is → (backD e1 e3 is)[j]? = e3[j]? := by
            intro is
            induction is with
            | nil => intro _; rfl
            | cons i is ih =>
              intro hn
              simp only [List.mem_cons, not_or] at hn
              unfold backD
              split
              · rw [List.getElem?_set_ne (fun z => hn.1 z.symm)]; exact ih hn.2
              · exact ih hn.2
          rw [key own hj]; exact q1
      · trivial
    · trivial
end
end Q9

set_option Elab.async false
set_option linter.all false
set_option maxRecDepth 100000
namespace Q9
open PySem PySem.Spec L2

/-! ## statements -/
structure SOk (N : List Str) (sc : Scope) (W : WX) (X : Cx) : Prop extends XOk N sc W X where
  scp : X.env.scope = sc
  kind : sc.kind = .function
  own : PassesOwn (model X.prog X.w) X.A X.env X.xe

def Kp (env : Env) (σ : L2.St) (e' : Env) (σ' : L2.St) : Prop := ∀ (j : Nat) (d0 : D), env[j]? = some (some (.brw d0)) → (∃ d1, e'[j]? = some (some (.brw d1))) ∧ σ'[j]? = σ[j]?
theorem Kp.refl (e : Env) (σ : L2.St) : Kp e σ e σ := fun j d h => ⟨⟨d, h⟩, rfl⟩
theorem Kp.trans {a b d : Env} {σ τ ρ : L2.St} (x : Kp a σ b τ) (y : Kp b τ d ρ) : Kp a σ d ρ := fun j d0 h => by
  obtain ⟨⟨d1, h1⟩, h2⟩ := x j d0 h
  obtain ⟨h3, h4⟩ := y j d1 h1
  exact ⟨h3, h4.trans h2⟩
theorem Kp.of {a b : Env} {σ : L2.St} (x : Bk a b) : Kp a σ b σ := fun j d0 h => ⟨x j d0 h, rfl⟩

section
variable (C : Ct) (K : PySem.W.Frag)
def PostS (r : Fl) (ω : Om) (env : Env) (σ : L2.St) (H : Hp) (W : WX) (D : Ends) : Prop :=
  match r with
  | .nx e' => ∀ σ' H' ω', Sim C K ω' e' σ' H' → Chg true ω H ω' H' → NoT ω' e'.length → Kp env σ e' σ' → D.nx σ' H'
  | .brk e' => ∀ σ' H' ω', Sim C K ω' e' σ' H' → Chg true ω H ω' H' → NoT ω' e'.length → Kp env σ e' σ' → D.bk σ' H'
  | .ct e' => ∀ σ' H' ω', Sim C K ω' e' σ' H' → Chg true ω H ω' H' → NoT ω' e'.length → Kp env σ e' σ' → D.ct σ' H'
  | .ret d e' => ∀ v σ' H' ω', Sim C K ω' e' σ' H' → Chg true ω H ω' H' → Good C K .v ω' H' e'.length v d → Kp env σ e' σ' → D.rt v H'
  | .exc c w e' => ∀ dx v σ' H' ω', Sim C K ω' e' σ' H' → Chg true ω H ω' H' → NoT ω' e'.length → Kp env σ e' σ' → ExcAt H' dx v → Rep C K ω' H' v w → W (.ref (C.addr c)) (some dx) σ' H'
  | .stk => False
end
section
variable {C : Ct} {K : PySem.W.Frag} {ω ω' : Om} {env env' : Env} {σ σ' : L2.St} {H H' : Hp} {W : WX} {D : Ends} {c : Oracle}
theorem PostS.shift {b : Bool} {r : Fl} (ch : Chg b ω H ω' H') (kp : Kp env σ env' σ') (p : PostS C K r ω env σ H W D) : PostS C K r ω' env' σ' H' W D := by
  have ch := ch.any
  cases r with
  | nx e => intro τ G ρ S c2 n k; exact p τ G ρ S (ch.trans c2) n (kp.trans k)
  | brk e => intro τ G ρ S c2 n k; exact p τ G ρ S (ch.trans c2) n (kp.trans k)
  | ct e => intro τ G ρ S c2 n k; exact p τ G ρ S (ch.trans c2) n (kp.trans k)
  | ret d e => intro v τ G ρ S c2 g k; exact p v τ G ρ S (ch.trans c2) g (kp.trans k)
  | exc cl w e => intro dx v τ G ρ S c2 n k; exact p dx v τ G ρ S (ch.trans c2) n (kp.trans k)
  | stk => exact p
/-- an exception from within an expression -/
theorem PostS.exc {cl : Nat} {w : Q9.D} {e1 : Env} (S : Sim C K ω env σ H) (bk : Bk env e1) (p : PostS C K (.exc cl w e1) ω env σ H W D) : PostX C K ω env σ H W cl w e1 := by
  intro dx v H' ω' S' ch nt ea r
  have el : e1.length = env.length := S.elen S'
  exact p dx v σ H' ω' S' ch (by rw [el]; exact nt) (.of bk) ea r
/-- an expression ahead of the rest of a statement -/
theorem PostS.ev {ie : IE} {m : Md} {f : Q9.D → Env → Fl} {Q : VK} (S : Sim C K ω env σ H) (p : PostS C K ((Q9.ev c ie m env).fl f) ω env σ H W D)
    (k : ∀ d e1 v H1 ω1, Sim C K ω1 e1 σ H1 → Chg ie.eff ω H ω1 H1 → Good C K m ω1 H1 e1.length v d → PostS C K (f d e1) ω1 e1 σ H1 W D → Q v H1) : Post C K m (Q9.ev c ie m env) ie.eff ω env σ H W Q := by
  have hb := (bk_all (c := c) ie).1 m env
  cases hr : Q9.ev c ie m env with
  | ok d e1 =>
    rw [hr] at p hb
    intro v H1 ω1 S1 c1 g1
    have el : e1.length = env.length := S.elen S1
    rw [← el] at g1
    exact k d e1 v H1 ω1 S1 c1 g1 (PostS.shift c1 (.of hb) p)
  | exc cl w e1 => rw [hr] at p hb; exact PostS.exc S hb p
  | stk => rw [hr] at p; exact p.elim
theorem PostS.evT {ie : IE} {f : Q9.D → Env → Fl} {Q : Bool → Hp → Prop} (S : Sim C K ω env σ H) (p : PostS C K ((Q9.ev c ie .t env).fl f) ω env σ H W D) (hf : ∀ d e1, (∀ b, d ≠ .bl b) → f d e1 = .stk)
    (k : ∀ b e1 H1 ω1, Sim C K ω1 e1 σ H1 → Chg ie.eff ω H ω1 H1 → NoT ω1 e1.length → PostS C K (f (.bl b) e1) ω1 e1 σ H1 W D → Q b H1) : PostT C K (Q9.ev c ie .t env) ie.eff ω env σ H W Q := by
  have hb := (bk_all (c := c) ie).1 .t env
  cases hr : Q9.ev c ie .t env with
  | ok d e1 =>
    rw [hr] at p hb
    by_cases hd : ∃ b, d = .bl b
    · obtain ⟨b, rfl⟩ := hd
      intro H1 ω1 S1 c1 n1
      have el : e1.length = env.length := S.elen S1
      exact k b e1 H1 ω1 S1 c1 (by rw [el]; exact n1) (PostS.shift c1 (.of hb) p)
    · have p : PostS C K (f d e1) ω env σ H W D := p
      rw [hf d e1 (fun b z => hd ⟨b, z⟩)] at p
      exact p.elim
  | exc cl w e1 => rw [hr] at p hb; exact PostS.exc S hb p
  | stk => rw [hr] at p; exact p.elim

/-- the place n's things go to the slot i -/
def mv (ω : Om) (n i : Nat) : Om := fun a => match ω a with
  | some (j, p) => if j = n then some (i, p) else some (j, p)
  | none => none
theorem mv_none {n i : Nat} {a : Addr} (h : ω a = none) : mv ω n i a = none := by unfold mv; rw [h]
theorem mv_eq {n i : Nat} {a : Addr} {p : Option Nat} (h : ω a = some (n, p)) : mv ω n i a = some (i, p) := by unfold mv; rw [h]; simp
theorem mv_ne {n i j : Nat} {a : Addr} {p : Option Nat} (h : ω a = some (j, p)) (hn : j ≠ n) : mv ω n i a = some (j, p) := by unfold mv; rw [h]; simp [hn]
theorem mv_some {n i j : Nat} {a : Addr} {p : Option Nat} (h : mv ω n i a = some (j, p)) : (j = i ∧ ω a = some (n, p)) ∨ (j ≠ n ∧ ω a = some (j, p)) := by
  unfold mv at h
  cases q : ω a with
  | none => rw [q] at h; cases h
  | some z =>
    obtain ⟨k, r⟩ := z
    rw [q] at h
    by_cases hk : k = n
    · subst hk; simp at h; exact .inl ⟨h.1.symm, by rw [h.2]⟩
    · simp [hk] at h; exact .inr ⟨by rw [← h.1]; exact hk, by rw [h.1, h.2]⟩
theorem Sim.mv {v : V} {d : Q9.D} {i : Nat} (S : Sim C K ω env σ H) (o : OwnR C K ω H env.length v d) (hi : i < env.length) :
    Sim C K (Q9.mv ω env.length i) (env.set i (some (.own d))) (σ.set i (some v)) H ∧ Chg true ω H (Q9.mv ω env.length i) H ∧ NoT (Q9.mv ω env.length i) env.length := by
  have sz := S.sz
  have ch : Chg true ω H (Q9.mv ω env.length i) H := ⟨fun _ _ h _ => h, fun _ _ q => mv_none q, fun _ h => h, fun a p e => ⟨mv_ne e (by omega), fun _ q => q⟩⟩
  refine ⟨⟨by rw [List.length_set, List.length_set]; exact S.len, by rw [List.length_set]; exact sz, fun a j p q => ?_, fun j d' q => ?_⟩, ch, fun a p q => ?_⟩
  · rw [List.length_set]
    rcases mv_some q with ⟨rfl, q'⟩ | ⟨_, q⟩
    · exact ⟨.inl (by omega), (S.own a _ p q').2⟩
    · exact S.own a j p q
  · by_cases hj : i = j
    · subst hj
      rw [List.getElem?_set_self hi] at q
      cases q
      exact ⟨v, by rw [List.getElem?_set_self (by rw [S.len]; exact hi)], o.re ch.fz fun a q o w e => ⟨e, mv_eq w⟩⟩
    · rw [List.getElem?_set_ne hj] at q
      rw [List.getElem?_set_ne hj]
      obtain ⟨w, e, r⟩ := S.slot j d' q
      have hl : j < env.length := (List.getElem?_eq_some_iff.mp q).1
      exact ⟨w, e, r.re ch.fz fun a q o w e => ⟨e, mv_ne w (by omega)⟩⟩
  · rcases mv_some q with ⟨z, _⟩ | ⟨z, _⟩
    · omega
    · exact z rfl
theorem setSl_kp {e e' : Env} {i : Nat} {d : Q9.D} {v : Option V} (h : setSl e i d = some e') : Kp e σ e' (σ.set i v) := fun j d0 q => by
  refine ⟨bk_setSl h j d0 q, ?_⟩
  have hij : i ≠ j := by
    intro z
    subst z
    unfold setSl at h
    rw [q] at h
    cases h
  exact List.getElem?_set_ne hij
/-- a value made goes to a slot -/
theorem bindV {v : V} {d : Q9.D} {i : Nat} {e' : Env} (S : Sim C K ω env σ H) (g : Good C K .v ω H env.length v d) (h : setSl env i d = some e') :
    ∃ ω', Sim C K ω' e' (σ.set i (some v)) H ∧ Chg true ω H ω' H ∧ NoT ω' e'.length ∧ Kp env σ e' (σ.set i (some v)) := by
  have kp : Kp env σ e' (σ.set i (some v)) := setSl_kp h
  obtain ⟨he, hi⟩ := setSl_eq h
  rcases g with ⟨d0, rfl, o⟩ | ⟨n, r⟩
  · subst he
    obtain ⟨a, b, c⟩ := S.mv o hi
    exact ⟨_, a, b, by rw [List.length_set]; exact c, kp⟩
  · have S' := S.setF r h
    subst he
    exact ⟨ω, S', .refl _ _ _, by rw [List.length_set]; exact n, kp⟩
def tgL : Tg → List Nat
  | .nm i => [i]
  | .tp is => is
theorem tgSub_L {tg : Tg} : tgSub (tgL tg) tg = true := by
  cases tg with
  | nm i => simp [tgL, tgSub]
  | tp is => simp [tgL, tgSub]
theorem setSls_nb : ∀ {is : List Nat} {ds : List Q9.D} {e e' : Env} {j : Nat} {d0 : Q9.D}, setSls e is ds = some e' → e[j]? = some (some (.brw d0)) → j ∉ is
  | [], _, _, _, _, _, _, _ => by simp
  | _ :: _, [], _, _, _, _, h, _ => nomatch h
  | i :: is, d :: ds, e, e', j, d0, h, q => by
    have h : (match (generalizing := false) setSl e i d with | some e1 => setSls e1 is ds | none => none) = some e' := h
    cases z : setSl e i d with
    | none => rw [z] at h; cases h
    | some e1 =>
      rw [z] at h
      obtain ⟨d1, q1⟩ := bk_setSl z j d0 q
      have := setSls_nb h q1
      simp only [List.mem_cons, not_or]
      refine ⟨fun w => ?_, this⟩
      subst w
      unfold setSl at z
      rw [q] at z
      cases z
theorem bind_kp {tg : Tg} {d : Q9.D} {e e' : Env} (h : bindT e tg d = some e') (hw : ∀ own : List Nat, tgSub own tg = true → wipe σ' own = wipe σ own) : Kp e σ e' σ' := fun j d0 q => by
  refine ⟨bk_bindT h j d0 q, ?_⟩
  have hn : j ∉ tgL tg := by
    cases tg with
    | nm i =>
      intro z
      have z : j = i := by simpa [tgL] using z
      subst z
      have h : setSl e j d = some e' := h
      unfold setSl at h
      rw [q] at h
      cases h
    | tp is => cases d <;> first | exact setSls_nb h q | exact absurd (show (none : Option Env) = some e' from h) (by simp)
  have := hw (tgL tg) tgSub_L
  rw [← wipe_out (σ := σ') hn, ← wipe_out (σ := σ) hn, this]
end

section
variable (T : Tab) (N : List Str) (C : Ct) (c : Oracle) (n : Nat)
def SS (i : IS) : Prop := ∀ sc st W X env ω σ H, SOk N sc W X → TabOk T C c X → chkS T N i sc st = true → Sim C X.K ω env σ H → NoT ω env.length → ∀ D, PostS C X.K (ex c n i env) ω env σ H W D → wS X st D σ H
def SB (i : IS) : Prop := ∀ sc st W X env ω σ H, SOk N sc W X → TabOk T C c X → chkB T N i sc st = true → Sim C X.K ω env σ H → NoT ω env.length → ∀ D, PostS C X.K (ex c n i env) ω env σ H W D → wB X st D σ H
end
section
variable {T : Tab} {N : List Str} {C : Ct} {c : Oracle} {n : Nat}
theorem ss_unk : SS T N C c n .unk := fun sc st W X env ω σ H hX hT hc S nt D p => p.elim
theorem ss_pass : SS T N C c n .pass := by
  intro sc st W X env ω σ H hX hT hc S nt D p
  cases st <;> first | exact absurd hc Bool.false_ne_true | skip
  exact wS.of ps_pass (p σ H ω S (.refl _ _ _) nt (.refl _ _))
theorem ss_brk : SS T N C c n .brk := by
  intro sc st W X env ω σ H hX hT hc S nt D p
  cases st <;> first | exact absurd hc Bool.false_ne_true | skip
  exact wS.of ps_break (p σ H ω S (.refl _ _ _) nt (.refl _ _))
theorem ss_cont : SS T N C c n .cont := by
  intro sc st W X env ω σ H hX hT hc S nt D p
  cases st <;> first | exact absurd hc Bool.false_ne_true | skip
  exact wS.of ps_continue (p σ H ω S (.refl _ _ _) nt (.refl _ _))
theorem sb_nil : SB T N C c n .nil := by
  intro sc st W X env ω σ H hX hT hc S nt D p
  have hc : st.isEmpty = true := hc
  cases st with
  | cons _ _ => exact absurd hc (by simp)
  | nil => exact wB.of pss_nil (p σ H ω S (.refl _ _ _) nt (.refl _ _))
theorem sb_seq {a b : IS} (ha : SS T N C c n a) (hb : SB T N C c n b) : SB T N C c n (.seq a b) := by
  intro sc st W X env ω σ H hX hT hc S nt D p
  cases st with
  | nil => exact absurd hc Bool.false_ne_true
  | cons s ss =>
    have hc : (_ && _) = true := hc
    rw [Bool.and_eq_true] at hc
    refine wB.of (pss_cons psW pbW) ?_
    refine ha sc s W X env ω σ H hX hT hc.1 S nt _ ?_
    have p : PostS C X.K ((ex c n a env).then (ex c n b)) ω env σ H W D := p
    cases hr : ex c n a env with
    | nx e1 =>
      rw [hr] at p
      intro σ1 H1 ω1 S1 c1 n1 k1
      exact hb sc ss W X e1 ω1 σ1 H1 hX hT hc.2 S1 n1 D (PostS.shift c1 k1 p)
    | brk e1 => rw [hr] at p; exact p
    | ct e1 => rw [hr] at p; exact p
    | ret d e1 => rw [hr] at p; exact p
    | exc cl w e1 => rw [hr] at p; exact p
    | stk => rw [hr] at p; exact p
theorem swaps_non {e : Expr} {t : Option Expr} {l : Int} {X : Cx} (h : isComp e = false) : True := trivial
theorem ss_exp (v : IE) : SS T N C c n (.exp v) := by
  intro sc st W X env ω σ H hX hT hc S nt D p
  cases st <;> first | exact absurd hc Bool.false_ne_true | skip
  rename_i e pos
  have hc : (chkE T N v none sc e && !isComp e) = true := hc
  rw [Bool.and_eq_true, Bool.not_eq_true'] at hc
  have hs : swapsWith e none pos.line X.env = pure false := by
    cases e <;> first | rfl | exact absurd hc.2 (fun z => Bool.false_ne_true z.symm)
  refine wS.of (ps_expr peW hs) ?_
  refine ((sound v).1 sc e W X env ω σ H hX.toXOk hT hc.1 S nt).1 .v _ (by simp) (PostS.ev (f := fun _ e1 => .nx e1) S p fun d e1 w H1 ω1 S1 c1 g1 p1 => ?_)
  obtain ⟨S1', n1, _⟩ := g1.freeze S1
  exact p1 σ H1 _ S1' (Chg.any (Chg.strike (Nat.ne_of_lt S1.sz))) n1 (.refl _ _)
theorem ss_ret (v : IE) : SS T N C c n (.ret v) := by
  intro sc st W X env ω σ H hX hT hc S nt D p
  cases st <;> first | exact absurd hc Bool.false_ne_true | skip
  rename_i eo pos
  cases eo with
  | none => exact absurd hc Bool.false_ne_true
  | some e =>
    refine wS.of (ps_ret peW) ?_
    exact ((sound v).1 sc e W X env ω σ H hX.toXOk hT hc S nt).1 .v _ (by simp) (PostS.ev (f := fun d e1 => .ret d e1) S p fun d e1 w H1 ω1 S1 c1 g1 p1 => p1 w σ H1 ω1 S1 (.refl _ _ _) g1 (.refl _ _))
/-- owner i hands over to n -/
def moveO (ω : Om) (i n : Nat) : Om := fun a => match ω a with
  | some (j, p) => if j = i then some (n, p) else some (j, p)
  | none => none
theorem moveO_none {ω : Om} {i n : Nat} {a : Addr} (h : ω a = none) : moveO ω i n a = none := by unfold moveO; rw [h]
theorem moveO_own {ω : Om} {i n : Nat} {a : Addr} {p : Option Nat} (h : ω a = some (i, p)) : moveO ω i n a = some (n, p) := by unfold moveO; rw [h]; simp
theorem moveO_ne {ω : Om} {i j n : Nat} {a : Addr} {p : Option Nat} (h : ω a = some (j, p)) (q : j ≠ i) : moveO ω i n a = some (j, p) := by unfold moveO; rw [h]; simp [q]
theorem moveO_some {ω : Om} {i j n : Nat} {a : Addr} {p : Option Nat} (h : moveO ω i n a = some (j, p)) : (ω a = some (i, p) ∧ j = n) ∨ (ω a = some (j, p) ∧ j ≠ i) := by
  unfold moveO at h
  cases q : ω a with
  | none => rw [q] at h; cases h
  | some z =>
    obtain ⟨k, r⟩ := z
    rw [q] at h
    by_cases hk : k = i
    · subst hk
      simp only [if_true] at h
      cases h
      exact .inl ⟨rfl, rfl⟩
    · simp only [hk, if_false] at h
      cases h
      exact .inr ⟨rfl, hk⟩
theorem ss_retV (i : Nat) : SS T N C c n (.retV i) := by
  intro sc st W X env ω σ H hX hT hc S nt D p
  cases st <;> first | exact absurd hc Bool.false_ne_true | skip
  rename_i eo pos
  cases eo with
  | none => exact absurd hc Bool.false_ne_true
  | some e =>
    cases e <;> first | exact absurd hc Bool.false_ne_true | skip
    rename_i x px
    have hc : (decide (N[i]? = some x) && visB sc x && plainN x) = true := hc
    rw [Bool.and_eq_true, Bool.and_eq_true, decide_eq_true_eq] at hc
    have p : PostS C X.K (match env[i]? with | some (some (.own d)) => .ret (.own d) (env.set i none) | _ => .stk) ω env σ H W D := p
    cases he : env[i]? with
    | none => rw [he] at p; exact p.elim
    | some o =>
      rw [he] at p
      cases o with
      | none => exact p.elim
      | some d =>
        cases d <;> first | exact p.elim | skip
        rename_i d0
        obtain ⟨v, hv, r⟩ := S.slot i _ he
        have r : OwnR C X.K ω H i v d0 := r
        have hi : i < env.length := (List.getElem?_eq_some_iff.mp he).1
        have hiF : i ≠ FO := by have := S.sz; omega
        have fz : Fz ω H (moveO ω i env.length) H := ⟨fun _ _ h _ => h, fun a _ q => moveO_none q⟩
        refine wS.of (ps_ret peW) (wE_slot hX.toXOk ⟨x, px, rfl, hc.1.1, hc.1.2, hc.2⟩ hv ?_)
        refine p v σ H (moveO ω i env.length) ⟨by rw [List.length_set]; exact S.len, by rw [List.length_set]; exact S.sz, fun a j q h => ?_, fun j d h => ?_⟩ ⟨fun _ _ h _ => h, fun a _ q => moveO_none q, fun _ h => h, fun a q h => ⟨moveO_ne h (Ne.symm hiF), fun _ z => z⟩⟩ (.inl ⟨d0, rfl, ?_⟩) (fun j d1 h => ⟨⟨d1, ?_⟩, rfl⟩)
        · rw [List.length_set]
          rcases moveO_some h with ⟨h1, rfl⟩ | ⟨h1, h2⟩
          · exact ⟨.inl (Nat.le_refl _), (S.own a i q h1).2⟩
          · exact S.own a j q h1
        · have hji : j ≠ i := by
            intro z; subst z
            rw [List.getElem?_set_self hi] at h; cases h
          rw [List.getElem?_set_ne (Ne.symm hji)] at h
          obtain ⟨v', e', r'⟩ := S.slot j d h
          exact ⟨v', e', r'.re fz fun a q o w z => ⟨z, moveO_ne w hji⟩⟩
        · rw [List.length_set]
          exact r.re fz fun a q o w z => ⟨z, moveO_own w⟩
        · have hji : j ≠ i := by
            intro z; subst z
            rw [he] at h; cases h
          rw [List.getElem?_set_ne (Ne.symm hji)]; exact h
theorem ss_retN : SS T N C c n .retN := by
  intro sc st W X env ω σ H hX hT hc S nt D p
  cases st <;> first | exact absurd hc Bool.false_ne_true | skip
  rename_i eo pos
  cases eo with
  | some e => exact absurd hc Bool.false_ne_true
  | none => exact wS.of ps_retN (p .non σ H ω S (.refl _ _ _) (good_imm nt .non) (.refl _ _))
theorem ss_ite {t : IE} {a b : IS} (ha : SB T N C c n a) (hb : SB T N C c n b) : SS T N C c n (.ite t a b) := by
  intro sc st W X env ω σ H hX hT hc S nt D p
  cases st <;> first | exact absurd hc Bool.false_ne_true | skip
  rename_i e x y pos
  have hc : (chkE T N t none sc e && chkB T N a sc x && chkB T N b sc y) = true := hc
  rw [Bool.and_eq_true, Bool.and_eq_true] at hc
  refine wS.of (ps_if ptW pbW pbW) ?_
  refine ((sound t).1 sc e W X env ω σ H hX.toXOk hT hc.1.1 S nt).2 _ (PostS.evT (f := fun x e1 => match x with
    | .bl true => ex c n a e1
    | .bl false => ex c n b e1
    | _ => .stk) S p (fun d e1 hd => ?_) fun k e1 H1 ω1 S1 c1 n1 p1 => ?_)
  · cases d <;> first | rfl | exact absurd rfl (hd _)
  · cases k with
    | true => exact (if_pos rfl).mpr (ha sc x W X e1 ω1 σ H1 hX hT hc.1.2 S1 n1 D p1)
    | false => exact (if_neg (by simp)).mpr (hb sc y W X e1 ω1 σ H1 hX hT hc.2 S1 n1 D p1)
end
end Q9

set_option Elab.async false
set_option linter.all false
set_option maxRecDepth 100000
namespace Q9
open PySem PySem.Spec L2
section
variable {T : Tab} {N : List Str} {C : Ct} {c : Oracle} {n : Nat}

/-! ## loops -/
theorem wloop_succ {test : Env → Re D} {body : Env → Fl} {m : Nat} {e : Env} : wloop test body (m + 1) e = ((test e).fl fun b e1 => match b with
    | .bl true => match body e1 with
      | .nx e2 => wloop test body m e2
      | .ct e2 => wloop test body m e2
      | .brk e2 => .nx e2
      | r => r
    | .bl false => .nx e1
    | _ => .stk) := rfl
theorem ss_whl {t : IE} {b : IS} (hb : SB T N C c n b) : SS T N C c n (.whl t b) := by
  intro sc st W X env ω σ H hX hT hc S nt D p
  have key : ∃ e x pos, st = .While e x [] pos ∧ chkE T N t none sc e = true ∧ chkB T N b sc x = true := by
    cases st <;> first | exact absurd hc Bool.false_ne_true | skip
    rename_i e x els pos
    cases els with
    | cons _ _ => exact absurd hc Bool.false_ne_true
    | nil =>
      have hc : (_ && _) = true := hc
      rw [Bool.and_eq_true] at hc
      exact ⟨_, _, _, rfl, hc.1, hc.2⟩
  obtain ⟨e, x, pos, rfl, ce, cx⟩ := key
  refine wS.of (ps_while hX.own ptW pbW) ?_
  have p : PostS C X.K (wloop (fun e => ev c t .t e) (fun e => ex c n b e) n env) ω env σ H W D := p
  generalize hR : wloop (fun e => ev c t .t e) (fun e => ex c n b e) n env = R at p
  refine ⟨fun m σ' H' => ∃ e ω', wloop (fun e => ev c t .t e) (fun e => ex c n b e) m e = R ∧ Sim C X.K ω' e σ' H' ∧ Chg true ω H ω' H' ∧ NoT ω' e.length ∧ Kp env σ e σ', ⟨n, env, ω, hR, S, .refl _ _ _, nt, .refl _ _⟩, ?_⟩
  rintro m σ1 H1 ⟨e1, ω1, hR1, S1, c1, n1, k1⟩
  cases m with
  | zero => have hR1 : Fl.stk = R := hR1; rw [← hR1] at p; exact p.elim
  | succ m =>
    rw [wloop_succ] at hR1
    have p1 := PostS.shift c1 k1 p
    have hbk := (bk_all (c := c) t).1 .t e1
    refine ((sound t).1 sc e W X e1 ω1 σ1 H1 hX.toXOk hT ce S1 n1).2 _ ?_
    cases hr : ev c t .t e1 with
    | stk => simp only [hr] at hR1; have hR1 : Fl.stk = R := hR1; rw [← hR1] at p; exact p.elim
    | exc cl w e2 =>
      rw [hr] at hbk
      simp only [hr] at hR1
      have hR1 : Fl.exc cl w e2 = R := hR1
      rw [← hR1] at p1
      exact PostS.exc S1 hbk p1
    | ok d e2 =>
      rw [hr] at hbk
      simp only [hr] at hR1
      have hR1 : (match (generalizing := false) d with
        | .bl true => match ex c n b e2 with
          | .nx e2 => wloop (fun e => ev c t .t e) (fun e => ex c n b e) m e2
          | .ct e2 => wloop (fun e => ev c t .t e) (fun e => ex c n b e) m e2
          | .brk e2 => .nx e2
          | r => r
        | .bl false => .nx e2
        | _ => .stk) = R := hR1
      cases d with
      | bl k =>
        intro H2 ω2 S2 c2 n2
        have el : e2.length = e1.length := S1.elen S2
        have n2 : NoT ω2 e2.length := by rw [el]; exact n2
        have p2 := PostS.shift c2 (Kp.of (σ := σ1) hbk) p1
        cases k with
        | false =>
          have hR1 : Fl.nx e2 = R := hR1
          rw [← hR1] at p2
          exact (if_neg (by simp)).mpr (p2 σ1 H2 ω2 S2 (.refl _ _ _) n2 (.refl _ _))
        | true =>
          have hR1 : (match ex c n b e2 with
            | .nx e2 => wloop (fun e => ev c t .t e) (fun e => ex c n b e) m e2
            | .ct e2 => wloop (fun e => ev c t .t e) (fun e => ex c n b e) m e2
            | .brk e2 => .nx e2
            | r => r) = R := hR1
          have nxt : ∀ e3 σ3 H3 ω3, wloop (fun e => ev c t .t e) (fun e => ex c n b e) m e3 = R → Sim C X.K ω3 e3 σ3 H3 → Chg true ω2 H2 ω3 H3 → NoT ω3 e3.length → Kp e2 σ1 e3 σ3 →
              ∃ e ω', wloop (fun e => ev c t .t e) (fun e => ex c n b e) m e = R ∧ Sim C X.K ω' e σ3 H3 ∧ Chg true ω H ω' H3 ∧ NoT ω' e.length ∧ Kp env σ e σ3 := fun e3 σ3 H3 ω3 h S3 c3 n3 k3 => ⟨e3, ω3, h, S3, (c1.trans c2.any).trans c3, n3, (k1.trans (.of hbk)).trans k3⟩
          refine (if_pos rfl).mpr ⟨_, fun σ' H' h => ⟨m, Nat.lt_succ_self m, h⟩, ?_⟩
          refine hb sc x W X e2 ω2 σ1 H2 hX hT cx S2 n2 _ ?_
          cases hbd : ex c n b e2 with
          | nx e3 => rw [hbd] at hR1; exact fun σ3 H3 ω3 S3 c3 n3 k3 => nxt e3 σ3 H3 ω3 hR1 S3 c3 n3 k3
          | ct e3 => rw [hbd] at hR1; exact fun σ3 H3 ω3 S3 c3 n3 k3 => nxt e3 σ3 H3 ω3 hR1 S3 c3 n3 k3
          | brk e3 =>
            rw [hbd] at hR1
            have hR1 : Fl.nx e3 = R := hR1
            rw [← hR1] at p2
            exact p2
          | ret d e3 =>
            rw [hbd] at hR1
            have hR1 : Fl.ret d e3 = R := hR1
            rw [← hR1] at p2
            exact p2
          | exc cl w e3 =>
            rw [hbd] at hR1
            have hR1 : Fl.exc cl w e3 = R := hR1
            rw [← hR1] at p2
            exact p2
          | stk =>
            rw [hbd] at hR1
            have hR1 : Fl.stk = R := hR1
            rw [← hR1] at p2
            exact p2
      | _ => have hR1 : Fl.stk = R := hR1; rw [← hR1] at p; exact p.elim
theorem floop_cons {bnd : Env → D → Option Env} {body : Env → Fl} {d : D} {ds : List D} {e : Env} : floop bnd body (d :: ds) e = (match bnd e d with
    | none => .stk
    | some e1 => match body e1 with
      | .nx e2 => floop bnd body ds e2
      | .ct e2 => floop bnd body ds e2
      | .brk e2 => .nx e2
      | r => r) := rfl
theorem chk_for {tg : Tg} {it : IE} {b : IS} {sc : Scope} {st : Stmt} (hc : chkS T N (.for tg it b) sc st = true) : ∃ t i x pos, st = .For t i x [] pos ∧ chkE T N it (some t) sc i = true ∧ tgB N sc tg t = true ∧ chkB T N b sc x = true ∧ isSet i = false := by
  cases st <;> first | exact absurd hc Bool.false_ne_true | skip
  rename_i t i x els pos
  cases els with
  | cons _ _ => exact absurd hc Bool.false_ne_true
  | nil =>
    have hc : (chkE T N it (some t) sc i && tgB N sc tg t && chkB T N b sc x && !isSet i) = true := hc
    rw [Bool.and_eq_true, Bool.and_eq_true, Bool.and_eq_true, Bool.not_eq_true'] at hc
    exact ⟨_, _, _, _, rfl, hc.1.1.1, hc.1.1.2, hc.1.2, hc.2⟩
theorem ss_for {tg : Tg} {it : IE} {b : IS} (hb : SB T N C c n b) : SS T N C c n (.for tg it b) := by
  intro sc st W X env ω σ H hX hT hc S nt D p
  obtain ⟨t, i, x, pos, rfl, ci, ct, cx, hset⟩ := chk_for hc
  have hs : ∀ v, foldedSetIterable i X.env v = pure v := by
    intro v
    cases i <;> first | rfl | exact absurd hset (fun z => Bool.false_ne_true z.symm)
  refine wS.of (ps_for hX.own hX.calm piW (pgT hX.toXOk ct) pbW hs) ?_
  refine (sound it).2.2.2.1 sc t i W X env ω σ H hX.toXOk hT ci S nt _ ?_
  have hbk := (bk_all (c := c) it).1 .v env
  have p : PostS C X.K ((ev c it .v env).fl fun x e1 => match itemsD (Q9.D.un x) with
    | some l => floop (fun e d => bindT e tg d) (fun e => ex c n b e) l e1
    | none => .stk) ω env σ H W D := p
  cases hr : ev c it .v env with
  | stk => rw [hr] at p; exact p.elim
  | exc cl w e1 => rw [hr] at p hbk; exact PostS.exc S hbk p
  | ok d0 e1 =>
    rw [hr] at p hbk
    have p : PostS C X.K (match itemsD (Q9.D.un d0) with
      | some l => floop (fun e d => bindT e tg d) (fun e => ex c n b e) l e1
      | none => .stk) ω env σ H W D := p
    show match itemsD (Q9.D.un d0) with
      | some l => ∀ J H' ω', Sim C X.K ω' e1 σ H' → Chg it.eff ω H ω' H' → NoT ω' env.length → ItOk C X.K ω' H' J l → _
      | none => False
    cases hl : itemsD (Q9.D.un d0) with
    | none => rw [hl] at p; exact p.elim
    | some l =>
    rw [hl] at p
    simp only at p
    intro J H1 ω1 S1 c1 n1 it1
    have el : e1.length = env.length := S.elen S1
    have n1 : NoT ω1 e1.length := by rw [el]; exact n1
    have p := PostS.shift c1 (Kp.of (σ := σ) hbk) p
    generalize hR : floop (fun e d => bindT e tg d) (fun e => ex c n b e) l e1 = R at p
    refine ⟨fun i m σ' H' => m = l.length - i ∧ ∃ e ω', floop (fun e d => bindT e tg d) (fun e => ex c n b e) (l.drop i) e = R ∧ Sim C X.K ω' e σ' H' ∧ Chg true ω1 H1 ω' H' ∧ NoT ω' e.length ∧ Kp e1 σ e σ', ⟨l.length, by simp, e1, ω1, by simpa using hR, S1, .refl _ _ _, n1, .refl _ _⟩, ?_⟩
    rintro i m σ2 H2 ⟨rfl, e2, ω2, hR2, S2, c2, n2, k2⟩
    have itk := it1 i ω2 H2 c2 (fun a h => S2.fresh h)
    have p2 := PostS.shift c2 k2 p
    cases hd : l.drop i with
    | nil =>
      left
      rw [hd] at hR2
      have hR2 : Fl.nx e2 = R := hR2
      rw [← hR2] at p2
      exact ⟨itk.2 (by simpa using hd), p2 σ2 H2 ω2 S2 (.refl _ _ _) n2 (.refl _ _)⟩
    | cons d ds =>
      right
      have hlt : i < l.length := by
        have : (l.drop i).length = ds.length + 1 := by rw [hd]; rfl
        rw [List.length_drop] at this; omega
      have hdi : l[i]? = some d := by
        have : (l.drop i)[0]? = some d := by rw [hd]; rfl
        rw [List.getElem?_drop] at this; simpa using this
      have hds : l.drop (i + 1) = ds := by
        have : (l.drop i).drop 1 = ds := by rw [hd]; rfl
        rw [List.drop_drop] at this; exact this
      rw [hd, floop_cons] at hR2
      obtain ⟨jgo, jyld⟩ := itk.1 d hdi
      refine ⟨jgo, _, fun σ' H' h => ⟨l.length - (i + 1), by omega, rfl, h⟩, fun y H3 hy => ?_⟩
      obtain ⟨hsame, ry⟩ := jyld y H3 hy
      have S3 := S2.same hsame
      have cs : Chg false ω2 H2 ω2 H3 := Chg.same hsame
      cases hb1 : bindT e2 tg d with
      | none => rw [hb1] at hR2; have hR2 : Fl.stk = R := hR2; rw [← hR2] at p; exact p.elim
      | some e3 =>
      rw [hb1] at hR2
      have hR2 : (match ex c n b e3 with
        | .nx e2 => floop (fun e d => bindT e tg d) (fun e => ex c n b e) ds e2
        | .ct e2 => floop (fun e d => bindT e tg d) (fun e => ex c n b e) ds e2
        | .brk e2 => .nx e2
        | r => r) = R := hR2
      refine bind_ok S3 ry hb1 fun σ3 S4 hwp => ?_
      have kp3 : Kp e2 σ2 e3 σ3 := bind_kp hb1 hwp
      have el3 : e3.length = e2.length := by
        have h1 := S4.len
        have h2 : (wipe σ3 (tgL tg)).length = (wipe σ2 (tgL tg)).length := by rw [hwp (tgL tg) tgSub_L]
        rw [wipe_length, wipe_length] at h2
        rw [← h1, h2, S2.len]
      have p3 := PostS.shift cs kp3 p2
      have nxt : ∀ e4 σ4 H4 ω4, floop (fun e d => bindT e tg d) (fun e => ex c n b e) ds e4 = R → Sim C X.K ω4 e4 σ4 H4 → Chg true ω2 H3 ω4 H4 → NoT ω4 e4.length → Kp e3 σ3 e4 σ4 →
          ∃ e ω', floop (fun e d => bindT e tg d) (fun e => ex c n b e) (l.drop (i + 1)) e = R ∧ Sim C X.K ω' e σ4 H4 ∧ Chg true ω1 H1 ω' H4 ∧ NoT ω' e.length ∧ Kp e1 σ e σ4 := fun e4 σ4 H4 ω4 h S5 c5 n5 k5 => ⟨e4, ω4, by rw [hds]; exact h, S5, (c2.trans cs.any).trans c5, n5, (k2.trans kp3).trans k5⟩
      refine hb sc x W X e3 ω2 σ3 H3 hX hT cx S4 (by rw [el3]; exact n2) _ ?_
      cases hbd : ex c n b e3 with
      | nx e4 => rw [hbd] at hR2; exact fun σ4 H4 ω4 S5 c5 n5 k5 => nxt e4 σ4 H4 ω4 hR2 S5 c5 n5 k5
      | ct e4 => rw [hbd] at hR2; exact fun σ4 H4 ω4 S5 c5 n5 k5 => nxt e4 σ4 H4 ω4 hR2 S5 c5 n5 k5
      | brk e4 =>
        rw [hbd] at hR2
        have hR2 : Fl.nx e4 = R := hR2
        rw [← hR2] at p3
        exact p3
      | ret d e4 =>
        rw [hbd] at hR2
        have hR2 : Fl.ret d e4 = R := hR2
        rw [← hR2] at p3
        exact p3
      | exc cl w e4 =>
        rw [hbd] at hR2
        have hR2 : Fl.exc cl w e4 = R := hR2
        rw [← hR2] at p3
        exact p3
      | stk =>
        rw [hbd] at hR2
        have hR2 : Fl.stk = R := hR2
        rw [← hR2] at p3
        exact p3
theorem iloop_eq {bnd : Env → D → Option Env} {body : Env → Fl} {i : Nat} {en : Bool} {n j : Nat} {e : Env} : iloop bnd body i en n j e = (match e[i]? with
    | some (some (.brw (.lst l))) => match l[j]? with
      | none => .nx e
      | some d => match n with
        | 0 => .stk
        | n + 1 => match bnd e (if en then .tup [.int (j : Int), d] else d) with
          | none => .stk
          | some e1 => match body e1 with
            | .nx e2 => iloop bnd body i en n (j + 1) e2
            | .ct e2 => iloop bnd body i en n (j + 1) e2
            | .brk e2 => .nx e2
            | r => r
    | _ => .stk) := by cases n <;> rfl
theorem Sim.lend {K : PySem.W.Frag} {ω : Om} {env : Env} {σ : L2.St} {H : Hp} {i : Nat} {d0 : D} (S : Sim C K ω env σ H) (h : env[i]? = some (some (.own d0))) : Sim C K ω (env.set i (some (.brw d0))) σ H := by
  have hi := (List.getElem?_eq_some_iff.mp h).1
  refine ⟨by rw [List.length_set]; exact S.len, by rw [List.length_set]; exact S.sz, fun a j p w => by rw [List.length_set]; exact S.own a j p w, fun j d w => ?_⟩
  by_cases hj : j = i
  · subst hj
    rw [List.getElem?_set_self hi] at w
    cases w
    obtain ⟨v, e, r⟩ := S.slot j _ h
    exact ⟨v, e, r⟩
  · rw [List.getElem?_set_ne (Ne.symm hj)] at w
    exact S.slot j d w
theorem Sim.unlend {K : PySem.W.Frag} {ω : Om} {env : Env} {σ : L2.St} {H : Hp} {i : Nat} {d0 : D} (S : Sim C K ω env σ H) (h : env[i]? = some (some (.brw d0))) : Sim C K ω (env.set i (some (.own d0))) σ H := by
  have hi := (List.getElem?_eq_some_iff.mp h).1
  refine ⟨by rw [List.length_set]; exact S.len, by rw [List.length_set]; exact S.sz, fun a j p w => by rw [List.length_set]; exact S.own a j p w, fun j d w => ?_⟩
  by_cases hj : j = i
  · subst hj
    rw [List.getElem?_set_self hi] at w
    cases w
    obtain ⟨v, e, r⟩ := S.slot j _ h
    exact ⟨v, e, r⟩
  · rw [List.getElem?_set_ne (Ne.symm hj)] at w
    exact S.slot j d w
theorem kp_lend {e0 e : Env} {σ σ' : L2.St} {i : Nat} {d0 d1 : D} (h : e0[i]? = some (some (.own d0))) (k : Kp (e0.set i (some (.brw d0))) σ e σ') : Kp e0 σ (e.set i (some (.own d1))) σ' := by
  intro j d hj
  have hji : j ≠ i := by intro z; subst z; rw [h] at hj; cases hj
  obtain ⟨⟨d2, h2⟩, h3⟩ := k j d (by rw [List.getElem?_set_ne (Ne.symm hji)]; exact hj)
  exact ⟨⟨d2, by rw [List.getElem?_set_ne (Ne.symm hji)]; exact h2⟩, h3⟩
theorem kp_lend' {e0 e : Env} {σ σ' : L2.St} {i : Nat} {d0 : D} (h : e0[i]? = some (some (.own d0))) (k : Kp (e0.set i (some (.brw d0))) σ e σ') : Kp e0 σ e σ' := by
  intro j d hj
  have hji : j ≠ i := by intro z; subst z; rw [h] at hj; cases hj
  exact k j d (by rw [List.getElem?_set_ne (Ne.symm hji)]; exact hj)
theorem ownL_inv {K : PySem.W.Frag} {ω : Om} {H : Hp} {i : Nat} {v : V} {l : List D} (o : OwnR C K ω H i v (.lst l)) : ∃ a xs, v = .ref a ∧ H a = some (.lst xs) ∧ Reps C K ω H xs l := by
  cases o with
  | flat f =>
    cases f with
    | lst h w r => exact ⟨_, _, rfl, h, r⟩
theorem chk_forO {tg : Tg} {i : Nat} {en : Bool} {b : IS} {sc : Scope} {st : Stmt} (hc : chkS T N (.forO tg i en b) sc st = true) : ∃ t it x pos, st = .For t it x [] pos ∧ tgB N sc tg t = true ∧ chkB T N b sc x = true ∧
    ((en = false ∧ ∃ y p, it = .Name y p ∧ N[i]? = some y ∧ visB sc y = true ∧ plainN y = true) ∨ (en = true ∧ ∃ q y p pos es k tp, it = .Call (.Name "enumerate" q) [.Name y p] [] pos ∧ t = .Tuple es k tp ∧ glB sc "enumerate" = true ∧ T.bl.contains "enumerate" = true ∧ N[i]? = some y ∧ visB sc y = true ∧ plainN y = true)) := by
  cases st <;> first | exact absurd hc Bool.false_ne_true | skip
  rename_i t it x els pos
  cases els with
  | cons _ _ => exact absurd hc Bool.false_ne_true
  | nil =>
    cases en with
    | false =>
      have hc : (tgB N sc tg t && chkB T N b sc x && (match (generalizing := false) it with
        | .Name y _ => decide (N[i]? = some y) && visB sc y && plainN y
        | _ => false)) = true := hc
      rw [Bool.and_eq_true, Bool.and_eq_true] at hc
      refine ⟨_, _, _, _, rfl, hc.1.1, hc.1.2, .inl ⟨rfl, ?_⟩⟩
      have h2 := hc.2
      cases it <;> first | exact absurd h2 Bool.false_ne_true | skip
      rw [Bool.and_eq_true, Bool.and_eq_true, decide_eq_true_eq] at h2
      exact ⟨_, _, rfl, h2.1.1, h2.1.2, h2.2⟩
    | true =>
      have hc : (tgB N sc tg t && chkB T N b sc x && (match (generalizing := false) it with
        | .Call (.Name f _) [.Name y _] [] _ => (match (generalizing := false) t with | .Tuple .. => true | _ => false) && decide (f = ("enumerate" : Str)) && glB sc f && T.bl.contains "enumerate" && (decide (N[i]? = some y) && visB sc y && plainN y)
        | _ => false)) = true := hc
      rw [Bool.and_eq_true, Bool.and_eq_true] at hc
      refine ⟨_, _, _, _, rfl, hc.1.1, hc.1.2, .inr ⟨rfl, ?_⟩⟩
      have h2 := hc.2
      split at h2
      · rw [Bool.and_eq_true, Bool.and_eq_true, Bool.and_eq_true, Bool.and_eq_true, Bool.and_eq_true, Bool.and_eq_true, decide_eq_true_eq, decide_eq_true_eq] at h2
        obtain ⟨⟨⟨⟨h3, rfl⟩, h4⟩, h5⟩, ⟨h6, h7⟩, h8⟩ := h2
        split at h3
        · exact ⟨_, _, _, _, _, _, _, rfl, rfl, h4, h5, h6, h7, h8⟩
        · exact absurd h3 Bool.false_ne_true
      · exact absurd h2 Bool.false_ne_true
theorem ss_forO {tg : Tg} {i : Nat} {en : Bool} {b : IS} (hb : SB T N C c n b) : SS T N C c n (.forO tg i en b) := by
  intro sc st W X env ω σ H hX hT hc S nt D p
  obtain ⟨t, it, x, pos, rfl, ct, cx, hit⟩ := chk_forO hc
  have hs : ∀ v, foldedSetIterable it X.env v = pure v := by
    intro v
    rcases hit with ⟨_, y, p, rfl, _⟩ | ⟨_, q, y, p, pos, es, k, tp, rfl, _⟩ <;> rfl
  have p : PostS C X.K (match env[i]? with
    | some (some (.own (.lst l))) => unbr i (iloop (fun e d => bindT e tg d) (fun e => ex c n b e) i en n 0 (env.set i (some (.brw (.lst l)))))
    | _ => .stk) ω env σ H W D := p
  split at p
  case h_2 => exact p.elim
  rename_i l he
  obtain ⟨v, hv, o⟩ := S.slot i _ he
  have S0 := S.lend he
  have hi : i < env.length := (List.getElem?_eq_some_iff.mp he).1
  have g0 : (env.set i (some (.brw (.lst l))))[i]? = some (some (.brw (.lst l))) := List.getElem?_set_self hi
  have n0 : NoT ω (env.set i (some (.brw (.lst l)))).length := by rw [List.length_set]; exact nt
  obtain ⟨a, xs0, rfl, ha0, _⟩ := ownL_inv (show OwnR C X.K ω H i v (.lst l) from o)
  generalize hE : env.set i (some (.brw (.lst l))) = E0 at p S0 g0 n0
  generalize hR : iloop (fun e d => bindT e tg d) (fun e => ex c n b e) i en n 0 E0 = R at p
  have ha1 : ∀ {e1 : Env} {ω1 : Om} {H1 : Hp} {σ1 : L2.St} {l' : List Q9.D}, Sim C X.K ω1 e1 σ1 H1 → Kp E0 σ e1 σ1 → e1[i]? = some (some (.brw (.lst l'))) → ∃ xs, H1 a = some (.lst xs) ∧ Reps C X.K ω1 H1 xs l' := by
    intro e1 ω1 H1 σ1 l' S1 k1 h
    obtain ⟨_, hσ⟩ := k1 i _ g0
    obtain ⟨v', hv', o'⟩ := S1.slot i _ h
    rw [hσ, hv] at hv'
    cases hv'
    obtain ⟨a', xs, e, h1, h2⟩ := ownL_inv (show OwnR C X.K ω1 H1 i (.ref a) (.lst l') from o')
    cases e
    exact ⟨xs, h1, h2⟩
  -- the loop by an iterator's words
  have main : ∀ J : It, (∀ (j : Nat) (H' : Hp) (xs : List V) (ω' : Om) (l' : List Q9.D), H' a = some (.lst xs) → Reps C X.K ω' H' xs l' → (∀ q, H' q = none → ω' q = none) →
      (∀ d, l'[j]? = some d → J.go j H' ∧ ∀ y H'', J.yld j H' y H'' → (∀ q o, H' q = some o → H'' q = some o) ∧ Rep C X.K ω' H'' y (if en then .tup [.int (j : Int), d] else d)) ∧ (l'.length ≤ j → J.stop j H')) →
      ∃ Wp : Nat → Nat → L2.St → Hp → Prop, (∃ m, Wp 0 m σ H) ∧ ∀ j m σ H, Wp j m σ H → (J.stop j H ∧ D.nx σ H) ∨ (J.go j H ∧ ∃ N : L2.St → Hp → Prop, (∀ σ' H', N σ' H' → ∃ m', m' < m ∧ Wp (j + 1) m' σ' H') ∧ ∀ x' H', J.yld j H x' H' → gT X.K tg x' σ H' fun σ2 H2 => wB X x { D with nx := N, ct := N, bk := D.nx } σ2 H2) := by
    intro J hJ
    refine ⟨fun j m σ' H' => m = n - j ∧ j ≤ n ∧ ∃ e ω', iloop (fun e d => bindT e tg d) (fun e => ex c n b e) i en (n - j) j e = R ∧ Sim C X.K ω' e σ' H' ∧ Chg true ω H ω' H' ∧ NoT ω' e.length ∧ Kp E0 σ e σ', ⟨n, by simp, Nat.zero_le _, E0, ω, by simpa using hR, S0, .refl _ _ _, n0, .refl _ _⟩, ?_⟩
    rintro j m σ2 H2 ⟨rfl, hjn, e2, ω2, hR2, S2, c2, n2, k2⟩
    rw [iloop_eq] at hR2
    cases h2 : e2[i]? with
    | none => rw [h2] at hR2; have hR2 : Fl.stk = R := hR2; rw [← hR2] at p; exact p.elim
    | some z =>
    rw [h2] at hR2
    cases z with
    | none => have hR2 : Fl.stk = R := hR2; rw [← hR2] at p; exact p.elim
    | some z =>
    cases z <;> first | (have hR2 : Fl.stk = R := hR2; rw [← hR2] at p; exact p.elim) | skip
    rename_i z
    cases z <;> first | (have hR2 : Fl.stk = R := hR2; rw [← hR2] at p; exact p.elim) | skip
    rename_i l'
    have hR2 : (match l'[j]? with
      | none => Fl.nx e2
      | some d => match n - j with
        | 0 => .stk
        | n' + 1 => match bindT e2 tg (if en then .tup [.int (j : Int), d] else d) with
          | none => .stk
          | some e1 => match ex c n b e1 with
            | .nx e2 => iloop (fun e d => bindT e tg d) (fun e => ex c n b e) i en n' (j + 1) e2
            | .ct e2 => iloop (fun e d => bindT e tg d) (fun e => ex c n b e) i en n' (j + 1) e2
            | .brk e2 => .nx e2
            | r => r) = R := hR2
    obtain ⟨xs, hx, hr⟩ := ha1 S2 k2 h2
    have itk := hJ j H2 xs ω2 l' hx hr (fun a h => S2.fresh h)
    cases hd : l'[j]? with
    | none =>
      left
      rw [hd] at hR2
      have hR2 : Fl.nx e2 = R := hR2
      rw [← hR2] at p
      have p : PostS C X.K (match e2[i]? with
        | some (some (.brw d)) => .nx (e2.set i (some (.own d)))
        | _ => .stk) ω env σ H W D := p
      rw [h2] at p
      refine ⟨itk.2 (by rw [List.getElem?_eq_none_iff] at hd; exact hd), ?_⟩
      exact p σ2 H2 ω2 (S2.unlend h2) c2 (by rw [List.length_set]; exact n2) (kp_lend he (by rw [hE]; exact k2))
    | some d =>
      right
      rw [hd] at hR2
      simp only at hR2
      cases hn : n - j with
      | zero => rw [hn] at hR2; have hR2 : Fl.stk = R := hR2; rw [← hR2] at p; exact p.elim
      | succ n' =>
      rw [hn] at hR2
      simp only at hR2
      obtain ⟨jgo, jyld⟩ := itk.1 d hd
      refine ⟨jgo, _, fun σ' H' h => ⟨n - (j + 1), by omega, rfl, by omega, h⟩, fun y H3 hy => ?_⟩
      obtain ⟨hsame, ry⟩ := jyld y H3 hy
      have S3 := S2.same hsame
      have cs : Chg false ω2 H2 ω2 H3 := Chg.same hsame
      cases hb1 : bindT e2 tg (if en then .tup [.int (j : Int), d] else d) with
      | none => rw [hb1] at hR2; have hR2 : Fl.stk = R := hR2; rw [← hR2] at p; exact p.elim
      | some e3 =>
      rw [hb1] at hR2
      simp only at hR2
      refine bind_ok S3 ry hb1 fun σ3 S4 hwp => ?_
      have kp3 : Kp e2 σ2 e3 σ3 := bind_kp hb1 hwp
      have el3 : e3.length = e2.length := by
        have h1 := S4.len
        have h2 : (wipe σ3 (tgL tg)).length = (wipe σ2 (tgL tg)).length := by rw [hwp (tgL tg) tgSub_L]
        rw [wipe_length, wipe_length] at h2
        rw [← h1, h2, S2.len]
      have kpO : ∀ {e4 : Env} {σ4 : L2.St}, Kp e3 σ3 e4 σ4 → Kp E0 σ e4 σ4 := fun k => (k2.trans kp3).trans k
      have c02 : ∀ {ω4 : Om} {H4 : Hp}, Chg true ω2 H3 ω4 H4 → Chg true ω H ω4 H4 := fun ch => by simpa using (c2.trans cs).trans ch
      have nxt : ∀ e4 σ4 H4 ω4, iloop (fun e d => bindT e tg d) (fun e => ex c n b e) i en n' (j + 1) e4 = R → Sim C X.K ω4 e4 σ4 H4 → Chg true ω2 H3 ω4 H4 → NoT ω4 e4.length → Kp e3 σ3 e4 σ4 →
          ∃ e ω', iloop (fun e d => bindT e tg d) (fun e => ex c n b e) i en (n - (j + 1)) (j + 1) e = R ∧ Sim C X.K ω' e σ4 H4 ∧ Chg true ω H ω' H4 ∧ NoT ω' e.length ∧ Kp E0 σ e σ4 := fun e4 σ4 H4 ω4 h S5 c5 n5 k5 => ⟨e4, ω4, by rw [show n - (j + 1) = n' by omega]; exact h, S5, c02 c5, n5, kpO k5⟩
      refine hb sc x W X e3 ω2 σ3 H3 hX hT cx S4 (by rw [el3]; exact n2) _ ?_
      cases hbd : ex c n b e3 with
      | nx e4 => rw [hbd] at hR2; exact fun σ4 H4 ω4 S5 c5 n5 k5 => nxt e4 σ4 H4 ω4 hR2 S5 c5 n5 k5
      | ct e4 => rw [hbd] at hR2; exact fun σ4 H4 ω4 S5 c5 n5 k5 => nxt e4 σ4 H4 ω4 hR2 S5 c5 n5 k5
      | brk e4 =>
        rw [hbd] at hR2
        have hR2 : Fl.nx e4 = R := hR2
        rw [← hR2] at p
        have p : PostS C X.K (match e4[i]? with
          | some (some (.brw d)) => .nx (e4.set i (some (.own d)))
          | _ => .stk) ω env σ H W D := p
        intro σ4 H4 ω4 S5 c5 n5 k5
        obtain ⟨⟨d1, h1⟩, _⟩ := kpO k5 i _ g0
        rw [h1] at p
        exact p σ4 H4 ω4 (S5.unlend h1) (c02 c5) (by rw [List.length_set]; exact n5) (kp_lend he (by rw [hE]; exact kpO k5))
      | ret d e4 =>
        rw [hbd] at hR2
        have hR2 : Fl.ret d e4 = R := hR2
        rw [← hR2] at p
        have p : PostS C X.K (.ret d e4) ω env σ H W D := p
        intro v4 σ4 H4 ω4 S5 c5 g5 k5
        exact p v4 σ4 H4 ω4 S5 (c02 c5) g5 (kp_lend' he (by rw [hE]; exact kpO k5))
      | exc cl w e4 =>
        rw [hbd] at hR2
        have hR2 : Fl.exc cl w e4 = R := hR2
        rw [← hR2] at p
        exact p.elim
      | stk =>
        rw [hbd] at hR2
        have hR2 : Fl.stk = R := hR2
        rw [← hR2] at p
        exact p.elim
  rcases hit with ⟨rfl, y, py, rfl, h1, h2, h3⟩ | ⟨rfl, q, y, py, pos', es, k, tp, rfl, rfl, hg, hbl, h1, h2, h3⟩
  · refine wS.of (ps_for hX.own hX.calm (pi_list peW) (pgT hX.toXOk ct) pbW hs) ?_
    refine wE_slot hX.toXOk ⟨y, py, rfl, h1, h2, h3⟩ hv ⟨a, rfl, ⟨xs0, SqL.of ha0⟩, ?_⟩
    refine main (Itl X.K a) fun j H' xs ω' l' hx hr hn => ⟨fun d hd => ?_, fun hl => ⟨xs, SqL.of hx, by rw [hr.length]; exact hl⟩⟩
    obtain ⟨x', hx', rx⟩ := hr.getD hd
    refine ⟨⟨xs, x', SqL.of hx, hx'⟩, fun y' H'' hy => ?_⟩
    obtain ⟨rfl, hy⟩ := hy
    have := hy xs (SqL.of hx)
    rw [hx'] at this
    cases this
    exact ⟨fun _ _ e => e, rx⟩
  · refine wS.of (ps_for hX.own hX.calm (pi_enum (hX.gl _ (gl_of hg)) (hT.bls _ hbl) (pa_cons peW pa_nil (starCons rfl)) (starCons rfl)) (pgT hX.toXOk ct) pbW hs) ?_
    refine wE_slot hX.toXOk ⟨y, py, rfl, h1, h2, h3⟩ hv ⟨a, xs0, rfl, SqL.of ha0, ?_⟩
    refine main (Ite X.K a) fun j H' xs ω' l' hx hr hn => ⟨fun d hd => ?_, fun hl => ⟨xs, SqL.of hx, by rw [hr.length]; exact hl⟩⟩
    obtain ⟨x', hx', rx⟩ := hr.getD hd
    refine ⟨⟨xs, x', SqL.of hx, hx'⟩, fun y' H'' hy => ?_⟩
    obtain ⟨p', z, rfl, hp, rfl, hy⟩ := hy
    have := hy xs (SqL.of hx)
    rw [hx'] at this
    cases this
    have hs' : ∀ b o, H' b = some o → (upd H' p' (.tup [.int (j : Nat), x'])) b = some o := fun b o e => by rw [upd_ne (ne_of_none e hp)]; exact e
    refine ⟨hs', .tup ⟨.inl upd_same, hn p' hp⟩ ?_⟩
    have cg : Chg false ω' H' ω' (upd H' p' (.tup [.int (j : Nat), x'])) := Chg.same hs'
    exact .cons (.int _) (.cons (rx.mono cg) .nil)
end
end Q9

set_option Elab.async false
set_option linter.all false
set_option maxRecDepth 100000
namespace Q9
open PySem PySem.Spec L2
section
variable {T : Tab} {N : List Str} {C : Ct} {c : Oracle} {n : Nat}

theorem chk_asg {tg : Tg} {v : IE} {sc : Scope} {st : Stmt} (hc : chkS T N (.asg tg v) sc st = true) : ∃ t e pos, st = .Assign [t] e pos ∧ tgB N sc tg t = true ∧ chkE T N v none sc e = true ∧ ((∃ i, tg = .nm i) ∨ (isComp e = false ∧ ∀ es k q, e ≠ .Tuple es k q)) := by
  cases st <;> first | exact absurd hc Bool.false_ne_true | skip
  rename_i ts e pos
  match ts, hc with
  | [], hc => exact absurd hc Bool.false_ne_true
  | _ :: _ :: _, hc => exact absurd hc Bool.false_ne_true
  | [t], hc =>
    have hc : (tgB N sc tg t && chkE T N v none sc e && (match (generalizing := false) tg with | .nm _ => true | _ => !isComp e && (match (generalizing := false) e with | .Tuple .. => false | _ => true))) = true := hc
    rw [Bool.and_eq_true, Bool.and_eq_true] at hc
    refine ⟨t, e, pos, rfl, hc.1.1, hc.1.2, ?_⟩
    cases tg with
    | nm i => exact .inl ⟨i, rfl⟩
    | tp is =>
      right
      have h := hc.2
      have h : (!isComp e && (match (generalizing := false) e with | .Tuple .. => false | _ => true)) = true := h
      rw [Bool.and_eq_true, Bool.not_eq_true'] at h
      refine ⟨h.1, fun es k q z => ?_⟩
      subst z
      exact absurd h.2 Bool.false_ne_true
theorem sw_non {e t : Expr} {l : Nat} {X : Cx} (h : isComp e = false) : swapsWithSole [t] e l X.env = pure false := by
  cases e <;> first | rfl | exact absurd h (fun z => Bool.false_ne_true z.symm)
theorem sw_tup {e : Expr} {ts : List Expr} {k : Nat} {p : Pos} {X : Cx} (h : ∀ es k q, e ≠ .Tuple es k q) : swappedStores [.Tuple ts k p] e X.env = pure none := by
  cases e <;> first | rfl | exact absurd rfl (h _ _ _)
theorem sw_name {e : Expr} {x : Str} {p : Pos} {X : Cx} : swappedStores [.Name x p] e X.env = pure none := rfl
theorem sw_name2 {e : Expr} {x y : Str} {p q : Pos} {X : Cx} : swappedStores [.Name x p, .Name y q] e X.env = pure none := rfl
theorem sw_sub {e o i : Expr} {p : Pos} {X : Cx} : swappedStores [.Subscript o i p] e X.env = pure none := rfl

theorem ss_asg (tg : Tg) (v : IE) : SS T N C c n (.asg tg v) := by
  intro sc st W X env ω σ H hX hT hc S nt D p
  obtain ⟨t, e, pos, rfl, ht, ce, hcase⟩ := chk_asg hc
  have hS := (sound (T := T) (N := N) (C := C) (c := c) v).1 sc e W X env ω σ H hX.toXOk hT ce S nt
  -- what goes on behind the value
  cases tg with
  | nm i =>
    cases t <;> first | exact absurd ht Bool.false_ne_true | skip
    rename_i x px
    have ht : (decide (N[i]? = some x) && locB sc x) = true := ht
    rw [Bool.and_eq_true, decide_eq_true_eq] at ht
    have p : PostS C X.K ((ev c v .v env).fl fun d e1 => ofE (setSl e1 i d)) ω env σ H W D := p
    have fin : Post C X.K .v (ev c v .v env) v.eff ω env σ H W (fun w H1 => D.nx (σ.set i (some w)) H1) := by
      refine PostS.ev S p fun d e1 w H1 ω1 S1 c1 g1 p1 => ?_
      cases hs : setSl e1 i d with
      | none => rw [hs] at p1; exact p1.elim
      | some e2 =>
        rw [hs] at p1
        obtain ⟨ω2, S2, c2, n2, k2⟩ := bindV S1 g1 hs
        exact p1 _ _ ω2 S2 c2 n2 k2
    by_cases hcomp : isComp e = true
    · -- a comprehension may be stored from within
      by_cases hv : ∃ own tg it cond elt, v = .lc own tg it cond elt
      · obtain ⟨own, tg, it, cond, elt, rfl⟩ := hv
        obtain ⟨x', t, i', ifs, scope, pos', rfl, ci, hblk, htg, hsub, hif, cel, hset⟩ := chk_lc ce
        obtain ⟨tt, te, ptt, pte, k⟩ := lc_key (sound it).2.2.2.1 (sound cond).1 (sound elt).1 (c := c) hX.toXOk hT ci hblk htg hsub hif cel S nt
        have hs : ∀ v, foldedSetIterable i' X.env v = pure v := by
          intro v
          cases i' <;> first | rfl | exact absurd hset (fun z => Bool.false_ne_true z.symm)
        have hsw : ∀ b, (X.env.blockKind == .function && X.env.kindOf x == some .local && px.line == pos'.line && !(scope.names.any fun (n, k) => n == x && (k == .local || k == .cell))) = b → swapsWith (.ListComp x' [⟨t, i', ifs, 0⟩] scope pos') (some (.Name x px)) pos.line X.env = pure b := fun b hb => by rw [← hb]; rfl
        cases hb : (X.env.blockKind == .function && X.env.kindOf x == some .local && px.line == pos'.line && !(scope.names.any fun (n, k) => n == x && (k == .local || k == .cell))) with
        | true =>
          have hl : X.env.scope.names.lookup x = some .local := by
            rw [Bool.and_eq_true, Bool.and_eq_true, Bool.and_eq_true, beq_iff_eq, beq_iff_eq] at hb
            exact hb.1.1.2
          have main := ps_setLc (X := X) (i := i) (tg := t) (g := gT X.K tg) (pos := pos') (py := px) (spos := pos) hX.calm (by rw [hX.hN]; exact hX.nd) (by rw [hX.hN]; exact ht.1) hl (hsw true hb) piW (blk_ok hX.toXOk hblk) (fun s H D cl fp => pgT (blk_x hX.toXOk hblk s H D cl fp) htg) ptt pte hs
          rw [own_snd] at main
          exact wS.of main (k _ fin)
        | false =>
          refine wS.of (ps_asg (tg := .Name x px) (e := .ListComp x' [⟨t, i', ifs, 0⟩] scope pos') (pos := pos) (g := gName i) peW (pg_nm hX.toXOk ht.1 ht.2) (hsw false hb) sw_name) ?_
          exact hS.1 .v _ (by simp) fin
      · cases v <;> first
          | exact p.elim
          | exact absurd ⟨_, _, _, _, _, rfl⟩ hv
          | (cases e <;> first | exact absurd ce Bool.false_ne_true | exact absurd hcomp Bool.false_ne_true)
    · have hcomp : isComp e = false := by simpa using hcomp
      refine wS.of (ps_asg (g := gName i) peW (pg_nm hX.toXOk ht.1 ht.2) (sw_non hcomp) sw_name) ?_
      exact hS.1 .v _ (by simp) fin
  | tp is =>
    have hcase : isComp e = false ∧ ∀ es k q, e ≠ .Tuple es k q := by
      rcases hcase with ⟨i, z⟩ | h
      · cases z
      · exact h
    have ht0 := ht
    cases t <;> first | exact absurd ht Bool.false_ne_true | skip
    have p : PostS C X.K ((ev c v .v env).fl fun d e1 => ofE (bindT e1 (.tp is) (Q9.D.un d))) ω env σ H W D := p
    refine wS.of (ps_asg (g := gT X.K (.tp is)) peW (pgT hX.toXOk ht0) (sw_non hcase.1) (sw_tup hcase.2)) ?_
    refine hS.1 .v _ (by simp) (PostS.ev S p fun d e1 w H1 ω1 S1 c1 g1 p1 => ?_)
    obtain ⟨S1', n1, r1⟩ := g1.freeze S1
    have cs : Chg false ω1 H1 (strike ω1 e1.length) H1 := Chg.strike (Nat.ne_of_lt S1.sz)
    cases hs : bindT e1 (.tp is) (Q9.D.un d) with
    | none => rw [hs] at p1; exact p1.elim
    | some e2 =>
      rw [hs] at p1
      refine bind_ok S1' r1 hs fun σ2 S2 hw => ?_
      have el : e2.length = e1.length := by
        have h1 := S2.len
        have h2 : (wipe σ2 is).length = (wipe σ is).length := by rw [hw is (by simp [tgSub])]
        rw [wipe_length, wipe_length] at h2
        rw [← h1, h2, S1.len]
      exact p1 _ _ _ S2 cs.any (by rw [el]; exact n1) (bind_kp hs hw)
end
end Q9

set_option Elab.async false
set_option linter.all false
set_option maxRecDepth 100000
namespace Q9
open PySem PySem.Spec L2
section
variable {T : Tab} {N : List Str} {C : Ct} {c : Oracle} {n : Nat}

theorem chk_asgs {is : List Nat} {v : IE} {sc : Scope} {st : Stmt} (hc : chkS T N (.asgs is v) sc st = true) : ∃ i j x px y py e pos, is = [i, j] ∧ st = .Assign [.Name x px, .Name y py] e pos ∧ N[i]? = some x ∧ N[j]? = some y ∧ locB sc x = true ∧ locB sc y = true ∧ chkE T N v none sc e = true := by
  cases st <;> first | exact absurd hc Bool.false_ne_true | skip
  rename_i ts e pos
  match ts, hc with
  | [], hc => exact absurd hc Bool.false_ne_true
  | [_], hc => cases ‹Expr› <;> exact absurd hc Bool.false_ne_true
  | a :: b :: d :: _, hc => cases a <;> first | exact absurd hc Bool.false_ne_true | (cases b <;> exact absurd hc Bool.false_ne_true)
  | [a, b], hc =>
    cases a <;> first | exact absurd hc Bool.false_ne_true | skip
    cases b <;> first | exact absurd hc Bool.false_ne_true | skip
    rename_i x px y py
    match is, hc with
    | [], hc => exact absurd hc Bool.false_ne_true
    | [_], hc => exact absurd hc Bool.false_ne_true
    | _ :: _ :: _ :: _, hc => exact absurd hc Bool.false_ne_true
    | [i, j], hc =>
      have hc : (decide (N[i]? = some x) && decide (N[j]? = some y) && locB sc x && locB sc y && decide (i ≠ j) && chkE T N v none sc e && (match (generalizing := false) e with | .Tuple .. => false | _ => true) && !isComp e) = true := hc
      rw [Bool.and_eq_true, Bool.and_eq_true, Bool.and_eq_true, Bool.and_eq_true, Bool.and_eq_true, Bool.and_eq_true, Bool.and_eq_true, decide_eq_true_eq, decide_eq_true_eq] at hc
      obtain ⟨⟨⟨⟨⟨⟨⟨h1, h2⟩, h3⟩, h4⟩, h5⟩, h6⟩, h7⟩, h8⟩ := hc
      exact ⟨_, _, _, _, _, _, _, _, rfl, rfl, h1, h2, h3, h4, h6⟩
theorem ss_asgs (is : List Nat) (v : IE) : SS T N C c n (.asgs is v) := by
  intro sc st W X env ω σ H hX hT hc S nt D p
  obtain ⟨i, j, x, px, y, py, e, pos, rfl, rfl, hi, hj, lx, ly, ce⟩ := chk_asgs hc
  refine wS.of (ps_asg2 peW (pg_nm hX.toXOk hi lx) (pg_nm hX.toXOk hj ly) rfl sw_name2) ?_
  have p : PostS C X.K ((ev c v .v env).fl fun d e1 => ofE (setSls e1 [i, j] [Q9.D.un d, Q9.D.un d])) ω env σ H W D := p
  refine ((sound (T := T) (N := N) (C := C) (c := c) v).1 sc e W X env ω σ H hX.toXOk hT ce S nt).1 .v _ (by simp) (PostS.ev S p fun d e1 w H1 ω1 S1 c1 g1 p1 => ?_)
  obtain ⟨S1', n1, r1⟩ := g1.freeze S1
  have cs : Chg false ω1 H1 (strike ω1 e1.length) H1 := Chg.strike (Nat.ne_of_lt S1.sz)
  have p1 : PostS C X.K (ofE (match (generalizing := false) setSl e1 i (Q9.D.un d) with | some e2 => setSls e2 [j] [Q9.D.un d] | none => none)) ω1 e1 σ H1 W D := p1
  cases h1 : setSl e1 i (Q9.D.un d) with
  | none => rw [h1] at p1; exact p1.elim
  | some e2 =>
    rw [h1] at p1
    have p1 : PostS C X.K (ofE (match (generalizing := false) setSl e2 j (Q9.D.un d) with | some e3 => setSls e3 [] [] | none => none)) ω1 e1 σ H1 W D := p1
    cases h2 : setSl e2 j (Q9.D.un d) with
    | none => rw [h2] at p1; exact p1.elim
    | some e3 =>
      rw [h2] at p1
      have p1 : PostS C X.K (.nx e3) ω1 e1 σ H1 W D := p1
      have S2 := S1'.setF r1 h1
      have S3 := S2.setF r1 h2
      have el : e3.length = e1.length := by
        obtain ⟨z1, _⟩ := setSl_eq h1
        obtain ⟨z2, _⟩ := setSl_eq h2
        rw [z2, z1, List.length_set, List.length_set]
      exact p1 _ _ _ S3 cs.any (by rw [el]; exact n1) ((setSl_kp h1).trans (setSl_kp h2))

theorem chk_par {is : List Nat} {vs : IE} {sc : Scope} {st : Stmt} (hc : chkS T N (.par is vs) sc st = true) : ∃ i j x px y py k p1 a b k2 p2 pos, is = [i, j] ∧ st = .Assign [.Tuple [.Name x px, .Name y py] k p1] (.Tuple [a, b] k2 p2) pos ∧ N[i]? = some x ∧ N[j]? = some y ∧ i ≠ j ∧ sc.names.lookup x = some .local ∧ sc.names.lookup y = some .local ∧ px.line = py.line ∧ (chkA T N vs sc [a, b] = true ∧ vs.noB = true) ∧
    ([a, b].all (foldedForSure 8)) = false ∧ ([a, b].all (constantsAlone 8)) = false ∧ isStar a = false ∧ isStar b = false := by
  have hc : (match (generalizing := false) st with
    | .Assign [.Tuple [.Name x px, .Name y py] _ _] (.Tuple [a, b] _ _) _ => (match (generalizing := false) is with | [i, j] => decide (N[i]? = some x) && decide (N[j]? = some y) && decide (i ≠ j) && decide (sc.names.lookup x = some .local) && decide (sc.names.lookup y = some .local) && decide (px.line = py.line) && (chkA T N vs sc [a, b] && vs.noB) && !([a, b].all (foldedForSure 8)) && !([a, b].all (constantsAlone 8)) && !isStar a && !isStar b | _ => false)
    | _ => false) = true := hc
  split at hc
  · split at hc
    · rw [Bool.and_eq_true, Bool.and_eq_true, Bool.and_eq_true, Bool.and_eq_true, Bool.and_eq_true, Bool.and_eq_true, Bool.and_eq_true, Bool.and_eq_true, Bool.and_eq_true, Bool.and_eq_true, decide_eq_true_eq, decide_eq_true_eq, decide_eq_true_eq, decide_eq_true_eq, decide_eq_true_eq, decide_eq_true_eq, Bool.not_eq_true', Bool.not_eq_true', Bool.not_eq_true', Bool.not_eq_true'] at hc
      obtain ⟨⟨⟨⟨⟨⟨⟨⟨⟨⟨h1, h2⟩, h3⟩, h4⟩, h5⟩, h6⟩, h7⟩, h8⟩, h9⟩, h10⟩, h11⟩ := hc
      exact ⟨_, _, _, _, _, _, _, _, _, _, _, _, _, rfl, rfl, h1, h2, h3, h4, h5, h6, Bool.and_eq_true_iff.mp h7, h8, h9, h10, h11⟩
    · cases hc
  · cases hc
theorem kind_fn {W : WX} {X : Cx} {sc : Scope} (hX : SOk N sc W X) : X.env.blockKind = .function := by
  unfold Env.blockKind
  rw [hX.scp, hX.kind]
  rfl
theorem ss_par (is : List Nat) (vs : IE) : SS T N C c n (.par is vs) := by
  intro sc st W X env ω σ H hX hT hc S nt D p
  obtain ⟨i, j, x, px, y, py, k, p1, a, b, k2, p2, pos, rfl, rfl, hi, hj, hij, lx, ly, hln, ⟨ca, hnb⟩, hf1, hf2, sa, sb⟩ := chk_par hc
  have hxy : x ≠ y := fun z => by
    subst z
    have h1 := (List.getElem?_eq_some_iff.mp hi)
    have h2 := (List.getElem?_eq_some_iff.mp hj)
    obtain ⟨l1, e1⟩ := h1
    obtain ⟨l2, e2⟩ := h2
    exact hij ((List.getElem_inj hX.nd).mp (e1.trans e2.symm))
  have kx : X.env.kindOf x = some .local := by show X.env.scope.names.lookup x = _; rw [hX.scp]; exact lx
  have ky : X.env.kindOf y = some .local := by show X.env.scope.names.lookup y = _; rw [hX.scp]; exact ly
  have hyx : (y == x) = false := by simp [Ne.symm hxy]
  have hsa : (match (generalizing := false) a with | .Starred .. => true | _ => false) = false := sa
  have hsb : (match (generalizing := false) b with | .Starred .. => true | _ => false) = false := sb
  have hw : swappedStores [.Tuple [.Name x px, .Name y py] k p1] (.Tuple [a, b] k2 p2) X.env = pure (some [x, y]) := by
    simp only [List.all_cons, List.all_nil, Bool.and_true] at hf1 hf2
    have hbk := kind_fn hX
    unfold swappedStores
    simp [hbk, kx, ky, hln, hsa, hsb, hf1, hf2, hyx, Expr.pos, List.eraseDups, List.eraseDupsBy, List.eraseDupsBy.loop]
    rintro (h | h)
    · exact absurd (show isStar a = true from h) (by rw [sa]; simp)
    · exact absurd (show isStar b = true from h) (by rw [sb]; simp)
  refine wS.of (ps_par hX.calm (by rw [hX.hN]; exact hX.nd) (by rw [hX.hN]; exact hi) (by rw [hX.hN]; exact hj) hij kx ky paW hw) ?_
  have p : PostS C X.K (match evA c vs env with
    | .ok ds e1 => ofE (setSls e1 [i, j] ds)
    | .exc cl w e1 => .exc cl w e1
    | .stk => .stk) ω env σ H W D := p
  refine (sound vs).2.1 sc [a, b] W X env ω σ H hX.toXOk hT ca S nt _ ?_
  have hbk := (bk_all (c := c) vs).2.1 env
  cases hr : evA c vs env with
  | stk => rw [hr] at p; exact p.elim
  | exc cl w e1 => rw [hr] at p hbk; exact PostS.exc S hbk p
  | ok ds e1 =>
    rw [hr] at p hbk
    have p : PostS C X.K (ofE (setSls e1 [i, j] ds)) ω env σ H W D := p
    intro us H1 ω1 S1 c1 n1 ra
    have el : e1.length = env.length := S.elen S1
    have p := PostS.shift c1 (Kp.of (σ := σ) hbk) p
    have rs : Reps C X.K ω1 H1 us ds := ra.reps hnb
    match ds, us, rs, p with
    | [], _, _, p => exact p.elim
    | [d1], _, _, p =>
      have p : PostS C X.K (ofE (match (generalizing := false) setSl e1 i d1 with | some e2 => none | none => none)) ω1 e1 σ H1 W D := p
      cases h1 : setSl e1 i d1 <;> (rw [h1] at p; exact p.elim)
    | d1 :: d2 :: d3 :: dr, _, _, p =>
      have p : PostS C X.K (ofE (match (generalizing := false) setSl e1 i d1 with | some e2 => (match (generalizing := false) setSl e2 j d2 with | some e3 => setSls e3 [] (d3 :: dr) | none => none) | none => none)) ω1 e1 σ H1 W D := p
      cases h1 : setSl e1 i d1 with
      | none => rw [h1] at p; exact p.elim
      | some e2 =>
        rw [h1] at p
        simp only at p
        cases h2 : setSl e2 j d2 <;> (rw [h2] at p; exact p.elim)
    | [d1, d2], [u1, u2], .cons r1 (.cons r2 .nil), p =>
      have p : PostS C X.K (ofE (match (generalizing := false) setSl e1 i d1 with | some e2 => (match (generalizing := false) setSl e2 j d2 with | some e3 => some e3 | none => none) | none => none)) ω1 e1 σ H1 W D := p
      cases h1 : setSl e1 i d1 with
      | none => rw [h1] at p; exact p.elim
      | some e2 =>
        rw [h1] at p
        simp only at p
        cases h2 : setSl e2 j d2 with
        | none => rw [h2] at p; exact p.elim
        | some e3 =>
          rw [h2] at p
          have p : PostS C X.K (.nx e3) ω1 e1 σ H1 W D := p
          have S2 := S1.setF r1 h1
          have S3 := S2.setF r2 h2
          have el3 : e3.length = e1.length := by
            obtain ⟨z1, _⟩ := setSl_eq h1
            obtain ⟨z2, _⟩ := setSl_eq h2
            rw [z2, z1, List.length_set, List.length_set]
          exact ⟨u1, u2, rfl, p _ _ _ S3 (.refl _ _ _) (by rw [el3, el]; exact n1) ((setSl_kp h1).trans (setSl_kp h2))⟩

/-! ## an item, a step -/
theorem setK_lst {o x d o' : Q9.D} (h : setK o x d = some o') : ∃ l k j, o = .lst l ∧ x = .int k ∧ ixN l.length k = some j ∧ o' = .lst (l.set j d) := by
  unfold setK at h
  split at h
  · split at h
    · rename_i q
      cases h
      exact ⟨_, _, _, rfl, rfl, q, rfl⟩
    · cases h
  · cases h
theorem own_eff {i : Nat} {e : Env} {o nw : Q9.D} : True := trivial
theorem ss_setI (i : Nat) (k v : IE) : SS T N C c n (.setI i k v) := by
  intro sc st W X env ω σ H hX hT hc S nt D p
  have key : ∃ x px y q e pos, st = .Assign [.Subscript (.Name x px) y q] e pos ∧ N[i]? = some x ∧ visB sc x = true ∧ plainN x = true ∧ chkE T N k none sc y = true ∧ chkE T N v none sc e = true ∧ isSl y = false ∧ isComp e = false := by
    have hc : (match (generalizing := false) st with
      | .Assign [.Subscript (.Name x _) y _] e _ => decide (N[i]? = some x) && visB sc x && plainN x && chkE T N k none sc y && chkE T N v none sc e && !isSl y && !isComp e
      | _ => false) = true := hc
    split at hc
    · rw [Bool.and_eq_true, Bool.and_eq_true, Bool.and_eq_true, Bool.and_eq_true, Bool.and_eq_true, Bool.and_eq_true, decide_eq_true_eq, Bool.not_eq_true', Bool.not_eq_true'] at hc
      obtain ⟨⟨⟨⟨⟨⟨h1, h2⟩, h3⟩, h4⟩, h5⟩, h6⟩, h7⟩ := hc
      exact ⟨_, _, _, _, _, _, rfl, h1, h2, h3, h4, h5, h6, h7⟩
    · cases hc
  obtain ⟨x, px, y, q, e, pos, rfl, hi, hv, hp, ck, ce, hsl, hcomp⟩ := key
  obtain ⟨p1, p2, p3⟩ := plainN_of hp
  have pv : PE X (.Name x px) (tVar i) := pe_var (by rw [hX.hN]; exact hi) (hX.vis x (vis_of hv)) p1 p2
  have ha : ∀ v, assign (.Subscript (.Name x px) y q) X.env v = (do
      let ov ← holding [v] (eval (.Name x px) X.env)
      let iv ← holding [v, ov] (eval y X.env)
      standAt q
      holding [v, ov, iv] (setItem ov iv v)
      release [v, ov, iv] []) := by
    intro v
    cases y <;> first | rfl | exact absurd hsl (fun z => Bool.false_ne_true z.symm)
  refine wS.of (ps_asg peW (pg_sub pv peW set_list ha) (sw_non hcomp) sw_sub) ?_
  have p : PostS C X.K ((ev c v .v env).fl fun d e1 => if isOwnL e1 i then (ev c k .v e1).fl fun x e2 => match e2[i]? with
    | some (some (.own o)) => match setK o (Q9.D.un x) (Q9.D.un d) with
      | some o' => .nx (e2.set i (some (.own o')))
      | none => .stk
    | some (some (.brw o)) => match setK o (Q9.D.un x) (Q9.D.un d) with
      | some o' => .nx (e2.set i (some (.brw o')))
      | none => .stk
    | _ => .stk
    else .stk) ω env σ H W D := p
  refine ((sound (T := T) (N := N) (C := C) (c := c) v).1 sc e W X env ω σ H hX.toXOk hT ce S nt).1 .v _ (by simp) (PostS.ev S p fun d e1 w H1 ω1 S1 c1 g1 pp => ?_)
  obtain ⟨S1', n1, r1⟩ := g1.freeze S1
  have cs : Chg false ω1 H1 (strike ω1 e1.length) H1 := Chg.strike (Nat.ne_of_lt S1.sz)
  have pp := PostS.shift cs (Kp.refl e1 σ) pp
  split at pp
  · rename_i how
    have hsl : ∃ ov, σ[i]? = some (some ov) := by
      unfold isOwnL at how
      split at how <;> first | cases how | skip
      · rename_i h; exact slot_val S1 h
      · rename_i h; exact slot_val S1 h
    obtain ⟨ov, hov⟩ := hsl
    refine ⟨ov, hov, ?_⟩
    refine ((sound (T := T) (N := N) (C := C) (c := c) k).1 sc y W X e1 _ σ H1 hX.toXOk hT ck S1' n1).1 .v _ (by simp) (PostS.ev S1' pp fun kx e2 kv H2 ω2 S2 c2 g2 pq => ?_)
    obtain ⟨S2', n2, r2⟩ := g2.freeze S2
    have cs2 : Chg false ω2 H2 (strike ω2 e2.length) H2 := Chg.strike (Nat.ne_of_lt S2.sz)
    have pq := PostS.shift cs2 (Kp.refl e2 σ) pq
    have rw2 : Rep C X.K (strike ω2 e2.length) H2 w (Q9.D.un d) := (r1.mono c2).mono cs2
    generalize hom : strike ω2 e2.length = om at pq S2' n2 r2 rw2
    have go : ∀ old o o' nw, e2[i]? = some (some old) → setK o (Q9.D.un kx) (Q9.D.un d) = some o' → (∀ v, SlotR C X.K om H2 i v old → OwnR C X.K om H2 i v o) → (nw = .own o' ∨ nw = .brw o') → PostS C X.K (.nx (e2.set i (some nw))) om e2 σ H2 W D → ((∀ d0, old ≠ .brw d0) ∨ nw = .brw o') → rSetL ov kv w H2 fun H3 => D.nx σ H3 := by
      intro old o o' nw he hs hsr hnw pf hbr
      obtain ⟨l, z, j, rfl, hz, hj, rfl⟩ := setK_lst hs
      obtain ⟨v', hv', sr⟩ := S2'.slot i _ he
      rw [hov] at hv'
      cases hv'
      obtain ⟨a, xs, rfl, hx, hw, rx⟩ := own_lst (hsr _ sr)
      rw [hz] at r2
      cases r2
      refine ⟨a, xs, z, j, rfl, rfl, hx, by rw [rx.length]; exact hj, ?_⟩
      have hnw' : nw = .own (.lst (l.set j (Q9.D.un d))) ∨ nw = .brw (.lst (l.set j (Q9.D.un d))) := hnw
      obtain ⟨S3, c3⟩ := own_write (nw := nw) S2' he hov (by rw [hx]; simp) hw (rx.set j rw2) hnw'
      refine pf σ _ om S3 c3 (by rw [List.length_set]; exact n2) (.of ?_)
      rcases hbr with hbr | rfl
      · exact bk_set fun d0 q => by rw [he] at q; cases q; exact hbr _ rfl
      · exact bk_setB
    cases hs2 : e2[i]? with
    | none => rw [hs2] at pq; exact pq.elim
    | some oo =>
      rw [hs2] at pq
      cases oo with
      | none => exact pq.elim
      | some old =>
        cases old <;> first | exact pq.elim | skip
        · rename_i o
          have pq : PostS C X.K (match setK o (Q9.D.un kx) (Q9.D.un d) with | some o' => .nx (e2.set i (some (.own o'))) | none => .stk) om e2 σ H2 W D := pq
          cases hk : setK o (Q9.D.un kx) (Q9.D.un d) with
          | none => rw [hk] at pq; exact pq.elim
          | some o' => rw [hk] at pq; exact go _ o o' _ hs2 hk (fun _ h => h) (.inl rfl) pq (.inl fun d0 z => by cases z)
        · rename_i o
          have pq : PostS C X.K (match setK o (Q9.D.un kx) (Q9.D.un d) with | some o' => .nx (e2.set i (some (.brw o'))) | none => .stk) om e2 σ H2 W D := pq
          cases hk : setK o (Q9.D.un kx) (Q9.D.un d) with
          | none => rw [hk] at pq; exact pq.elim
          | some o' => rw [hk] at pq; exact go _ o o' _ hs2 hk (fun _ h => h) (.inr rfl) pq (.inr rfl)
  · exact pp.elim
end
end Q9

set_option Elab.async false
set_option linter.all false
set_option maxRecDepth 100000
namespace Q9
open PySem PySem.Spec L2
section
variable {T : Tab} {N : List Str} {C : Ct} {c : Oracle} {n : Nat}
theorem ss_aug (i : Nat) (o : Bop) (v : IE) : SS T N C c n (.aug i o v) := by
  intro sc st W X env ω σ H hX hT hc S nt D p
  have key : ∃ x px op e pos, st = .AugAssign (.Name x px) op e pos ∧ o.is op = true ∧ N[i]? = some x ∧ locB sc x = true ∧ chkE T N v none sc e = true := by
    have hc : (match (generalizing := false) st with
      | .AugAssign (.Name x _) op e _ => o.is op && decide (N[i]? = some x) && locB sc x && chkE T N v none sc e
      | _ => false) = true := hc
    split at hc
    · rw [Bool.and_eq_true, Bool.and_eq_true, Bool.and_eq_true, decide_eq_true_eq] at hc
      exact ⟨_, _, _, _, _, rfl, hc.1.1.1, hc.1.1.2, hc.1.2, hc.2⟩
    · cases hc
  obtain ⟨x, px, op, e, pos, rfl, ho, hi, hl, ce⟩ := key
  obtain ⟨l1, l2⟩ := hX.loc x (loc_of hl)
  have hio : PIp X op (wO X (inplaceOp op)) := wO.op
  refine wS.of (ps_aug (by rw [hX.hN]; exact hX.nd) (by rw [hX.hN]; exact hi) l1 peW hio l2) ?_
  have p : PostS C X.K (match e, env[i]? with
    | _, some (some d0) => (ev c v .p env).fl fun d e1 => match e1[i]? with
      | some (some d1) => match augD o d1 d with
        | some r => ofE (setSl e1 i r)
        | none => .stk
      | _ => .stk
    | _, _ => .stk) ω env σ H W D := by
    have p : PostS C X.K (match env[i]? with
      | some (some d0) => (ev c v .p env).fl fun d e1 => match e1[i]? with
        | some (some d1) => match augD o d1 d with
          | some r => ofE (setSl e1 i r)
          | none => .stk
        | _ => .stk
      | _ => .stk) ω env σ H W D := p
    cases hs : env[i]? with
    | none => rw [hs] at p; exact p.elim
    | some oo => cases oo with
      | none => rw [hs] at p; exact p.elim
      | some d0 => rw [hs] at p; exact p
  cases hs : env[i]? with
  | none => rw [hs] at p; exact p.elim
  | some oo =>
  cases oo with
  | none => rw [hs] at p; exact p.elim
  | some d0 =>
    rw [hs] at p
    obtain ⟨u, hu⟩ := slot_val S hs
    refine ⟨u, hu, ?_⟩
    refine ((sound (T := T) (N := N) (C := C) (c := c) v).1 sc e W X env ω σ H hX.toXOk hT ce S nt).1 .p _ (by simp) (PostS.ev S p fun d e1 w H1 ω1 S1 c1 g1 p1 => ?_)
    cases hs1 : e1[i]? with
    | none => rw [hs1] at p1; exact p1.elim
    | some oo =>
    cases oo with
    | none => rw [hs1] at p1; exact p1.elim
    | some d1 =>
      rw [hs1] at p1
      have p1 : PostS C X.K (match augD o d1 d with | some r => ofE (setSl e1 i r) | none => .stk) ω1 e1 σ H1 W D := p1
      cases ha : augD o d1 d with
      | none => rw [ha] at p1; exact p1.elim
      | some r =>
        rw [ha] at p1
        obtain ⟨u', hu', sr⟩ := S1.slot i d1 hs1
        rw [hu] at hu'
        cases hu'
        have p2 : PostS C X.K (ofE (setSl e1 i r)) ω1 e1 σ H1 W D := p1
        clear p1
        cases hset : setSl e1 i r with
        | none => rw [hset] at p2; exact p2.elim
        | some e2 =>
          rw [hset] at p2
          have imm : ∀ j : Int, r = .int j → D.nx (σ.set i (some (.int j))) H1 := fun j hr => by
            subst hr
            have S2 := S1.setF (v := .int j) (.int j) hset
            have el : e2.length = e1.length := by obtain ⟨z, _⟩ := setSl_eq hset; rw [z, List.length_set]
            exact p2 _ _ ω1 S2 (.refl _ _ _) (by rw [el]; exact g1.1) (setSl_kp hset)
          unfold augD at ha
          split at ha <;> first | contradiction | skip
          · split at ha <;> simp only [Option.some.injEq, reduceCtorEq] at ha
            rename_i a b _ hsz
            subst ha
            cases op <;> simp only [Bop.is, reduceCtorEq] at ho
            obtain ⟨q, xs, rfl, hx, hw, rx⟩ := own_lst sr
            obtain ⟨q2, zs, rfl, hz, rz⟩ := g1.2.lstI
            refine wO.of iop_ext ⟨q, q2, xs, zs, rfl, rfl, hx, hz, by rw [rx.length, rz.length]; exact hsz, ?_⟩
            obtain ⟨S2, c2⟩ := own_write (nw := .own (.lst (a ++ b))) S1 hs1 hu (by rw [hx]; simp) hw (rx.append rz) (.inl rfl)
            obtain ⟨he2, hil⟩ := setSl_eq hset
            have hσ : σ.set i (some (V.ref q)) = σ := by
              apply List.ext_getElem?
              intro j
              by_cases z : i = j
              · subst z; rw [List.getElem?_set_self (List.getElem?_eq_some_iff.mp hu).1, hu]
              · rw [List.getElem?_set_ne z]
            have kp := setSl_kp (σ := σ) (v := some (V.ref q)) hset
            rw [hσ] at kp ⊢
            subst he2
            exact p2 _ _ ω1 S2 c2 (by rw [List.length_set]; exact g1.1) kp
          · simp only [Option.some.injEq] at ha
            cases op <;> simp only [Bop.is, reduceCtorEq] at ho
            cases sr
            have := g1.2.int
            subst this
            exact wO.of iop_add ⟨_, _, rfl, rfl, imm _ ha.symm⟩
          · simp only [Option.some.injEq] at ha
            cases op <;> simp only [Bop.is, reduceCtorEq] at ho
            cases sr
            have := g1.2.int
            subst this
            exact wO.of iop_sub ⟨_, _, rfl, rfl, imm _ ha.symm⟩

theorem ss_bad {i : IS} (h : ∀ sc st, chkS T N i sc st = false) : SS T N C c n i := fun sc st W X env ω σ H hX hT hc => absurd (h sc st) (by rw [hc]; simp)
theorem sb_bad {i : IS} (h : ∀ sc st, chkB T N i sc st = false) : SB T N C c n i := fun sc st W X env ω σ H hX hT hc => absurd (h sc st) (by rw [hc]; simp)
theorem soundS (i : IS) : SS T N C c n i ∧ SB T N C c n i := by
  induction i with
  | unk => exact ⟨ss_unk, sb_bad (fun _ _ => rfl)⟩
  | nil => exact ⟨ss_bad (fun _ _ => rfl), sb_nil⟩
  | seq a b iha ihb => exact ⟨ss_bad (fun _ _ => rfl), sb_seq iha.1 ihb.2⟩
  | pass => exact ⟨ss_pass, sb_bad (fun _ _ => rfl)⟩
  | brk => exact ⟨ss_brk, sb_bad (fun _ _ => rfl)⟩
  | cont => exact ⟨ss_cont, sb_bad (fun _ _ => rfl)⟩
  | asg tg v => exact ⟨ss_asg tg v, sb_bad (fun _ _ => rfl)⟩
  | asgs is v => exact ⟨ss_asgs is v, sb_bad (fun _ _ => rfl)⟩
  | par is vs => exact ⟨ss_par is vs, sb_bad (fun _ _ => rfl)⟩
  | setI i k v => exact ⟨ss_setI i k v, sb_bad (fun _ _ => rfl)⟩
  | aug i o v => exact ⟨ss_aug i o v, sb_bad (fun _ _ => rfl)⟩
  | exp v => exact ⟨ss_exp v, sb_bad (fun _ _ => rfl)⟩
  | ret v => exact ⟨ss_ret v, sb_bad (fun _ _ => rfl)⟩
  | retN => exact ⟨ss_retN, sb_bad (fun _ _ => rfl)⟩
  | retV i => exact ⟨ss_retV i, sb_bad (fun _ _ => rfl)⟩
  | ite t a b iha ihb => exact ⟨ss_ite iha.2 ihb.2, sb_bad (fun _ _ => rfl)⟩
  | whl t b ih => exact ⟨ss_whl ih.2, sb_bad (fun _ _ => rfl)⟩
  | forO tg i en b ih => exact ⟨ss_forO ih.2, sb_bad (fun _ _ => rfl)⟩
  | «for» tg it b ih => exact ⟨ss_for ih.2, sb_bad (fun _ _ => rfl)⟩
end
end Q9

set_option Elab.async false
set_option linter.all false
set_option maxRecDepth 100000
namespace Q9
open PySem PySem.Spec L2

/-! ## defs -/
structure FD where
  st : Stmt
  N : List Str
  ps : List Str
  df : Df
def scB (N P : List Str) (sc : Scope) : Bool :=
  (match sc.kind with | .function => true | _ => false) && !sc.isCoroutine && !sc.isGenerator && decide N.Nodup && decide (N.take P.length = P) &&
    (P.all fun x => match sc.names.lookup x with | some .local => true | some .cell => true | _ => false) && (sc.names.all fun y => match y.2 with | .free => false | _ => true)
theorem scB_ok {N P : List Str} {sc : Scope} (h : scB N P sc = true) : FnScope N P sc := by
  unfold scB at h
  rw [Bool.and_eq_true, Bool.and_eq_true, Bool.and_eq_true, Bool.and_eq_true, Bool.and_eq_true, Bool.and_eq_true, decide_eq_true_eq, decide_eq_true_eq, Bool.not_eq_true', Bool.not_eq_true', List.all_eq_true, List.all_eq_true] at h
  obtain ⟨⟨⟨⟨⟨⟨h1, h2⟩, h3⟩, h4⟩, h5⟩, h6⟩, h7⟩ := h
  refine ⟨?_, h2, h3, h4, h5, fun x hx => ?_, fun y hy e => ?_⟩
  · split at h1
    · assumption
    · cases h1
  · have := h6 x hx
    split at this
    · exact .inl (by assumption)
    · exact .inr (by assumption)
    · cases this
  · have := h7 y hy
    rw [e] at this
    cases this
def fdB (T : Tab) (f : Nat) (d : FD) : Bool :=
  scB d.N d.ps (defScope d.st) && decide (d.df.params = d.ps.length) && decide (d.df.slots = d.N.length) && decide (T.np f = d.ps.length) && decide (d.N.length < FO) && decide (d.ps.length ≤ d.N.length) && chkB T d.N d.df.body (defScope d.st) (defBody d.st)

section
variable {C : Ct} {K : PySem.W.Frag} {ω : Om} {H : Hp}
theorem ArgsR.length : ∀ {j : Nat} {vs : List V} {ds : List D}, ArgsR C K ω H j vs ds → vs.length = ds.length
  | _, _, _, .nil => rfl
  | _, _, _, .brw _ r => by simp [ArgsR.length r]
  | _, _, _, .rep _ r => by simp [ArgsR.length r]
theorem ArgsR.get : ∀ {j i : Nat} {vs : List V} {ds : List D} {d : D}, ArgsR C K ω H j vs ds → ds[i]? = some d → ∃ v, vs[i]? = some v ∧ SlotR C K ω H (j + i) v d
  | _, _, _, _, _, .nil, h => by simp at h
  | _, 0, _, _, _, .brw o r, h => by simp at h; subst h; exact ⟨_, rfl, o⟩
  | _, 0, _, _, _, .rep o r, h => by simp at h; subst h; exact ⟨_, rfl, rep_slot o⟩
  | j, i + 1, _, _, _, .brw o r, h => by
    obtain ⟨v, e, q⟩ := ArgsR.get (i := i) r (by simpa using h)
    exact ⟨v, by simpa using e, by rw [show j + (i + 1) = j + 1 + i by omega]; exact q⟩
  | j, i + 1, _, _, _, .rep o r, h => by
    obtain ⟨v, e, q⟩ := ArgsR.get (i := i) r (by simpa using h)
    exact ⟨v, by simpa using e, by rw [show j + (i + 1) = j + 1 + i by omega]; exact q⟩
end

structure Lvl (T : Tab) (C : Ct) (P : Program) (w : World) (K : PySem.W.Frag) (mg : Str → Option Value) (base : Heap) (k : Nat) (c : Oracle) : Prop where
  fns : ∀ f, f < T.n → ∃ fa fd ps, mg (T.fn f) = some (.ref fa) ∧ PySem.W.keepIn K (.ref fa) = true ∧ FnOk P w K mg base (L2.CX P w) k fa fd ps (spF C K (T.np f) (c f)) ∧ Binds K fd ps [] ∧ ∀ (s : Shared) (us : List Value), K.In s.heap → us.length = ps.length → BindsTo s fd ⟨[], (T.pn f).zip us⟩ (ps.zip us)
  cInt : ∀ n i, T.co n = some (.int i) → ∃ t, mg (Str.ofString n) = some (.int i t)
  cStr : ∀ n i, T.co n = some (.str i) → ∃ t, mg (Str.ofString n) = some (.str i t)
  bls : ∀ n, T.bl.contains n = true → mg (Str.ofString n) = none

section
variable {T : Tab} {C : Ct} {P : Program} {w : World} {K : PySem.W.Frag} {mg : Str → Option Value} {base : Heap} {k : Nat} {c : Oracle} {W : Nat}
theorem callF_eq {c : Oracle} {W : Nat} {f : Df} {ds : List D} (h : ds.length = f.params) : callF c W f ds = (match ex c W f.body (startE f.slots ds) with
    | .nx e => .ok .non (e.take f.params)
    | .ret d e => if e.length = f.slots then .ok d (e.take f.params) else .stk
    | .exc cl w e => .exc cl w (e.take f.params)
    | _ => .stk) := if_pos h
theorem fn_step {d : FD} {f : Nat} {x : Str} {fa : Addr} {fd : FuncData} (hd : fdB T f d = true) (F : Fun K x x d.st fa fd) (L : Lvl T C P w K mg base k c) : FnOk P w K mg base (L2.CX P w) (k + 1) fa fd d.ps (spF C K (T.np f) (callF c W d.df)) := by
  unfold fdB at hd
  rw [Bool.and_eq_true, Bool.and_eq_true, Bool.and_eq_true, Bool.and_eq_true, Bool.and_eq_true, Bool.and_eq_true, decide_eq_true_eq, decide_eq_true_eq, decide_eq_true_eq, decide_eq_true_eq, decide_eq_true_eq] at hd
  obtain ⟨⟨⟨⟨⟨⟨h1, h2⟩, h3⟩, h4⟩, h5⟩, h6⟩, h7⟩ := hd
  have S := scB_ok h1
  refine Fun.okX F S (fun vs H Q E h => h.1.trans h4) fun cdv A outer s H vs Q E hr hsp => ?_
  obtain ⟨hl, ds, ω, args, own, m⟩ := hsp
  have hvd := args.length
  have hdl : ds.length = d.ps.length := by rw [← hvd, hl, h4]
  refine ⟨wB _ (defBody d.st), pbW, ?_⟩
  have hE : (startE d.df.slots ds).length = d.df.slots := by unfold startE; rw [List.length_append, List.length_map, List.length_replicate]; omega
  have hσ : (L2.start d.N vs).length = (startE d.df.slots ds).length := by rw [hE, h3]; unfold L2.start; rw [List.length_append, List.length_map, List.length_replicate]; omega
  have eget : ∀ (i : Nat) (q : D), (startE d.df.slots ds)[i]? = some (some q) → ds[i]? = some q := by
    intro i q h
    unfold startE at h
    by_cases hi : i < ds.length
    · rw [List.getElem?_append_left (by simpa using hi), List.getElem?_map] at h
      cases z : ds[i]? with
      | none => rw [z] at h; cases h
      | some y => rw [z] at h; cases h; rfl
    · rw [List.getElem?_append_right (by simpa using hi), List.getElem?_replicate] at h
      split at h <;> cases h
  have sget : ∀ (i : Nat) (v : V), vs[i]? = some v → (L2.start d.N vs)[i]? = some (some v) := by
    intro i v h
    unfold L2.start
    have hi := (List.getElem?_eq_some_iff.mp h).1
    rw [List.getElem?_append_left (by simpa using hi), List.getElem?_map, h]
    rfl
  have bget : ∀ (i : Nat) (q : D), ds[i]? = some q → (startE d.df.slots ds)[i]? = some (some q) := by
    intro i v h
    unfold startE
    have hi := (List.getElem?_eq_some_iff.mp h).1
    rw [List.getElem?_append_left (by simpa using hi), List.getElem?_map, h]
    rfl
  have Sm : Sim C K ω (startE d.df.slots ds) (L2.start d.N vs) H := by
    refine ⟨hσ, by rw [hE, h3]; exact h5, fun a i p e => ?_, fun i q h => ?_⟩
    · obtain ⟨o1, o2⟩ := own a i p e
      rw [hE]
      exact ⟨o1.imp (fun z => by omega) id, o2⟩
    · obtain ⟨v, ev, r⟩ := args.get (eget i q h)
      rw [Nat.zero_add] at r
      exact ⟨v, sget i v ev, r⟩
  have nt : NoT ω (startE d.df.slots ds).length := by
    intro a p e
    rw [hE] at e
    obtain ⟨o1, _⟩ := own a _ p e
    omega
  -- what a caller reads behind
  have back : ∀ e' σ' H' ω', Sim C K ω' e' σ' H' → Kp (startE d.df.slots ds) (L2.start d.N vs) e' σ' → BackR C K ω' H' vs ds (e'.take d.df.params) := by
    intro e' σ' H' ω' S' kp j d0 hj
    obtain ⟨⟨d1, q1⟩, q2⟩ := kp j d0 (bget j _ hj)
    obtain ⟨v, ev, _⟩ := args.get hj
    obtain ⟨v', ev', r⟩ := S'.slot j _ q1
    rw [q2, sget j v ev] at ev'
    cases ev'
    have hjl := (List.getElem?_eq_some_iff.mp hj).1
    exact ⟨d1, v, by rw [List.getElem?_take_of_lt (by omega)]; exact q1, ev, r⟩
  rw [callF_eq (by omega)] at m
  refine (soundS (T := T) (N := d.N) (C := C) (c := c) (n := W) d.df.body).2 (defScope d.st) (defBody d.st) (fun cls dd _ H' => E cls dd H') (cxOf (L2.CX P w) P w K mg base d.N x (defScope d.st) fa cdv A outer s H E) _ ω _ H
    ⟨⟨rfl, S.nd, rfl, takes_of rfl rfl rfl rfl, by have := hr.un; show (A.deeper _).units + 200 < cLine; omega, fun x h => h, fun x h => ⟨h, .inl rfl⟩, fun x h => h, fun x h => h⟩, rfl, S.kind, passes_of rfl⟩
    ⟨fun f hf => ?_, L.cInt, L.cStr, L.bls⟩ h7 Sm nt _ ?_
  · obtain ⟨ga, gd, gs, q1, q2, q3, q4⟩ := L.fns f hf
    exact ⟨ga, gd, gs, k, q1, q2, hr, q3, q4⟩
  · cases hx : ex c W d.df.body (startE d.df.slots ds) with
    | nx e =>
      rw [hx] at m
      intro σ' H' ω' S' ch n' kp
      exact m .non H' ω' ch (back e σ' H' ω' S' kp) (fun a i p e => (S'.own a i p e).2) (.inr .non)
    | ret dv e =>
      rw [hx] at m
      simp only at m
      intro v σ' H' ω' S' ch g kp
      by_cases he : e.length = d.df.slots
      · rw [if_pos he] at m
        refine m v H' ω' ch (back e σ' H' ω' S' kp) (fun a i p e => (S'.own a i p e).2) ?_
        rcases g with ⟨d0, rfl, o⟩ | ⟨_, r⟩
        · exact .inl ⟨d0, e.length, rfl, by omega, by have := S'.sz; omega, o⟩
        · exact .inr r
      · rw [if_neg he] at m; exact m.elim
    | exc cl wv e =>
      rw [hx] at m
      intro dx v σ' H' ω' S' ch n' kp ea r
      exact m dx v H' ω' ch (back e σ' H' ω' S' kp) (fun a i p e => (S'.own a i p e).2) ea r
    | brk e => rw [hx] at m; exact m.elim
    | ct e => rw [hx] at m; exact m.elim
    | stk => rw [hx] at m; exact m.elim
end

/-! ## a program -/
structure Facts (T : Tab) (fd : Nat → FD) (K : PySem.W.Frag) (mg : Str → Option Value) : Prop where
  fn : ∀ f, f < T.n → ∃ fa g, Fun K (T.fn f) (T.fn f) (fd f).st fa g ∧ mg (T.fn f) = some (.ref fa) ∧ ∀ us : List Value, us.length = (fd f).ps.length → bindArgs g ⟨us, []⟩ = pure ((fd f).ps.zip us) ∧ bindArgs g ⟨[], (T.pn f).zip us⟩ = pure ((fd f).ps.zip us)
  cInt : ∀ n i, T.co n = some (.int i) → ∃ t, mg (Str.ofString n) = some (.int i t)
  cStr : ∀ n i, T.co n = some (.str i) → ∃ t, mg (Str.ofString n) = some (.str i t)
  bls : ∀ n, T.bl.contains n = true → mg (Str.ofString n) = none
def gam (T : Tab) (fd : Nat → FD) : Nat → Option Df := fun f => if f < T.n then some (fd f).df else none
theorem fn_zero {T : Tab} {d : FD} {C : Ct} {P : Program} {w : World} {K : PySem.W.Frag} {mg : Str → Option Value} {base : Heap} {f : Nat} {x : Str} {fa : Addr} {g : FuncData} (hd : fdB T f d = true) (F : Fun K x x d.st fa g) : FnOk P w K mg base (L2.CX P w) 0 fa g d.ps (spF C K (T.np f) fun _ => .stk) := by
  unfold fdB at hd
  rw [Bool.and_eq_true, Bool.and_eq_true, Bool.and_eq_true, Bool.and_eq_true, Bool.and_eq_true, Bool.and_eq_true, decide_eq_true_eq, decide_eq_true_eq, decide_eq_true_eq, decide_eq_true_eq, decide_eq_true_eq] at hd
  refine ⟨fun vs H Q E h => h.1.trans hd.1.1.1.2, fun A outer s H args us vs Q E hr e0 hbt hv hsp => ?_⟩
  obtain ⟨_, ds, ω, _, _, m⟩ := hsp
  exact m.elim
theorem run_succ {T : Tab} {fd : Nat → FD} {W k f : Nat} (hf : f < T.n) : run (gam T fd) W (k + 1) f = callF (run (gam T fd) W k) W (fd f).df := by
  funext ds
  show (match gam T fd f with | some d => callF (run (gam T fd) W k) W d ds | none => .stk) = _
  unfold gam
  rw [if_pos hf]
section
variable {T : Tab} {fd : Nat → FD} {C : Ct} {P : Program} {w : World} {K : PySem.W.Frag} {mg : Str → Option Value} {base : Heap} {W : Nat}
theorem lvl_of (hok : ∀ f, f < T.n → fdB T f (fd f) = true) (X : Facts T fd K mg) : ∀ k, Lvl T C P w K mg base k (run (gam T fd) W k)
  | 0 => by
    refine ⟨fun f hf => ?_, X.cInt, X.cStr, X.bls⟩
    obtain ⟨fa, g, F, hm, hb⟩ := X.fn f hf
    exact ⟨fa, g, (fd f).ps, hm, F.kp, fn_zero (hok f hf) F, .all fun us h => (hb us h).1, fun s us _ h => .of_eq (hb us h).2⟩
  | k + 1 => by
    refine ⟨fun f hf => ?_, X.cInt, X.cStr, X.bls⟩
    obtain ⟨fa, g, F, hm, hb⟩ := X.fn f hf
    refine ⟨fa, g, (fd f).ps, hm, F.kp, ?_, .all (fun us h => (hb us h).1), fun s us _ h => .of_eq (hb us h).2⟩
    rw [run_succ hf]
    exact fn_step (W := W) (hok f hf) F (lvl_of hok X k)
theorem fn_lvl (hok : ∀ f, f < T.n → fdB T f (fd f) = true) (X : Facts T fd K mg) {f : Nat} (hf : f < T.n) {fa : Addr} {g : FuncData} (F : Fun K (T.fn f) (T.fn f) (fd f).st fa g) : ∀ k, FnOk P w K mg base (L2.CX P w) k fa g (fd f).ps (spF C K (T.np f) (run (gam T fd) W k f))
  | 0 => fn_zero (hok f hf) F
  | k + 1 => by
    rw [run_succ hf]
    exact fn_step (W := W) (hok f hf) F (lvl_of hok X k)
end

/-- the law's own def -/
theorem law_sp {C : Ct} {K : PySem.W.Frag} {c : List D → RC} {H : Hp} {a : Addr} {ns : List Int} (hS : SqL K H a (ns.map V.int)) (h : ∃ ps, c [.flk (ns.map .int)] = .ok (.bl true) ps) : spF C K 1 c [.ref a] H (fun v _ => v = .bl true) fun _ _ _ => False := by
  obtain ⟨ps, h⟩ := h
  refine ⟨rfl, [.flk (ns.map .int)], fun _ => none, .rep (.flk (hS.imp (fun r => ⟨r, rfl⟩) id) Reps.ints) .nil, fun _ _ _ e => (by cases e), ?_⟩
  rw [h]
  intro v H' ω' _ _ _ hd
  rcases hd with ⟨d0, t, z, _⟩ | r
  · cases z
  · cases r; rfl
theorem walk9 {l : PySem.W.OpenLaw} {n k f W : Nat} {T : Tab} {fd : Nat → FD} {q : Program} {loose : List Str} {XP : (Str → Option Value) → Heap → Prop} {YP : World → Heap → Prop} {d : DefRec} {K : Params → PySem.W.Frag} {x : Str}
    (hn : l.most = some n) (hn2 : n ≤ sizeLine) (hdf : d.params.defaults = []) (hr : Room k callerA) (hY : ∀ (w : World) (h : Heap), YP w h → (K w.params).In h) (hf : f < T.n) (hfn : d.name = T.fn f) (hps : (fd f).ps = [x])
    (hok : ∀ f, f < T.n → fdB T f (fd f) = true) (X : ∀ (w : World) (mg : Str → Option Value) (h : Heap), (K w.params).In h → h.Ns mainGlobals mg → Facts T fd (K w.params) mg)
    (law : ∀ ns : List Int, ns.length ≤ n → ∃ ps, run (gam T fd) W k f [.flk (ns.map .int)] = .ok (.bl true) ps) :
    PySem.W.WalkO q loose XP YP l.row.toRowW d [] (fun f vs => PySem.call f vs) := by
  refine L2.walk_of (n := n) (k := k) (x := x) (CX := fun w => L2.CX l.prog w) (sp := fun w => spF ⟨fun _ => 0, fun _ => []⟩ (K w.params) 1 (run (gam T fd) W k f)) hn hn2 hdf hr hY (fun w mg fa h KX G hmg => ?_) (fun w H a ns hl _ hS => law_sp hS (law ns hl)) fun w H s e s' z => ?_
  · have Fx := X w mg h KX G
    obtain ⟨ga, g, F, hm, hb⟩ := Fx.fn f hf
    rw [hfn, hm] at hmg
    cases hmg
    refine ⟨g, fun s u => .of_eq ?_, fun base KB GB => ?_⟩
    · have := (hb [u] (by rw [hps]; rfl)).1
      rw [this, hps]
      rfl
    · have h := fn_lvl (C := ⟨fun _ => 0, fun _ => []⟩) (P := l.prog) (w := w) (base := base) (W := W) hok Fx hf F k
      have hnp : T.np f = 1 := by
        have hd := hok f hf
        unfold fdB at hd
        rw [Bool.and_eq_true, Bool.and_eq_true, Bool.and_eq_true, Bool.and_eq_true, Bool.and_eq_true, Bool.and_eq_true, decide_eq_true_eq, decide_eq_true_eq, decide_eq_true_eq, decide_eq_true_eq, decide_eq_true_eq] at hd
        rw [hd.1.1.1.2, hps]
        rfl
      rw [hnp, hps] at h
      exact h
  · obtain ⟨_, _, _, _, _, _, _, _, _, _, _, _, z⟩ := z
    exact z
end Q9

set_option Elab.async false
set_option linter.all false
set_option maxRecDepth 100000
namespace Q9
open PySem PySem.Spec L2
section
variable {c : Oracle} {W : Nat} {e : Env} {m : Md}
@[simp] theorem bind_ok' {α β : Type} {a : α} {f : α → Env → Re β} : (Re.ok a e).bind f = f a e := rfl
@[simp] theorem fin_v {r : Re D} : fin .v r = r := rfl
@[simp] theorem fin_p {d : D} : fin .p (.ok d e) = .ok (D.un d) e := rfl
@[simp] theorem fin_t {d : D} : fin .t (.ok d e) = (match D.truth (D.un d) with | some b => .ok (.bl b) e | none => .stk) := rfl
@[simp] theorem fl_ok {d : D} {f : D → Env → Fl} : (Re.ok d e).fl f = f d e := rfl
@[simp] theorem then_nx {f : Env → Fl} : (Fl.nx e).then f = f e := rfl
@[simp] theorem then_ret {d : D} {f : Env → Fl} : (Fl.ret d e).then f = .ret d e := rfl
@[simp] theorem ev_con {d : D} : ev c (.con d) m e = fin m (.ok d e) := rfl
@[simp] theorem ev_gl {x : String} {d : D} : ev c (.gl x d) m e = fin m (.ok d e) := rfl
@[simp] theorem ev_var {i : Nat} : ev c (.var i) m e = (match e[i]? with
    | some (some (.own d)) => match m with
      | .v => .ok (D.un (.own d)) (e.set i (some (D.un (.own d))))
      | m => fin m (.ok d e)
    | some (some (.brw d)) => match m with
      | .v => .stk
      | m => fin m (.ok d e)
    | some (some d) => fin m (.ok d e)
    | _ => .stk) := rfl
@[simp] theorem ev_bin {o : Bop} {a b : IE} : ev c (.bin o a b) m e = fin m ((ev c a (pk b) e).bind fun x e1 => (ev c b .p e1).bind fun y e2 => ofO (binD o (D.un x) y) e2) := rfl
@[simp] theorem ev_cmp {o : Cop} {a b : IE} : ev c (.cmp o a b) m e = (ev c a (pk b) e).bind fun x e1 => (ev c b .p e1).bind fun y e2 => ofB (cmpD o (D.un x) y) e2 := rfl
@[simp] theorem ev_and {a b : IE} : ev c (.and a b) m e = (ev c a m e).bind fun x e1 => match x with
    | .bl true => (ev c b m e1).bind fun y e2 => match y with
      | .bl k => .ok (.bl k) e2
      | _ => .stk
    | .bl false => .ok (.bl false) e1
    | _ => .stk := rfl
@[simp] theorem ev_or {a b : IE} : ev c (.or a b) m e = (ev c a m e).bind fun x e1 => match x with
    | .bl true => .ok (.bl true) e1
    | .bl false => (ev c b m e1).bind fun y e2 => match y with
      | .bl k => .ok (.bl k) e2
      | _ => .stk
    | _ => .stk := rfl
@[simp] theorem ev_notT {a : IE} : ev c (.not a) .t e = (ev c a .t e).bind fun x e1 => match x with
    | .bl b => .ok (.bl (!b)) e1
    | _ => .stk := rfl
@[simp] theorem ev_neg {a : IE} : ev c (.neg a) m e = fin m ((ev c a .p e).bind fun x e1 => match x with
    | .int i => .ok (.int (-i)) e1
    | _ => .stk) := rfl
@[simp] theorem ev_idx {a i : IE} : ev c (.idx a i) m e = fin m ((ev c a (pk i) e).bind fun x e1 => (ev c i .p e1).bind fun y e2 => ofO (idxD (D.un x) y) e2) := rfl
@[simp] theorem ev_tup {as : IE} : ev c (.tupE as) m e = fin m ((evA c as e).bind fun ds e1 => if ds.length ≤ sizeLine then .ok (.tup ds) e1 else .stk) := rfl
@[simp] theorem ev_lst {as : IE} : ev c (.lstE as) m e = fin m ((evA c as e).bind fun ds e1 => if ds.length ≤ sizeLine then .ok (.own (.lst ds)) e1 else .stk) := rfl
@[simp] theorem evA_nil : evA c .nil e = .ok [] e := rfl
theorem evA_cons {h t : IE} (hb : h.isB = false) : evA c (.cons h t) e = (ev c h .v e).bind fun d e1 => (evA c t e1).bind fun ds e2 => .ok (D.un d :: ds) e2 := by
  show ((if h.isB then evB h e else ev c h .v e).bind _) = _
  rw [if_neg (by rw [hb]; simp)]
@[simp] theorem evP_nil : evP c .nil e = .ok [] e := rfl
@[simp] theorem evP_cons {h t : IE} : evP c (.cons h t) e = (ev c h (pk t) e).bind fun d e1 => (evP c t e1).bind fun ds e2 => .ok (D.un d :: ds) e2 := rfl
@[simp] theorem ev_bi {f : Bi} {as : IE} : ev c (.bi f as) m e = fin m ((evP c as e).bind fun ds e1 => ofO (biD f ds) e1) := rfl
@[simp] theorem ev_mm {f : Mm} {i : Nat} {as : IE} : ev c (.mm f i as) m e = fin m (if isOwnL e i then (evA c as e).bind fun ds e1 => match e1[i]? with
    | some (some (.own d)) => match mmD f d ds with
      | some (r, d') => .ok r (e1.set i (some (.own d')))
      | none => .stk
    | some (some (.brw d)) => match mmD f d ds with
      | some (r, d') => .ok r (e1.set i (some (.brw d')))
      | none => .stk
    | _ => .stk
    else .stk) := rfl
@[simp] theorem ex_nil : ex c W .nil e = .nx e := rfl
@[simp] theorem ex_seq {a b : IS} : ex c W (.seq a b) e = (ex c W a e).then (ex c W b) := rfl
@[simp] theorem ex_ite {t : IE} {a b : IS} : ex c W (.ite t a b) e = (ev c t .t e).fl fun x e1 => match x with
    | .bl true => ex c W a e1
    | .bl false => ex c W b e1
    | _ => .stk := rfl
@[simp] theorem ex_ret {v : IE} : ex c W (.ret v) e = (ev c v .v e).fl fun d e1 => .ret d e1 := rfl
@[simp] theorem ex_exp {v : IE} : ex c W (.exp v) e = (ev c v .v e).fl fun _ e1 => .nx e1 := rfl
@[simp] theorem ex_asg {i : Nat} {v : IE} : ex c W (.asg (.nm i) v) e = (ev c v .v e).fl fun d e1 => ofE (setSl e1 i d) := rfl
@[simp] theorem ex_asgT {is : List Nat} {v : IE} : ex c W (.asg (.tp is) v) e = (ev c v .v e).fl fun d e1 => ofE (bindT e1 (.tp is) (D.un d)) := rfl
@[simp] theorem ex_asgs {is : List Nat} {v : IE} : ex c W (.asgs is v) e = (ev c v .v e).fl fun d e1 => ofE (setSls e1 is (is.map fun _ => D.un d)) := rfl
@[simp] theorem ex_par {is : List Nat} {v : IE} : ex c W (.par is v) e = (match evA c v e with
    | .ok ds e1 => ofE (setSls e1 is ds)
    | .exc cl w e1 => .exc cl w e1
    | .stk => .stk) := rfl
@[simp] theorem ex_setI {i : Nat} {k v : IE} : ex c W (.setI i k v) e = (ev c v .v e).fl fun d e1 => if isOwnL e1 i then (ev c k .v e1).fl fun x e2 => match e2[i]? with
    | some (some (.own o)) => match setK o (D.un x) (D.un d) with
      | some o' => .nx (e2.set i (some (.own o')))
      | none => .stk
    | some (some (.brw o)) => match setK o (D.un x) (D.un d) with
      | some o' => .nx (e2.set i (some (.brw o')))
      | none => .stk
    | _ => .stk
    else .stk := rfl
@[simp] theorem ex_aug {i : Nat} {o : Bop} {v : IE} : ex c W (.aug i o v) e = (match e[i]? with
    | some (some d0) => (ev c v .p e).fl fun d e1 => match e1[i]? with
      | some (some d1) => match augD o d1 d with
        | some r => ofE (setSl e1 i r)
        | none => .stk
      | _ => .stk
    | _ => .stk) := rfl
@[simp] theorem ex_whl {t : IE} {b : IS} : ex c W (.whl t b) e = wloop (fun e => ev c t .t e) (fun e => ex c W b e) W e := rfl
@[simp] theorem ex_for {tg : Tg} {it : IE} {b : IS} : ex c W (.for tg it b) e = (ev c it .v e).fl fun x e1 => match itemsD (D.un x) with
    | some l => floop (fun e d => bindT e tg d) (fun e => ex c W b e) l e1
    | none => .stk := rfl

/-! more equations, each by rfl -/
@[simp] theorem evA_cons' {h t : IE} : evA c (.cons h t) e = (if h.isB then evB h e else ev c h .v e).bind fun d e1 => (evA c t e1).bind fun ds e2 => .ok (D.un d :: ds) e2 := rfl
@[simp] theorem isB_con {d : D} : (IE.con d).isB = false := rfl
@[simp] theorem isB_gl {x : String} {d : D} : (IE.gl x d).isB = false := rfl
@[simp] theorem isB_var {i : Nat} : (IE.var i).isB = false := rfl
@[simp] theorem isB_tup {a : IE} : (IE.tupE a).isB = false := rfl
@[simp] theorem isB_lst {a : IE} : (IE.lstE a).isB = false := rfl
@[simp] theorem isB_bin {o : Bop} {a b : IE} : (IE.bin o a b).isB = false := rfl
@[simp] theorem isB_neg {a : IE} : (IE.neg a).isB = false := rfl
@[simp] theorem isB_idx {a b : IE} : (IE.idx a b).isB = false := rfl
@[simp] theorem isB_slc {a b c : IE} : (IE.slc a b c).isB = false := rfl
@[simp] theorem isB_bi {f : Bi} {a : IE} : (IE.bi f a).isB = false := rfl
@[simp] theorem isB_call {f : Nat} {a : IE} : (IE.call f a).isB = false := rfl
@[simp] theorem isB_cmp {o : Cop} {a b : IE} : (IE.cmp o a b).isB = false := rfl
@[simp] theorem isB_aB {i : Nat} : (IE.aB i).isB = true := rfl
@[simp] theorem isB_aP {i : Nat} : (IE.aP i).isB = true := rfl
@[simp] theorem isB_lc {o : List Nat} {t : Tg} {a b c : IE} : (IE.lc o t a b c).isB = false := rfl
@[simp] theorem evB_aB {i : Nat} : evB (.aB i) e = (match e[i]? with | some (some (.own d)) => .ok .non e | some (some (.brw d)) => .ok .non e | _ => .stk) := rfl
@[simp] theorem eff_con {d : D} : (IE.con d).eff = false := rfl
@[simp] theorem eff_gl {x : String} {d : D} : (IE.gl x d).eff = false := rfl
@[simp] theorem eff_var {i : Nat} : (IE.var i).eff = false := rfl
@[simp] theorem eff_nil : IE.nil.eff = false := rfl
@[simp] theorem eff_cons {h t : IE} : (IE.cons h t).eff = (h.eff || t.eff) := rfl
@[simp] theorem eff_star {h t : IE} : (IE.star h t).eff = (h.eff || t.eff) := rfl
@[simp] theorem eff_tup {a : IE} : (IE.tupE a).eff = a.eff := rfl
@[simp] theorem eff_lst {a : IE} : (IE.lstE a).eff = a.eff := rfl
@[simp] theorem eff_bin {o : Bop} {a b : IE} : (IE.bin o a b).eff = (a.eff || b.eff) := rfl
@[simp] theorem eff_cmp {o : Cop} {a b : IE} : (IE.cmp o a b).eff = (a.eff || b.eff) := rfl
@[simp] theorem eff_chain {o o' : Cop} {a b c : IE} : (IE.chain o o' a b c).eff = (a.eff || b.eff || c.eff) := rfl
@[simp] theorem eff_not {a : IE} : (IE.not a).eff = a.eff := rfl
@[simp] theorem eff_neg {a : IE} : (IE.neg a).eff = a.eff := rfl
@[simp] theorem eff_and {a b : IE} : (IE.and a b).eff = (a.eff || b.eff) := rfl
@[simp] theorem eff_or {a b : IE} : (IE.or a b).eff = (a.eff || b.eff) := rfl
@[simp] theorem eff_ite {a b c : IE} : (IE.ite a b c).eff = (a.eff || b.eff || c.eff) := rfl
@[simp] theorem eff_idx {a b : IE} : (IE.idx a b).eff = (a.eff || b.eff) := rfl
@[simp] theorem eff_slc {a b c : IE} : (IE.slc a b c).eff = (a.eff || b.eff || c.eff) := rfl
@[simp] theorem eff_rev {a : IE} : (IE.rev a).eff = a.eff := rfl
@[simp] theorem eff_bi {f : Bi} {a : IE} : (IE.bi f a).eff = a.eff := rfl
@[simp] theorem eff_bm {f : Bm} {a b : IE} : (IE.bm f a b).eff = (a.eff || b.eff) := rfl
@[simp] theorem eff_mm {f : Mm} {i : Nat} {b : IE} : (IE.mm f i b).eff = true := rfl
@[simp] theorem eff_call {f : Nat} {b : IE} : (IE.call f b).eff = true := rfl
@[simp] theorem eff_isi {k : Tk} {a : IE} : (IE.isi k a).eff = a.eff := rfl
@[simp] theorem eff_lc {o : List Nat} {t : Tg} {a b c : IE} : (IE.lc o t a b c).eff = (a.eff || b.eff || c.eff) := rfl
theorem pk_p {b : IE} (h : b.eff = false) : pk b = .p := by unfold pk; rw [h]; rfl
@[simp] theorem pk_def {b : IE} : pk b = if b.eff then .v else .p := rfl
theorem pk_v {b : IE} (h : b.eff = true) : pk b = .v := by unfold pk; rw [h]; rfl
@[simp] theorem un_non : D.un .non = .non := rfl
@[simp] theorem un_bl {b : Bool} : D.un (.bl b) = .bl b := rfl
@[simp] theorem un_int {i : Int} : D.un (.int i) = .int i := rfl
@[simp] theorem un_str {x : Str} : D.un (.str x) = .str x := rfl
@[simp] theorem un_tup {l : List D} : D.un (.tup l) = .tup l := rfl
@[simp] theorem un_lst {l : List D} : D.un (.lst l) = .lst l := rfl
@[simp] theorem un_flk {l : List D} : D.un (.flk l) = .flk l := rfl
@[simp] theorem un_olst {l : List D} : D.un (.own (.lst l)) = .lst l := rfl
@[simp] theorem un_blst {l : List D} : D.un (.brw (.lst l)) = .lst l := rfl
@[simp] theorem tr_bl {b : Bool} : D.truth (.bl b) = some b := rfl
@[simp] theorem tr_int {i : Int} : D.truth (.int i) = some (i != 0) := rfl
@[simp] theorem tr_lst {l : List D} : D.truth (.lst l) = some (!l.isEmpty) := rfl
@[simp] theorem tr_tup {l : List D} : D.truth (.tup l) = some (!l.isEmpty) := rfl
@[simp] theorem tr_flk {l : List D} : D.truth (.flk l) = some (!l.isEmpty) := rfl
@[simp] theorem tr_non : D.truth .non = some false := rfl
@[simp] theorem ofO_some {d : D} : ofO (some d) e = .ok d e := rfl
@[simp] theorem ofB_some {b : Bool} : ofB (some b) e = .ok (.bl b) e := rfl
@[simp] theorem ofE_some : ofE (some e) = .nx e := rfl
@[simp] theorem cmp_gt {i j : Int} : cmpD .gt (.int i) (.int j) = some (decide (j < i)) := rfl
@[simp] theorem cmp_lt {i j : Int} : cmpD .lt (.int i) (.int j) = some (decide (i < j)) := rfl
@[simp] theorem cmp_le {i j : Int} : cmpD .le (.int i) (.int j) = some (decide (i ≤ j)) := rfl
@[simp] theorem cmp_ge {i j : Int} : cmpD .ge (.int i) (.int j) = some (decide (j ≤ i)) := rfl
@[simp] theorem cmp_eq {a b : D} : cmpD .eq a b = D.eqv a b := by cases a <;> cases b <;> rfl
@[simp] theorem cmp_ne {a b : D} : cmpD .ne a b = (D.eqv a b).map (!·) := by cases a <;> cases b <;> rfl
@[simp] theorem bin_add {i j : Int} : binD .add (.int i) (.int j) = some (.int (i + j)) := rfl
@[simp] theorem bin_sub {i j : Int} : binD .sub (.int i) (.int j) = some (.int (i - j)) := rfl
@[simp] theorem bin_mul {i j : Int} : binD .mul (.int i) (.int j) = if smallMul i j then some (.int (i * j)) else none := rfl
@[simp] theorem bin_addL {a b : List D} : binD .add (.lst a) (.lst b) = if a.length + b.length ≤ sizeLine then some (.own (.lst (a ++ b))) else none := rfl
@[simp] theorem bin_mulL {a : List D} {j : Int} : binD .mul (.lst a) (.int j) = if 0 ≤ j ∧ j ≤ sizeLine ∧ a.length * j.toNat ≤ sizeLine then some (.own (.lst (List.replicate j.toNat a).flatten)) else none := rfl
@[simp] theorem bin_fdiv {i j : Int} : binD .fdiv (.int i) (.int j) = if 0 < j ∧ j < 1073741824 then some (.int (i / j)) else none := rfl
@[simp] theorem bin_mod {i j : Int} : binD .mod (.int i) (.int j) = if 0 < j then some (.int (i % j)) else none := rfl
@[simp] theorem bin_shl {i j : Int} : binD .shl (.int i) (.int j) = if 0 ≤ j ∧ j ≤ 1000000 ∧ i.natAbs < 2 ^ 64 then some (.int (i * 2 ^ j.toNat)) else none := rfl
@[simp] theorem bin_pow {i j : Int} : binD .pow (.int i) (.int j) = if 0 ≤ j ∧ j ≤ 1000000 ∧ i.natAbs < 2 ^ 64 then some (.int (i ^ j.toNat)) else none := rfl
@[simp] theorem idx_lst {l : List D} {i : Int} : idxD (.lst l) (.int i) = atI l i := rfl
@[simp] theorem idx_tup {l : List D} {i : Int} : idxD (.tup l) (.int i) = atI l i := rfl
@[simp] theorem idx_flk {l : List D} {i : Int} : idxD (.flk l) (.int i) = atI l i := rfl
@[simp] theorem mm_app {l : List D} {d : D} : mmD .append (.lst l) [d] = if l.length < sizeLine then some (.non, .lst (l ++ [d])) else none := rfl
@[simp] theorem bi_len {d : D} : biD .len [d] = (match d.len with | some n => some (.int ((n : Nat) : Int)) | none => none) := rfl
@[simp] theorem len_lst {l : List D} : (D.lst l).len = some l.length := rfl
@[simp] theorem len_flk {l : List D} : (D.flk l).len = some l.length := rfl
@[simp] theorem len_tup {l : List D} : (D.tup l).len = some l.length := rfl
@[simp] theorem bi_min {a b : Int} : biD .min [.int a, .int b] = some (.int (min a b)) := rfl
@[simp] theorem bi_max {a b : Int} : biD .max [.int a, .int b] = some (.int (max a b)) := rfl
@[simp] theorem bi_min3 {a b c : Int} : biD .min [.int a, .int b, .int c] = some (.int (min (min a b) c)) := rfl
@[simp] theorem bi_int {a : Int} : biD .int [.int a] = some (.int a) := rfl
@[simp] theorem setK_l {l : List D} {i : Int} {d : D} : setK (.lst l) (.int i) d = (match ixN l.length i with | some j => some (.lst (l.set j d)) | none => none) := rfl
@[simp] theorem aug_int {i j : Int} : augD .add (.int i) (.int j) = some (.int (i + j)) := rfl
@[simp] theorem aug_sub {i j : Int} : augD .sub (.int i) (.int j) = some (.int (i - j)) := rfl
@[simp] theorem aug_lst {a b : List D} : augD .add (.own (.lst a)) (.lst b) = if a.length + b.length ≤ sizeLine then some (.own (.lst (a ++ b))) else none := rfl
@[simp] theorem setSl_eqn {i : Nat} {d : D} : setSl e i d = (match e[i]? with | some (some (.brw _)) => none | some _ => some (e.set i (some d)) | none => none) := rfl
@[simp] theorem setSls_nil : setSls e [] [] = some e := rfl
@[simp] theorem setSls_cons {i : Nat} {is : List Nat} {d : D} {ds : List D} : setSls e (i :: is) (d :: ds) = (match setSl e i d with | some e' => setSls e' is ds | none => none) := rfl
@[simp] theorem bindT_tp {is : List Nat} {ds : List D} : bindT e (.tp is) (.tup ds) = setSls e is ds := rfl
@[simp] theorem bindT_nm {i : Nat} {d : D} : bindT e (.nm i) d = setSl e i d := rfl
@[simp] theorem isOwnL_eqn {i : Nat} : isOwnL e i = (match e[i]? with | some (some (.own (.lst _))) => true | some (some (.brw (.lst _))) => true | _ => false) := rfl
end
end Q9

set_option Elab.async false
set_option linter.all false
set_option maxRecDepth 100000
namespace Q9
open PySem PySem.Spec L2
theorem eqvI {a b : Int} : PyData.eqv (.int a) (.int b) = decide (a = b) := by
  simp only [PyData.eqv]
  by_cases h : a = b
  · subst h; simp
  · simp [h]
theorem shI {a : Int} : SeqAt.shaped (.int a) = true := by
  unfold SeqAt.shaped
  simp [PyData.canLay0, PyData.depth]
theorem eqvLs {a b : List Int} : PyData.eqvAll (a.map .int) (b.map .int) = decide (a = b) := by
  induction a generalizing b with
  | nil => cases b <;> simp [PyData.eqvAll]
  | cons x xs ih =>
    cases b with
    | nil => simp [PyData.eqvAll]
    | cons y ys => simp [PyData.eqvAll, eqvI, ih]
theorem eqvL {a b : List Int} : PyData.eqv (.list (a.map .int)) (.list (b.map .int)) = decide (a = b) := by
  unfold PyData.eqv
  simp [eqvLs]
theorem layL {a : List Int} : PyData.canLayAll0 (a.map .int) = true := by
  induction a with
  | nil => simp [PyData.canLayAll0]
  | cons x xs ih => simp [PyData.canLayAll0, ih, PyData.canLay0]
theorem depL {a : List Int} : PyData.depthAll (a.map .int) ≤ 1 := by
  induction a with
  | nil => simp [PyData.depthAll]
  | cons x xs ih => simp [PyData.depthAll, ih, PyData.depth]
theorem shL {a : List Int} : SeqAt.shaped (.list (a.map .int)) = true := by
  unfold SeqAt.shaped
  have := depL (a := a)
  simp [PyData.canLay0, PyData.depth, layL]
  omega
theorem pysI {a : List Int} : D.pys (a.map .int) = some (a.map .int) := by
  induction a with
  | nil => rfl
  | cons x xs ih => simp [D.pys, D.py, ih]
@[simp] theorem eqv_int {a b : Int} : D.eqv (.int a) (.int b) = some (decide (a = b)) := by
  show (if SeqAt.shaped (.int a) && SeqAt.shaped (.int b) then some (PyData.eqv (.int a) (.int b)) else none) = _
  rw [shI, shI, eqvI]; rfl
@[simp] theorem eqv_ints {a b : List Int} : D.eqv (.lst (a.map .int)) (.lst (b.map .int)) = some (decide (a = b)) := by
  unfold D.eqv
  simp only [D.py, pysI, Option.map_some]
  rw [shL, shL, eqvL]; rfl
end Q9

set_option Elab.async false
set_option linter.all false
set_option maxRecDepth 100000
namespace Q9
open PySem PySem.Spec L2
/-- a pair of ints -/
def pD (p : Int × Int) : D := .tup [.int p.1, .int p.2]
def eR (l : List (Int × Int)) : D := .lst (l.map pD)
def putRun (l : List (Int × Int)) (s m : Int) : List (Int × Int) := match l.getLast? with
  | some p => if p.1 = s then l.dropLast ++ [(s, p.2 + m)] else if 0 < m then l ++ [(s, m)] else l
  | none => if 0 < m then l ++ [(s, m)] else l
@[simp] theorem atI_zero {α : Type} {x : α} {xs : List α} : atI (x :: xs) 0 = some x := by unfold atI ixN; simp
@[simp] theorem atI_one {α : Type} {x y : α} {xs : List α} : atI (x :: y :: xs) 1 = some y := by
  unfold atI ixN
  rw [if_pos (by omega), if_pos (by simp only [List.length_cons]; omega)]
  rfl
theorem atI_nat {α : Type} {xs : List α} {n : Nat} : atI xs (n : Int) = xs[n]? := by
  unfold atI ixN
  by_cases h : n < xs.length
  · rw [if_pos (by omega), if_pos (by omega)]; simp
  · rw [if_pos (by omega), if_neg (by omega)]; simp at h; simp [h]
theorem ixN_last {n : Nat} : ixN (n + 1) (-1) = some n := by
  unfold ixN
  rw [if_neg (by omega), if_pos (by omega)]
  congr 1
  omega
theorem atI_last {α : Type} {xs : List α} {x : α} : atI (xs ++ [x]) (-1) = some x := by
  unfold atI
  rw [List.length_append, List.length_singleton, ixN_last]
  simp
@[simp] theorem isE_app {α : Type} {l : List α} {x : α} : (l ++ [x]).isEmpty = false := by cases l <;> rfl
theorem set_last {α : Type} {l : List α} {x y : α} : (l ++ [x]).set l.length y = l ++ [y] := by simp
def B_put_run : IS := (.seq (.ite (.and (.var 0) (.cmp .eq (.idx (.idx (.var 0) (.neg (.con (.int 1)))) (.con (.int 0))) (.var 1))) (.seq (.setI 0 (.neg (.con (.int 1))) (.tupE (.cons (.var 1) (.cons (.bin .add (.idx (.idx (.var 0) (.neg (.con (.int 1)))) (.con (.int 1))) (.var 2)) .nil)))) .nil) (.seq (.ite (.cmp .gt (.var 2) (.con (.int 0))) (.seq (.exp (.mm .append 0 (.cons (.tupE (.cons (.var 1) (.cons (.var 2) .nil))) .nil))) .nil) .nil) .nil)) .nil)
theorem pk_of {b : IE} (h : b.eff = false) : pk b = .p := by unfold pk; rw [h]; rfl
theorem put_run (c : Oracle) (W : Nat) (l : List (Int × Int)) (s m : Int) (hl : l.length < sizeLine) :
    ∃ e, ex c W B_put_run [some (.brw (eR l)), some (.int s), some (.int m)] = .nx e ∧ e = [some (.brw (eR (putRun l s m))), some (.int s), some (.int m)] := by
  have hs : (2 : Nat) ≤ sizeLine := by rw [sizeLine_eq]; omega
  unfold B_put_run
  have h0 : 0 < sizeLine := by omega
  rcases List.eq_nil_or_concat l with rfl | ⟨l', p, rfl⟩
  · by_cases hm : 0 < m
    · simp [hm, hs, h0, eR, putRun, pD]
    · simp [hm, hs, eR, putRun, pD]
  · have hl2 : l'.length + 1 < sizeLine := by simpa using hl
    by_cases hp : p.1 = s
    · simp [hs, eR, putRun, pD, hp, atI_last, ixN_last]
    · by_cases hm : 0 < m
      · simp [hm, hs, eR, putRun, pD, hp, atI_last, hl2]
      · simp [hm, hs, eR, putRun, pD, hp, atI_last]
end Q9

set_option Elab.async false
set_option linter.all false
set_option maxRecDepth 100000
namespace Q9
open PySem PySem.Spec L2
def B__law_draw : IS := (.seq (.ite (.cmp .gt (.idx (.var 0) (.con (.int 0))) (.con (.int 0))) (.seq (.asg (.nm 3) (.bin .mod (.bi .int (.cons (.idx (.var 0) (.con (.int 0))) .nil)) (.var 1))) (.seq (.setI 0 (.con (.int 0)) (.bin .fdiv (.idx (.var 0) (.con (.int 0))) (.var 1))) (.seq (.ret (.var 3)) .nil))) .nil) (.seq (.setI 0 (.con (.int 2)) (.bin .add (.idx (.var 0) (.con (.int 2))) (.con (.int 1)))) (.seq (.asg (.nm 2) (.bin .mod (.bi .int (.cons (.bin .add (.idx (.var 0) (.con (.int 1))) (.bin .mul (.con (.int 40692)) (.idx (.var 0) (.con (.int 2))))) .nil)) (.con (.int 2147483399)))) (.seq (.asg (.nm 2) (.bin .mod (.bi .int (.cons (.bin .mul (.var 2) (.bin .add (.bin .fdiv (.var 2) (.con (.int 2003))) (.con (.int 69621)))) .nil)) (.con (.int 2147483647)))) (.seq (.asg (.nm 2) (.bin .mod (.bi .int (.cons (.bin .mul (.var 2) (.bin .add (.bin .fdiv (.var 2) (.con (.int 1009))) (.con (.int 40692)))) .nil)) (.con (.int 2147483399)))) (.seq (.setI 0 (.con (.int 1)) (.bin .add (.var 2) (.con (.int 1)))) (.seq (.ret (.bin .mod (.bi .int (.cons (.bin .fdiv (.var 2) (.con (.int 11))) .nil)) (.var 1))) .nil)))))))
def B__law_pool : IS := (.seq (.asg (.nm 2) (.bi .sum (.cons (.lc [4] (.nm 4) (.var 0) (.con (.bl true)) (.bin .mod (.bi .int (.cons (.var 4) .nil)) (.con (.int 1000003)))) .nil))) (.seq (.ite (.cmp .lt (.var 1) (.bi .len (.cons (.var 0) .nil))) (.seq (.asg (.nm 2) (.bi .int (.cons (.idx (.var 0) (.var 1)) .nil))) .nil) .nil) (.seq (.asg (.nm 3) (.con (.int 0))) (.seq (.ite (.cmp .ge (.var 2) (.bin .pow (.con (.int 10)) (.con (.int 18)))) (.seq (.asg (.nm 3) (.var 2)) .nil) .nil) (.seq (.ret (.lstE (.cons (.var 3) (.cons (.bin .add (.bin .mod (.bi .int (.cons (.bin .add (.bin .add (.bin .mul (.var 2) (.con (.int 31))) (.bin .mul (.var 1) (.con (.int 7919)))) (.con (.int 12345))) .nil)) (.con (.int 2147483629))) (.con (.int 1))) (.cons (.con (.int 0)) .nil))))) .nil)))))
theorem smallL {i j : Int} (h : -(2 ^ 64) < i ∧ i < 2 ^ 64) : smallMul i j = true := decide_eq_true (.inl h)
theorem smallR {i j : Int} (h : -(2 ^ 64) < j ∧ j < 2 ^ 64) : smallMul i j = true := decide_eq_true (.inr h)
def pool (g sd ct : Int) : D := .lst [.int g, .int sd, .int ct]
@[simp] theorem ixN0 {n : Nat} : ixN (n + 1) 0 = some 0 := by unfold ixN; simp
@[simp] theorem ixN1 {n : Nat} : ixN (n + 2) 1 = some 1 := by unfold ixN; rw [if_pos (by omega), if_pos (by omega)]; rfl
@[simp] theorem ixN2 {n : Nat} : ixN (n + 3) 2 = some 2 := by unfold ixN; rw [if_pos (by omega), if_pos (by omega)]; rfl
@[simp] theorem atI_two {α : Type} {x y z : α} {xs : List α} : atI (x :: y :: z :: xs) 2 = some z := by
  unfold atI ixN
  rw [if_pos (by omega), if_pos (by simp only [List.length_cons]; omega)]
  rfl
theorem draw_ex (c : Oracle) (W : Nat) (g sd ct lim : Int) (h0 : 0 < lim) (h1 : lim < 1073741824) :
    ∃ v g' sd' ct' x y, 0 ≤ v ∧ v < lim ∧ ex c W B__law_draw [some (.brw (pool g sd ct)), some (.int lim), none, none] = .ret (.int v) [some (.brw (pool g' sd' ct')), some (.int lim), x, y] := by
  unfold B__law_draw pool
  by_cases hg : 0 < g
  · refine ⟨g % lim, g / lim, sd, ct, none, some (.int (g % lim)), Int.emod_nonneg _ (by omega), Int.emod_lt_of_pos _ h0, ?_⟩
    simp [hg, h0, h1]
  · let m1 := (sd + 40692 * (ct + 1)) % 2147483399
    let m2 := (m1 * (m1 / 2003 + 69621)) % 2147483647
    let m3 := (m2 * (m2 / 1009 + 40692)) % 2147483399
    have b1 : 0 ≤ m1 ∧ m1 < 2147483399 := ⟨Int.emod_nonneg _ (by omega), Int.emod_lt_of_pos _ (by omega)⟩
    have b2 : 0 ≤ m2 ∧ m2 < 2147483647 := ⟨Int.emod_nonneg _ (by omega), Int.emod_lt_of_pos _ (by omega)⟩
    have s0 : smallMul 40692 (ct + 1) = true := smallL (by omega)
    have s1 : smallMul m1 (m1 / 2003 + 69621) = true := smallL (by omega)
    have s2 : smallMul m2 (m2 / 1009 + 40692) = true := smallL (by omega)
    refine ⟨m3 / 11 % lim, g, m3 + 1, ct + 1, some (.int m3), none, Int.emod_nonneg _ (by omega), Int.emod_lt_of_pos _ h0, ?_⟩
    have e1 : (sd + 40692 * (ct + 1)) % 2147483399 = m1 := rfl
    have e2 : (m1 * (m1 / 2003 + 69621)) % 2147483647 = m2 := rfl
    have e3 : (m2 * (m2 / 1009 + 40692)) % 2147483399 = m3 := rfl
    simp [hg, h0, h1, s0, e1, s1, e2, s2, e3]
end Q9

set_option Elab.async false
set_option linter.all false
set_option maxRecDepth 100000
namespace Q9
open PySem PySem.Spec L2
theorem cloop_map {bnd : Env → D → Option Env} {cond elt : Env → Re D} (f : D → D) (P : Env → Prop) : ∀ (ds acc : List D) (e : Env), P e → acc.length + ds.length ≤ sizeLine →
    (∀ e d, P e → d ∈ ds → ∃ e1 e2 e3 x, bnd e d = some e1 ∧ cond e1 = .ok (.bl true) e2 ∧ elt e2 = .ok x e3 ∧ D.un x = f d ∧ P e3) → ∃ e', cloop bnd cond elt ds acc e = .ok (.own (.lst (acc ++ ds.map f))) e' ∧ P e'
  | [], acc, e, hp, _, _ => ⟨e, by show Re.ok _ _ = _; simp, hp⟩
  | d :: ds, acc, e, hp, hl, h => by
    obtain ⟨e1, e2, e3, x, h1, h2, h3, h4, h5⟩ := h e d hp List.mem_cons_self
    simp only [List.length_cons] at hl
    obtain ⟨e', h6, h7⟩ := cloop_map f P ds (acc ++ [f d]) e3 h5 (by simp; omega) fun e d' q m => h e d' q (List.mem_cons_of_mem _ m)
    refine ⟨e', ?_, h7⟩
    show (match (generalizing := false) bnd e d with
      | none => Re.stk
      | some e1 => (cond e1).bind fun b e2 => match b with
        | .bl true => (elt e2).bind fun x e3 => if acc.length < sizeLine then cloop bnd cond elt ds (acc ++ [D.un x]) e3 else .stk
        | .bl false => cloop bnd cond elt ds acc e2
        | _ => .stk) = _
    rw [h1]
    show (cond e1).bind _ = _
    rw [h2]
    show (elt e2).bind _ = _
    rw [h3]
    show (if acc.length < sizeLine then cloop bnd cond elt ds (acc ++ [D.un x]) e3 else .stk) = _
    rw [if_pos (by omega), h4, h6]
    simp
theorem intsD_map {l : List Int} : intsD (l.map .int) = some l := by
  induction l with
  | nil => rfl
  | cons x xs ih => show (intsD (xs.map D.int)).map (x :: ·) = _; rw [ih]; rfl
@[simp] theorem ev_lc {c : Oracle} {m : Md} {e : Env} {own : List Nat} {tg : Tg} {it cond elt : IE} : ev c (.lc own tg it cond elt) m e = fin m ((ev c it .v e).bind fun x e1 => match itemsD (D.un x), wipeD e1 own with
    | some l, some _ => match cloop (fun e d => match wipeD e own with | some e' => bindT e' tg d | none => none) (fun e => ev c cond .t e) (fun e => ev c elt .v e) l [] e1 with
      | .ok d e3 => .ok d (backD e1 e3 own)
      | _ => .stk
    | _, _ => .stk) := rfl
@[simp] theorem items_lst {l : List D} : itemsD (.lst l) = some l := rfl
@[simp] theorem items_flk {l : List D} : itemsD (.flk l) = some l := rfl
@[simp] theorem items_tup {l : List D} : itemsD (.tup l) = some l := rfl
@[simp] theorem wipeD_nil {e : Env} : wipeD e [] = some e := rfl
@[simp] theorem wipeD_cons {e : Env} {i : Nat} {is : List Nat} : wipeD e (i :: is) = (match wipeD e is with
    | some e' => match e'[i]? with
      | some (some (.own _)) => none
      | some (some (.brw _)) => none
      | some _ => some (e'.set i none)
      | none => none
    | none => none) := rfl
@[simp] theorem backD_nil {e0 e : Env} : backD e0 e [] = e := rfl
@[simp] theorem backD_cons {e0 e : Env} {i : Nat} {is : List Nat} : backD e0 e (i :: is) = (match e0[i]? with
    | some x => (backD e0 e is).set i x
    | none => backD e0 e is) := rfl
@[simp] theorem bi_sum {l : List D} : biD .sum [.lst l] = (intsD l).map fun is => .int is.sum := rfl
theorem pool_ex (c : Oracle) (W : Nat) (s : List Int) (hs : s.length ≤ 63) : ∃ g sd x y z, ex c W B__law_pool [some (.flk (s.map .int)), some (.int 0), none, none, none] = .ret (.own (pool g sd 0)) [some (.flk (s.map .int)), some (.int 0), x, y, z] := by
  have h63 : (63 : Nat) ≤ sizeLine := by rw [sizeLine_eq]; omega
  obtain ⟨e', h1, x, rfl, hx⟩ := cloop_map (bnd := fun e d => match wipeD e [4] with | some e' => bindT e' (.nm 4) d | none => none) (cond := fun e => ev c (.con (.bl true)) .t e) (elt := fun e => ev c (.bin .mod (.bi .int (.cons (.var 4) .nil)) (.con (.int 1000003))) .v e)
    (fun d => match d with | D.int i => D.int (i % 1000003) | d => d) (fun e => ∃ x : Option D, e = [some (.flk (s.map .int)), some (.int 0), none, none, x] ∧ (x = none ∨ ∃ i, x = some (.int i))) (s.map .int) [] _ ⟨none, rfl, .inl rfl⟩ (by simp; omega) (by
      rintro e d ⟨x, rfl, hx⟩ hd
      obtain ⟨i, _, rfl⟩ := List.mem_map.mp hd
      rcases hx with rfl | ⟨j, rfl⟩
      · exact ⟨[some (.flk (s.map .int)), some (.int 0), none, none, some (.int i)], [some (.flk (s.map .int)), some (.int 0), none, none, some (.int i)], [some (.flk (s.map .int)), some (.int 0), none, none, some (.int i)], .int (i % 1000003), by simp, by simp, by simp, rfl, _, rfl, .inr ⟨_, rfl⟩⟩
      · exact ⟨[some (.flk (s.map .int)), some (.int 0), none, none, some (.int i)], [some (.flk (s.map .int)), some (.int 0), none, none, some (.int i)], [some (.flk (s.map .int)), some (.int 0), none, none, some (.int i)], .int (i % 1000003), by simp, by simp, by simp, rfl, _, rfl, .inr ⟨_, rfl⟩⟩)
  have hm : (s.map D.int).map (fun d => match d with | D.int i => D.int (i % 1000003) | d => d) = (s.map (· % 1000003)).map D.int := by rw [List.map_map, List.map_map]; rfl
  rw [List.nil_append, hm] at h1
  have key : ∀ cell : Int, ∃ g sd x y z, (ex c W (.seq (.asg (.nm 3) (.con (.int 0))) (.seq (.ite (.cmp .ge (.var 2) (.bin .pow (.con (.int 10)) (.con (.int 18)))) (.seq (.asg (.nm 3) (.var 2)) .nil) .nil) (.seq (.ret (.lstE (.cons (.var 3) (.cons (.bin .add (.bin .mod (.bi .int (.cons (.bin .add (.bin .add (.bin .mul (.var 2) (.con (.int 31))) (.bin .mul (.var 1) (.con (.int 7919)))) (.con (.int 12345))) .nil)) (.con (.int 2147483629))) (.con (.int 1))) (.cons (.con (.int 0)) .nil))))) .nil)))
      [some (.flk (s.map .int)), some (.int 0), some (.int cell), none, none]) = .ret (.own (pool g sd 0)) [some (.flk (s.map .int)), some (.int 0), x, y, z] := by
    intro cell
    have h3 : (3 : Nat) ≤ sizeLine := by omega
    have s1 : smallMul cell 31 = true := smallR (by omega)
    have s2 : smallMul 0 7919 = true := smallL (by omega)
    by_cases hc : (10 : Int) ^ 18 ≤ cell
    · have hc' : (1000000000000000000 : Int) ≤ cell := by simpa using hc
      refine ⟨cell, (cell * 31 + 12345) % 2147483629 + 1, some (.int cell), some (.int cell), none, ?_⟩
      simp [hc', s1, s2, h3, pool]
    · have hc' : ¬ (1000000000000000000 : Int) ≤ cell := by simpa using hc
      refine ⟨0, (cell * 31 + 12345) % 2147483629 + 1, some (.int cell), some (.int 0), none, ?_⟩
      simp [hc', s1, s2, h3, pool]
  have lcv : ev c (.lc [4] (.nm 4) (.var 0) (.con (.bl true)) (.bin .mod (.bi .int (.cons (.var 4) .nil)) (.con (.int 1000003)))) .p [some (.flk (s.map .int)), some (.int 0), none, none, none] = .ok (.lst ((s.map (· % 1000003)).map .int)) [some (.flk (s.map .int)), some (.int 0), none, none, none] := by
    show fin .p (match cloop (fun e d => match wipeD e [4] with | some e' => bindT e' (.nm 4) d | none => none) (fun e => ev c (.con (.bl true)) .t e) (fun e => ev c (.bin .mod (.bi .int (.cons (.var 4) .nil)) (.con (.int 1000003))) .v e) (s.map D.int) [] [some (.flk (s.map .int)), some (.int 0), none, none, none] with
      | .ok d e3 => .ok d (backD [some (.flk (s.map .int)), some (.int 0), none, none, none] e3 [4])
      | _ => .stk) = _
    rw [h1]
    rfl
  have st1 : ex c W (.asg (.nm 2) (.bi .sum (.cons (.lc [4] (.nm 4) (.var 0) (.con (.bl true)) (.bin .mod (.bi .int (.cons (.var 4) .nil)) (.con (.int 1000003)))) .nil))) [some (.flk (s.map .int)), some (.int 0), none, none, none] = .nx [some (.flk (s.map .int)), some (.int 0), some (.int (s.map (· % 1000003)).sum), none, none] := by
    have h2 : evP c (.cons (.lc [4] (.nm 4) (.var 0) (.con (.bl true)) (.bin .mod (.bi .int (.cons (.var 4) .nil)) (.con (.int 1000003)))) .nil) [some (.flk (s.map .int)), some (.int 0), none, none, none] = .ok [.lst ((s.map (· % 1000003)).map .int)] [some (.flk (s.map .int)), some (.int 0), none, none, none] := by
      show (ev c _ .p _).bind _ = _
      rw [lcv]
      rfl
    rw [ex_asg, ev_bi, h2, bind_ok', bi_sum, intsD_map]
    rfl
  unfold B__law_pool
  rw [ex_seq, st1, then_nx]
  cases s with
  | nil =>
    obtain ⟨g, sd, x, y, z, k⟩ := key ([].map (· % 1000003)).sum
    refine ⟨g, sd, x, y, z, ?_⟩
    rw [ex_seq]
    have st2 : ex c W (.ite (.cmp .lt (.var 1) (.bi .len (.cons (.var 0) .nil))) (.seq (.asg (.nm 2) (.bi .int (.cons (.idx (.var 0) (.var 1)) .nil))) .nil) .nil) [some (.flk (([] : List Int).map .int)), some (.int 0), some (.int (([] : List Int).map (· % 1000003)).sum), none, none] = .nx [some (.flk (([] : List Int).map .int)), some (.int 0), some (.int (([] : List Int).map (· % 1000003)).sum), none, none] := by simp
    rw [st2, then_nx]
    exact k
  | cons a s =>
    obtain ⟨g, sd, x, y, z, k⟩ := key a
    refine ⟨g, sd, x, y, z, ?_⟩
    rw [ex_seq]
    have hp : (0 : Int) < (s.length : Int) + 1 := by omega
    have st2 : ex c W (.ite (.cmp .lt (.var 1) (.bi .len (.cons (.var 0) .nil))) (.seq (.asg (.nm 2) (.bi .int (.cons (.idx (.var 0) (.var 1)) .nil))) .nil) .nil) [some (.flk ((a :: s).map .int)), some (.int 0), some (.int ((a :: s).map (· % 1000003)).sum), none, none] = .nx [some (.flk ((a :: s).map .int)), some (.int 0), some (.int a), none, none] := by simp [hp]
    rw [st2, then_nx]
    exact k
end Q9

set_option Elab.async false
set_option linter.all false
set_option maxRecDepth 100000
namespace Q9
/-! ## the greedy row -/
structure GS where
  R : List Int
  p : Nat
  t : Nat
def gstep (L : List Int) (s : GS) : GS := match L[s.p]?, s.R[s.t]?, L[s.t]? with
  | some a, some r, some l => if a ≤ r + l then ⟨s.R ++ [a], s.p + 1, s.t⟩ else ⟨s.R ++ [r + l], s.p, s.t + 1⟩
  | some a, _, _ => ⟨s.R ++ [a], s.p + 1, s.t⟩
  | none, some r, some l => ⟨s.R ++ [r + l], s.p, s.t + 1⟩
  | none, _, _ => s
def giter (L : List Int) : Nat → GS
  | 0 => ⟨[], 0, 0⟩
  | k + 1 => gstep L (giter L k)
def gen (L : List Int) (k : Nat) : List Int := (giter L k).R

/-- the invariant -/
structure GI (L : List Int) (k : Nat) (s : GS) : Prop where
  len : s.R.length = s.p + s.t
  le : s.R.length ≤ k
  fin : s.R.length = k ∨ (L.length ≤ s.p ∧ (s.R.length ≤ s.t ∨ L.length ≤ s.t))
  pl : s.p ≤ L.length
  tl : s.t ≤ L.length
  tR : s.t ≤ s.R.length
  sorted : s.R.Pairwise (· ≤ ·)
  perm : s.R.Perm (L.take s.p ++ (List.zipWith (· + ·) s.R L).take s.t)
  bnd : ∀ x ∈ s.R, (∀ y ∈ L.drop s.p, x ≤ y) ∧ ∀ y ∈ (List.zipWith (· + ·) s.R L).drop s.t, x ≤ y
theorem gstep_cases (L : List Int) (s : GS) :
    (∃ a, L[s.p]? = some a ∧ gstep L s = ⟨s.R ++ [a], s.p + 1, s.t⟩ ∧ ∀ r l, s.R[s.t]? = some r → L[s.t]? = some l → a ≤ r + l) ∨
    (∃ r l, s.R[s.t]? = some r ∧ L[s.t]? = some l ∧ gstep L s = ⟨s.R ++ [r + l], s.p, s.t + 1⟩ ∧ ∀ a, L[s.p]? = some a → r + l < a) ∨
    (L[s.p]? = none ∧ (s.R[s.t]? = none ∨ L[s.t]? = none) ∧ gstep L s = s) := by
  unfold gstep
  cases h1 : L[s.p]? with
  | some a =>
    cases h2 : s.R[s.t]? with
    | none => left; exact ⟨a, rfl, rfl, fun r l z => nomatch z⟩
    | some r =>
      cases h3 : L[s.t]? with
      | none => left; exact ⟨a, rfl, rfl, fun r l _ z => nomatch z⟩
      | some l =>
        by_cases h : a ≤ r + l
        · left; exact ⟨a, rfl, by simp [h], fun r' l' z1 z2 => by cases z1; cases z2; exact h⟩
        · right; left; exact ⟨r, l, rfl, rfl, by simp [h], fun a' z => by cases z; omega⟩
  | none =>
    cases h2 : s.R[s.t]? with
    | none => right; right; exact ⟨rfl, .inl rfl, rfl⟩
    | some r =>
      cases h3 : L[s.t]? with
      | none => right; right; exact ⟨rfl, .inr rfl, rfl⟩
      | some l => right; left; exact ⟨r, l, rfl, rfl, rfl, fun a z => nomatch z⟩
/-- what is appended -/
theorem zip_app (R : List Int) (x : Int) (L : List Int) : List.zipWith (· + ·) (R ++ [x]) L = List.zipWith (· + ·) R L ++ (match L[R.length]? with | some l => [x + l] | none => []) := by
  induction R generalizing L with
  | nil => cases L <;> rfl
  | cons r R ih =>
    cases L with
    | nil => rfl
    | cons l L => simp [ih]
theorem zip_sorted : ∀ {R L : List Int}, R.Pairwise (· ≤ ·) → L.Pairwise (· ≤ ·) → (List.zipWith (· + ·) R L).Pairwise (· ≤ ·)
  | [], _, _, _ => by simp
  | _ :: _, [], _, _ => by simp
  | r :: R, l :: L, hr, hl => by
    rw [List.zipWith_cons_cons, List.pairwise_cons]
    rw [List.pairwise_cons] at hr hl
    refine ⟨fun y hy => ?_, zip_sorted hr.2 hl.2⟩
    obtain ⟨i, hi, e⟩ := List.getElem_of_mem hy
    rw [List.getElem_zipWith] at e
    rw [List.length_zipWith] at hi
    have h1 := hr.1 R[i] (List.getElem_mem _)
    have h2 := hl.1 L[i] (List.getElem_mem _)
    omega
theorem drop_get {l : List Int} {i : Nat} {x : Int} (h : l[i]? = some x) : l.drop i = x :: l.drop (i + 1) ∧ l.take (i + 1) = l.take i ++ [x] ∧ i < l.length := by
  obtain ⟨hi, e⟩ := List.getElem?_eq_some_iff.mp h
  subst e
  exact ⟨List.drop_eq_getElem_cons hi, by rw [List.take_succ, h]; rfl, hi⟩
theorem zip_get {R L : List Int} {t : Nat} {r l : Int} (h1 : R[t]? = some r) (h2 : L[t]? = some l) : (List.zipWith (· + ·) R L)[t]? = some (r + l) := by
  rw [List.getElem?_zipWith, h1, h2]
theorem gi_step {L : List Int} {k : Nat} {s : GS} (hs : L.Pairwise (· ≤ ·)) (hp : ∀ x ∈ L, 0 ≤ x) (I : GI L k s) : GI L (k + 1) (gstep L s) := by
  have hz := zip_sorted I.sorted hs
  have zl : (List.zipWith (· + ·) s.R L).length = min s.R.length L.length := by simp
  have htz : s.t ≤ (List.zipWith (· + ·) s.R L).length := by rw [zl]; have := I.tR; have := I.tl; omega
  have hlen := I.len
  have hle := I.le
  -- the new item x: nothing in R is above it, nothing left is below it
  have ext : ∀ x : Int, (∀ y ∈ s.R, y ≤ x) → ∀ y ∈ (match L[s.R.length]? with | some l => [x + l] | none => ([] : List Int)), x ≤ y := by
    intro x _ y hy
    cases h : L[s.R.length]? with
    | none => rw [h] at hy; cases hy
    | some l =>
      rw [h] at hy
      have := hp l (List.mem_of_getElem? h)
      have hy : y = x + l := by simpa using hy
      omega
  rcases gstep_cases L s with ⟨a, h1, h2, h3⟩ | ⟨r, l, h1, h2, h3, h4⟩ | ⟨h1, h2, h3⟩
  · obtain ⟨d1, d2, d3⟩ := drop_get h1
    have up : ∀ y ∈ s.R, y ≤ a := fun y hy => (I.bnd y hy).1 a (by rw [d1]; exact List.mem_cons_self)
    have hd : ((a :: L.drop (s.p + 1))).Pairwise (· ≤ ·) := by rw [← d1]; exact hs.drop
    rw [List.pairwise_cons] at hd
    have az : ∀ y ∈ (List.zipWith (· + ·) s.R L).drop s.t, a ≤ y := by
      intro y hy
      by_cases hb : s.t < (List.zipWith (· + ·) s.R L).length
      · rw [zl] at hb
        have g1 : s.R[s.t]? = some s.R[s.t] := List.getElem?_eq_getElem (by omega)
        have g2 : L[s.t]? = some L[s.t] := List.getElem?_eq_getElem (by omega)
        obtain ⟨e1, _, _⟩ := drop_get (zip_get g1 g2)
        have hzd : (((s.R[s.t] + L[s.t]) :: (List.zipWith (· + ·) s.R L).drop (s.t + 1))).Pairwise (· ≤ ·) := by rw [← e1]; exact hz.drop
        rw [List.pairwise_cons] at hzd
        rw [e1] at hy
        have h4 := h3 _ _ g1 g2
        rcases List.mem_cons.mp hy with rfl | hy
        · exact h4
        · have := hzd.1 y hy; omega
      · rw [List.drop_eq_nil_of_le (by omega)] at hy; cases hy
    rw [h2]
    refine ⟨by simp; omega, by simp; omega, ?_, by show s.p + 1 ≤ _; omega, I.tl, by show s.t ≤ (s.R ++ [a]).length; have := I.tR; simp; omega, ?_, ?_, ?_⟩
    · rcases I.fin with q | q
      · left; simp [q]
      · omega
    · rw [List.pairwise_append]
      exact ⟨I.sorted, by simp, fun x hx y hy => by have : y = a := by simpa using hy
                                                    subst this; exact up x hx⟩
    · show (s.R ++ [a]).Perm (L.take (s.p + 1) ++ (List.zipWith (· + ·) (s.R ++ [a]) L).take s.t)
      rw [zip_app, List.take_append_of_le_length htz, d2]
      refine (I.perm.append_right [a]).trans ?_
      rw [List.append_assoc, List.append_assoc]
      exact List.Perm.append_left _ List.perm_append_comm
    · intro x hx
      show (∀ y ∈ L.drop (s.p + 1), x ≤ y) ∧ ∀ y ∈ (List.zipWith (· + ·) (s.R ++ [a]) L).drop s.t, x ≤ y
      rw [zip_app, List.drop_append_of_le_length htz]
      have hxa : x ≤ a := by
        rcases List.mem_append.mp hx with hx | hx
        · exact up x hx
        · have : x = a := by simpa using hx
          omega
      refine ⟨fun y hy => Int.le_trans hxa (hd.1 y hy), fun y hy => Int.le_trans hxa ?_⟩
      rcases List.mem_append.mp hy with hy | hy
      · exact az y hy
      · exact ext a up y hy
  · obtain ⟨e1, e2, e3⟩ := drop_get (zip_get h1 h2)
    have up : ∀ y ∈ s.R, y ≤ r + l := fun y hy => (I.bnd y hy).2 _ (by rw [e1]; exact List.mem_cons_self)
    have hzd : (((r + l) :: (List.zipWith (· + ·) s.R L).drop (s.t + 1))).Pairwise (· ≤ ·) := by rw [← e1]; exact hz.drop
    rw [List.pairwise_cons] at hzd
    have hR := (List.getElem?_eq_some_iff.mp h1).1
    have hL := (List.getElem?_eq_some_iff.mp h2).1
    have al : ∀ y ∈ L.drop s.p, r + l ≤ y := by
      intro y hy
      by_cases hb : s.p < L.length
      · have g1 : L[s.p]? = some L[s.p] := List.getElem?_eq_getElem hb
        obtain ⟨d1, _, _⟩ := drop_get g1
        have hd : ((L[s.p] :: L.drop (s.p + 1))).Pairwise (· ≤ ·) := by rw [← d1]; exact hs.drop
        rw [List.pairwise_cons] at hd
        rw [d1] at hy
        have h5 := h4 _ g1
        rcases List.mem_cons.mp hy with rfl | hy
        · exact Int.le_of_lt h5
        · have := hd.1 y hy; omega
      · rw [List.drop_eq_nil_of_le (by omega)] at hy; cases hy
    rw [h3]
    refine ⟨by simp; omega, by simp; omega, ?_, I.pl, by show s.t + 1 ≤ _; omega, by show s.t + 1 ≤ (s.R ++ [r + l]).length; simp; omega, ?_, ?_, ?_⟩
    · rcases I.fin with q | q
      · left; simp [q]
      · omega
    · rw [List.pairwise_append]
      exact ⟨I.sorted, by simp, fun x hx y hy => by have : y = r + l := by simpa using hy
                                                    subst this; exact up x hx⟩
    · show (s.R ++ [r + l]).Perm (L.take s.p ++ (List.zipWith (· + ·) (s.R ++ [r + l]) L).take (s.t + 1))
      rw [zip_app, List.take_append_of_le_length (by omega), e2, ← List.append_assoc]
      exact I.perm.append_right _
    · intro x hx
      show (∀ y ∈ L.drop s.p, x ≤ y) ∧ ∀ y ∈ (List.zipWith (· + ·) (s.R ++ [r + l]) L).drop (s.t + 1), x ≤ y
      rw [zip_app, List.drop_append_of_le_length (by omega)]
      have hxa : x ≤ r + l := by
        rcases List.mem_append.mp hx with hx | hx
        · exact up x hx
        · have : x = r + l := by simpa using hx
          omega
      refine ⟨fun y hy => Int.le_trans hxa (al y hy), fun y hy => Int.le_trans hxa ?_⟩
      rcases List.mem_append.mp hy with hy | hy
      · exact hzd.1 y hy
      · exact ext (r + l) up y hy
  · rw [h3]
    refine ⟨I.len, by omega, .inr ⟨?_, ?_⟩, I.pl, I.tl, I.tR, I.sorted, I.perm, I.bnd⟩
    · exact List.getElem?_eq_none_iff.mp h1
    · exact h2.imp List.getElem?_eq_none_iff.mp List.getElem?_eq_none_iff.mp
theorem gi_iter {L : List Int} (hs : L.Pairwise (· ≤ ·)) (hp : ∀ x ∈ L, 0 ≤ x) : ∀ k, GI L k (giter L k)
  | 0 => ⟨rfl, Nat.le_refl _, .inl rfl, Nat.zero_le _, Nat.zero_le _, Nat.le_refl _, by simp [giter], by simp [giter], fun x hx => by simp [giter] at hx⟩
  | k + 1 => gi_step hs hp (gi_iter hs hp k)
end Q9

set_option Elab.async false
set_option linter.all false
set_option maxRecDepth 100000
namespace Q9
theorem gstep_stuck {L : List Int} {s : GS} (h1 : L.length ≤ s.p) (h2 : s.R.length ≤ s.t ∨ L.length ≤ s.t) : gstep L s = s := by
  rcases gstep_cases L s with ⟨a, h, _, _⟩ | ⟨r, l, h, h', _, _⟩ | ⟨_, _, h⟩
  · have := (List.getElem?_eq_some_iff.mp h).1; omega
  · have := (List.getElem?_eq_some_iff.mp h).1; have := (List.getElem?_eq_some_iff.mp h').1; omega
  · exact h
theorem gen_take {L : List Int} (hs : L.Pairwise (· ≤ ·)) (hp : ∀ x ∈ L, 0 ≤ x) {k : Nat} : ∀ d, gen L k = (gen L (k + d)).take k
  | 0 => by
    have := (gi_iter hs hp k).le
    exact (List.take_of_length_le this).symm
  | d + 1 => by
    have ih := gen_take hs hp (k := k) d
    have I := gi_iter hs hp (k + d)
    show gen L k = ((gstep L (giter L (k + d))).R).take k
    rcases I.fin with q | ⟨q1, q2⟩
    · have hk : k ≤ (giter L (k + d)).R.length := by omega
      rcases gstep_cases L (giter L (k + d)) with ⟨a, _, h, _⟩ | ⟨r, l, _, _, h, _⟩ | ⟨_, _, h⟩
      · rw [h]; show _ = ((giter L (k + d)).R ++ [a]).take k; rw [List.take_append_of_le_length hk]; exact ih
      · rw [h]; show _ = ((giter L (k + d)).R ++ [r + l]).take k; rw [List.take_append_of_le_length hk]; exact ih
      · rw [h]; exact ih
    · rw [gstep_stuck q1 q2]; exact ih
theorem giter_take {L : List Int} {m : Nat} : ∀ k, k ≤ m → giter (L.take m) k = giter L k ∧ (giter L k).p + (giter L k).t ≤ k
  | 0, _ => ⟨rfl, Nat.le_refl _⟩
  | k + 1, h => by
    obtain ⟨ih, hb⟩ := giter_take (L := L) (m := m) k (by omega)
    have e1 : ∀ i, i < m → (L.take m)[i]? = L[i]? := fun i hi => by rw [List.getElem?_take_of_lt hi]
    constructor
    · show gstep (L.take m) (giter (L.take m) k) = gstep L (giter L k)
      rw [ih]
      unfold gstep
      rw [e1 _ (by omega), e1 _ (by omega)]
    · show (gstep L (giter L k)).p + (gstep L (giter L k)).t ≤ k + 1
      rcases gstep_cases L (giter L k) with ⟨a, _, h, _⟩ | ⟨r, l, _, _, h, _⟩ | ⟨_, _, h⟩
      · rw [h]; show (giter L k).p + 1 + (giter L k).t ≤ k + 1; omega
      · rw [h]; show (giter L k).p + ((giter L k).t + 1) ≤ k + 1; omega
      · rw [h]; omega
theorem gen_of_take {L : List Int} {m k : Nat} (h : k ≤ m) : gen (L.take m) k = gen L k := by unfold gen; rw [(giter_take k h).1]
/-- two sorted lists with the same items are one -/
theorem perm_sorted : ∀ {a b : List Int}, a.Perm b → a.Pairwise (· ≤ ·) → b.Pairwise (· ≤ ·) → a = b := fun h ha hb => sorted_one h ha hb
theorem gen_sort {L : List Int} (hs : L.Pairwise (· ≤ ·)) (hp : ∀ x ∈ L, 0 ≤ x) (k : Nat) : (isort (L ++ List.zipWith (· + ·) (gen L k) L)).take k = gen L k := by
  have I := gi_iter hs hp k
  generalize hR : giter L k = s at I
  have hg : gen L k = s.R := by unfold gen; rw [hR]
  rw [hg]
  let rest := L.drop s.p ++ (List.zipWith (· + ·) s.R L).drop s.t
  have e : isort (L ++ List.zipWith (· + ·) s.R L) = s.R ++ isort rest := by
    refine perm_sorted ?_ (isort_sorted _) ?_
    · refine (isort_perm _).trans ?_
      have h1 : (L ++ List.zipWith (· + ·) s.R L).Perm ((L.take s.p ++ (List.zipWith (· + ·) s.R L).take s.t) ++ rest) := by
        have a1 : L = L.take s.p ++ L.drop s.p := (List.take_append_drop _ _).symm
        have a2 : List.zipWith (· + ·) s.R L = (List.zipWith (· + ·) s.R L).take s.t ++ (List.zipWith (· + ·) s.R L).drop s.t := (List.take_append_drop _ _).symm
        conv => lhs; rw [a2]; arg 1; rw [a1]
        show ((L.take s.p ++ L.drop s.p) ++ ((List.zipWith (· + ·) s.R L).take s.t ++ (List.zipWith (· + ·) s.R L).drop s.t)).Perm ((L.take s.p ++ (List.zipWith (· + ·) s.R L).take s.t) ++ (L.drop s.p ++ (List.zipWith (· + ·) s.R L).drop s.t))
        simp only [List.append_assoc]
        refine List.Perm.append_left _ ?_
        rw [← List.append_assoc, ← List.append_assoc]
        exact List.Perm.append_right _ List.perm_append_comm
      exact h1.trans (I.perm.symm.append (isort_perm rest).symm)
    · rw [List.pairwise_append]
      refine ⟨I.sorted, isort_sorted _, fun x hx y hy => ?_⟩
      have hy := (isort_perm rest).mem_iff.mp hy
      rcases List.mem_append.mp hy with hy | hy
      · exact (I.bnd x hx).1 y hy
      · exact (I.bnd x hx).2 y hy
  rw [e]
  rcases I.fin with q | ⟨q1, q2⟩
  · rw [List.take_append_of_le_length (by omega), List.take_of_length_le (by omega)]
  · have hr : rest = [] := by
      show L.drop s.p ++ (List.zipWith (· + ·) s.R L).drop s.t = []
      rw [List.drop_eq_nil_of_le q1, List.drop_eq_nil_of_le (by rw [List.length_zipWith]; omega)]; rfl
    rw [hr]
    have e0 : isort [] = [] := List.Perm.eq_nil (isort_perm [])
    rw [e0, List.append_nil, List.take_of_length_le I.le]
end Q9

set_option Elab.async false
set_option linter.all false
set_option maxRecDepth 100000
namespace Q9
open PySem PySem.Spec L2
/-! calls, one equation a kind of argument (printed by a program) -/
section
variable {c : Oracle} {W : Nat} {e : Env} {m : Md}
@[simp] theorem ev_call {f : Nat} {as : IE} : ev c (.call f as) m e = fin m ((evA c as e).bind fun ds e1 => match resA as ds e1 with
    | none => .stk
    | some args => match c f args with
      | .ok d ps => match wbA as ps e1 with
        | some e2 => if !as.hasP || d.plain then .ok d e2 else .stk
        | none => .stk
      | .exc cl w ps => match wbA as ps e1 with
        | some e2 => if !as.hasP || w.plain then .exc cl w e2 else .stk
        | none => .stk
      | .stk => .stk) := rfl
@[simp] theorem resA_nil : resA .nil [] e = some [] := rfl
@[simp] theorem wbA_nil {ps : Env} : wbA .nil ps e = some e := rfl
@[simp] theorem hasP_nil : IE.nil.hasP = false := rfl
@[simp] theorem resA_aB {i : Nat} {t : IE} {d : D} {ds : List D} : resA (.cons (.aB i) t) (d :: ds) e = (match e[i]?, resA t ds e with
    | some (some (.own d)), some r => some (.brw d :: r)
    | some (some (.brw d)), some r => some (.brw d :: r)
    | _, _ => none) := rfl
@[simp] theorem wbA_aB {i : Nat} {t : IE} {d : D} {ps : Env} : wbA (.cons (.aB i) t) (some (.brw d) :: ps) e = (match wbA t ps e with
    | some e1 => match e[i]? with
      | some (some (.own _)) => some (e1.set i (some (.own d)))
      | some (some (.brw _)) => some (e1.set i (some (.brw d)))
      | _ => none
    | none => none) := rfl
@[simp] theorem hasP_aB {i : Nat} {t : IE} : (IE.cons (.aB i) t).hasP = t.hasP := rfl
@[simp] theorem plain_non : D.plain .non = true := rfl
@[simp] theorem plain_int {i : Int} : D.plain (.int i) = true := rfl
@[simp] theorem resA_con {d : D} {t : IE} {d0 : D} {ds : List D} : resA (.cons (.con d) t) (d0 :: ds) e = (match resA t ds e with | some r => some (d0 :: r) | none => none) := rfl
@[simp] theorem wbA_con {d : D} {t : IE} {p : Option D} {ps : Env} : wbA (.cons (.con d) t) (p :: ps) e = wbA t ps e := rfl
@[simp] theorem hasP_con {d : D} {t : IE} : (IE.cons (.con d) t).hasP = t.hasP := rfl
@[simp] theorem resA_gl {x : String} {d : D} {t : IE} {d0 : D} {ds : List D} : resA (.cons (.gl x d) t) (d0 :: ds) e = (match resA t ds e with | some r => some (d0 :: r) | none => none) := rfl
@[simp] theorem wbA_gl {x : String} {d : D} {t : IE} {p : Option D} {ps : Env} : wbA (.cons (.gl x d) t) (p :: ps) e = wbA t ps e := rfl
@[simp] theorem hasP_gl {x : String} {d : D} {t : IE} : (IE.cons (.gl x d) t).hasP = t.hasP := rfl
@[simp] theorem resA_var {i : Nat} {t : IE} {d0 : D} {ds : List D} : resA (.cons (.var i) t) (d0 :: ds) e = (match resA t ds e with | some r => some (d0 :: r) | none => none) := rfl
@[simp] theorem wbA_var {i : Nat} {t : IE} {p : Option D} {ps : Env} : wbA (.cons (.var i) t) (p :: ps) e = wbA t ps e := rfl
@[simp] theorem hasP_var {i : Nat} {t : IE} : (IE.cons (.var i) t).hasP = t.hasP := rfl
@[simp] theorem resA_tup {a : IE} {t : IE} {d0 : D} {ds : List D} : resA (.cons (.tupE a) t) (d0 :: ds) e = (match resA t ds e with | some r => some (d0 :: r) | none => none) := rfl
@[simp] theorem wbA_tup {a : IE} {t : IE} {p : Option D} {ps : Env} : wbA (.cons (.tupE a) t) (p :: ps) e = wbA t ps e := rfl
@[simp] theorem hasP_tup {a : IE} {t : IE} : (IE.cons (.tupE a) t).hasP = t.hasP := rfl
@[simp] theorem resA_lst {a : IE} {t : IE} {d0 : D} {ds : List D} : resA (.cons (.lstE a) t) (d0 :: ds) e = (match resA t ds e with | some r => some (d0 :: r) | none => none) := rfl
@[simp] theorem wbA_lst {a : IE} {t : IE} {p : Option D} {ps : Env} : wbA (.cons (.lstE a) t) (p :: ps) e = wbA t ps e := rfl
@[simp] theorem hasP_lst {a : IE} {t : IE} : (IE.cons (.lstE a) t).hasP = t.hasP := rfl
@[simp] theorem resA_bin {o : Bop} {a b : IE} {t : IE} {d0 : D} {ds : List D} : resA (.cons (.bin o a b) t) (d0 :: ds) e = (match resA t ds e with | some r => some (d0 :: r) | none => none) := rfl
@[simp] theorem wbA_bin {o : Bop} {a b : IE} {t : IE} {p : Option D} {ps : Env} : wbA (.cons (.bin o a b) t) (p :: ps) e = wbA t ps e := rfl
@[simp] theorem hasP_bin {o : Bop} {a b : IE} {t : IE} : (IE.cons (.bin o a b) t).hasP = t.hasP := rfl
@[simp] theorem resA_neg {a : IE} {t : IE} {d0 : D} {ds : List D} : resA (.cons (.neg a) t) (d0 :: ds) e = (match resA t ds e with | some r => some (d0 :: r) | none => none) := rfl
@[simp] theorem wbA_neg {a : IE} {t : IE} {p : Option D} {ps : Env} : wbA (.cons (.neg a) t) (p :: ps) e = wbA t ps e := rfl
@[simp] theorem hasP_neg {a : IE} {t : IE} : (IE.cons (.neg a) t).hasP = t.hasP := rfl
@[simp] theorem resA_idx {a b : IE} {t : IE} {d0 : D} {ds : List D} : resA (.cons (.idx a b) t) (d0 :: ds) e = (match resA t ds e with | some r => some (d0 :: r) | none => none) := rfl
@[simp] theorem wbA_idx {a b : IE} {t : IE} {p : Option D} {ps : Env} : wbA (.cons (.idx a b) t) (p :: ps) e = wbA t ps e := rfl
@[simp] theorem hasP_idx {a b : IE} {t : IE} : (IE.cons (.idx a b) t).hasP = t.hasP := rfl
@[simp] theorem resA_slc {a b g : IE} {t : IE} {d0 : D} {ds : List D} : resA (.cons (.slc a b g) t) (d0 :: ds) e = (match resA t ds e with | some r => some (d0 :: r) | none => none) := rfl
@[simp] theorem wbA_slc {a b g : IE} {t : IE} {p : Option D} {ps : Env} : wbA (.cons (.slc a b g) t) (p :: ps) e = wbA t ps e := rfl
@[simp] theorem hasP_slc {a b g : IE} {t : IE} : (IE.cons (.slc a b g) t).hasP = t.hasP := rfl
@[simp] theorem resA_bi {f : Bi} {a : IE} {t : IE} {d0 : D} {ds : List D} : resA (.cons (.bi f a) t) (d0 :: ds) e = (match resA t ds e with | some r => some (d0 :: r) | none => none) := rfl
@[simp] theorem wbA_bi {f : Bi} {a : IE} {t : IE} {p : Option D} {ps : Env} : wbA (.cons (.bi f a) t) (p :: ps) e = wbA t ps e := rfl
@[simp] theorem hasP_bi {f : Bi} {a : IE} {t : IE} : (IE.cons (.bi f a) t).hasP = t.hasP := rfl
@[simp] theorem resA_call {f : Nat} {a : IE} {t : IE} {d0 : D} {ds : List D} : resA (.cons (.call f a) t) (d0 :: ds) e = (match resA t ds e with | some r => some (d0 :: r) | none => none) := rfl
@[simp] theorem wbA_call {f : Nat} {a : IE} {t : IE} {p : Option D} {ps : Env} : wbA (.cons (.call f a) t) (p :: ps) e = wbA t ps e := rfl
@[simp] theorem hasP_call {f : Nat} {a : IE} {t : IE} : (IE.cons (.call f a) t).hasP = t.hasP := rfl
@[simp] theorem resA_lc {o : List Nat} {tg : Tg} {a b g : IE} {t : IE} {d0 : D} {ds : List D} : resA (.cons (.lc o tg a b g) t) (d0 :: ds) e = (match resA t ds e with | some r => some (d0 :: r) | none => none) := rfl
@[simp] theorem wbA_lc {o : List Nat} {tg : Tg} {a b g : IE} {t : IE} {p : Option D} {ps : Env} : wbA (.cons (.lc o tg a b g) t) (p :: ps) e = wbA t ps e := rfl
@[simp] theorem hasP_lc {o : List Nat} {tg : Tg} {a b g : IE} {t : IE} : (IE.cons (.lc o tg a b g) t).hasP = t.hasP := rfl
end
end Q9

set_option Elab.async false
set_option linter.all false
set_option maxRecDepth 100000
namespace Q9
open PySem PySem.Spec L2
def wBody : IS := (.seq (.asg (.nm 9) (.and (.cmp .lt (.var 5) (.bi .len (.cons (.var 2) .nil))) (.cmp .lt (.var 7) (.bi .len (.cons (.var 0) .nil))))) (.seq (.ite (.and (.cmp .lt (.var 4) (.bi .len (.cons (.var 0) .nil))) (.or (.not (.var 9)) (.cmp .le (.idx (.idx (.var 0) (.var 4)) (.con (.int 0))) (.bin .add (.idx (.idx (.var 2) (.var 5)) (.con (.int 0))) (.idx (.idx (.var 0) (.var 7)) (.con (.int 0))))))) (.seq (.asg (.nm 10) (.bi .min (.cons (.idx (.idx (.var 0) (.var 4)) (.con (.int 1))) (.cons (.var 3) .nil)))) (.seq (.exp (.call 4 (.cons (.aB 2) (.cons (.idx (.idx (.var 0) (.var 4)) (.con (.int 0))) (.cons (.var 10) .nil))))) (.seq (.aug 4 .add (.con (.int 1))) .nil))) (.seq (.ite (.var 9) (.seq (.asg (.nm 10) (.bi .min (.cons (.bin .sub (.idx (.idx (.var 2) (.var 5)) (.con (.int 1))) (.var 6)) (.cons (.bin .sub (.idx (.idx (.var 0) (.var 7)) (.con (.int 1))) (.var 8)) (.cons (.var 3) .nil))))) (.seq (.aug 6 .add (.var 10)) (.seq (.aug 8 .add (.var 10)) (.seq (.exp (.call 4 (.cons (.aB 2) (.cons (.bin .add (.idx (.idx (.var 2) (.var 5)) (.con (.int 0))) (.idx (.idx (.var 0) (.var 7)) (.con (.int 0)))) (.cons (.var 10) .nil))))) (.seq (.ite (.cmp .eq (.var 6) (.idx (.idx (.var 2) (.var 5)) (.con (.int 1)))) (.seq (.par [5, 6] (.cons (.bin .add (.var 5) (.con (.int 1))) (.cons (.con (.int 0)) .nil))) .nil) .nil) (.seq (.ite (.cmp .eq (.var 8) (.idx (.idx (.var 0) (.var 7)) (.con (.int 1)))) (.seq (.par [7, 8] (.cons (.bin .add (.var 7) (.con (.int 1))) (.cons (.con (.int 0)) .nil))) .nil) .nil) .nil)))))) (.seq (.ret (.var 2)) .nil)) .nil)) (.seq (.aug 3 .sub (.var 10)) .nil)))
@[simp] theorem atI_map {l : List (Int × Int)} {n : Nat} : atI (l.map pD) (n : Int) = (l[n]?).map pD := by rw [atI_nat, List.getElem?_map]
/-- slots 9 and 10 are free -/
def Imm (x y : Option D) : Prop := (x = none ∧ y = none) ∨ ∃ b i, x = some (.bl b) ∧ y = some (.int i)
/-- the plain branch -/
theorem turn_a {c : Oracle} {W : Nat} {L R : List (Int × Int)} {most left us lu : Int} {pl at' bl : Nat} {x9 x10 : Option D} (h9 : Imm x9 x10) {q : Int × Int} (hq : L[pl]? = some q) (hR : R.length < sizeLine)
    (hc : ∀ l s m, l.length < sizeLine → c 4 [.brw (eR l), .int s, .int m] = .ok .non [some (.brw (eR (putRun l s m))), some (.int s), some (.int m)])
    (hcase : ∀ r l, R[at']? = some r → L[bl]? = some l → q.1 ≤ r.1 + l.1) :
    ∃ y9 y10, ex c W wBody [some (eR L), some (.int most), some (.own (eR R)), some (.int left), some (.int (pl : Int)), some (.int (at' : Int)), some (.int us), some (.int (bl : Int)), some (.int lu), x9, x10] =
      .nx [some (eR L), some (.int most), some (.own (eR (putRun R q.1 (min q.2 left)))), some (.int (left - min q.2 left)), some (.int ((pl : Int) + 1)), some (.int (at' : Int)), some (.int us), some (.int (bl : Int)), some (.int lu), y9, y10] ∧ Imm y9 y10 := by
  obtain ⟨hpl, rfl⟩ := List.getElem?_eq_some_iff.mp hq
  have hc' := hc R L[pl].1 (min L[pl].2 left) hR
  unfold wBody
  by_cases h1 : at' < R.length
  · by_cases h2 : bl < L.length
    · have g1 : R[at']? = some R[at'] := List.getElem?_eq_getElem h1
      have g2 : L[bl]? = some L[bl] := List.getElem?_eq_getElem h2
      have hle := hcase _ _ g1 g2
      refine ⟨some (.bl true), some (.int (min L[pl].2 left)), ?_, .inr ⟨_, _, rfl, rfl⟩⟩
      rcases h9 with ⟨rfl, rfl⟩ | ⟨b, i, rfl, rfl⟩ <;> simp [eR] at hc' ⊢ <;> simp [h1, h2, hpl, g1, g2, hle, pD, hc', eR]
    · refine ⟨some (.bl false), some (.int (min L[pl].2 left)), ?_, .inr ⟨_, _, rfl, rfl⟩⟩
      rcases h9 with ⟨rfl, rfl⟩ | ⟨b, i, rfl, rfl⟩ <;> simp [eR] at hc' ⊢ <;> simp [h1, h2, hpl, pD, hc', eR]
  · refine ⟨some (.bl false), some (.int (min L[pl].2 left)), ?_, .inr ⟨_, _, rfl, rfl⟩⟩
    rcases h9 with ⟨rfl, rfl⟩ | ⟨b, i, rfl, rfl⟩ <;> simp [eR] at hc' ⊢ <;> simp [h1, hpl, pD, hc', eR]
end Q9

set_option Elab.async false
set_option linter.all false
set_option maxRecDepth 100000
namespace Q9
open PySem PySem.Spec L2
/-- the sum branch: at' and bl stand, the plain item (if any) is above the sum -/
theorem turn_b {c : Oracle} {W : Nat} {L R : List (Int × Int)} {most left us lu : Int} {pl at' bl : Nat} {x9 x10 : Option D} (h9 : Imm x9 x10) (h1 : at' < R.length) (h2 : bl < L.length) (hR : R.length < sizeLine)
    (hc : ∀ l s m, l.length < sizeLine → c 4 [.brw (eR l), .int s, .int m] = .ok .non [some (.brw (eR (putRun l s m))), some (.int s), some (.int m)])
    (hcase : ∀ q, L[pl]? = some q → ¬ q.1 ≤ R[at'].1 + L[bl].1) {m : Int} (hm : m = min (min (R[at'].2 - us) (L[bl].2 - lu)) left) {R' : List (Int × Int)} (hR' : R' = putRun R (R[at'].1 + L[bl].1) m) (hk : R'[at']? = some R[at']) :
    ∃ y9 y10, ex c W wBody [some (eR L), some (.int most), some (.own (eR R)), some (.int left), some (.int (pl : Int)), some (.int (at' : Int)), some (.int us), some (.int (bl : Int)), some (.int lu), x9, x10] =
      .nx [some (eR L), some (.int most), some (.own (eR R')), some (.int (left - m)), some (.int (pl : Int)), some (.int (if us + m = R[at'].2 then (at' : Int) + 1 else at')), some (.int (if us + m = R[at'].2 then 0 else us + m)), some (.int (if lu + m = L[bl].2 then (bl : Int) + 1 else bl)), some (.int (if lu + m = L[bl].2 then 0 else lu + m)), y9, y10] ∧ Imm y9 y10 := by
  have g1 : R[at']? = some R[at'] := List.getElem?_eq_getElem h1
  have g2 : L[bl]? = some L[bl] := List.getElem?_eq_getElem h2
  have hc' := hc R (R[at'].1 + L[bl].1) m hR
  rw [← hR'] at hc'
  have hm' : min (R[at'].2 - us) (min (L[bl].2 - lu) left) = m := by omega
  unfold wBody
  refine ⟨some (.bl true), some (.int m), ?_, .inr ⟨_, _, rfl, rfl⟩⟩
  by_cases hp : pl < L.length
  · have hn := hcase L[pl] (List.getElem?_eq_getElem hp)
    rcases h9 with ⟨rfl, rfl⟩ | ⟨b, i, rfl, rfl⟩ <;> by_cases e1 : us + m = R[at'].2 <;> by_cases e2 : lu + m = L[bl].2 <;> simp [eR] at hc' ⊢ <;> simp [h1, h2, hp, hn, pD, hc', hm', hk, e1, e2]
  · rcases h9 with ⟨rfl, rfl⟩ | ⟨b, i, rfl, rfl⟩ <;> by_cases e1 : us + m = R[at'].2 <;> by_cases e2 : lu + m = L[bl].2 <;> simp [eR] at hc' ⊢ <;> simp [h1, h2, hp, pD, hc', hm', hk, e1, e2]
end Q9

set_option Elab.async false
set_option linter.all false
set_option maxRecDepth 100000
namespace Q9
open PySem PySem.Spec L2
theorem turn_c {c : Oracle} {W : Nat} {L R : List (Int × Int)} {most left us lu : Int} {pl at' bl : Nat} {x9 x10 : Option D} (h9 : Imm x9 x10) (hp : ¬ pl < L.length) (hs : ¬ at' < R.length ∨ ¬ bl < L.length) :
    ∃ e, ex c W wBody [some (eR L), some (.int most), some (.own (eR R)), some (.int left), some (.int (pl : Int)), some (.int (at' : Int)), some (.int us), some (.int (bl : Int)), some (.int lu), x9, x10] = .ret (eR R) e ∧ e.length = 11 ∧ e.take 2 = [some (eR L), some (.int most)] := by
  unfold wBody
  rcases h9 with ⟨rfl, rfl⟩ | ⟨b, i, rfl, rfl⟩
  · refine ⟨[some (eR L), some (.int most), some (eR R), some (.int left), some (.int (pl : Int)), some (.int (at' : Int)), some (.int us), some (.int (bl : Int)), some (.int lu), some (.bl false), none], ?_, rfl, rfl⟩
    rcases hs with hs | hs
    · simp [eR, hs, hp]
    · by_cases ha : at' < R.length <;> simp [eR, hs, hp, ha]
  · refine ⟨[some (eR L), some (.int most), some (eR R), some (.int left), some (.int (pl : Int)), some (.int (at' : Int)), some (.int us), some (.int (bl : Int)), some (.int lu), some (.bl false), some (.int i)], ?_, rfl, rfl⟩
    rcases hs with hs | hs
    · simp [eR, hs, hp]
    · by_cases ha : at' < R.length <;> simp [eR, hs, hp, ha]
end Q9

set_option Elab.async false
set_option linter.all false
set_option maxRecDepth 100000
namespace Q9
/-! ## runs and what they stand for -/
def Ex (l : List (Int × Int)) : List Int := l.flatMap fun p => List.replicate p.2.toNat p.1
def WF (l : List (Int × Int)) : Prop := ∀ p ∈ l, 0 < p.2
theorem Ex_nil : Ex [] = [] := rfl
theorem Ex_cons {p : Int × Int} {l : List (Int × Int)} : Ex (p :: l) = List.replicate p.2.toNat p.1 ++ Ex l := by unfold Ex; rw [List.flatMap_cons]
theorem Ex_app {a b : List (Int × Int)} : Ex (a ++ b) = Ex a ++ Ex b := by unfold Ex; rw [List.flatMap_append]
theorem putRun_Ex {l : List (Int × Int)} {s m : Int} (hw : WF l) (hm : 0 ≤ m) : Ex (putRun l s m) = Ex l ++ List.replicate m.toNat s ∧ WF (putRun l s m) := by
  have app : ∀ l : List (Int × Int), WF l → (Ex (if 0 < m then l ++ [(s, m)] else l) = Ex l ++ List.replicate m.toNat s ∧ WF (if 0 < m then l ++ [(s, m)] else l)) := by
    intro l hw
    by_cases h : 0 < m
    · rw [if_pos h, Ex_app, Ex_cons, Ex_nil, List.append_nil]
      refine ⟨rfl, fun p hp => ?_⟩
      rcases List.mem_append.mp hp with hp | hp
      · exact hw p hp
      · have : p = (s, m) := by simpa using hp
        subst this; exact h
    · rw [if_neg h, show m.toNat = 0 by omega]; simp; exact hw
  unfold putRun
  rcases List.eq_nil_or_concat l with rfl | ⟨l', p, rfl⟩
  · exact app [] hw
  · rw [List.concat_eq_append] at hw ⊢
    rw [List.getLast?_concat]
    simp only
    have hp : 0 < p.2 := hw p (by simp)
    by_cases h : p.1 = s
    · rw [if_pos h, List.dropLast_concat, Ex_app, Ex_app, Ex_cons, Ex_nil, Ex_cons, Ex_nil]
      refine ⟨?_, fun q hq => ?_⟩
      · subst h
        rw [List.append_nil, List.append_nil, List.append_assoc, List.replicate_append_replicate, show (p.2 + m).toNat = p.2.toNat + m.toNat by omega]
      · rcases List.mem_append.mp hq with hq | hq
        · exact hw q (by simp [hq])
        · have : q = (s, p.2 + m) := by simpa using hq
          subst this; show 0 < p.2 + m; omega
    · rw [if_neg h]; exact app _ hw
end Q9

set_option Elab.async false
set_option linter.all false
set_option maxRecDepth 100000
namespace Q9
/-- i, u stand for the place t of what l stands for -/
structure At (l : List (Int × Int)) (i : Nat) (u : Int) (t : Nat) : Prop where
  u0 : 0 ≤ u
  here : (∃ p, l[i]? = some p ∧ u < p.2) ∨ (i = l.length ∧ u = 0)
  eq : t = (Ex (l.take i)).length + u.toNat
theorem at_start {l : List (Int × Int)} (hw : WF l) : At l 0 0 0 := by
  refine ⟨Int.le_refl _, ?_, by simp [Ex_nil]⟩
  cases l with
  | nil => exact .inr ⟨rfl, rfl⟩
  | cons p l => exact .inl ⟨p, rfl, hw p List.mem_cons_self⟩
theorem Ex_split {l : List (Int × Int)} {i : Nat} {p : Int × Int} (h : l[i]? = some p) : Ex l = Ex (l.take i) ++ (List.replicate p.2.toNat p.1 ++ Ex (l.drop (i + 1))) := by
  obtain ⟨hi, rfl⟩ := List.getElem?_eq_some_iff.mp h
  conv => lhs; rw [← List.take_append_drop i l, List.drop_eq_getElem_cons hi]
  rw [Ex_app, Ex_cons]
theorem At.get {l : List (Int × Int)} {i t : Nat} {u : Int} {p : Int × Int} (a : At l i u t) (h : l[i]? = some p) {j : Nat} (hj : (j : Int) < p.2 - u) : (Ex l)[t + j]? = some p.1 := by
  have := a.u0
  rw [Ex_split h, a.eq, Nat.add_assoc, List.getElem?_append_right (by omega)]
  rw [show (Ex (l.take i)).length + (u.toNat + j) - (Ex (l.take i)).length = u.toNat + j by omega]
  rw [List.getElem?_append_left (by rw [List.length_replicate]; omega), List.getElem?_replicate, if_pos (by omega)]
theorem At.fin {l : List (Int × Int)} {i t : Nat} {u : Int} (a : At l i u t) (h : ¬ i < l.length) : t = (Ex l).length := by
  rcases a.here with ⟨p, hp, _⟩ | ⟨rfl, rfl⟩
  · exact absurd (List.getElem?_eq_some_iff.mp hp).1 h
  · rw [a.eq, List.take_length]; rfl
theorem At.lt {l : List (Int × Int)} {i t : Nat} {u : Int} (a : At l i u t) : t < (Ex l).length ↔ i < l.length := by
  constructor
  · intro h
    by_cases hi : i < l.length
    · exact hi
    · have := a.fin hi; omega
  · intro hi
    rcases a.here with ⟨p, hp, hu⟩ | ⟨rfl, _⟩
    · have := a.get hp (j := 0) (by have := a.u0; omega)
      exact (List.getElem?_eq_some_iff.mp this).1
    · omega
theorem At.step {l : List (Int × Int)} {i t : Nat} {u m : Int} {p : Int × Int} (hw : WF l) (a : At l i u t) (h : l[i]? = some p) (h0 : 0 ≤ m) (h1 : m ≤ p.2 - u) : At l (if u + m = p.2 then i + 1 else i) (if u + m = p.2 then 0 else u + m) (t + m.toNat) := by
  have hu := a.u0
  obtain ⟨hi, he⟩ := List.getElem?_eq_some_iff.mp h
  by_cases e : u + m = p.2
  · rw [if_pos e, if_pos e]
    refine ⟨Int.le_refl _, ?_, ?_⟩
    · by_cases hn : i + 1 < l.length
      · exact .inl ⟨l[i + 1], List.getElem?_eq_getElem hn, hw _ (List.getElem_mem hn)⟩
      · exact .inr ⟨by omega, rfl⟩
    · rw [List.take_succ, h, Ex_app, List.length_append, a.eq]
      show _ = (Ex (l.take i)).length + (Ex [p]).length + _
      rw [Ex_cons, Ex_nil, List.append_nil, List.length_replicate]
      omega
  · rw [if_neg e, if_neg e]
    exact ⟨by omega, .inl ⟨p, h, by omega⟩, by rw [a.eq]; omega⟩
end Q9

set_option Elab.async false
set_option linter.all false
set_option maxRecDepth 100000
namespace Q9
theorem putRun_shape (l : List (Int × Int)) (s m : Int) : (∃ l' p, l = l' ++ [p] ∧ p.1 = s ∧ putRun l s m = l' ++ [(s, p.2 + m)]) ∨ ((∀ p, l.getLast? = some p → p.1 ≠ s) ∧ putRun l s m = if 0 < m then l ++ [(s, m)] else l) := by
  unfold putRun
  rcases List.eq_nil_or_concat l with rfl | ⟨l', p, rfl⟩
  · exact .inr ⟨by simp, rfl⟩
  · rw [List.concat_eq_append, List.getLast?_concat]
    simp only
    by_cases h : p.1 = s
    · exact .inl ⟨l', p, rfl, h, by rw [if_pos h, List.dropLast_concat]⟩
    · exact .inr ⟨fun q hq => by cases hq; exact h, by rw [if_neg h]⟩
theorem At.grow {l : List (Int × Int)} {i t : Nat} {u s m : Int} (a : At l i u t) (hi : i < l.length) (hm : 0 ≤ m) : At (putRun l s m) i u t := by
  have key : ∀ l2 : List (Int × Int), (∃ p q, l[i]? = some p ∧ l2[i]? = some q ∧ p.2 ≤ q.2) → l2.take i = l.take i → At l2 i u t := by
    rintro l2 ⟨p, q, h1, h2, h3⟩ h4
    refine ⟨a.u0, .inl ⟨q, h2, ?_⟩, by rw [h4]; exact a.eq⟩
    rcases a.here with ⟨p', h5, h6⟩ | ⟨h5, _⟩
    · rw [h1] at h5; cases h5; omega
    · omega
  have gi : l[i]? = some l[i] := List.getElem?_eq_getElem hi
  rcases putRun_shape l s m with ⟨l', p, rfl, h1, h2⟩ | ⟨_, h2⟩
  · rw [h2]
    rw [List.length_append, List.length_singleton] at hi
    by_cases hl : i < l'.length
    · exact key _ ⟨l'[i], l'[i], by rw [List.getElem?_append_left hl]; exact List.getElem?_eq_getElem hl, by rw [List.getElem?_append_left hl]; exact List.getElem?_eq_getElem hl, Int.le_refl _⟩ (by rw [List.take_append_of_le_length (by omega), List.take_append_of_le_length (by omega)])
    · have e : i = l'.length := by omega
      subst e
      exact key _ ⟨p, (s, p.2 + m), by simp, by simp, by show p.2 ≤ p.2 + m; omega⟩ (by rw [List.take_append_of_le_length (by omega), List.take_append_of_le_length (by omega)])
  · rw [h2]
    split
    · exact key _ ⟨l[i], l[i], gi, by rw [List.getElem?_append_left hi]; exact gi, Int.le_refl _⟩ (by rw [List.take_append_of_le_length (by omega)])
    · exact a
def gmany (L : List Int) : Nat → GS → GS
  | 0, s => s
  | m + 1, s => gstep L (gmany L m s)
theorem giter_add {L : List Int} {k : Nat} : ∀ m, giter L (k + m) = gmany L m (giter L k)
  | 0 => rfl
  | m + 1 => by show gstep L (giter L (k + m)) = gstep L (gmany L m (giter L k)); rw [giter_add m]
/-- many steps of the same plain item -/
theorem gmany_a {L : List Int} {s : GS} {a : Int} : ∀ (m : Nat), (∀ j, j < m → L[s.p + j]? = some a) → (∀ j, j < m → ∀ r l, (s.R ++ List.replicate j a)[s.t]? = some r → L[s.t]? = some l → a ≤ r + l) → gmany L m s = ⟨s.R ++ List.replicate m a, s.p + m, s.t⟩
  | 0, _, _ => by simp [gmany]
  | m + 1, h1, h2 => by
    have ih := gmany_a m (fun j hj => h1 j (by omega)) (fun j hj => h2 j (by omega))
    show gstep L (gmany L m s) = _
    rw [ih]
    rcases gstep_cases L ⟨s.R ++ List.replicate m a, s.p + m, s.t⟩ with ⟨b, q1, q2, _⟩ | ⟨r, l, q1, q2, q3, q4⟩ | ⟨q1, _, _⟩
    · have q1 : L[s.p + m]? = some b := q1
      rw [h1 m (by omega)] at q1
      cases q1
      rw [q2]
      show GS.mk (s.R ++ List.replicate m a ++ [a]) _ _ = _
      rw [List.append_assoc, List.replicate_succ', Nat.add_assoc]
    · have h3 := h2 m (by omega) r l q1 q2
      have h4 := q4 a (h1 m (by omega))
      omega
    · have q1 : L[s.p + m]? = none := q1
      rw [h1 m (by omega)] at q1; cases q1
end Q9

set_option Elab.async false
set_option linter.all false
set_option maxRecDepth 100000
namespace Q9
/-- many steps of the same sum -/
theorem gmany_b {L : List Int} {s : GS} {r l : Int} : ∀ (m : Nat), (∀ j, j < m → s.R[s.t + j]? = some r ∧ L[s.t + j]? = some l) → (∀ a, L[s.p]? = some a → r + l < a) → gmany L m s = ⟨s.R ++ List.replicate m (r + l), s.p, s.t + m⟩
  | 0, _, _ => by simp [gmany]
  | m + 1, h1, h2 => by
    have ih := gmany_b m (fun j hj => h1 j (by omega)) h2
    obtain ⟨k1, k2⟩ := h1 m (by omega)
    have k1' : (s.R ++ List.replicate m (r + l))[s.t + m]? = some r := by
      rw [List.getElem?_append_left (List.getElem?_eq_some_iff.mp k1).1]; exact k1
    show gstep L (gmany L m s) = _
    rw [ih]
    rcases gstep_cases L ⟨s.R ++ List.replicate m (r + l), s.p, s.t + m⟩ with ⟨b, q1, _, q3⟩ | ⟨r', l', q1, q2, q3, _⟩ | ⟨_, q2, _⟩
    · have h3 := q3 r l k1' k2
      have h4 := h2 b q1
      omega
    · have q1 : (s.R ++ List.replicate m (r + l))[s.t + m]? = some r' := q1
      have q2 : L[s.t + m]? = some l' := q2
      rw [k1'] at q1; rw [k2] at q2
      cases q1; cases q2
      rw [q3]
      show GS.mk (s.R ++ List.replicate m (r + l) ++ [r + l]) _ _ = _
      rw [List.append_assoc, List.replicate_succ', Nat.add_assoc]
    · rcases q2 with q2 | q2
      · have q2 : (s.R ++ List.replicate m (r + l))[s.t + m]? = none := q2
        rw [k1'] at q2; cases q2
      · have q2 : L[s.t + m]? = none := q2
        rw [k2] at q2; cases q2
/-- the first step is a plain one -/
theorem giter_first (L : List Int) : ∀ k, (giter L k).p = 0 → (giter L k).R = []
  | 0, _ => rfl
  | k + 1, h => by
    have ih := giter_first L k
    show (gstep L (giter L k)).R = []
    have h : (gstep L (giter L k)).p = 0 := h
    rcases gstep_cases L (giter L k) with ⟨a, _, q2, _⟩ | ⟨r, l, q1, _, q3, _⟩ | ⟨_, _, q⟩
    · rw [q2] at h; cases h
    · rw [q3] at h
      rw [ih h] at q1; cases q1
    · rw [q] at h ⊢; exact ih h
theorem gmany_stuck {L : List Int} {s : GS} (h1 : L.length ≤ s.p) (h2 : s.R.length ≤ s.t ∨ L.length ≤ s.t) : ∀ d, gmany L d s = s
  | 0 => rfl
  | d + 1 => by show gstep L (gmany L d s) = s; rw [gmany_stuck h1 h2 d]; exact gstep_stuck h1 h2
/-- a loop with a test and a measure -/
theorem wloop_inv {test : Env → Re D} {body : Env → Fl} (I : Nat → Env → Prop) (Q : Fl → Prop)
    (h : ∀ n e, I n e → (∃ e1, test e = .ok (.bl false) e1 ∧ Q (.nx e1)) ∨ ∃ e1, test e = .ok (.bl true) e1 ∧ ((∃ e2 m, m < n ∧ body e1 = .nx e2 ∧ I m e2) ∨ ∃ d e2, body e1 = .ret d e2 ∧ Q (.ret d e2))) :
    ∀ W n e, n < W → I n e → Q (wloop test body W e)
  | 0, _, _, hw, _ => absurd hw (Nat.not_lt_zero _)
  | W + 1, n, e, hw, hi => by
    show Q ((test e).fl fun b e1 => match b with
      | .bl true => match body e1 with
        | .nx e2 => wloop test body W e2
        | .ct e2 => wloop test body W e2
        | .brk e2 => .nx e2
        | r => r
      | .bl false => .nx e1
      | _ => .stk)
    rcases h n e hi with ⟨e1, h1, h2⟩ | ⟨e1, h1, ⟨e2, m, hm, h2, h3⟩ | ⟨d, e2, h2, h3⟩⟩
    · rw [h1]; exact h2
    · rw [h1]
      show Q (match body e1 with
        | .nx e2 => wloop test body W e2
        | .ct e2 => wloop test body W e2
        | .brk e2 => .nx e2
        | r => r)
      rw [h2]
      exact wloop_inv I Q h W m e2 (by omega) h3
    · rw [h1]
      show Q (match body e1 with
        | .nx e2 => wloop test body W e2
        | .ct e2 => wloop test body W e2
        | .brk e2 => .nx e2
        | r => r)
      rw [h2]
      exact h3
end Q9

set_option Elab.async false
set_option linter.all false
set_option maxRecDepth 100000
namespace Q9
/-- where the loop stands behind k steps -/
structure WI (L : List (Int × Int)) (k : Nat) (R : List (Int × Int)) (pl at' : Nat) (us : Int) (bl : Nat) (lu : Int) (p t : Nat) : Prop where
  it : giter (Ex L) k = ⟨Ex R, p, t⟩
  ap : At L pl 0 p
  ar : At R at' us t
  al : At L bl lu t
  wf : WF R
theorem WI.first {L R : List (Int × Int)} {k pl at' bl p t : Nat} {us lu : Int} (hs : (Ex L).Pairwise (· ≤ ·)) (h0 : ∀ x ∈ Ex L, 0 ≤ x) (w : WI L k R pl at' us bl lu p t) : at' < R.length ∨ (Ex R = [] ∧ R = []) := by
  have I := gi_iter hs h0 k
  rw [w.it] at I
  have hl : (Ex R).length = p + t := I.len
  by_cases hp : p = 0
  · right
    have e : Ex R = [] := by have := giter_first (Ex L) k; rw [w.it] at this; exact this hp
    refine ⟨e, ?_⟩
    cases R with
    | nil => rfl
    | cons q R =>
      have := w.wf q List.mem_cons_self
      rw [Ex_cons] at e
      have e := congrArg List.length e
      rw [List.length_append, List.length_replicate, List.length_nil] at e
      omega
  · left
    exact w.ar.lt.mp (by omega)
theorem plain_turn {L R : List (Int × Int)} {k pl at' bl p t : Nat} {us lu m : Int} {q : Int × Int} (hw : WF L) (hs : (Ex L).Pairwise (· ≤ ·)) (h0 : ∀ x ∈ Ex L, 0 ≤ x) (w : WI L k R pl at' us bl lu p t) (hq : L[pl]? = some q) (hcase : ∀ r l, R[at']? = some r → L[bl]? = some l → q.1 ≤ r.1 + l.1) (hm : 0 < m) (hm' : m ≤ q.2) :
    giter (Ex L) (k + m.toNat) = ⟨Ex (putRun R q.1 m), p + m.toNat, t⟩ ∧ WF (putRun R q.1 m) ∧ (m = q.2 → WI L (k + m.toNat) (putRun R q.1 m) (pl + 1) at' us bl lu (p + m.toNat) t) := by
  obtain ⟨hE, hW⟩ := putRun_Ex (s := q.1) w.wf (Int.le_of_lt hm)
  have hit : giter (Ex L) (k + m.toNat) = ⟨Ex (putRun R q.1 m), p + m.toNat, t⟩ := by
    rw [giter_add, w.it, hE]
    refine gmany_a (L := Ex L) (s := ⟨Ex R, p, t⟩) m.toNat (fun j hj => w.ap.get hq (by omega)) fun j hj r l h1 h2 => ?_
    have h1 : (Ex R ++ List.replicate j q.1)[t]? = some r := h1
    have h2 : (Ex L)[t]? = some l := h2
    rcases w.first hs h0 with ha | ⟨e, e'⟩
    · have hb : bl < L.length := w.al.lt.mp (List.getElem?_eq_some_iff.mp h2).1
      have g1 : R[at']? = some R[at'] := List.getElem?_eq_getElem ha
      have g2 : L[bl]? = some L[bl] := List.getElem?_eq_getElem hb
      have := hcase _ _ g1 g2
      have htR : t < (Ex R).length := w.ar.lt.mpr ha
      have k1 := w.ar.get g1 (j := 0) (by rcases w.ar.here with ⟨p', a1, a2⟩ | ⟨a1, _⟩; · rw [g1] at a1; cases a1; omega
                                          · omega)
      have k2 := w.al.get g2 (j := 0) (by rcases w.al.here with ⟨p', a1, a2⟩ | ⟨a1, _⟩; · rw [g2] at a1; cases a1; omega
                                          · omega)
      rw [List.getElem?_append_left htR] at h1
      rw [Nat.add_zero] at k1 k2
      rw [k1] at h1; rw [k2] at h2
      cases h1; cases h2
      exact this
    · rw [e, List.nil_append] at h1
      have : q.1 = r := by
        have := List.mem_of_getElem? h1
        exact (List.eq_of_mem_replicate this).symm
      have hl := h0 l (List.mem_of_getElem? h2)
      omega
  refine ⟨hit, hW, fun e => ⟨hit, ?_, ?_, w.al, hW⟩⟩
  · have := w.ap.step hw hq (m := m) (by omega) (by omega)
    rw [if_pos (by omega), if_pos (by omega)] at this
    exact this
  · rcases w.first hs h0 with ha | ⟨_, e'⟩
    · exact w.ar.grow ha (by omega)
    · subst e'
      have ha := w.ar
      have hz : at' = 0 ∧ us = 0 ∧ t = 0 := by
        have h1 := w.ar.eq
        rcases ha.here with ⟨p', h, _⟩ | ⟨h, h'⟩
        · simp at h
        · refine ⟨h, h', ?_⟩
          subst h h'
          simpa [Ex_nil] using h1
      obtain ⟨rfl, rfl, rfl⟩ := hz
      exact at_start hW
theorem sum_turn {L R : List (Int × Int)} {k pl at' bl p t : Nat} {us lu m : Int} (hw : WF L) (h0 : ∀ x ∈ Ex L, 0 < x) (w : WI L k R pl at' us bl lu p t) (h1 : at' < R.length) (h2 : bl < L.length) (hcase : ∀ q, L[pl]? = some q → ¬ q.1 ≤ R[at'].1 + L[bl].1) (hm : 0 ≤ m) (hm1 : m ≤ R[at'].2 - us) (hm2 : m ≤ L[bl].2 - lu) :
    (putRun R (R[at'].1 + L[bl].1) m)[at']? = some R[at'] ∧
    WI L (k + m.toNat) (putRun R (R[at'].1 + L[bl].1) m) pl (if us + m = R[at'].2 then at' + 1 else at') (if us + m = R[at'].2 then 0 else us + m) (if lu + m = L[bl].2 then bl + 1 else bl) (if lu + m = L[bl].2 then 0 else lu + m) p (t + m.toNat) := by
  have g1 : R[at']? = some R[at'] := List.getElem?_eq_getElem h1
  have g2 : L[bl]? = some L[bl] := List.getElem?_eq_getElem h2
  have k1 := fun j (hj : ((j : Nat) : Int) < R[at'].2 - us) => w.ar.get g1 hj
  have k2 := fun j (hj : ((j : Nat) : Int) < L[bl].2 - lu) => w.al.get g2 hj
  obtain ⟨hE, hW⟩ := putRun_Ex (s := R[at'].1 + L[bl].1) w.wf hm
  have hpos : 0 < L[bl].1 := by
    have := k2 0 (by rcases w.al.here with ⟨p', a1, a2⟩ | ⟨a1, _⟩; · rw [g2] at a1; cases a1; omega
                     · omega)
    exact h0 _ (List.mem_of_getElem? this)
  have hk : (putRun R (R[at'].1 + L[bl].1) m)[at']? = some R[at'] := by
    rcases putRun_shape R (R[at'].1 + L[bl].1) m with ⟨l', p', e, q1, q2⟩ | ⟨_, q2⟩
    · rw [q2]
      by_cases hl : at' < l'.length
      · rw [List.getElem?_append_left hl, ← g1, e, List.getElem?_append_left hl]
      · exfalso
        have : R[at']? = some p' := by
          have hlen := congrArg List.length e
          rw [List.length_append, List.length_singleton] at hlen
          have : at' = l'.length := by omega
          rw [e, this]; simp
        rw [g1] at this
        have := congrArg Prod.fst (Option.some.inj this)
        omega
    · rw [q2]
      split
      · rw [List.getElem?_append_left h1]; exact g1
      · exact g1
  refine ⟨hk, ⟨?_, w.ap, (w.ar.grow h1 hm).step hW hk hm hm1, w.al.step hw g2 hm hm2, hW⟩⟩
  rw [giter_add, w.it, hE]
  refine gmany_b (L := Ex L) (s := ⟨Ex R, p, t⟩) m.toNat (fun j hj => ⟨k1 j (by omega), k2 j (by omega)⟩) fun a ha => ?_
  have ha : (Ex L)[p]? = some a := ha
  have hp : pl < L.length := w.ap.lt.mp (List.getElem?_eq_some_iff.mp ha).1
  have g3 : L[pl]? = some L[pl] := List.getElem?_eq_getElem hp
  have k3 := w.ap.get g3 (j := 0) (by have := hw _ (List.getElem_mem hp); omega)
  rw [Nat.add_zero, ha] at k3
  cases k3
  have := hcase _ g3
  omega
theorem stuck_turn {L R : List (Int × Int)} {k pl at' bl p t : Nat} {us lu : Int} (w : WI L k R pl at' us bl lu p t) (hp : ¬ pl < L.length) (hs : ¬ at' < R.length ∨ ¬ bl < L.length) (d : Nat) : gen (Ex L) (k + d) = Ex R := by
  have e1 := w.ap.fin hp
  unfold gen
  rw [giter_add, w.it, gmany_stuck]
  · show (Ex L).length ≤ p; omega
  · rcases hs with hs | hs
    · left; show (Ex R).length ≤ t; have := w.ar.fin hs; omega
    · right; show (Ex L).length ≤ t; have := w.al.fin hs; omega
theorem WI.start {L : List (Int × Int)} (hw : WF L) : WI L 0 [] 0 0 0 0 0 0 0 :=
  ⟨rfl, at_start hw, at_start (fun p hp => nomatch hp), at_start hw, fun p hp => nomatch hp⟩
end Q9

set_option Elab.async false
set_option linter.all false
set_option maxRecDepth 100000
namespace Q9
open PySem PySem.Spec L2
def B_with_one_room_more : IS := (.seq (.asg (.nm 2) (.lstE .nil)) (.seq (.asg (.nm 3) (.var 1)) (.seq (.asg (.nm 4) (.con (.int 0))) (.seq (.asgs [5, 6] (.con (.int 0))) (.seq (.asgs [7, 8] (.con (.int 0))) (.seq (.whl (.cmp .gt (.var 3) (.con (.int 0))) (.seq (.asg (.nm 9) (.and (.cmp .lt (.var 5) (.bi .len (.cons (.var 2) .nil))) (.cmp .lt (.var 7) (.bi .len (.cons (.var 0) .nil))))) (.seq (.ite (.and (.cmp .lt (.var 4) (.bi .len (.cons (.var 0) .nil))) (.or (.not (.var 9)) (.cmp .le (.idx (.idx (.var 0) (.var 4)) (.con (.int 0))) (.bin .add (.idx (.idx (.var 2) (.var 5)) (.con (.int 0))) (.idx (.idx (.var 0) (.var 7)) (.con (.int 0))))))) (.seq (.asg (.nm 10) (.bi .min (.cons (.idx (.idx (.var 0) (.var 4)) (.con (.int 1))) (.cons (.var 3) .nil)))) (.seq (.exp (.call 4 (.cons (.aB 2) (.cons (.idx (.idx (.var 0) (.var 4)) (.con (.int 0))) (.cons (.var 10) .nil))))) (.seq (.aug 4 .add (.con (.int 1))) .nil))) (.seq (.ite (.var 9) (.seq (.asg (.nm 10) (.bi .min (.cons (.bin .sub (.idx (.idx (.var 2) (.var 5)) (.con (.int 1))) (.var 6)) (.cons (.bin .sub (.idx (.idx (.var 0) (.var 7)) (.con (.int 1))) (.var 8)) (.cons (.var 3) .nil))))) (.seq (.aug 6 .add (.var 10)) (.seq (.aug 8 .add (.var 10)) (.seq (.exp (.call 4 (.cons (.aB 2) (.cons (.bin .add (.idx (.idx (.var 2) (.var 5)) (.con (.int 0))) (.idx (.idx (.var 0) (.var 7)) (.con (.int 0)))) (.cons (.var 10) .nil))))) (.seq (.ite (.cmp .eq (.var 6) (.idx (.idx (.var 2) (.var 5)) (.con (.int 1)))) (.seq (.par [5, 6] (.cons (.bin .add (.var 5) (.con (.int 1))) (.cons (.con (.int 0)) .nil))) .nil) .nil) (.seq (.ite (.cmp .eq (.var 8) (.idx (.idx (.var 0) (.var 7)) (.con (.int 1)))) (.seq (.par [7, 8] (.cons (.bin .add (.var 7) (.con (.int 1))) (.cons (.con (.int 0)) .nil))) .nil) .nil) .nil)))))) (.seq (.ret (.var 2)) .nil)) .nil)) (.seq (.aug 3 .sub (.var 10)) .nil)))) (.seq (.ret (.var 2)) .nil)))))))
theorem B_with_one_room_more_eq : B_with_one_room_more = (.seq (.asg (.nm 2) (.lstE .nil)) (.seq (.asg (.nm 3) (.var 1)) (.seq (.asg (.nm 4) (.con (.int 0))) (.seq (.asgs [5, 6] (.con (.int 0))) (.seq (.asgs [7, 8] (.con (.int 0))) (.seq (.whl (.cmp .gt (.var 3) (.con (.int 0))) wBody) (.seq (.ret (.var 2)) .nil))))))) := rfl
theorem test_left {c : Oracle} {x0 x1 x2 : Option D} {left : Int} {xs : Env} {b : Bool} (hb : decide (0 < left) = b) : ev c (.cmp .gt (.var 3) (.con (.int 0))) .t (x0 :: x1 :: x2 :: some (.int left) :: xs) = .ok (.bl b) (x0 :: x1 :: x2 :: some (.int left) :: xs) := by
  simp [hb]
theorem room_ex {c : Oracle} {W : Nat} {L : List (Int × Int)} {most : Int}
    (hc : ∀ l s m, l.length < sizeLine → c 4 [.brw (eR l), .int s, .int m] = .ok .non [some (.brw (eR (putRun l s m))), some (.int s), some (.int m)])
    (hw : WF L) (hs : (Ex L).Pairwise (· ≤ ·)) (h0 : ∀ x ∈ Ex L, 0 < x) (hm : 0 ≤ most) (hW : most.toNat < W)
    (hb : ∀ R k, k < most.toNat → WF R → Ex R = gen (Ex L) k → R.length < sizeLine) :
    ∃ R e, WF R ∧ Ex R = gen (Ex L) most.toNat ∧ ex c W B_with_one_room_more [some (eR L), some (.int most), none, none, none, none, none, none, none, none, none] = .ret (eR R) e ∧ e.length = 11 ∧ e.take 2 = [some (eR L), some (.int most)] := by
  have h0' : ∀ x ∈ Ex L, 0 ≤ x := fun x hx => Int.le_of_lt (h0 x hx)
  have key := wloop_inv (test := fun e => ev c (.cmp .gt (.var 3) (.con (.int 0))) .t e) (body := fun e => ex c W wBody e)
    (fun n e => ∃ R left pl at' us bl lu x9 x10, e = [some (eR L), some (.int most), some (.own (eR R)), some (.int left), some (.int ((pl : Nat) : Int)), some (.int ((at' : Nat) : Int)), some (.int us), some (.int ((bl : Nat) : Int)), some (.int lu), x9, x10] ∧ Imm x9 x10 ∧ 0 ≤ left ∧ left ≤ most ∧ n = left.toNat ∧ WF R ∧ Ex R = gen (Ex L) (most - left).toNat ∧ (0 < left → ∃ p t, WI L (most - left).toNat R pl at' us bl lu p t))
    (fun f => ∃ R, WF R ∧ Ex R = gen (Ex L) most.toNat ∧ ((∃ x3 x4 x5 x6 x7 x8 x9 x10, f = .nx [some (eR L), some (.int most), some (.own (eR R)), x3, x4, x5, x6, x7, x8, x9, x10]) ∨ ∃ e, f = .ret (eR R) e ∧ e.length = 11 ∧ e.take 2 = [some (eR L), some (.int most)]))
    (by
      rintro n e ⟨R, left, pl, at', us, bl, lu, x9, x10, rfl, hi, l0, l1, rfl, hR, hE, hI⟩
      by_cases hl : 0 < left
      · right
        refine ⟨_, test_left (by simp [hl]), ?_⟩
        obtain ⟨p, t, w⟩ := hI hl
        have hsz := hb R (most - left).toNat (by omega) hR hE
        by_cases hp : pl < L.length
        · have g1 : L[pl]? = some L[pl] := List.getElem?_eq_getElem hp
          have hq := hw _ (List.getElem_mem hp)
          by_cases hcs : ∀ r l, R[at']? = some r → L[bl]? = some l → L[pl].1 ≤ r.1 + l.1
          · left
            obtain ⟨y9, y10, q1, q2⟩ := turn_a (W := W) (c := c) (most := most) (left := left) (us := us) (lu := lu) hi g1 hsz hc hcs
            obtain ⟨r1, r2, r3⟩ := plain_turn (m := min L[pl].2 left) hw hs h0' w g1 hcs (by omega) (by omega)
            have ek : (most - left).toNat + (min L[pl].2 left).toNat = (most - (left - min L[pl].2 left)).toNat := by omega
            rw [ek] at r1 r3
            refine ⟨_, _, ?_, q1, _, _, _, _, _, _, _, _, _, rfl, q2, by omega, by omega, rfl, r2, ?_, ?_⟩
            · omega
            · unfold gen; rw [r1]
            · intro h; exact ⟨_, _, r3 (by omega)⟩
          · left
            have hex : at' < R.length ∧ bl < L.length := by
              refine ⟨?_, ?_⟩
              · by_cases h : at' < R.length
                · exact h
                · exact absurd (fun r l h1 _ => absurd (List.getElem?_eq_some_iff.mp h1).1 h) hcs
              · by_cases h : bl < L.length
                · exact h
                · exact absurd (fun r l _ h1 => absurd (List.getElem?_eq_some_iff.mp h1).1 h) hcs
            have hcs' : ∀ q, L[pl]? = some q → ¬ q.1 ≤ R[at'].1 + L[bl].1 := by
              intro q hq' hle
              rw [g1] at hq'; cases hq'
              refine hcs fun r l e1 e2 => ?_
              rw [List.getElem?_eq_getElem hex.1] at e1; rw [List.getElem?_eq_getElem hex.2] at e2
              cases e1; cases e2; exact hle
            have u1 : us < R[at'].2 := by rcases w.ar.here with ⟨p', a1, a2⟩ | ⟨a1, _⟩; · rw [List.getElem?_eq_getElem hex.1] at a1; cases a1; exact a2
                                          · omega
            have u2 : lu < L[bl].2 := by rcases w.al.here with ⟨p', a1, a2⟩ | ⟨a1, _⟩; · rw [List.getElem?_eq_getElem hex.2] at a1; cases a1; exact a2
                                         · omega
            obtain ⟨hk, w'⟩ := sum_turn (m := min (min (R[at'].2 - us) (L[bl].2 - lu)) left) hw h0 w hex.1 hex.2 hcs' (by omega) (by omega) (by omega)
            obtain ⟨y9, y10, q1, q2⟩ := turn_b (W := W) (c := c) (most := most) (left := left) (us := us) (lu := lu) hi hex.1 hex.2 hsz hc hcs' rfl rfl hk
            have ek : (most - left).toNat + (min (min (R[at'].2 - us) (L[bl].2 - lu)) left).toNat = (most - (left - min (min (R[at'].2 - us) (L[bl].2 - lu)) left)).toNat := by omega
            rw [ek] at w'
            refine ⟨_, _, ?_, q1, _, _, _, (if us + min (min (R[at'].2 - us) (L[bl].2 - lu)) left = R[at'].2 then at' + 1 else at'), _, (if lu + min (min (R[at'].2 - us) (L[bl].2 - lu)) left = L[bl].2 then bl + 1 else bl), _, _, _, ?_, q2, by omega, by omega, rfl, w'.wf, ?_, fun _ => ⟨_, _, w'⟩⟩
            · omega
            · split <;> split <;> rfl
            · unfold gen; rw [w'.it]
        · by_cases hst : ¬ at' < R.length ∨ ¬ bl < L.length
          · right
            obtain ⟨e, q1, q2, q3⟩ := turn_c (W := W) (c := c) (most := most) (left := left) (us := us) (lu := lu) hi hp hst
            refine ⟨_, _, q1, R, hR, ?_, .inr ⟨_, rfl, q2, q3⟩⟩
            have := stuck_turn w hp hst (most.toNat - (most - left).toNat)
            rw [show (most - left).toNat + (most.toNat - (most - left).toNat) = most.toNat by omega] at this
            exact this.symm
          · left
            have hex : at' < R.length ∧ bl < L.length := by
              constructor
              · exact Classical.byContradiction fun h => hst (.inl h)
              · exact Classical.byContradiction fun h => hst (.inr h)
            have hcs' : ∀ q, L[pl]? = some q → ¬ q.1 ≤ R[at'].1 + L[bl].1 := fun q hq' => absurd (List.getElem?_eq_some_iff.mp hq').1 hp
            have u1 : us < R[at'].2 := by rcases w.ar.here with ⟨p', a1, a2⟩ | ⟨a1, _⟩; · rw [List.getElem?_eq_getElem hex.1] at a1; cases a1; exact a2
                                          · omega
            have u2 : lu < L[bl].2 := by rcases w.al.here with ⟨p', a1, a2⟩ | ⟨a1, _⟩; · rw [List.getElem?_eq_getElem hex.2] at a1; cases a1; exact a2
                                         · omega
            obtain ⟨hk, w'⟩ := sum_turn (m := min (min (R[at'].2 - us) (L[bl].2 - lu)) left) hw h0 w hex.1 hex.2 hcs' (by omega) (by omega) (by omega)
            obtain ⟨y9, y10, q1, q2⟩ := turn_b (W := W) (c := c) (most := most) (left := left) (us := us) (lu := lu) hi hex.1 hex.2 hsz hc hcs' rfl rfl hk
            have ek : (most - left).toNat + (min (min (R[at'].2 - us) (L[bl].2 - lu)) left).toNat = (most - (left - min (min (R[at'].2 - us) (L[bl].2 - lu)) left)).toNat := by omega
            rw [ek] at w'
            refine ⟨_, _, ?_, q1, _, _, _, (if us + min (min (R[at'].2 - us) (L[bl].2 - lu)) left = R[at'].2 then at' + 1 else at'), _, (if lu + min (min (R[at'].2 - us) (L[bl].2 - lu)) left = L[bl].2 then bl + 1 else bl), _, _, _, ?_, q2, by omega, by omega, rfl, w'.wf, ?_, fun _ => ⟨_, _, w'⟩⟩
            · omega
            · split <;> split <;> rfl
            · unfold gen; rw [w'.it]
      · left
        refine ⟨_, test_left (by simp [hl]), R, hR, ?_, .inl ⟨_, _, _, _, _, _, _, _, rfl⟩⟩
        rw [hE, show (most - left).toNat = most.toNat by omega])
    W most.toNat [some (eR L), some (.int most), some (.own (eR [])), some (.int most), some (.int ((0 : Nat) : Int)), some (.int ((0 : Nat) : Int)), some (.int 0), some (.int ((0 : Nat) : Int)), some (.int 0), none, none] hW
    ⟨[], most, 0, 0, 0, 0, 0, none, none, rfl, .inl ⟨rfl, rfl⟩, hm, Int.le_refl _, rfl, (fun p hp => nomatch hp), by rw [show (most - most).toNat = 0 by omega]; rfl, fun _ => ⟨0, 0, by rw [show (most - most).toNat = 0 by omega]; exact WI.start hw⟩⟩
  obtain ⟨R, hR, hE, h⟩ := key
  rw [B_with_one_room_more_eq]
  have st : ∀ b, ex c W (.seq (.asg (.nm 2) (.lstE .nil)) (.seq (.asg (.nm 3) (.var 1)) (.seq (.asg (.nm 4) (.con (.int 0))) (.seq (.asgs [5, 6] (.con (.int 0))) (.seq (.asgs [7, 8] (.con (.int 0))) b))))) [some (eR L), some (.int most), none, none, none, none, none, none, none, none, none] = ex c W b [some (eR L), some (.int most), some (.own (eR [])), some (.int most), some (.int ((0 : Nat) : Int)), some (.int ((0 : Nat) : Int)), some (.int 0), some (.int ((0 : Nat) : Int)), some (.int 0), none, none] := by
    intro b
    simp [eR]
  rw [st, ex_seq, ex_whl]
  rcases h with ⟨x3, x4, x5, x6, x7, x8, x9, x10, h⟩ | ⟨e, h, h1, h2⟩
  · rw [h, then_nx]
    exact ⟨R, [some (eR L), some (.int most), some (eR R), x3, x4, x5, x6, x7, x8, x9, x10], hR, hE, by simp [eR], rfl, rfl⟩
  · rw [h, then_ret]
    exact ⟨R, e, hR, hE, rfl, h1, h2⟩
end Q9

set_option Elab.async false
set_option linter.all false
set_option maxRecDepth 100000
namespace Q9
/-! ## merge -/
def mrg (a b : List Int) : List Int := a.merge b (fun x y => decide (x ≤ y))
theorem mrg_nil_left {b : List Int} : mrg [] b = b := by unfold mrg; simp
theorem mrg_nil_right {a : List Int} : mrg a [] = a := by unfold mrg; simp
theorem mrg_le {x y : Int} {a b : List Int} (h : x ≤ y) : mrg (x :: a) (y :: b) = x :: mrg a (y :: b) := by
  unfold mrg; rw [List.cons_merge_cons_pos]; simpa using h
theorem mrg_gt {x y : Int} {a b : List Int} (h : ¬ x ≤ y) : mrg (x :: a) (y :: b) = y :: mrg (x :: a) b := by
  unfold mrg; rw [List.cons_merge_cons_neg]; simpa using h
theorem mrg_many_left {x : Int} {a b : List Int} (h : ∀ y, b.head? = some y → x ≤ y) : ∀ m, mrg (List.replicate m x ++ a) b = List.replicate m x ++ mrg a b
  | 0 => rfl
  | m + 1 => by
    cases b with
    | nil => rw [mrg_nil_right, mrg_nil_right]
    | cons y b =>
      rw [List.replicate_succ, List.cons_append, mrg_le (h y rfl), mrg_many_left h m]; rfl
theorem mrg_many_right {x : Int} {a b : List Int} (h : ∀ y, a.head? = some y → ¬ y ≤ x) : ∀ m, mrg a (List.replicate m x ++ b) = List.replicate m x ++ mrg a b
  | 0 => rfl
  | m + 1 => by
    cases a with
    | nil => rw [mrg_nil_left, mrg_nil_left]
    | cons y a =>
      rw [List.replicate_succ, List.cons_append, mrg_gt (h y rfl), mrg_many_right h m]; rfl
theorem mrg_perm {a b : List Int} : (mrg a b).Perm (a ++ b) := List.merge_perm_append _
theorem mrg_sorted {a b : List Int} (ha : a.Pairwise (· ≤ ·)) (hb : b.Pairwise (· ≤ ·)) : (mrg a b).Pairwise (· ≤ ·) := by
  have := List.pairwise_merge (le := fun (x y : Int) => decide (x ≤ y)) (by intro a b c; simp; omega) (by intro a b; simp; omega) a b (ha.imp (by simp)) (hb.imp (by simp))
  exact this.imp (by simp)
theorem Ex_head {l : List (Int × Int)} (hw : WF l) : (Ex l).head? = l.head?.map (·.1) := by
  cases l with
  | nil => rfl
  | cons p l =>
    have := hw p List.mem_cons_self
    rw [Ex_cons, show p.2.toNat = (p.2.toNat - 1) + 1 by omega]
    rfl
theorem len_Ex {l : List (Int × Int)} (hw : WF l) : l.length ≤ (Ex l).length := by
  induction l with
  | nil => exact Nat.le_refl _
  | cons p l ih =>
    have h1 := hw p List.mem_cons_self
    have h2 := ih fun q hq => hw q (List.mem_cons_of_mem _ hq)
    rw [Ex_cons, List.length_append, List.length_replicate, List.length_cons]
    omega
theorem take_rep {x : Int} {m left : Nat} {X : List Int} : (List.replicate m x ++ X).take left = List.replicate (min m left) x ++ X.take (left - min m left) := by
  rw [List.take_append, List.take_replicate, List.length_replicate, Nat.min_comm]
  congr 2
  omega
theorem drop_cons {α : Type} {l : List α} {i : Nat} (h : i < l.length) : l.drop i = l[i] :: l.drop (i + 1) := List.drop_eq_getElem_cons h
/-- what is still to be merged -/
structure MI (A B : List (Int × Int)) (most : Nat) (R : List (Int × Int)) (left i j : Nat) : Prop where
  eq : Ex R ++ (mrg (Ex (A.drop i)) (Ex (B.drop j))).take left = (mrg (Ex A) (Ex B)).take most
  wf : WF R
  len : (Ex R).length + left ≤ most
  le : j ≤ B.length
theorem merge_a {A B R : List (Int × Int)} {most left i j : Nat} (hA : WF A) (hB : WF B) (w : MI A B most R left i j) (h : i < A.length) (hc : ∀ q, B[j]? = some q → A[i].1 ≤ q.1) :
    MI A B most (putRun R A[i].1 (min A[i].2 (left : Int))) (left - min A[i].2.toNat left) (i + 1) j := by
  have hp := hA _ (List.getElem_mem h)
  obtain ⟨hE, hW⟩ := putRun_Ex (l := R) (s := A[i].1) (m := min A[i].2 (left : Int)) w.wf (by omega)
  have et : (min A[i].2 (left : Int)).toNat = min A[i].2.toNat left := by omega
  refine ⟨?_, hW, ?_, w.le⟩
  · rw [hE, ← w.eq, drop_cons h, Ex_cons, mrg_many_left, take_rep, List.append_assoc, et]
    intro y hy
    rw [Ex_head (fun q hq => hB q (List.mem_of_mem_drop hq)), List.head?_drop] at hy
    cases hq : B[j]? with
    | none => rw [hq] at hy; cases hy
    | some q => rw [hq] at hy; cases hy; exact hc q hq
  · rw [hE, List.length_append, List.length_replicate, et]
    have := w.len; omega
theorem merge_b {A B R : List (Int × Int)} {most left i j : Nat} (hA : WF A) (hB : WF B) (w : MI A B most R left i j) (h : j < B.length) (hc : ∀ q, A[i]? = some q → ¬ q.1 ≤ B[j].1) :
    MI A B most (putRun R B[j].1 (min B[j].2 (left : Int))) (left - min B[j].2.toNat left) i (j + 1) := by
  have hp := hB _ (List.getElem_mem h)
  obtain ⟨hE, hW⟩ := putRun_Ex (l := R) (s := B[j].1) (m := min B[j].2 (left : Int)) w.wf (by omega)
  have et : (min B[j].2 (left : Int)).toNat = min B[j].2.toNat left := by omega
  refine ⟨?_, hW, ?_, h⟩
  · rw [hE, ← w.eq, drop_cons h, Ex_cons, mrg_many_right, take_rep, List.append_assoc, et]
    intro y hy
    rw [Ex_head (fun q hq => hA q (List.mem_of_mem_drop hq)), List.head?_drop] at hy
    cases hq : A[i]? with
    | none => rw [hq] at hy; cases hy
    | some q => rw [hq] at hy; cases hy; exact hc q hq
  · rw [hE, List.length_append, List.length_replicate, et]
    have := w.len; omega
theorem merge_end {A B R : List (Int × Int)} {most left i j : Nat} (w : MI A B most R left i j) (h : left = 0 ∨ (¬ i < A.length ∧ ¬ j < B.length)) : Ex R = (mrg (Ex A) (Ex B)).take most := by
  rw [← w.eq]
  rcases h with rfl | ⟨h1, h2⟩
  · simp
  · rw [List.drop_eq_nil_of_le (by omega), List.drop_eq_nil_of_le (by omega), Ex_nil, mrg_nil_left]; simp
end Q9

set_option Elab.async false
set_option linter.all false
set_option maxRecDepth 100000
namespace Q9
open PySem PySem.Spec L2
def mTest : IE :=  (.and (.cmp .gt (.var 4) (.con (.int 0))) (.or (.cmp .lt (.var 5) (.bi .len (.cons (.var 0) .nil))) (.cmp .lt (.var 6) (.bi .len (.cons (.var 1) .nil)))))
def mBody : IS := (.seq (.ite (.or (.cmp .eq (.var 6) (.bi .len (.cons (.var 1) .nil))) (.and (.cmp .lt (.var 5) (.bi .len (.cons (.var 0) .nil))) (.cmp .le (.idx (.idx (.var 0) (.var 5)) (.con (.int 0))) (.idx (.idx (.var 1) (.var 6)) (.con (.int 0)))))) (.seq (.asg (.tp [7, 8]) (.idx (.var 0) (.var 5))) (.seq (.aug 5 .add (.con (.int 1))) .nil)) (.seq (.asg (.tp [7, 8]) (.idx (.var 1) (.var 6))) (.seq (.aug 6 .add (.con (.int 1))) .nil))) (.seq (.exp (.call 4 (.cons (.aB 3) (.cons (.var 7) (.cons (.bi .min (.cons (.var 8) (.cons (.var 4) .nil))) .nil))))) (.seq (.aug 4 .sub (.bi .min (.cons (.var 8) (.cons (.var 4) .nil)))) .nil)))
def B_merged : IS := (.seq (.asg (.nm 3) (.lstE .nil)) (.seq (.asg (.nm 4) (.var 2)) (.seq (.asgs [5, 6] (.con (.int 0))) (.seq (.whl (.and (.cmp .gt (.var 4) (.con (.int 0))) (.or (.cmp .lt (.var 5) (.bi .len (.cons (.var 0) .nil))) (.cmp .lt (.var 6) (.bi .len (.cons (.var 1) .nil))))) (.seq (.ite (.or (.cmp .eq (.var 6) (.bi .len (.cons (.var 1) .nil))) (.and (.cmp .lt (.var 5) (.bi .len (.cons (.var 0) .nil))) (.cmp .le (.idx (.idx (.var 0) (.var 5)) (.con (.int 0))) (.idx (.idx (.var 1) (.var 6)) (.con (.int 0)))))) (.seq (.asg (.tp [7, 8]) (.idx (.var 0) (.var 5))) (.seq (.aug 5 .add (.con (.int 1))) .nil)) (.seq (.asg (.tp [7, 8]) (.idx (.var 1) (.var 6))) (.seq (.aug 6 .add (.con (.int 1))) .nil))) (.seq (.exp (.call 4 (.cons (.aB 3) (.cons (.var 7) (.cons (.bi .min (.cons (.var 8) (.cons (.var 4) .nil))) .nil))))) (.seq (.aug 4 .sub (.bi .min (.cons (.var 8) (.cons (.var 4) .nil)))) .nil)))) (.seq (.ret (.var 3)) .nil)))))
theorem B_merged_eq : B_merged = (.seq (.asg (.nm 3) (.lstE .nil)) (.seq (.asg (.nm 4) (.var 2)) (.seq (.asgs [5, 6] (.con (.int 0))) (.seq (.whl mTest mBody) (.seq (.ret (.var 3)) .nil))))) := rfl
theorem turn_m1 {c : Oracle} {W : Nat} {A B R : List (Int × Int)} {most left : Int} {i j : Nat} {x7 x8 : Option D} (h9 : (x7 = none ∧ x8 = none) ∨ ∃ a b, x7 = some (.int a) ∧ x8 = some (.int b)) (hi : i < A.length) (hR : R.length < sizeLine)
    (hc : ∀ l s m, l.length < sizeLine → c 4 [.brw (eR l), .int s, .int m] = .ok .non [some (.brw (eR (putRun l s m))), some (.int s), some (.int m)])
    (hcase : j = B.length ∨ (∃ h : j < B.length, A[i].1 ≤ B[j].1)) :
    ex c W mBody [some (eR A), some (eR B), some (.int most), some (.own (eR R)), some (.int left), some (.int (i : Int)), some (.int (j : Int)), x7, x8] =
      .nx [some (eR A), some (eR B), some (.int most), some (.own (eR (putRun R A[i].1 (min A[i].2 left)))), some (.int (left - min A[i].2 left)), some (.int ((i : Int) + 1)), some (.int (j : Int)), some (.int A[i].1), some (.int A[i].2)] := by
  have g1 : A[i]? = some A[i] := List.getElem?_eq_getElem hi
  have hc' := hc R A[i].1 (min A[i].2 left) hR
  unfold mBody
  rcases hcase with h | ⟨h, hle⟩
  · rcases h9 with ⟨rfl, rfl⟩ | ⟨b, d, rfl, rfl⟩ <;> simp [eR] at hc' ⊢ <;> simp [h, hi, pD, hc', eR]
  · have hn : ¬ (j : Int) = (B.length : Int) := by omega
    have g2 : B[j]? = some B[j] := List.getElem?_eq_getElem h
    rcases h9 with ⟨rfl, rfl⟩ | ⟨b, d, rfl, rfl⟩ <;> simp [eR] at hc' ⊢ <;> simp [h, hi, hn, hle, pD, hc', eR]
theorem turn_m2 {c : Oracle} {W : Nat} {A B R : List (Int × Int)} {most left : Int} {i j : Nat} {x7 x8 : Option D} (h9 : (x7 = none ∧ x8 = none) ∨ ∃ a b, x7 = some (.int a) ∧ x8 = some (.int b)) (hj : j < B.length) (hR : R.length < sizeLine)
    (hc : ∀ l s m, l.length < sizeLine → c 4 [.brw (eR l), .int s, .int m] = .ok .non [some (.brw (eR (putRun l s m))), some (.int s), some (.int m)])
    (hcase : ∀ h : i < A.length, ¬ A[i].1 ≤ B[j].1) :
    ex c W mBody [some (eR A), some (eR B), some (.int most), some (.own (eR R)), some (.int left), some (.int (i : Int)), some (.int (j : Int)), x7, x8] =
      .nx [some (eR A), some (eR B), some (.int most), some (.own (eR (putRun R B[j].1 (min B[j].2 left)))), some (.int (left - min B[j].2 left)), some (.int (i : Int)), some (.int ((j : Int) + 1)), some (.int B[j].1), some (.int B[j].2)] := by
  have g1 : B[j]? = some B[j] := List.getElem?_eq_getElem hj
  have hc' := hc R B[j].1 (min B[j].2 left) hR
  have hn : ¬ (j : Int) = (B.length : Int) := by omega
  unfold mBody
  by_cases hi : i < A.length
  · have g2 : A[i]? = some A[i] := List.getElem?_eq_getElem hi
    have hle := hcase hi
    rcases h9 with ⟨rfl, rfl⟩ | ⟨b, d, rfl, rfl⟩ <;> simp [eR] at hc' ⊢ <;> simp [hj, hi, hn, hle, pD, hc', eR]
  · rcases h9 with ⟨rfl, rfl⟩ | ⟨b, d, rfl, rfl⟩ <;> simp [eR] at hc' ⊢ <;> simp [hj, hi, hn, pD, hc', eR]
theorem test_m {c : Oracle} {A B : List (Int × Int)} {x2 x3 : Option D} {left : Int} {i j : Nat} {xs : Env} : ev c mTest .t (some (eR A) :: some (eR B) :: x2 :: x3 :: some (.int left) :: some (.int (i : Int)) :: some (.int (j : Int)) :: xs) = .ok (.bl (decide (0 < left ∧ (i < A.length ∨ j < B.length)))) (some (eR A) :: some (eR B) :: x2 :: x3 :: some (.int left) :: some (.int (i : Int)) :: some (.int (j : Int)) :: xs) := by
  unfold mTest
  by_cases h : 0 < left
  · by_cases h1 : i < A.length
    · simp [eR, h, h1]
    · by_cases h2 : j < B.length <;> simp [eR, h, h1, h2]
  · simp [eR, h]
end Q9

set_option Elab.async false
set_option linter.all false
set_option maxRecDepth 100000
namespace Q9
open PySem PySem.Spec L2
theorem merged_ex {c : Oracle} {W : Nat} {A B : List (Int × Int)} {most : Int}
    (hc : ∀ l s m, l.length < sizeLine → c 4 [.brw (eR l), .int s, .int m] = .ok .non [some (.brw (eR (putRun l s m))), some (.int s), some (.int m)])
    (hA : WF A) (hB : WF B) (hm : 0 ≤ most) (hW : most.toNat < W) (hb : most.toNat ≤ sizeLine) :
    ∃ R e, WF R ∧ Ex R = (mrg (Ex A) (Ex B)).take most.toNat ∧ ex c W B_merged [some (eR A), some (eR B), some (.int most), none, none, none, none, none, none] = .ret (eR R) e ∧ e.length = 9 ∧ e.take 3 = [some (eR A), some (eR B), some (.int most)] := by
  have key := wloop_inv (test := fun e => ev c mTest .t e) (body := fun e => ex c W mBody e)
    (fun n e => ∃ R i j x7 x8, e = [some (eR A), some (eR B), some (.int most), some (.own (eR R)), some (.int ((n : Nat) : Int)), some (.int ((i : Nat) : Int)), some (.int ((j : Nat) : Int)), x7, x8] ∧ ((x7 = none ∧ x8 = none) ∨ ∃ a b, x7 = some (.int a) ∧ x8 = some (.int b)) ∧ MI A B most.toNat R n i j)
    (fun f => ∃ R x4 x5 x6 x7 x8, WF R ∧ Ex R = (mrg (Ex A) (Ex B)).take most.toNat ∧ f = .nx [some (eR A), some (eR B), some (.int most), some (.own (eR R)), x4, x5, x6, x7, x8])
    (by
      rintro n e ⟨R, i, j, x7, x8, rfl, hx, w⟩
      by_cases hl : 0 < (n : Int) ∧ (i < A.length ∨ j < B.length)
      · right
        refine ⟨_, by rw [test_m, decide_eq_true hl], .inl ?_⟩
        have hsz : R.length < sizeLine := by have := len_Ex w.wf; have := w.len; omega
        by_cases hca : ∃ hi : i < A.length, j = B.length ∨ (∃ h : j < B.length, A[i].1 ≤ B[j].1)
        · obtain ⟨hi, hca⟩ := hca
          have hp := hA _ (List.getElem_mem hi)
          have q1 := turn_m1 (W := W) (most := most) (left := (n : Int)) hx hi hsz hc hca
          have q2 := merge_a hA hB w hi (by
            intro q hq
            rcases hca with h | ⟨h, hle⟩
            · have := (List.getElem?_eq_some_iff.mp hq).1; omega
            · rw [List.getElem?_eq_getElem h] at hq; cases hq; exact hle)
          refine ⟨_, n - min A[i].2.toNat n, by omega, q1, _, i + 1, j, some (.int A[i].1), some (.int A[i].2), ?_, .inr ⟨_, _, rfl, rfl⟩, q2⟩
          rw [show ((n - min A[i].2.toNat n : Nat) : Int) = (n : Int) - min A[i].2 (n : Int) by omega]
          rfl
        · have hj : j < B.length := by
            rcases hl.2 with h | h
            · by_cases hj : j < B.length
              · exact hj
              · by_cases e : j = B.length
                · exact absurd ⟨h, .inl e⟩ hca
                · exact absurd w.le (by omega)
            · exact h
          have hp := hB _ (List.getElem_mem hj)
          have hcb : ∀ h : i < A.length, ¬ A[i].1 ≤ B[j].1 := fun h hle => hca ⟨h, .inr ⟨hj, hle⟩⟩
          have q1 := turn_m2 (W := W) (most := most) (left := (n : Int)) hx hj hsz hc hcb
          have q2 := merge_b hA hB w hj (by
            intro q hq
            obtain ⟨h, e⟩ := List.getElem?_eq_some_iff.mp hq
            rw [← e]; exact hcb h)
          refine ⟨_, n - min B[j].2.toNat n, by omega, q1, _, i, j + 1, some (.int B[j].1), some (.int B[j].2), ?_, .inr ⟨_, _, rfl, rfl⟩, q2⟩
          rw [show ((n - min B[j].2.toNat n : Nat) : Int) = (n : Int) - min B[j].2 (n : Int) by omega]
          rfl
      · left
        refine ⟨_, by rw [test_m, decide_eq_false hl], R, _, _, _, _, _, w.wf, merge_end w ?_, rfl⟩
        by_cases h : n = 0
        · exact .inl h
        · right
          have : ¬ (i < A.length ∨ j < B.length) := fun h' => hl ⟨by omega, h'⟩
          omega)
    W most.toNat [some (eR A), some (eR B), some (.int most), some (.own (eR [])), some (.int ((most.toNat : Nat) : Int)), some (.int ((0 : Nat) : Int)), some (.int ((0 : Nat) : Int)), none, none] hW
    ⟨[], 0, 0, none, none, rfl, .inl ⟨rfl, rfl⟩, ⟨rfl, (fun p hp => nomatch hp), by rw [Ex_nil]; simp, Nat.zero_le _⟩⟩
  obtain ⟨R, x4, x5, x6, x7, x8, hR, hE, h⟩ := key
  rw [B_merged_eq]
  have st : ∀ b, ex c W (.seq (.asg (.nm 3) (.lstE .nil)) (.seq (.asg (.nm 4) (.var 2)) (.seq (.asgs [5, 6] (.con (.int 0))) b))) [some (eR A), some (eR B), some (.int most), none, none, none, none, none, none] = ex c W b [some (eR A), some (eR B), some (.int most), some (.own (eR [])), some (.int ((most.toNat : Nat) : Int)), some (.int ((0 : Nat) : Int)), some (.int ((0 : Nat) : Int)), none, none] := by
    intro b
    rw [Int.toNat_of_nonneg hm]
    simp [eR]
  rw [st, ex_seq, ex_whl, h, then_nx]
  exact ⟨R, [some (eR A), some (eR B), some (.int most), some (eR R), x4, x5, x6, x7, x8], hR, hE, by simp [eR], rfl, rfl⟩
/-- a loop over items -/
theorem floop_inv {bnd : Env → D → Option Env} {body : Env → Fl} (I : List D → Env → Prop) : ∀ (rest done : List D) (e : Env), I done e →
    (∀ done' d rest' e, done ++ rest = done' ++ d :: rest' → I done' e → ∃ e1 e2, bnd e d = some e1 ∧ body e1 = .nx e2 ∧ I (done' ++ [d]) e2) → ∃ e', floop bnd body rest e = .nx e' ∧ I (done ++ rest) e'
  | [], done, e, hi, _ => ⟨e, rfl, by rw [List.append_nil]; exact hi⟩
  | d :: rest, done, e, hi, h => by
    obtain ⟨e1, e2, h1, h2, h3⟩ := h done d rest e rfl hi
    obtain ⟨e', h4, h5⟩ := floop_inv I rest (done ++ [d]) e2 h3 (fun done' d' rest' e q => h done' d' rest' e (by rw [← q]; simp))
    refine ⟨e', ?_, by have := h5; simpa using this⟩
    show (match (generalizing := false) bnd e d with
      | none => Fl.stk
      | some e1 => match body e1 with
        | .nx e2 => floop bnd body rest e2
        | .ct e2 => floop bnd body rest e2
        | .brk e2 => .nx e2
        | r => r) = _
    rw [h1]
    show (match body e1 with
        | .nx e2 => floop bnd body rest e2
        | .ct e2 => floop bnd body rest e2
        | .brk e2 => .nx e2
        | r => r) = _
    rw [h2]
    exact h4
end Q9

set_option Elab.async false
set_option linter.all false
set_option maxRecDepth 100000
namespace Q9
open PySem PySem.Spec L2
def cBody : IS := (.seq (.asg (.nm 7) (.bi .max (.cons (.var 1) (.cons (.bin .add (.var 4) (.con (.int 1))) .nil)))) (.seq (.asg (.nm 8) (.bi .min (.cons (.var 2) (.cons (.bin .add (.var 4) (.var 6)) .nil)))) (.seq (.ite (.cmp .le (.var 7) (.var 8)) (.seq (.aug 3 .add (.bin .mul (.lstE (.cons (.var 5) .nil)) (.bin .add (.bin .sub (.var 8) (.var 7)) (.con (.int 1))))) .nil) .nil) (.seq (.aug 4 .add (.var 6)) .nil))))
def B_cut_runs : IS := (.seq (.asg (.nm 3) (.lstE .nil)) (.seq (.asg (.nm 4) (.con (.int 0))) (.seq (.for (.tp [5, 6]) (.var 0) (.seq (.asg (.nm 7) (.bi .max (.cons (.var 1) (.cons (.bin .add (.var 4) (.con (.int 1))) .nil)))) (.seq (.asg (.nm 8) (.bi .min (.cons (.var 2) (.cons (.bin .add (.var 4) (.var 6)) .nil)))) (.seq (.ite (.cmp .le (.var 7) (.var 8)) (.seq (.aug 3 .add (.bin .mul (.lstE (.cons (.var 5) .nil)) (.bin .add (.bin .sub (.var 8) (.var 7)) (.con (.int 1))))) .nil) .nil) (.seq (.aug 4 .add (.var 6)) .nil))))) (.seq (.ret (.var 3)) .nil))))
theorem B_cut_runs_eq : B_cut_runs = (.seq (.asg (.nm 3) (.lstE .nil)) (.seq (.asg (.nm 4) (.con (.int 0))) (.seq (.for (.tp [5, 6]) (.var 0) cBody) (.seq (.ret (.var 3)) .nil)))) := rfl
def cutE (E : List Int) (first last : Int) : List Int := (E.take last.toNat).drop (first.toNat - 1)
theorem cut_app {E : List Int} {s m first last : Int} (h1 : 1 ≤ first) (hm : 0 ≤ m) :
    cutE (E ++ List.replicate m.toNat s) first last = cutE E first last ++ (if max first ((E.length : Int) + 1) ≤ min last ((E.length : Int) + m) then List.replicate (min last ((E.length : Int) + m) - max first ((E.length : Int) + 1) + 1).toNat s else []) := by
  unfold cutE
  rw [List.take_append, List.drop_append, List.take_replicate, List.drop_replicate, List.length_take]
  congr 1
  by_cases hle : max first ((E.length : Int) + 1) ≤ min last ((E.length : Int) + m)
  · rw [if_pos hle]
    congr 1
    omega
  · rw [if_neg hle]
    rw [show min (last.toNat - E.length) m.toNat - (first.toNat - 1 - min last.toNat E.length) = 0 by omega]
    rfl
theorem flat_one {x : D} {n : Nat} : (List.replicate n [x]).flatten = List.replicate n x := by
  induction n with
  | zero => rfl
  | succ n ih => rw [List.replicate_succ, List.flatten_cons, ih]; rfl
def CFree (x y z w : Option D) : Prop := (x = none ∨ ∃ i, x = some (.int i)) ∧ (y = none ∨ ∃ i, y = some (.int i)) ∧ (z = none ∨ ∃ i, z = some (.int i)) ∧ (w = none ∨ ∃ i, w = some (.int i))
theorem turn_cut {c : Oracle} {W : Nat} {x0 : Option D} {E : List Int} {first last s m b : Int} {x7 x8 : Option D} (h7 : x7 = none ∨ ∃ i, x7 = some (.int i)) (h8 : x8 = none ∨ ∃ i, x8 = some (.int i)) (hs : E.length + (min last (b + m) - max first (b + 1) + 1).toNat ≤ sizeLine) :
    ex c W cBody [x0, some (.int first), some (.int last), some (.own (.lst (E.map .int))), some (.int b), some (.int s), some (.int m), x7, x8] =
      .nx [x0, some (.int first), some (.int last), some (.own (.lst ((E ++ (if max first (b + 1) ≤ min last (b + m) then List.replicate (min last (b + m) - max first (b + 1) + 1).toNat s else [])).map .int))), some (.int (b + m)), some (.int s), some (.int m), some (.int (max first (b + 1))), some (.int (min last (b + m)))] := by
  have h1 : 1 ≤ sizeLine := by rw [sizeLine_eq]; omega
  unfold cBody
  by_cases hle : max first (b + 1) ≤ min last (b + m)
  · rw [if_pos hle]
    have a1 : 0 ≤ min last (b + m) - max first (b + 1) + 1 := by omega
    have a2 : min last (b + m) - max first (b + 1) + 1 ≤ (sizeLine : Int) := by omega
    have a3 : (min last (b + m) - max first (b + 1) + 1).toNat ≤ sizeLine := by omega
    rcases h7 with rfl | ⟨i7, rfl⟩ <;> rcases h8 with rfl | ⟨i8, rfl⟩ <;> simp only [← flat_one, List.map_append, List.map_replicate] <;> simp [hle, h1, a1, a2, a3, hs, flat_one]
  · rw [if_neg hle]
    rcases h7 with rfl | ⟨i7, rfl⟩ <;> rcases h8 with rfl | ⟨i8, rfl⟩ <;> simp [hle]
end Q9

set_option Elab.async false
set_option linter.all false
set_option maxRecDepth 100000
namespace Q9
open PySem PySem.Spec L2
theorem cutE_len {E : List Int} {first last : Int} : (cutE E first last).length = min last.toNat E.length - (first.toNat - 1) := by
  unfold cutE; rw [List.length_drop, List.length_take]
theorem cut_ex {c : Oracle} {W : Nat} {L : List (Int × Int)} {first last : Int} (hw : WF L) (h1 : 1 ≤ first) (hb : last.toNat ≤ sizeLine) :
    ∃ e, ex c W B_cut_runs [some (eR L), some (.int first), some (.int last), none, none, none, none, none, none] = .ret (.lst ((cutE (Ex L) first last).map .int)) e ∧ e.length = 9 ∧ e.take 3 = [some (eR L), some (.int first), some (.int last)] := by
  obtain ⟨e', h, l, hl, x5, x6, x7, x8, rfl, _⟩ := floop_inv (bnd := fun e d => bindT e (.tp [5, 6]) d) (body := fun e => ex c W cBody e)
    (fun done e => ∃ l, done = l.map pD ∧ ∃ x5 x6 x7 x8, e = [some (eR L), some (.int first), some (.int last), some (.own (.lst ((cutE (Ex l) first last).map .int))), some (.int ((Ex l).length : Int)), x5, x6, x7, x8] ∧ CFree x5 x6 x7 x8)
    (L.map pD) [] [some (eR L), some (.int first), some (.int last), some (.own (.lst [])), some (.int 0), none, none, none, none]
    ⟨[], rfl, none, none, none, none, by simp [cutE, Ex_nil], .inl rfl, .inl rfl, .inl rfl, .inl rfl⟩
    (by
      rintro done d rest e hd ⟨l, rfl, x5, x6, x7, x8, rfl, g5, g6, g7, g8⟩
      rw [List.nil_append] at hd
      obtain ⟨l2, l3, rfl, e2, e3⟩ := List.map_eq_append_iff.mp hd
      have : l2 = l := by
        have inj : ∀ p q, pD p = pD q → p = q := by
          intro p q h
          unfold pD at h
          injection h with h
          injection h with h1 h2
          injection h1 with h1
          injection h2 with h2 _
          injection h2 with h2
          exact Prod.ext h1 h2
        exact (List.map_inj_right (f := pD) (fun p q => inj p q)).mp e2
      subst this
      cases l3 with
      | nil => cases e3
      | cons q l3 =>
        rw [List.map_cons] at e3
        injection e3 with e3 _
        subst e3
        have hq : 0 < q.2 := hw q (by simp)
        have hE : Ex (l2 ++ [q]) = Ex l2 ++ List.replicate q.2.toNat q.1 := by rw [Ex_app, Ex_cons, Ex_nil, List.append_nil]
        have hc := cut_app (E := Ex l2) (s := q.1) (m := q.2) (first := first) (last := last) h1 (by omega)
        have hlen : (cutE (Ex l2) first last).length + (min last (((Ex l2).length : Int) + q.2) - max first (((Ex l2).length : Int) + 1) + 1).toNat ≤ sizeLine := by
          rw [cutE_len]; omega
        refine ⟨[some (eR (l2 ++ q :: l3)), some (.int first), some (.int last), some (.own (.lst ((cutE (Ex l2) first last).map .int))), some (.int ((Ex l2).length : Int)), some (.int q.1), some (.int q.2), x7, x8], _, ?_, turn_cut g7 g8 hlen, l2 ++ [q], by simp, some (.int q.1), some (.int q.2), some (.int (max first (((Ex l2).length : Int) + 1))), some (.int (min last (((Ex l2).length : Int) + q.2))), ?_, .inr ⟨_, rfl⟩, .inr ⟨_, rfl⟩, .inr ⟨_, rfl⟩, .inr ⟨_, rfl⟩⟩
        · rcases g5 with rfl | ⟨i5, rfl⟩ <;> rcases g6 with rfl | ⟨i6, rfl⟩ <;> simp [pD]
        · rw [hE, hc, List.length_append, List.length_replicate, show ((((Ex l2).length + q.2.toNat : Nat)) : Int) = (Ex l2).length + q.2 by omega])
  rw [List.nil_append] at hl
  have hlL : l = L := by
    have inj : ∀ p q, pD p = pD q → p = q := by
      intro p q h
      unfold pD at h
      injection h with h
      injection h with h1 h2
      injection h1 with h1
      injection h2 with h2 _
      injection h2 with h2
      exact Prod.ext h1 h2
    exact ((List.map_inj_right (f := pD) (fun p q => inj p q)).mp hl).symm
  subst hlL
  rw [B_cut_runs_eq]
  refine ⟨[some (eR l), some (.int first), some (.int last), some (.lst ((cutE (Ex l) first last).map .int)), some (.int ((Ex l).length : Int)), x5, x6, x7, x8], ?_, rfl, rfl⟩
  have st : ∀ b, ex c W (.seq (.asg (.nm 3) (.lstE .nil)) (.seq (.asg (.nm 4) (.con (.int 0))) b)) [some (eR l), some (.int first), some (.int last), none, none, none, none, none, none] = ex c W b [some (eR l), some (.int first), some (.int last), some (.own (.lst [])), some (.int 0), none, none, none, none] := by
    intro b; simp
  rw [st, ex_seq, ex_for]
  have hv : ev c (.var 0) .v [some (eR l), some (.int first), some (.int last), some (.own (.lst [])), some (.int 0), none, none, none, none] = .ok (.lst (l.map pD)) [some (eR l), some (.int first), some (.int last), some (.own (.lst [])), some (.int 0), none, none, none, none] := by simp [eR]
  rw [hv, fl_ok, un_lst, items_lst]
  show (floop _ _ _ _).then _ = _
  rw [h, then_nx]
  simp
end Q9

set_option Elab.async false
set_option linter.all false
set_option maxRecDepth 100000
namespace Q9
open PySem PySem.Spec L2
theorem ev_rng1 {c : Oracle} {a : IE} {m : Md} {e : Env} : ev c (.rng1 a) m e = (ev c a .p e).bind fun x e1 => match x with
    | .int b => if rngOk 0 b then .ok (.lst (rngL 0 b.toNat)) e1 else .stk
    | _ => .stk := rfl
theorem rng_ok {n : Int} (h : n < 2 ^ 62) (h' : 0 ≤ n) : rngOk 0 n = true := decide_eq_true (by omega)
theorem ev_rngN {c : Oracle} {a : IE} {m : Md} {e e1 : Env} {n : Nat} (h : ev c a .p e = .ok (.int (n : Int)) e1) (hn : n < 1000) : ev c (.rng1 a) m e = .ok (.lst (rngL 0 n)) e1 := by
  rw [ev_rng1, h, bind_ok']
  show (if rngOk 0 (n : Int) = true then _ else _) = _
  rw [if_pos (rng_ok (by omega) (by omega)), Int.toNat_natCast]
theorem rngL_len {lo : Int} {n : Nat} : (rngL lo n).length = n := by unfold rngL; simp
theorem rngL_get {lo : Int} {n j : Nat} (h : j < n) : (rngL lo n)[j]? = some (.int (lo + (j : Int))) := by
  unfold rngL
  rw [List.getElem?_map, List.getElem?_range h]; rfl
theorem frange_inv {bnd : Env → D → Option Env} {body : Env → Fl} (I : Nat → Env → Prop) {lo : Int} {n : Nat} {e : Env} (h0 : I 0 e)
    (hs : ∀ j e, j < n → I j e → ∃ e1 e2, bnd e (.int (lo + (j : Int))) = some e1 ∧ body e1 = .nx e2 ∧ I (j + 1) e2) : ∃ e', floop bnd body (rngL lo n) e = .nx e' ∧ I n e' := by
  obtain ⟨e', h1, h2⟩ := floop_inv (bnd := bnd) (body := body) (fun done e => I done.length e) (rngL lo n) [] e h0 (by
    intro done d rest e hd hi
    rw [List.nil_append] at hd
    have hl := congrArg List.length hd
    rw [rngL_len, List.length_append, List.length_cons] at hl
    have hlt : done.length < n := by omega
    have hg := rngL_get (lo := lo) hlt
    rw [hd] at hg
    simp at hg
    subst hg
    obtain ⟨e1, e2, q1, q2, q3⟩ := hs done.length e hlt hi
    exact ⟨e1, e2, q1, q2, by rw [List.length_append]; exact q3⟩)
  refine ⟨e', h1, ?_⟩
  have h2 : I ([] ++ rngL lo n).length e' := h2
  rw [List.nil_append, rngL_len] at h2
  exact h2
/-! ## rows -/
def row (M : Nat) : Nat → List Int
  | 0 => [1]
  | n + 1 => gen (row M n) M
def rowLow (M : Nat) : Nat → List Int
  | 0 => []
  | n + 1 => row M n
def vis (M : Nat) : Nat → List Int
  | 0 => [1]
  | n + 1 => (mrg (row M (n + 1)) (vis M n)).take M
def visLow (M : Nat) : Nat → List Int
  | 0 => []
  | n + 1 => vis M n
theorem giter_pos {L : List Int} (h : ∀ x ∈ L, 0 < x) : ∀ k, ∀ x ∈ (giter L k).R, 0 < x
  | 0, x, hx => by cases hx
  | k + 1, x, hx => by
    have ih := giter_pos h k
    have hx : x ∈ (gstep L (giter L k)).R := hx
    rcases gstep_cases L (giter L k) with ⟨a, q1, q2, _⟩ | ⟨r, l, q1, q2, q3, _⟩ | ⟨_, _, q⟩
    · rw [q2] at hx
      rcases List.mem_append.mp hx with hx | hx
      · exact ih x hx
      · have : x = a := by simpa using hx
        rw [this]; exact h a (List.mem_of_getElem? q1)
    · rw [q3] at hx
      rcases List.mem_append.mp hx with hx | hx
      · exact ih x hx
      · have : x = r + l := by simpa using hx
        have h1 := ih r (List.mem_of_getElem? q1)
        have h2 := h l (List.mem_of_getElem? q2)
        omega
    · rw [q] at hx; exact ih x hx
theorem row_ok (M : Nat) : ∀ n, (row M n).Pairwise (· ≤ ·) ∧ ∀ x ∈ row M n, 0 < x
  | 0 => ⟨by simp [row], fun x hx => by have : x = 1 := by simpa [row] using hx
                                        omega⟩
  | n + 1 => ⟨(gi_iter (row_ok M n).1 (fun x hx => Int.le_of_lt ((row_ok M n).2 x hx)) M).sorted, giter_pos (row_ok M n).2 M⟩
/-- a slot that holds a list, its own or frozen -/
def Hld (x : Option D) (l : List (Int × Int)) : Prop := x = some (.own (eR l)) ∨ x = some (eR l)
def Jnk (x : Option D) : Prop := x = none ∨ ∃ i, x = some (.int i)
def pBody : IS := (.seq (.par [2, 3] (.cons (.var 3) (.cons (.call 5 (.cons (.var 3) (.cons (.var 1) .nil))) .nil))) .nil)
def B_row_pair : IS := (.seq (.asg (.nm 2) (.lstE .nil)) (.seq (.asg (.nm 3) (.lstE (.cons (.tupE (.cons (.con (.int 1)) (.cons (.con (.int 1)) .nil))) .nil))) (.seq (.for (.nm 4) (.rng1 (.bin .sub (.var 0) (.con (.int 1)))) (.seq (.par [2, 3] (.cons (.var 3) (.cons (.call 5 (.cons (.var 3) (.cons (.var 1) .nil))) .nil))) .nil)) (.seq (.ret (.tupE (.cons (.var 2) (.cons (.var 3) .nil)))) .nil))))
theorem B_row_pair_eq : B_row_pair = (.seq (.asg (.nm 2) (.lstE .nil)) (.seq (.asg (.nm 3) (.lstE (.cons (.tupE (.cons (.con (.int 1)) (.cons (.con (.int 1)) .nil))) .nil))) (.seq (.for (.nm 4) (.rng1 (.bin .sub (.var 0) (.con (.int 1)))) pBody) (.seq (.ret (.tupE (.cons (.var 2) (.cons (.var 3) .nil)))) .nil)))) := rfl
def tBody : IS := (.seq (.asg (.nm 2) (.call 5 (.cons (.var 2) (.cons (.var 1) .nil)))) (.seq (.par [3, 4] (.cons (.var 4) (.cons (.call 8 (.cons (.var 2) (.cons (.var 4) (.cons (.var 1) .nil)))) .nil))) .nil))
def B_visit_trio : IS := (.seq (.asg (.nm 2) (.lstE (.cons (.tupE (.cons (.con (.int 1)) (.cons (.con (.int 1)) .nil))) .nil))) (.seq (.asg (.nm 3) (.lstE .nil)) (.seq (.asg (.nm 4) (.lstE (.cons (.tupE (.cons (.con (.int 1)) (.cons (.con (.int 1)) .nil))) .nil))) (.seq (.for (.nm 5) (.rng1 (.bin .sub (.var 0) (.con (.int 1)))) (.seq (.asg (.nm 2) (.call 5 (.cons (.var 2) (.cons (.var 1) .nil)))) (.seq (.par [3, 4] (.cons (.var 4) (.cons (.call 8 (.cons (.var 2) (.cons (.var 4) (.cons (.var 1) .nil)))) .nil))) .nil))) (.seq (.ret (.tupE (.cons (.var 2) (.cons (.var 3) (.cons (.var 4) .nil))))) .nil)))))
theorem B_visit_trio_eq : B_visit_trio = (.seq (.asg (.nm 2) (.lstE (.cons (.tupE (.cons (.con (.int 1)) (.cons (.con (.int 1)) .nil))) .nil))) (.seq (.asg (.nm 3) (.lstE .nil)) (.seq (.asg (.nm 4) (.lstE (.cons (.tupE (.cons (.con (.int 1)) (.cons (.con (.int 1)) .nil))) .nil))) (.seq (.for (.nm 5) (.rng1 (.bin .sub (.var 0) (.con (.int 1)))) tBody) (.seq (.ret (.tupE (.cons (.var 2) (.cons (.var 3) (.cons (.var 4) .nil))))) .nil))))) := rfl
theorem turn_p {c : Oracle} {W : Nat} {x0 x2 x3 x4 : Option D} {most : Int} {L lo R : List (Int × Int)} (h2 : Hld x2 lo) (h3 : Hld x3 L) (hc : c 5 [eR L, .int most] = .ok (eR R) [some (eR L), some (.int most)]) :
    ex c W pBody [x0, some (.int most), x2, x3, x4] = .nx [x0, some (.int most), some (eR L), some (eR R), x4] := by
  unfold pBody
  rcases h2 with rfl | rfl <;> rcases h3 with rfl | rfl <;> simp [eR] at hc ⊢ <;> simp [hc]
theorem pair_ex {c : Oracle} {W : Nat} {most : Int} {n : Nat} (hn : n < 1000)
    (hc : ∀ L, WF L → (Ex L).Pairwise (· ≤ ·) → (∀ x ∈ Ex L, 0 < x) → ∃ R, WF R ∧ Ex R = gen (Ex L) most.toNat ∧ c 5 [eR L, .int most] = .ok (eR R) [some (eR L), some (.int most)]) :
    ∃ lo R e, WF lo ∧ Ex lo = rowLow most.toNat n ∧ WF R ∧ Ex R = row most.toNat n ∧ ex c W B_row_pair [some (.int ((n : Int) + 1)), some (.int most), none, none, none] = .ret (.tup [eR lo, eR R]) e ∧ e.length = 5 ∧ e.take 2 = [some (.int ((n : Int) + 1)), some (.int most)] := by
  have h2 : 2 ≤ sizeLine := by rw [sizeLine_eq]; omega
  have h1 : 1 ≤ sizeLine := by omega
  obtain ⟨e', h, lo, R, x2, x3, x4, rfl, g2, g3, g4, w1, w2, w3, w4⟩ := frange_inv (bnd := fun e d => bindT e (.nm 4) d) (body := fun e => ex c W pBody e) (lo := 0) (n := n)
    (fun j e => ∃ lo R x2 x3 x4, e = [some (.int ((n : Int) + 1)), some (.int most), x2, x3, x4] ∧ Hld x2 lo ∧ Hld x3 R ∧ Jnk x4 ∧ WF lo ∧ Ex lo = rowLow most.toNat j ∧ WF R ∧ Ex R = row most.toNat j)
    (e := [some (.int ((n : Int) + 1)), some (.int most), some (.own (eR [])), some (.own (eR [(1, 1)])), none])
    ⟨[], [(1, 1)], _, _, _, rfl, .inl rfl, .inl rfl, .inl rfl, (fun p hp => nomatch hp), rfl, (fun p hp => by have : p = (1, 1) := by simpa using hp
                                                                                                              subst this; decide), rfl⟩
    (by
      rintro j e hj ⟨lo, R, x2, x3, x4, rfl, g2, g3, g4, w1, w2, w3, w4⟩
      obtain ⟨R', q1, q2, q3⟩ := hc R w3 (by rw [w4]; exact (row_ok _ j).1) (by rw [w4]; exact (row_ok _ j).2)
      refine ⟨[some (.int ((n : Int) + 1)), some (.int most), x2, x3, some (.int (0 + (j : Int)))], _, ?_, turn_p g2 g3 q3, R, R', _, _, _, rfl, .inr rfl, .inr rfl, .inr ⟨_, rfl⟩, w3, w4, q1, by rw [q2, w4]; rfl⟩
      rcases g4 with rfl | ⟨i, rfl⟩ <;> simp)
  rw [B_row_pair_eq]
  refine ⟨lo, R, [some (.int ((n : Int) + 1)), some (.int most), some (eR lo), some (eR R), x4], w1, w2, w3, w4, ?_, rfl, rfl⟩
  have st : ∀ b, ex c W (.seq (.asg (.nm 2) (.lstE .nil)) (.seq (.asg (.nm 3) (.lstE (.cons (.tupE (.cons (.con (.int 1)) (.cons (.con (.int 1)) .nil))) .nil))) b)) [some (.int ((n : Int) + 1)), some (.int most), none, none, none] = ex c W b [some (.int ((n : Int) + 1)), some (.int most), some (.own (eR [])), some (.own (eR [(1, 1)])), none] := by
    intro b; simp [eR, pD, h1, h2]
  rw [st, ex_seq, ex_for]
  have hv : ev c (.rng1 (.bin .sub (.var 0) (.con (.int 1)))) .v [some (.int ((n : Int) + 1)), some (.int most), some (.own (eR [])), some (.own (eR [(1, 1)])), none] = .ok (.lst (rngL 0 n)) [some (.int ((n : Int) + 1)), some (.int most), some (.own (eR [])), some (.own (eR [(1, 1)])), none] := by
    refine ev_rngN ?_ hn
    simp
  rw [hv, fl_ok, un_lst, items_lst]
  show (floop _ _ _ _).then _ = _
  rw [h, then_nx]
  rcases g2 with rfl | rfl <;> rcases g3 with rfl | rfl <;> simp [eR, h2]
end Q9

set_option Elab.async false
set_option linter.all false
set_option maxRecDepth 100000
namespace Q9
open PySem PySem.Spec L2
theorem vis_ok (M : Nat) : ∀ n, (vis M n).Pairwise (· ≤ ·) ∧ ∀ x ∈ vis M n, 0 < x
  | 0 => ⟨by simp [vis], fun x hx => by have : x = 1 := by simpa [vis] using hx
                                        omega⟩
  | n + 1 => by
    refine ⟨(mrg_sorted (row_ok M (n + 1)).1 (vis_ok M n).1).sublist (List.take_sublist ..), fun x hx => ?_⟩
    have hx := mrg_perm.mem_iff.mp (List.mem_of_mem_take hx)
    rcases List.mem_append.mp hx with hx | hx
    · exact (row_ok M (n + 1)).2 x hx
    · exact (vis_ok M n).2 x hx
theorem turn_t {c : Oracle} {W : Nat} {x0 x2 x3 x4 x5 : Option D} {most : Int} {L V lo R S : List (Int × Int)} (h2 : Hld x2 L) (h3 : Hld x3 lo) (h4 : Hld x4 V) (hc : c 5 [eR L, .int most] = .ok (eR R) [some (eR L), some (.int most)]) (hd : c 8 [eR R, eR V, .int most] = .ok (eR S) [some (eR R), some (eR V), some (.int most)]) :
    ex c W tBody [x0, some (.int most), x2, x3, x4, x5] = .nx [x0, some (.int most), some (eR R), some (eR V), some (eR S), x5] := by
  unfold tBody
  rcases h2 with rfl | rfl <;> rcases h3 with rfl | rfl <;> rcases h4 with rfl | rfl <;> simp [eR] at hc hd ⊢ <;> simp [hc, hd]
theorem trio_ex {c : Oracle} {W : Nat} {most : Int} {n : Nat} (hn : n < 1000)
    (hc : ∀ L, WF L → (Ex L).Pairwise (· ≤ ·) → (∀ x ∈ Ex L, 0 < x) → ∃ R, WF R ∧ Ex R = gen (Ex L) most.toNat ∧ c 5 [eR L, .int most] = .ok (eR R) [some (eR L), some (.int most)])
    (hd : ∀ A B, WF A → WF B → ∃ R, WF R ∧ Ex R = (mrg (Ex A) (Ex B)).take most.toNat ∧ c 8 [eR A, eR B, .int most] = .ok (eR R) [some (eR A), some (eR B), some (.int most)]) :
    ∃ R lo V e, WF R ∧ Ex R = row most.toNat n ∧ WF lo ∧ Ex lo = visLow most.toNat n ∧ WF V ∧ Ex V = vis most.toNat n ∧ ex c W B_visit_trio [some (.int ((n : Int) + 1)), some (.int most), none, none, none, none] = .ret (.tup [eR R, eR lo, eR V]) e ∧ e.length = 6 ∧ e.take 2 = [some (.int ((n : Int) + 1)), some (.int most)] := by
  have h2 : 3 ≤ sizeLine := by rw [sizeLine_eq]; omega
  have h2' : 2 ≤ sizeLine := by omega
  have h1 : 1 ≤ sizeLine := by omega
  have w1 : WF [(1, 1)] := fun p hp => by have : p = (1, 1) := by simpa using hp
                                          subst this; decide
  obtain ⟨e', h, R, lo, V, x2, x3, x4, x5, rfl, g2, g3, g4, g5, w1, w2, w3, w4, w5, w6⟩ := frange_inv (bnd := fun e d => bindT e (.nm 5) d) (body := fun e => ex c W tBody e) (lo := 0) (n := n)
    (fun j e => ∃ R lo V x2 x3 x4 x5, e = [some (.int ((n : Int) + 1)), some (.int most), x2, x3, x4, x5] ∧ Hld x2 R ∧ Hld x3 lo ∧ Hld x4 V ∧ Jnk x5 ∧ WF R ∧ Ex R = row most.toNat j ∧ WF lo ∧ Ex lo = visLow most.toNat j ∧ WF V ∧ Ex V = vis most.toNat j)
    (e := [some (.int ((n : Int) + 1)), some (.int most), some (.own (eR [(1, 1)])), some (.own (eR [])), some (.own (eR [(1, 1)])), none])
    ⟨[(1, 1)], [], [(1, 1)], _, _, _, _, rfl, .inl rfl, .inl rfl, .inl rfl, .inl rfl, w1, rfl, (fun p hp => nomatch hp), rfl, w1, rfl⟩
    (by
      rintro j e hj ⟨R, lo, V, x2, x3, x4, x5, rfl, g2, g3, g4, g5, w1, w2, w3, w4, w5, w6⟩
      obtain ⟨R', q1, q2, q3⟩ := hc R w1 (by rw [w2]; exact (row_ok _ j).1) (by rw [w2]; exact (row_ok _ j).2)
      obtain ⟨S, r1, r2, r3⟩ := hd R' V q1 w5
      have q4 : Ex R' = row most.toNat (j + 1) := by rw [q2, w2]; rfl
      refine ⟨[some (.int ((n : Int) + 1)), some (.int most), x2, x3, x4, some (.int (0 + (j : Int)))], _, ?_, turn_t g2 g3 g4 q3 r3, R', V, S, _, _, _, _, rfl, .inr rfl, .inr rfl, .inr rfl, .inr ⟨_, rfl⟩, q1, q4, w5, w6, r1, by rw [r2, q4, w6]; rfl⟩
      rcases g5 with rfl | ⟨i, rfl⟩ <;> simp)
  rw [B_visit_trio_eq]
  refine ⟨R, lo, V, [some (.int ((n : Int) + 1)), some (.int most), some (eR R), some (eR lo), some (eR V), x5], w1, w2, w3, w4, w5, w6, ?_, rfl, rfl⟩
  have st : ∀ b, ex c W (.seq (.asg (.nm 2) (.lstE (.cons (.tupE (.cons (.con (.int 1)) (.cons (.con (.int 1)) .nil))) .nil))) (.seq (.asg (.nm 3) (.lstE .nil)) (.seq (.asg (.nm 4) (.lstE (.cons (.tupE (.cons (.con (.int 1)) (.cons (.con (.int 1)) .nil))) .nil))) b))) [some (.int ((n : Int) + 1)), some (.int most), none, none, none, none] = ex c W b [some (.int ((n : Int) + 1)), some (.int most), some (.own (eR [(1, 1)])), some (.own (eR [])), some (.own (eR [(1, 1)])), none] := by
    intro b; simp [eR, pD, h1, h2']
  rw [st, ex_seq, ex_for]
  have hv : ev c (.rng1 (.bin .sub (.var 0) (.con (.int 1)))) .v [some (.int ((n : Int) + 1)), some (.int most), some (.own (eR [(1, 1)])), some (.own (eR [])), some (.own (eR [(1, 1)])), none] = .ok (.lst (rngL 0 n)) [some (.int ((n : Int) + 1)), some (.int most), some (.own (eR [(1, 1)])), some (.own (eR [])), some (.own (eR [(1, 1)])), none] := by
    refine ev_rngN ?_ hn
    simp
  rw [hv, fl_ok, un_lst, items_lst]
  show (floop _ _ _ _).then _ = _
  rw [h, then_nx]
  rcases g2 with rfl | rfl <;> rcases g3 with rfl | rfl <;> rcases g4 with rfl | rfl <;> simp [eR, h2]
end Q9

set_option Elab.async false
set_option linter.all false
set_option maxRecDepth 100000
namespace Q9
open PySem PySem.Spec L2
section
variable {c : Oracle} {W : Nat} {e : Env} {m : Md}
@[simp] theorem ev_isi {k : Tk} {a : IE} : ev c (.isi k a) m e = (ev c a .p e).bind fun x e1 => ofB (k.has x) e1 := rfl
theorem ev_notM {a : IE} (h : m ≠ .t) : ev c (.not a) m e = (ev c a .p e).bind fun x e1 => match x.truth with
    | some b => .ok (.bl (!b)) e1
    | none => .stk := by cases m <;> first | rfl | exact absurd rfl h
@[simp] theorem ev_notV {a : IE} : ev c (.not a) .v e = (ev c a .p e).bind fun x e1 => match x.truth with
    | some b => .ok (.bl (!b)) e1
    | none => .stk := rfl
@[simp] theorem ev_chain {o o' : Cop} {a b d : IE} : ev c (.chain o o' a b d) m e = (ev c a (pk b) e).bind fun x e1 => (ev c b (pk d) e1).bind fun y e2 => match cmpD o (D.un x) (D.un y) with
    | some true => (ev c d .p e2).bind fun z e3 => ofB (cmpD o' (D.un y) z) e3
    | some false => .ok (.bl false) e2
    | none => .stk := rfl
@[simp] theorem has_ii {i : Int} : Tk.has .int (.int i) = some true := rfl
@[simp] theorem has_bi {i : Int} : Tk.has .bool (.int i) = some false := rfl
end
theorem call_ret {Γ : Nat → Option Df} {W k f : Nat} {d : Df} {ds : List D} {v : D} {e e0 : Env} (h : Γ f = some d) (hl : ds.length = d.params) (h0 : startE d.slots ds = e0) (he : ex (run Γ W k) W d.body e0 = .ret v e) (hs : e.length = d.slots) : run Γ W (k + 1) f ds = .ok v (e.take d.params) := by
  show (match Γ f with | some d => callF (run Γ W k) W d ds | none => .stk) = _
  rw [h]
  show callF (run Γ W k) W d ds = _
  unfold callF
  rw [if_pos hl, h0, he]
  show (if e.length = d.slots then _ else _) = _
  rw [if_pos hs]
theorem call_nx {Γ : Nat → Option Df} {W k f : Nat} {d : Df} {ds : List D} {e e0 : Env} (h : Γ f = some d) (hl : ds.length = d.params) (h0 : startE d.slots ds = e0) (he : ex (run Γ W k) W d.body e0 = .nx e) : run Γ W (k + 1) f ds = .ok .non (e.take d.params) := by
  show (match Γ f with | some d => callF (run Γ W k) W d ds | none => .stk) = _
  rw [h]
  show callF (run Γ W k) W d ds = _
  unfold callF
  rw [if_pos hl, h0, he]
def B_is_integer : IS := (.seq (.ret (.and (.isi .int (.var 0)) (.not (.isi .bool (.var 0))))) .nil)
def B_judge_count : IS := (.seq (.ite (.or (.not (.call 2 (.cons (.var 0) .nil))) (.not (.chain .le .le (.var 1) (.var 0) (.var 2)))) (.seq .unk .nil) .nil) .nil)
def B_judge_stretch : IS := (.seq (.exp (.call 3 (.cons (.var 0) (.cons (.con (.int 1)) (.cons (.bi .min (.cons (.gl "MOST" (.int 1000000000000)) (.cons (.var 2) .nil))) .nil))))) (.seq (.exp (.call 3 (.cons (.var 1) (.cons (.var 0) (.cons (.bi .min (.cons (.bin .sub (.bin .add (.var 0) (.gl "MOST_STEPS" (.int 200))) (.con (.int 1))) (.cons (.gl "MOST" (.int 1000000000000)) (.cons (.var 2) .nil)))) .nil))))) .nil))
def B_row_steps : IS := (.seq (.exp (.call 3 (.cons (.var 0) (.cons (.con (.int 1)) (.cons (.gl "MOST_ROOMS" (.int 60)) .nil))))) (.seq (.exp (.call 14 (.cons (.var 1) (.cons (.var 2) (.cons (.bin .shl (.con (.int 1)) (.bin .sub (.var 0) (.con (.int 1)))) .nil))))) (.seq (.ret (.call 13 (.cons (.idx (.call 6 (.cons (.var 0) (.cons (.var 2) .nil))) (.con (.int 1))) (.cons (.var 1) (.cons (.var 2) .nil))))) .nil)))
def B_visit_steps : IS := (.seq (.exp (.call 3 (.cons (.var 0) (.cons (.con (.int 1)) (.cons (.gl "MOST_ROOMS" (.int 60)) .nil))))) (.seq (.exp (.call 14 (.cons (.var 1) (.cons (.var 2) (.cons (.bin .sub (.bin .shl (.con (.int 1)) (.var 0)) (.con (.int 1))) .nil))))) (.seq (.ret (.call 13 (.cons (.idx (.call 9 (.cons (.var 0) (.cons (.var 2) .nil))) (.con (.int 2))) (.cons (.var 1) (.cons (.var 2) .nil))))) .nil)))
def B__law_power : IS := (.seq (.asg (.nm 1) (.con (.int 1))) (.seq (.for (.nm 2) (.rng1 (.var 0)) (.seq (.asg (.nm 1) (.bin .mul (.var 1) (.con (.int 2)))) .nil)) (.seq (.ret (.var 1)) .nil)))
def B__law_first : IS := (.seq (.ite (.cmp .eq (.var 0) (.con (.int 0))) (.seq (.ret (.call 15 (.cons (.var 1) (.cons (.con (.int 1)) (.cons (.bi .min (.cons (.var 2) (.cons (.call 21 (.cons (.bi .min (.cons (.bin .sub (.var 1) (.con (.int 1))) (.cons (.con (.int 8)) .nil))) .nil)) .nil))) .nil))))) .nil) .nil) (.seq (.ret (.call 16 (.cons (.var 1) (.cons (.con (.int 1)) (.cons (.bi .min (.cons (.var 2) (.cons (.bin .sub (.call 21 (.cons (.bi .min (.cons (.var 1) (.cons (.con (.int 8)) .nil))) .nil)) (.con (.int 1))) .nil))) .nil))))) .nil))
theorem int_ex {c : Oracle} {W : Nat} {i : Int} : ex c W B_is_integer [some (.int i)] = .ret (.bl true) [some (.int i)] := by
  unfold B_is_integer; simp
theorem judge_ex {c : Oracle} {W : Nat} {i lo hi : Int} (hc : c 2 [.int i] = .ok (.bl true) [some (.int i)]) (h1 : lo ≤ i) (h2 : i ≤ hi) : ex c W B_judge_count [some (.int i), some (.int lo), some (.int hi)] = .nx [some (.int i), some (.int lo), some (.int hi)] := by
  unfold B_judge_count; simp [hc, h1, h2]
theorem stretch_ex {c : Oracle} {W : Nat} {a b n : Int} (hc : ∀ i lo hi : Int, lo ≤ i → i ≤ hi → c 3 [.int i, .int lo, .int hi] = .ok .non [some (.int i), some (.int lo), some (.int hi)]) (h1 : 1 ≤ a) (h2 : a ≤ b) (h3 : b ≤ a + 199) (h4 : b ≤ 1000000000000) (h5 : b ≤ n) : ex c W B_judge_stretch [some (.int a), some (.int b), some (.int n)] = .nx [some (.int a), some (.int b), some (.int n)] := by
  have q1 := hc a 1 (min 1000000000000 n) h1 (by omega)
  have q2 := hc b a (min (a + 200 - 1) (min 1000000000000 n)) h2 (by omega)
  unfold B_judge_stretch
  simp [q1, q2]
theorem pow2_turn {c : Oracle} {W : Nat} {g n : Int} {x : Option D} (hs : smallMul g 2 = true) : ex c W (.seq (.asg (.nm 1) (.bin .mul (.var 1) (.con (.int 2)))) .nil) [some (.int n), some (.int g), x] = .nx [some (.int n), some (.int (g * 2)), x] := by
  simp [hs]
theorem pow2_ex {c : Oracle} {W : Nat} {n : Nat} (hn : n < 1000) : ∃ x, ex c W B__law_power [some (.int (n : Int)), none, none] = .ret (.int ((2 ^ n : Nat) : Int)) [some (.int (n : Int)), some (.int ((2 ^ n : Nat) : Int)), x] := by
  obtain ⟨e', h, x, rfl, hx⟩ := frange_inv (bnd := fun e d => bindT e (.nm 2) d) (body := fun e => ex c W (.seq (.asg (.nm 1) (.bin .mul (.var 1) (.con (.int 2)))) .nil) e) (lo := 0) (n := n)
    (fun j e => ∃ x, e = [some (.int (n : Int)), some (.int ((2 ^ j : Nat) : Int)), x] ∧ Jnk x) (e := [some (.int (n : Int)), some (.int 1), none]) ⟨none, rfl, .inl rfl⟩ (by
      rintro j e hj ⟨x, rfl, hx⟩
      have hs : smallMul ((2 ^ j : Nat) : Int) 2 = true := smallR (by omega)
      refine ⟨[some (.int (n : Int)), some (.int ((2 ^ j : Nat) : Int)), some (.int (0 + (j : Int)))], [some (.int (n : Int)), some (.int ((2 ^ (j + 1) : Nat) : Int)), some (.int (0 + (j : Int)))], ?_, ?_, _, rfl, .inr ⟨_, rfl⟩⟩
      · rcases hx with rfl | ⟨i, rfl⟩ <;> simp
      · generalize hg : ((2 ^ j : Nat) : Int) = g at hs
        have e2 : ((2 ^ (j + 1) : Nat) : Int) = g * 2 := by rw [← hg, Nat.pow_succ]; omega
        rw [e2]
        exact pow2_turn hs)
  have hv : ev c (.rng1 (.var 0)) .v [some (.int (n : Int)), some (.int 1), none] = .ok (.lst (rngL 0 n)) [some (.int (n : Int)), some (.int 1), none] := by
    refine ev_rngN ?_ hn
    simp
  refine ⟨x, ?_⟩
  unfold B__law_power
  have st : ∀ b, ex c W (.seq (.asg (.nm 1) (.con (.int 1))) b) [some (.int (n : Int)), none, none] = ex c W b [some (.int (n : Int)), some (.int 1), none] := by intro b; simp
  rw [st, ex_seq, ex_for, hv, fl_ok, un_lst, items_lst]
  show (floop _ _ _ _).then _ = _
  rw [h, then_nx]
  generalize ((2 ^ n : Nat) : Int) = g
  simp
theorem shl_one {e : Env} {n : Nat} (hn : n < 1000) : binD .shl (.int 1) (.int (n : Int)) = some (.int ((2 ^ n : Nat) : Int)) := by
  rw [bin_shl, if_pos ⟨by omega, by omega, by decide⟩, Int.toNat_natCast, Int.one_mul]
  simp
theorem rsteps_ex {c : Oracle} {W : Nat} {r g a b : Int} {lo R : D} {v : D}
    (hg : binD .shl (.int 1) (.int (r - 1)) = some (.int g))
    (hc4 : c 3 [.int r, .int 1, .int 60] = .ok .non [some (.int r), some (.int 1), some (.int 60)])
    (hc5 : c 14 [.int a, .int b, .int g] = .ok .non [some (.int a), some (.int b), some (.int g)])
    (hc8 : c 6 [.int r, .int b] = .ok (.tup [lo, R]) [some (.int r), some (.int b)])
    (hc2 : c 13 [R, .int a, .int b] = .ok v [some R, some (.int a), some (.int b)]) (hR : D.un R = R) (hv : D.un v = v) :
    ex c W B_row_steps [some (.int r), some (.int a), some (.int b)] = .ret v [some (.int r), some (.int a), some (.int b)] := by
  unfold B_row_steps
  simp [-bin_shl, hg, hc4, hc5, hc8, hc2, hR, hv]
theorem vsteps_ex {c : Oracle} {W : Nat} {r g a b : Int} {R lo V : D} {v : D}
    (hg : binD .shl (.int 1) (.int r) = some (.int g))
    (hc4 : c 3 [.int r, .int 1, .int 60] = .ok .non [some (.int r), some (.int 1), some (.int 60)])
    (hc5 : c 14 [.int a, .int b, .int (g - 1)] = .ok .non [some (.int a), some (.int b), some (.int (g - 1))])
    (hc8 : c 9 [.int r, .int b] = .ok (.tup [R, lo, V]) [some (.int r), some (.int b)])
    (hc2 : c 13 [V, .int a, .int b] = .ok v [some V, some (.int a), some (.int b)]) (hR : D.un V = V) (hv : D.un v = v) :
    ex c W B_visit_steps [some (.int r), some (.int a), some (.int b)] = .ret v [some (.int r), some (.int a), some (.int b)] := by
  unfold B_visit_steps
  simp [-bin_shl, hg, hc4, hc5, hc8, hc2, hR, hv]
/-- _law_first -/
theorem first_ex0 {c : Oracle} {W : Nat} {r m g : Int} {v : D}
    (hc1 : c 21 [.int (min (r - 1) 8)] = .ok (.int g) [some (.int (min (r - 1) 8))])
    (hc9 : c 15 [.int r, .int 1, .int (min m g)] = .ok v [some (.int r), some (.int 1), some (.int (min m g))]) (hv : D.un v = v) :
    ex c W B__law_first [some (.int 0), some (.int r), some (.int m)] = .ret v [some (.int 0), some (.int r), some (.int m)] := by
  unfold B__law_first
  simp [hc1, hc9, hv]
theorem first_ex1 {c : Oracle} {W : Nat} {r m g : Int} {v : D}
    (hc1 : c 21 [.int (min r 8)] = .ok (.int g) [some (.int (min r 8))])
    (hc9 : c 16 [.int r, .int 1, .int (min m (g - 1))] = .ok v [some (.int r), some (.int 1), some (.int (min m (g - 1)))]) (hv : D.un v = v) :
    ex c W B__law_first [some (.int 1), some (.int r), some (.int m)] = .ret v [some (.int 1), some (.int r), some (.int m)] := by
  unfold B__law_first
  simp [hc1, hc9, hv]
end Q9

set_option Elab.async false
set_option linter.all false
set_option maxRecDepth 100000
namespace Q9
open PySem PySem.Spec L2
theorem mrg_take : ∀ (k : Nat) (a b : List Int), (mrg (a.take k) (b.take k)).take k = (mrg a b).take k
  | 0, a, b => by simp
  | k + 1, [], b => by rw [List.take_nil, mrg_nil_left, mrg_nil_left, List.take_take, Nat.min_self]
  | k + 1, a, [] => by rw [List.take_nil, mrg_nil_right, mrg_nil_right, List.take_take, Nat.min_self]
  | k + 1, x :: a, y :: b => by
    by_cases h : x ≤ y
    · rw [List.take_succ_cons, List.take_succ_cons, mrg_le h, mrg_le h, List.take_succ_cons, List.take_succ_cons]
      congr 1
      have h1 := mrg_take k (a.take k) (y :: b.take k)
      have h2 := mrg_take k a (y :: b)
      rw [← h1, ← h2]
      congr 2
      · rw [List.take_take, Nat.min_self]
      · cases k with
        | zero => rfl
        | succ k => rw [List.take_succ_cons, List.take_succ_cons, List.take_take, Nat.min_eq_left (by omega)]
    · rw [List.take_succ_cons, List.take_succ_cons, mrg_gt h, mrg_gt h, List.take_succ_cons, List.take_succ_cons]
      congr 1
      have h1 := mrg_take k (x :: a.take k) (b.take k)
      have h2 := mrg_take k (x :: a) b
      rw [← h1, ← h2]
      congr 2
      · cases k with
        | zero => rfl
        | succ k => rw [List.take_succ_cons, List.take_succ_cons, List.take_take, Nat.min_eq_left (by omega)]
      · rw [List.take_take, Nat.min_self]
theorem isort_mrg {a b : List Int} (ha : a.Pairwise (· ≤ ·)) (hb : b.Pairwise (· ≤ ·)) : isort (a ++ b) = mrg a b := by
  refine perm_sorted ?_ ?_ (mrg_sorted ha hb)
  · exact (List.mergeSort_perm _ _).trans mrg_perm.symm
  · have := List.pairwise_mergeSort (le := fun (x y : Int) => decide (x ≤ y)) (by intro a b c; simp; omega) (by intro a b; simp; omega) (a ++ b)
    exact this.imp (by simp)
theorem gen_len {L : List Int} (hs : L.Pairwise (· ≤ ·)) (hp : ∀ x ∈ L, 0 ≤ x) (k : Nat) : (gen L k).length ≤ k ∧ (gen L k).length ≤ 2 * L.length := by
  have I := gi_iter hs hp k
  refine ⟨I.le, ?_⟩
  have h1 := I.len
  have h2 := I.pl
  have h3 := I.tl
  unfold gen
  omega
theorem row_nn (M n : Nat) : ∀ x ∈ row M n, 0 ≤ x := fun x hx => Int.le_of_lt ((row_ok M n).2 x hx)
theorem row_len {M : Nat} (hM : 1 ≤ M) : ∀ n, (row M n).length ≤ M ∧ (row M n).length ≤ 2 ^ n
  | 0 => ⟨hM, Nat.le_refl _⟩
  | n + 1 => by
    have h1 := gen_len (row_ok M n).1 (row_nn M n) M
    have h2 := (row_len hM n).2
    refine ⟨h1.1, ?_⟩
    have h3 := h1.2
    rw [Nat.pow_succ]
    show (gen (row M n) M).length ≤ _
    omega
theorem row_take {M M' : Nat} (h1 : 1 ≤ M') (h2 : M' ≤ M) : ∀ n, row M' n = (row M n).take M'
  | 0 => by
    show [1] = [1].take M'
    rw [List.take_of_length_le]; exact h1
  | n + 1 => by
    show gen (row M' n) M' = (gen (row M n) M).take M'
    rw [row_take h1 h2 n, gen_of_take (Nat.le_refl _), gen_take (row_ok M n).1 (row_nn M n) (k := M') (M - M'), show M' + (M - M') = M by omega]
theorem vis_len {M : Nat} (hM : 1 ≤ M) : ∀ n, (vis M n).length ≤ M ∧ (vis M n).length + 1 ≤ 2 ^ (n + 1)
  | 0 => ⟨hM, Nat.le_refl _⟩
  | n + 1 => by
    have h2 := (vis_len hM n).2
    have h3 := (row_len hM (n + 1)).2
    have h4 := (mrg_perm (a := row M (n + 1)) (b := vis M n)).length_eq
    rw [List.length_append] at h4
    show ((mrg (row M (n + 1)) (vis M n)).take M).length ≤ M ∧ ((mrg (row M (n + 1)) (vis M n)).take M).length + 1 ≤ _
    rw [List.length_take, Nat.pow_succ 2 (n + 1)]
    omega
theorem vis_take {M M' : Nat} (h1 : 1 ≤ M') (h2 : M' ≤ M) : ∀ n, vis M' n = (vis M n).take M'
  | 0 => by
    show [1] = [1].take M'
    rw [List.take_of_length_le]; exact h1
  | n + 1 => by
    show (mrg (row M' (n + 1)) (vis M' n)).take M' = ((mrg (row M (n + 1)) (vis M n)).take M).take M'
    rw [row_take h1 h2 (n + 1), vis_take h1 h2 n, mrg_take, List.take_take, Nat.min_eq_left h2]
theorem row_cut {M n : Nat} (h1 : 1 ≤ M) (h2 : M ≤ 200) : row (min M (2 ^ min n 8)) n = row M n := by
  have hp : 0 < 2 ^ min n 8 := Nat.two_pow_pos _
  rw [row_take (M := M) (by omega) (by omega) n, List.take_of_length_le]
  have h3 := row_len h1 n
  by_cases h : n ≤ 8
  · have e : min n 8 = n := by omega
    rw [e]; omega
  · have e : min n 8 = 8 := by omega
    rw [e]; omega
theorem vis_cut {M n : Nat} (h1 : 1 ≤ M) (h2 : M ≤ 200) : vis (min M (2 ^ min (n + 1) 8 - 1)) n = vis M n := by
  have hp : 2 ^ 1 ≤ 2 ^ min (n + 1) 8 := Nat.pow_le_pow_right (by omega) (by omega)
  rw [vis_take (M := M) (by omega) (by omega) n, List.take_of_length_le]
  have h3 := vis_len h1 n
  by_cases h : n + 1 ≤ 8
  · have e : min (n + 1) 8 = n + 1 := by omega
    rw [e]; omega
  · have e : min (n + 1) 8 = 8 := by omega
    rw [e]; omega
theorem row_law {M n : Nat} : (isort (row M n ++ List.zipWith (· + ·) (row M (n + 1)) (row M n))).take M = row M (n + 1) :=
  gen_sort (row_ok M n).1 (row_nn M n) M
theorem vis_law {M n : Nat} : (isort (row M (n + 1) ++ vis M n)).take M = vis M (n + 1) := by
  rw [isort_mrg (row_ok M (n + 1)).1 (vis_ok M n).1]; rfl
end Q9

set_option Elab.async false
set_option linter.all false
set_option maxRecDepth 100000
namespace Q9
open PySem PySem.Spec L2
theorem cret {Γ : Nat → Option Df} {W k f p s : Nat} {b : IS} {ds : List D} {v : D} {e e0 ps : Env} (h : Γ f = some ⟨p, s, b⟩) (he : ex (run Γ W k) W b e0 = .ret v e) (h0 : startE s ds = e0) (hl : ds.length = p) (hs : e.length = s) (hp : e.take p = ps) : run Γ W (k + 1) f ds = .ok v ps := by
  rw [← hp]; exact call_ret h hl h0 he hs
theorem cnx {Γ : Nat → Option Df} {W k f p s : Nat} {b : IS} {ds : List D} {e e0 ps : Env} (h : Γ f = some ⟨p, s, b⟩) (he : ex (run Γ W k) W b e0 = .nx e) (h0 : startE s ds = e0) (hl : ds.length = p) (hp : e.take p = ps) : run Γ W (k + 1) f ds = .ok .non ps := by
  rw [← hp]; exact call_nx h hl h0 he
structure GP (Γ : Nat → Option Df) : Prop where
  int : Γ 2 = some ⟨1, 1, B_is_integer⟩
  judge : Γ 3 = some ⟨3, 3, B_judge_count⟩
  put : Γ 4 = some ⟨3, 3, B_put_run⟩
  room : Γ 5 = some ⟨2, 11, B_with_one_room_more⟩
  pair : Γ 6 = some ⟨2, 5, B_row_pair⟩
structure GV (Γ : Nat → Option Df) : Prop where
  mrg : Γ 8 = some ⟨3, 9, B_merged⟩
  trio : Γ 9 = some ⟨2, 6, B_visit_trio⟩
structure GL (Γ : Nat → Option Df) : Prop where
  draw : Γ 0 = some ⟨2, 4, B__law_draw⟩
  pool : Γ 19 = some ⟨2, 5, B__law_pool⟩
section
variable {Γ : Nat → Option Df} {W k : Nat}
theorem c_put (G : GP Γ) : ∀ l s m, l.length < sizeLine → run Γ W (k + 1) 4 [.brw (eR l), .int s, .int m] = .ok .non [some (.brw (eR (putRun l s m))), some (.int s), some (.int m)] := by
  intro l s m hl
  obtain ⟨e, h, rfl⟩ := put_run (run Γ W k) W l s m hl
  exact cnx G.put h rfl rfl rfl
theorem c_room (G : GP Γ) {most : Int} (h0 : 0 ≤ most) (h1 : most.toNat < W) (h2 : most.toNat ≤ sizeLine) : ∀ L, WF L → (Ex L).Pairwise (· ≤ ·) → (∀ x ∈ Ex L, 0 < x) → ∃ R, WF R ∧ Ex R = gen (Ex L) most.toNat ∧ run Γ W (k + 2) 5 [eR L, .int most] = .ok (eR R) [some (eR L), some (.int most)] := by
  intro L hw hs hp
  obtain ⟨R, e, q1, q2, q3, q4, q5⟩ := room_ex (c := run Γ W (k + 1)) (W := W) (most := most) (c_put G) hw hs hp h0 h1 (fun R k hk hR hE => by
    have a1 := len_Ex hR
    have a2 := (gen_len hs (fun x hx => Int.le_of_lt (hp x hx)) k).1
    rw [hE] at a1
    omega)
  exact ⟨R, q1, q2, cret (k := k + 1) G.room q3 rfl rfl q4 q5⟩
theorem c_merged (G : GP Γ) (GW : GV Γ) {most : Int} (h0 : 0 ≤ most) (h1 : most.toNat < W) (h2 : most.toNat ≤ sizeLine) : ∀ A B, WF A → WF B → ∃ R, WF R ∧ Ex R = (mrg (Ex A) (Ex B)).take most.toNat ∧ run Γ W (k + 2) 8 [eR A, eR B, .int most] = .ok (eR R) [some (eR A), some (eR B), some (.int most)] := by
  intro A B hA hB
  obtain ⟨R, e, q1, q2, q3, q4, q5⟩ := merged_ex (c := run Γ W (k + 1)) (W := W) (most := most) (c_put G) hA hB h0 h1 h2
  exact ⟨R, q1, q2, cret (k := k + 1) GW.mrg q3 rfl rfl q4 q5⟩
theorem c_pair (G : GP Γ) {most : Int} {n : Nat} (hn : n < 1000) (h0 : 0 ≤ most) (h1 : most.toNat < W) (h2 : most.toNat ≤ sizeLine) : ∃ lo R, WF lo ∧ Ex lo = rowLow most.toNat n ∧ WF R ∧ Ex R = row most.toNat n ∧ run Γ W (k + 3) 6 [.int ((n : Int) + 1), .int most] = .ok (.tup [eR lo, eR R]) [some (.int ((n : Int) + 1)), some (.int most)] := by
  obtain ⟨lo, R, e, w1, w2, q1, q2, q3, q4, q5⟩ := pair_ex (c := run Γ W (k + 2)) (W := W) (most := most) hn (c_room G h0 h1 h2)
  exact ⟨lo, R, w1, w2, q1, q2, cret (k := k + 2) G.pair q3 rfl rfl q4 q5⟩
theorem c_trio (G : GP Γ) (GW : GV Γ) {most : Int} {n : Nat} (hn : n < 1000) (h0 : 0 ≤ most) (h1 : most.toNat < W) (h2 : most.toNat ≤ sizeLine) : ∃ R lo V, WF R ∧ Ex R = row most.toNat n ∧ WF lo ∧ Ex lo = visLow most.toNat n ∧ WF V ∧ Ex V = vis most.toNat n ∧ run Γ W (k + 3) 9 [.int ((n : Int) + 1), .int most] = .ok (.tup [eR R, eR lo, eR V]) [some (.int ((n : Int) + 1)), some (.int most)] := by
  obtain ⟨R, lo, V, e, w1, w2, w3, w4, q1, q2, q3, q4, q5⟩ := trio_ex (c := run Γ W (k + 2)) (W := W) (most := most) hn (c_room G h0 h1 h2) (c_merged G GW h0 h1 h2)
  exact ⟨R, lo, V, w1, w2, w3, w4, q1, q2, cret (k := k + 2) GW.trio q3 rfl rfl q4 q5⟩
theorem c_int (G : GP Γ) {i : Int} : run Γ W (k + 1) 2 [.int i] = .ok (.bl true) [some (.int i)] := cret G.int int_ex rfl rfl rfl rfl
theorem c_judge (G : GP Γ) : ∀ i lo hi : Int, lo ≤ i → i ≤ hi → run Γ W (k + 2) 3 [.int i, .int lo, .int hi] = .ok .non [some (.int i), some (.int lo), some (.int hi)] := fun i lo hi h1 h2 =>
  cnx (k := k + 1) G.judge (judge_ex (c_int G) h1 h2) rfl rfl rfl
theorem c_draw (G : GL Γ) : ∀ g sd ct lim : Int, 0 < lim → lim < 1073741824 → ∃ v g' sd' ct', 0 ≤ v ∧ v < lim ∧ run Γ W (k + 1) 0 [.brw (pool g sd ct), .int lim] = .ok (.int v) [some (.brw (pool g' sd' ct')), some (.int lim)] := by
  intro g sd ct lim h0 h1
  obtain ⟨v, g', sd', ct', x, y, a, b, h⟩ := draw_ex (run Γ W k) W g sd ct lim h0 h1
  exact ⟨v, g', sd', ct', a, b, cret G.draw h rfl rfl rfl rfl⟩
theorem c_pool (G : GL Γ) {ns : List Int} (h : ns.length ≤ 63) : ∃ g sd, run Γ W (k + 1) 19 [.flk (ns.map .int), .int 0] = .ok (.own (pool g sd 0)) [some (.flk (ns.map .int)), some (.int 0)] := by
  obtain ⟨g, sd, x, y, z, h⟩ := pool_ex (run Γ W k) W ns h
  exact ⟨g, sd, cret G.pool h rfl rfl rfl rfl⟩
theorem c_power (h : Γ 21 = some ⟨1, 3, B__law_power⟩) {n : Nat} (hn : n < 1000) : run Γ W (k + 1) 21 [.int (n : Int)] = .ok (.int ((2 ^ n : Nat) : Int)) [some (.int (n : Int))] := by
  obtain ⟨x, h2⟩ := pow2_ex (c := run Γ W k) (W := W) hn
  exact cret (k := k) h h2 rfl rfl rfl rfl
end
end Q9

set_option Elab.async false
set_option linter.all false
set_option maxRecDepth 100000
namespace Q9
open PySem PySem.Spec L2
def B__law_great : IS := (.seq (.asg (.nm 2) (.con (.int 0))) (.seq (.for (.nm 3) (.rng1 (.con (.int 8))) (.seq (.asg (.nm 2) (.bin .add (.bin .mul (.var 2) (.con (.int 10000))) (.call 0 (.cons (.aB 0) (.cons (.con (.int 10000)) .nil))))) .nil)) (.seq (.ret (.bin .mod (.bi .int (.cons (.var 2) .nil)) (.var 1))) .nil)))
def B__law_rooms_and_n : IS := (.seq (.asg (.nm 2) (.call 0 (.cons (.aB 0) (.cons (.con (.int 4)) .nil)))) (.seq (.asg (.nm 3) (.bin .add (.con (.int 1)) (.call 0 (.cons (.aB 0) (.cons (.con (.int 9)) .nil))))) (.seq (.ite (.cmp .eq (.var 2) (.con (.int 2))) (.seq (.asg (.nm 3) (.bin .add (.con (.int 1)) (.call 0 (.cons (.aB 0) (.cons (.con (.int 16)) .nil))))) .nil) .nil) (.seq (.ite (.cmp .eq (.var 2) (.con (.int 3))) (.seq (.asg (.nm 3) (.bin .add (.con (.int 1)) (.call 0 (.cons (.aB 0) (.cons (.con (.int 60)) .nil))))) .nil) .nil) (.seq (.asg (.nm 4) (.bi .min (.cons (.bin .pow (.con (.int 10)) (.con (.int 6))) (.cons (.bin .sub (.call 21 (.cons (.bin .add (.bin .sub (.bi .min (.cons (.var 3) (.cons (.con (.int 30)) .nil))) (.con (.int 1))) (.var 1)) .nil)) (.var 1)) .nil)))) (.seq (.asg (.nm 5) (.call 0 (.cons (.aB 0) (.cons (.con (.int 4)) .nil)))) (.seq (.ite (.cmp .eq (.var 5) (.con (.int 0))) (.seq (.ret (.tupE (.cons (.var 3) (.cons (.var 4) .nil)))) .nil) .nil) (.seq (.ite (.cmp .eq (.var 5) (.con (.int 1))) (.seq (.ret (.tupE (.cons (.var 3) (.cons (.bin .add (.con (.int 1)) (.call 0 (.cons (.aB 0) (.cons (.bi .min (.cons (.var 4) (.cons (.con (.int 60)) .nil))) .nil)))) .nil)))) .nil) .nil) (.seq (.ret (.tupE (.cons (.var 3) (.cons (.bin .add (.con (.int 1)) (.call 20 (.cons (.aB 0) (.cons (.var 4) .nil)))) .nil)))) .nil)))))))))
def rnTail : IS := (.seq (.asg (.nm 4) (.bi .min (.cons (.bin .pow (.con (.int 10)) (.con (.int 6))) (.cons (.bin .sub (.call 21 (.cons (.bin .add (.bin .sub (.bi .min (.cons (.var 3) (.cons (.con (.int 30)) .nil))) (.con (.int 1))) (.var 1)) .nil)) (.var 1)) .nil)))) (.seq (.asg (.nm 5) (.call 0 (.cons (.aB 0) (.cons (.con (.int 4)) .nil)))) (.seq (.ite (.cmp .eq (.var 5) (.con (.int 0))) (.seq (.ret (.tupE (.cons (.var 3) (.cons (.var 4) .nil)))) .nil) .nil) (.seq (.ite (.cmp .eq (.var 5) (.con (.int 1))) (.seq (.ret (.tupE (.cons (.var 3) (.cons (.bin .add (.con (.int 1)) (.call 0 (.cons (.aB 0) (.cons (.bi .min (.cons (.var 4) (.cons (.con (.int 60)) .nil))) .nil)))) .nil)))) .nil) .nil) (.seq (.ret (.tupE (.cons (.var 3) (.cons (.bin .add (.con (.int 1)) (.call 20 (.cons (.aB 0) (.cons (.var 4) .nil)))) .nil)))) .nil)))))
theorem rn_eq : B__law_rooms_and_n = (.seq (.asg (.nm 2) (.call 0 (.cons (.aB 0) (.cons (.con (.int 4)) .nil)))) (.seq (.asg (.nm 3) (.bin .add (.con (.int 1)) (.call 0 (.cons (.aB 0) (.cons (.con (.int 9)) .nil))))) (.seq (.ite (.cmp .eq (.var 2) (.con (.int 2))) (.seq (.asg (.nm 3) (.bin .add (.con (.int 1)) (.call 0 (.cons (.aB 0) (.cons (.con (.int 16)) .nil))))) .nil) .nil) (.seq (.ite (.cmp .eq (.var 2) (.con (.int 3))) (.seq (.asg (.nm 3) (.bin .add (.con (.int 1)) (.call 0 (.cons (.aB 0) (.cons (.con (.int 60)) .nil))))) .nil) .nil) rnTail)))) := rfl
theorem great_turn' {c : Oracle} {W : Nat} {a b d a' b' d' g v : Int} {x1 x3 : Option D} (hc : c 0 [.brw (pool a b d), .int 10000] = .ok (.int v) [some (.brw (pool a' b' d')), some (.int 10000)]) :
    ex c W (.seq (.asg (.nm 2) (.bin .add (.bin .mul (.var 2) (.con (.int 10000))) (.call 0 (.cons (.aB 0) (.cons (.con (.int 10000)) .nil))))) .nil) [some (.brw (pool a b d)), x1, some (.int g), x3] = .nx [some (.brw (pool a' b' d')), x1, some (.int (g * 10000 + v)), x3] := by
  have hs : smallMul g 10000 = true := smallR (by omega)
  unfold pool at *
  simp [hs, hc]
theorem great_ex {c : Oracle} {W : Nat} {g sd ct lim : Int} (h0 : 0 < lim)
    (hd : ∀ g sd ct lim : Int, 0 < lim → lim < 1073741824 → ∃ v g' sd' ct', 0 ≤ v ∧ v < lim ∧ c 0 [.brw (pool g sd ct), .int lim] = .ok (.int v) [some (.brw (pool g' sd' ct')), some (.int lim)]) :
    ∃ v g' sd' ct' x y, 0 ≤ v ∧ v < lim ∧ ex c W B__law_great [some (.brw (pool g sd ct)), some (.int lim), none, none] = .ret (.int v) [some (.brw (pool g' sd' ct')), some (.int lim), x, y] := by
  obtain ⟨e', h, a, b, d, u, x, rfl, hx⟩ := frange_inv (bnd := fun e d => bindT e (.nm 3) d) (body := fun e => ex c W (.seq (.asg (.nm 2) (.bin .add (.bin .mul (.var 2) (.con (.int 10000))) (.call 0 (.cons (.aB 0) (.cons (.con (.int 10000)) .nil))))) .nil) e) (lo := 0) (n := 8)
    (fun j e => ∃ a b d u x, e = [some (.brw (pool a b d)), some (.int lim), some (.int u), x] ∧ Jnk x) (e := [some (.brw (pool g sd ct)), some (.int lim), some (.int 0), none]) ⟨g, sd, ct, 0, none, rfl, .inl rfl⟩ (by
      rintro j e hj ⟨a, b, d, u, x, rfl, hx⟩
      obtain ⟨v, a', b', d', _, _, q⟩ := hd a b d 10000 (by omega) (by omega)
      refine ⟨[some (.brw (pool a b d)), some (.int lim), some (.int u), some (.int (0 + (j : Int)))], _, ?_, great_turn' q, a', b', d', _, _, rfl, .inr ⟨_, rfl⟩⟩
      rcases hx with rfl | ⟨i, rfl⟩ <;> simp)
  have hv : ev c (.rng1 (.con (.int 8))) .v [some (.brw (pool g sd ct)), some (.int lim), some (.int 0), none] = .ok (.lst (rngL 0 8)) [some (.brw (pool g sd ct)), some (.int lim), some (.int 0), none] :=
    ev_rngN (n := 8) rfl (by omega)
  have st : ∀ b, ex c W (.seq (.asg (.nm 2) (.con (.int 0))) b) [some (.brw (pool g sd ct)), some (.int lim), none, none] = ex c W b [some (.brw (pool g sd ct)), some (.int lim), some (.int 0), none] := by intro b; simp
  refine ⟨u % lim, a, b, d, some (.int u), x, Int.emod_nonneg _ (by omega), Int.emod_lt_of_pos _ h0, ?_⟩
  unfold B__law_great
  rw [st, ex_seq, ex_for, hv, fl_ok, un_lst, items_lst]
  show (floop _ _ _ _).then _ = _
  rw [h, then_nx]
  simp [h0]
/-- rooms and a number -/
theorem rn_ex {c : Oracle} {W : Nat} {g sd ct sp : Int} (hsp : sp = 0 ∨ sp = 1)
    (hd : ∀ g sd ct lim : Int, 0 < lim → lim < 1073741824 → ∃ v g' sd' ct', 0 ≤ v ∧ v < lim ∧ c 0 [.brw (pool g sd ct), .int lim] = .ok (.int v) [some (.brw (pool g' sd' ct')), some (.int lim)])
    (hg : ∀ g sd ct lim : Int, 0 < lim → ∃ v g' sd' ct', 0 ≤ v ∧ v < lim ∧ c 20 [.brw (pool g sd ct), .int lim] = .ok (.int v) [some (.brw (pool g' sd' ct')), some (.int lim)])
    (hp : ∀ n : Nat, n < 1000 → c 21 [.int (n : Int)] = .ok (.int ((2 ^ n : Nat) : Int)) [some (.int (n : Int))]) :
    ∃ r n g' sd' ct' e, 1 ≤ r ∧ r ≤ 60 ∧ 1 ≤ n ∧ n ≤ 1000000 ∧ n ≤ ((2 ^ (min r 30 - 1 + sp).toNat : Nat) : Int) - sp ∧ ex c W B__law_rooms_and_n [some (.brw (pool g sd ct)), some (.int sp), none, none, none, none] = .ret (.tup [.int r, .int n]) e ∧ e.length = 6 ∧ e.take 2 = [some (.brw (pool g' sd' ct')), some (.int sp)] := by
  have h2 : 2 ≤ sizeLine := by rw [sizeLine_eq]; omega
  obtain ⟨v1, g1, sd1, ct1, a1, l1, c1⟩ := hd g sd ct 4 (by omega) (by omega)
  obtain ⟨v2, g2, sd2, ct2, a2, l2, c2⟩ := hd g1 sd1 ct1 9 (by omega) (by omega)
  have key : ∀ (r : Int) (g sd ct : Int), 1 ≤ r → r ≤ 60 → ∃ n g' sd' ct' e, 1 ≤ n ∧ n ≤ 1000000 ∧ n ≤ ((2 ^ (min r 30 - 1 + sp).toNat : Nat) : Int) - sp ∧ ex c W rnTail [some (.brw (pool g sd ct)), some (.int sp), some (.int v1), some (.int r), none, none] = .ret (.tup [.int r, .int n]) e ∧ e.length = 6 ∧ e.take 2 = [some (.brw (pool g' sd' ct')), some (.int sp)] := by
    intro r g sd ct hr1 hr2
    have hpw := hp (min r 30 - 1 + sp).toNat (by omega)
    have e1 : (((min r 30 - 1 + sp).toNat : Nat) : Int) = min r 30 - 1 + sp := by omega
    rw [e1] at hpw
    have hsz : sp < ((2 ^ (min r 30 - 1 + sp).toNat : Nat) : Int) := by
      rcases hsp with rfl | rfl
      · have := Nat.two_pow_pos (min r 30 - 1 + 0).toNat; omega
      · have : 2 ^ 1 ≤ 2 ^ (min r 30 - 1 + 1).toNat := Nat.pow_le_pow_right (by omega) (by omega)
        omega
    generalize ((2 ^ (min r 30 - 1 + sp).toNat : Nat) : Int) = pw at hpw hsz ⊢
    obtain ⟨v3, g3, sd3, ct3, a3, l3, c3⟩ := hd g sd ct 4 (by omega) (by omega)
    have e2 : min (1000000 : Int) (pw - sp) = min 1000000 (pw - sp) := rfl
    generalize hm : min (1000000 : Int) (pw - sp) = mst at e2
    have b1 : 1 ≤ mst := by omega
    have b2 : mst ≤ 1000000 := by omega
    have b3 : mst ≤ pw - sp := by omega
    obtain ⟨v4, g4, sd4, ct4, a4, l4, c4⟩ := hd g3 sd3 ct3 (min mst 60) (by omega) (by omega)
    obtain ⟨v5, g5, sd5, ct5, a5, l5, c5⟩ := hg g3 sd3 ct3 mst (by omega)
    unfold pool at *
    unfold rnTail
    by_cases h0 : v3 = 0
    · refine ⟨mst, g3, sd3, ct3, [some (.brw (.lst [.int g3, .int sd3, .int ct3])), some (.int sp), some (.int v1), some (.int r), some (.int mst), some (.int v3)], by omega, by omega, by omega, ?_, rfl, rfl⟩
      subst h0
      simp [hpw, c3, hm, h2]
    · by_cases h1 : v3 = 1
      · refine ⟨1 + v4, g4, sd4, ct4, [some (.brw (.lst [.int g4, .int sd4, .int ct4])), some (.int sp), some (.int v1), some (.int r), some (.int mst), some (.int v3)], by omega, by omega, by omega, ?_, rfl, rfl⟩
        subst h1
        simp [hpw, c3, hm, c4, h2]
      · refine ⟨1 + v5, g5, sd5, ct5, [some (.brw (.lst [.int g5, .int sd5, .int ct5])), some (.int sp), some (.int v1), some (.int r), some (.int mst), some (.int v3)], by omega, by omega, by omega, ?_, rfl, rfl⟩
        simp [hpw, c3, hm, c5, h0, h1, h2]
  rw [rn_eq]
  by_cases w2 : v1 = 2
  · obtain ⟨v6, g6, sd6, ct6, a6, l6, c6⟩ := hd g2 sd2 ct2 16 (by omega) (by omega)
    obtain ⟨n, g', sd', ct', e, k1, k2, k3, k4, k5, k6⟩ := key (1 + v6) g6 sd6 ct6 (by omega) (by omega)
    refine ⟨1 + v6, n, g', sd', ct', e, by omega, by omega, k1, k2, k3, ?_, k5, k6⟩
    rw [← k4]
    subst w2
    unfold pool at *
    simp [c1, c2, c6]
  · by_cases w3 : v1 = 3
    · obtain ⟨v6, g6, sd6, ct6, a6, l6, c6⟩ := hd g2 sd2 ct2 60 (by omega) (by omega)
      obtain ⟨n, g', sd', ct', e, k1, k2, k3, k4, k5, k6⟩ := key (1 + v6) g6 sd6 ct6 (by omega) (by omega)
      refine ⟨1 + v6, n, g', sd', ct', e, by omega, by omega, k1, k2, k3, ?_, k5, k6⟩
      rw [← k4]
      subst w3
      unfold pool at *
      simp [c1, c2, c6]
    · obtain ⟨n, g', sd', ct', e, k1, k2, k3, k4, k5, k6⟩ := key (1 + v2) g2 sd2 ct2 (by omega) (by omega)
      refine ⟨1 + v2, n, g', sd', ct', e, by omega, by omega, k1, k2, k3, ?_, k5, k6⟩
      rw [← k4]
      unfold pool at *
      simp [c1, c2, w2, w3]
end Q9

set_option Elab.async false
set_option linter.all false
set_option maxRecDepth 100000
namespace Q9
/-! ## whole rows, and sums of their heads (plain) -/
def PS (A : List Int) (n : Nat) : Int := (A.take n).sum
def NN (A : List Int) (s : Int) : Int := (A.map fun x => min (x - s) 0).sum
theorem PS_zero {A : List Int} : PS A 0 = 0 := rfl
theorem PS_succ {x : Int} {A : List Int} {n : Nat} : PS (x :: A) (n + 1) = x + PS A n := by unfold PS; simp
theorem PS_take {A : List Int} {m n : Nat} (h : n ≤ m) : PS (A.take m) n = PS A n := by unfold PS; rw [List.take_take, Nat.min_eq_left h]
theorem NN_app {A B : List Int} {s : Int} : NN (A ++ B) s = NN A s + NN B s := by unfold NN; rw [List.map_append, List.sum_append]
theorem perm_sum {a b : List Int} (h : a.Perm b) : a.sum = b.sum := by
  induction h with
  | nil => rfl
  | cons x _ ih => rw [List.sum_cons, List.sum_cons, ih]
  | swap x y l => rw [List.sum_cons, List.sum_cons, List.sum_cons, List.sum_cons]; omega
  | trans _ _ h1 h2 => rw [h1, h2]
theorem NN_perm {A B : List Int} {s : Int} (h : A.Perm B) : NN A s = NN B s := by unfold NN; exact perm_sum (h.map _)
theorem NN_le {s : Int} : ∀ (A : List Int) (i : Nat), i ≤ A.length → NN A s ≤ PS A i - i * s
  | [], i, h => by have : i = 0 := by simpa using h
                   subst this; simp [NN, PS]
  | x :: A, 0, _ => by
    have := NN_le (s := s) A 0 (Nat.zero_le _)
    rw [PS_zero] at this ⊢
    show min (x - s) 0 + NN A s ≤ _
    omega
  | x :: A, i + 1, h => by
    have := NN_le (s := s) A i (by simpa using h)
    rw [PS_succ]
    show min (x - s) 0 + NN A s ≤ _
    have e : ((i + 1 : Nat) : Int) * s = i * s + s := by rw [Int.natCast_add, Int.add_mul]; omega
    omega
theorem NN_eq {s : Int} : ∀ (A : List Int) (i : Nat), i ≤ A.length → (∀ x ∈ A.take i, x ≤ s) → (∀ x ∈ A.drop i, s ≤ x) → NN A s = PS A i - i * s
  | [], i, h, _, _ => by have : i = 0 := by simpa using h
                         subst this; simp [NN, PS]
  | x :: A, 0, _, h1, h2 => by
    have := NN_eq (s := s) A 0 (Nat.zero_le _) (fun x hx => by simp at hx) (fun y hy => h2 y (List.mem_cons_of_mem _ hy))
    have hx := h2 x List.mem_cons_self
    rw [PS_zero] at this ⊢
    show min (x - s) 0 + NN A s = _
    omega
  | x :: A, i + 1, h, h1, h2 => by
    have := NN_eq (s := s) A i (by simpa using h) (fun y hy => h1 y (by rw [List.take_succ_cons]; exact List.mem_cons_of_mem _ hy)) (fun y hy => h2 y (by simpa using hy))
    have hx := h1 x (by rw [List.take_succ_cons]; exact List.mem_cons_self)
    rw [PS_succ]
    show min (x - s) 0 + NN A s = _
    have e : ((i + 1 : Nat) : Int) * s = i * s + s := by rw [Int.natCast_add, Int.add_mul]; omega
    omega
/-- sorted: what is ahead of a place and what is behind -/
theorem srt_at {A : List Int} (hs : A.Pairwise (· ≤ ·)) {i : Nat} (h : i < A.length) : (∀ x ∈ A.take (i + 1), x ≤ A[i]) ∧ ∀ x ∈ A.drop (i + 1), A[i] ≤ x := by
  constructor
  · intro x hx
    obtain ⟨j, hj, e⟩ := List.mem_take_iff_getElem.mp hx
    rw [← e]
    by_cases h2 : j = i
    · subst h2; exact Int.le_refl _
    · exact List.pairwise_iff_getElem.mp hs j i (by omega) h (by omega)
  · intro x hx
    obtain ⟨j, hj, e⟩ := List.mem_drop_iff_getElem.mp hx
    rw [← e]
    exact List.pairwise_iff_getElem.mp hs i (i + 1 + j) h (by omega) (by omega)
theorem PS_le {S A B : List Int} (hs : S.Pairwise (· ≤ ·)) (hp : S.Perm (A ++ B)) {i j : Nat} (hi : i ≤ A.length) (hj : j ≤ B.length) : PS S (i + j) ≤ PS A i + PS B j := by
  have hl := hp.length_eq
  rw [List.length_append] at hl
  by_cases h0 : i + j = 0
  · have h1 : i = 0 := by omega
    have h2 : j = 0 := by omega
    subst h1 h2; exact Int.le_refl _
  · have hk : i + j - 1 < S.length := by omega
    have e := srt_at hs hk
    rw [show i + j - 1 + 1 = i + j by omega] at e
    generalize S[i + j - 1] = s at e
    have q1 := NN_eq S (i + j) (by omega) e.1 e.2
    have q2 := NN_le (s := s) A i hi
    have q3 := NN_le (s := s) B j hj
    rw [NN_perm hp, NN_app] at q1
    have e2 : ((i + j : Nat) : Int) * s = i * s + j * s := by rw [Int.natCast_add, Int.add_mul]
    omega
theorem mrg_split : ∀ (n : Nat) (A B : List Int), n ≤ A.length + B.length → ∃ i j, i + j = n ∧ i ≤ A.length ∧ j ≤ B.length ∧ PS (mrg A B) n = PS A i + PS B j
  | 0, A, B, _ => ⟨0, 0, rfl, Nat.zero_le _, Nat.zero_le _, rfl⟩
  | n + 1, [], B, h => ⟨0, n + 1, by omega, Nat.zero_le _, by simpa using h, by rw [mrg_nil_left]; show _ = 0 + _; omega⟩
  | n + 1, A, [], h => ⟨n + 1, 0, by omega, by simpa using h, Nat.zero_le _, by rw [mrg_nil_right]; show _ = _ + 0; omega⟩
  | n + 1, x :: A, y :: B, h => by
    simp only [List.length_cons] at h
    by_cases hle : x ≤ y
    · obtain ⟨i, j, e, h1, h2, h3⟩ := mrg_split n A (y :: B) (by simp only [List.length_cons]; omega)
      refine ⟨i + 1, j, by omega, by simp only [List.length_cons]; omega, h2, ?_⟩
      rw [mrg_le hle, PS_succ, PS_succ, h3]; omega
    · obtain ⟨i, j, e, h1, h2, h3⟩ := mrg_split n (x :: A) B (by simp only [List.length_cons]; omega)
      refine ⟨i, j + 1, by omega, h1, by simp only [List.length_cons]; omega, ?_⟩
      rw [mrg_gt hle, PS_succ, PS_succ, h3]; omega
theorem zip_PS : ∀ (j : Nat) (A B : List Int), j ≤ A.length → j ≤ B.length → PS (List.zipWith (· + ·) A B) j = PS A j + PS B j
  | 0, A, B, _, _ => rfl
  | j + 1, [], B, h, _ => by simp at h
  | j + 1, A, [], _, h => by simp at h
  | j + 1, x :: A, y :: B, h1, h2 => by
    rw [List.zipWith_cons_cons, PS_succ, PS_succ, PS_succ, zip_PS j A B (by simpa using h1) (by simpa using h2)]
    omega
theorem gen_length {L : List Int} (hs : L.Pairwise (· ≤ ·)) (hp : ∀ x ∈ L, 0 ≤ x) (k : Nat) : (gen L k).length = min k (2 * L.length) := by
  have I := gi_iter hs hp k
  have h1 := I.len
  have h2 := I.pl
  have h3 := I.tl
  have h4 := I.le
  unfold gen
  rcases I.fin with h | ⟨h, h' | h'⟩ <;> omega
theorem gen_more {L : List Int} (hs : L.Pairwise (· ≤ ·)) (hp : ∀ x ∈ L, 0 ≤ x) {M : Nat} : gen L M = (gen L (2 * L.length)).take M := by
  by_cases h : M ≤ 2 * L.length
  · rw [gen_take hs hp (k := M) (2 * L.length - M), show M + (2 * L.length - M) = 2 * L.length by omega]
  · have l1 := gen_length hs hp M
    have l2 := gen_length hs hp (2 * L.length)
    rw [List.take_of_length_le (by omega), gen_take hs hp (k := 2 * L.length) (M - 2 * L.length), show 2 * L.length + (M - 2 * L.length) = M by omega, List.take_of_length_le (by omega)]
def fr : Nat → List Int
  | 0 => [1]
  | k + 1 => gen (fr k) (2 * (fr k).length)
def fv : Nat → List Int
  | 0 => []
  | k + 1 => mrg (fr k) (fv k)
theorem fr_ok : ∀ k, (fr k).Pairwise (· ≤ ·) ∧ ∀ x ∈ fr k, 0 < x
  | 0 => ⟨by simp [fr], fun x hx => by have : x = 1 := by simpa [fr] using hx
                                       omega⟩
  | k + 1 => ⟨(gi_iter (fr_ok k).1 (fun x hx => Int.le_of_lt ((fr_ok k).2 x hx)) _).sorted, giter_pos (fr_ok k).2 _⟩
theorem fr_nn (k : Nat) : ∀ x ∈ fr k, 0 ≤ x := fun x hx => Int.le_of_lt ((fr_ok k).2 x hx)
theorem fr_len : ∀ k, (fr k).length = 2 ^ k
  | 0 => rfl
  | k + 1 => by
    show (gen (fr k) _).length = _
    rw [gen_length (fr_ok k).1 (fr_nn k), fr_len k, Nat.pow_succ]
    omega
theorem fv_ok : ∀ k, (fv k).Pairwise (· ≤ ·) ∧ ∀ x ∈ fv k, 0 < x
  | 0 => ⟨by simp [fv], fun x hx => by simp [fv] at hx⟩
  | k + 1 => ⟨mrg_sorted (fr_ok k).1 (fv_ok k).1, fun x hx => by
      rcases List.mem_append.mp (mrg_perm.mem_iff.mp hx) with h | h
      · exact (fr_ok k).2 x h
      · exact (fv_ok k).2 x h⟩
theorem fv_len : ∀ k, (fv k).length + 1 = 2 ^ k
  | 0 => rfl
  | k + 1 => by
    have h := (mrg_perm (a := fr k) (b := fv k)).length_eq
    rw [List.length_append, fr_len] at h
    have := fv_len k
    show (mrg (fr k) (fv k)).length + 1 = _
    rw [Nat.pow_succ]; omega
theorem row_fr {M : Nat} (hM : 1 ≤ M) : ∀ k, row M k = (fr k).take M
  | 0 => by show [1] = [1].take M; rw [List.take_of_length_le]; exact hM
  | k + 1 => by
    show gen (row M k) M = _
    rw [row_fr hM k, gen_of_take (Nat.le_refl _)]
    exact gen_more (fr_ok k).1 (fr_nn k)
theorem vis_fv {M : Nat} (hM : 1 ≤ M) : ∀ k, vis M k = (fv (k + 1)).take M
  | 0 => by
    show [1] = (mrg [1] []).take M
    rw [mrg_nil_right, List.take_of_length_le]; exact hM
  | k + 1 => by
    show (mrg (row M (k + 1)) (vis M k)).take M = (mrg (fr (k + 1)) (fv (k + 1))).take M
    rw [row_fr hM, vis_fv hM k, mrg_take]
theorem fr_perm (k : Nat) : (fr (k + 1)).Perm (fr k ++ List.zipWith (· + ·) (fr (k + 1)) (fr k)) := by
  have I := gi_iter (fr_ok k).1 (fr_nn k) (2 * (fr k).length)
  have hl := gen_length (fr_ok k).1 (fr_nn k) (2 * (fr k).length)
  have h1 := I.len
  have h2 := I.pl
  have h3 := I.tl
  have h := I.perm
  change (fr (k + 1)).Perm (_ ++ List.take _ (List.zipWith _ (fr (k + 1)) _)) at h
  unfold gen at hl
  rw [List.take_of_length_le (show (fr k).length ≤ _ by omega), List.take_of_length_le (show (List.zipWith (· + ·) (fr (k + 1)) (fr k)).length ≤ _ by rw [List.length_zipWith]; omega)] at h
  exact h
/-- the recursion, from above -/
theorem fr_le {k i j : Nat} (hi : i ≤ 2 ^ k) (hj : j ≤ 2 ^ k) : PS (fr (k + 1)) (i + j) ≤ PS (fr k) i + PS (fr (k + 1)) j + PS (fr k) j := by
  have h1 := fr_len k
  have h2 := fr_len (k + 1)
  rw [Nat.pow_succ] at h2
  have h := PS_le (fr_ok (k + 1)).1 (fr_perm k) (i := i) (j := j) (by omega) (by rw [List.length_zipWith]; omega)
  rw [zip_PS j _ _ (by omega) (by omega)] at h
  omega
/-- the recursion is reached -/
theorem fr_split {k n : Nat} (h0 : 1 ≤ n) (hn : n ≤ 2 ^ (k + 1)) : ∃ p t, p + t = n ∧ 1 ≤ p ∧ p ≤ 2 ^ k ∧ t ≤ 2 ^ k ∧ PS (fr (k + 1)) n = PS (fr k) p + PS (fr (k + 1)) t + PS (fr k) t := by
  have I := gi_iter (fr_ok k).1 (fr_nn k) n
  have hl := gen_length (fr_ok k).1 (fr_nn k) n
  have h1 := I.len
  have h2 := I.pl
  have h3 := I.tl
  have h4 := fr_len k
  rw [Nat.pow_succ] at hn
  have hg : gen (fr k) n = (fr (k + 1)).take n := gen_more (fr_ok k).1 (fr_nn k)
  have hf := giter_first (fr k) n
  unfold gen at hl hg
  refine ⟨(giter (fr k) n).p, (giter (fr k) n).t, by omega, ?_, by omega, by omega, ?_⟩
  · by_cases hp : (giter (fr k) n).p = 0
    · have := congrArg List.length (hf hp)
      rw [List.length_nil] at this
      omega
    · omega
  · have h := perm_sum I.perm
    rw [hg, List.sum_append] at h
    have e := zip_PS (giter (fr k) n).t ((fr (k + 1)).take n) (fr k) (by rw [← hg]; exact I.tR) I.tl
    rw [PS_take (by omega)] at e
    unfold PS at e ⊢
    omega
theorem fv_le {k i j : Nat} (hi : i ≤ 2 ^ k) (hj : j + 1 ≤ 2 ^ k) : PS (fv (k + 1)) (i + j) ≤ PS (fr k) i + PS (fv k) j := by
  have h1 := fr_len k
  have h2 := fv_len k
  exact PS_le (fv_ok (k + 1)).1 mrg_perm (by omega) (by omega)
theorem fv_split {k n : Nat} (hn : n + 1 ≤ 2 ^ (k + 1)) : ∃ i j, i + j = n ∧ i ≤ 2 ^ k ∧ j + 1 ≤ 2 ^ k ∧ PS (fv (k + 1)) n = PS (fr k) i + PS (fv k) j := by
  have h1 := fr_len k
  have h2 := fv_len k
  rw [Nat.pow_succ] at hn
  obtain ⟨i, j, e, q1, q2, q3⟩ := mrg_split n (fr k) (fv k) (by omega)
  exact ⟨i, j, e, by omega, by omega, q3⟩
end Q9

set_option Elab.async false
set_option linter.all false
set_option maxRecDepth 100000
namespace Q9
open PySem PySem.Spec L2
def B_first_total : IS := (.seq (.asg (.nm 2) (.con (.int 0))) (.seq (.asg (.nm 3) (.var 1)) (.seq (.for (.tp [4, 5]) (.var 0) (.seq (.asg (.nm 6) (.bi .min (.cons (.var 5) (.cons (.var 3) .nil)))) (.seq (.aug 2 .add (.bin .mul (.var 4) (.var 6))) (.seq (.aug 3 .sub (.var 6)) .nil)))) (.seq (.ite (.cmp .gt (.var 3) (.con (.int 0))) (.seq (.ret (.con .non)) .nil) .nil) (.seq (.ret (.var 2)) .nil)))))
def B_row_deeds : IS := (.seq (.exp (.call 3 (.cons (.var 0) (.cons (.con (.int 1)) (.cons (.gl "MOST" (.int 1000000000000)) .nil))))) (.seq (.exp (.call 3 (.cons (.var 1) (.cons (.con (.int 1)) (.cons (.gl "MOST_ROOMS" (.int 60)) .nil))))) (.seq (.ret (.call 1 (.cons (.idx (.call 6 (.cons (.var 1) (.cons (.var 0) .nil))) (.con (.int 1))) (.cons (.var 0) .nil)))) .nil)))
def B_visit_deeds : IS := (.seq (.exp (.call 3 (.cons (.var 0) (.cons (.con (.int 1)) (.cons (.gl "MOST" (.int 1000000000000)) .nil))))) (.seq (.exp (.call 3 (.cons (.var 1) (.cons (.con (.int 1)) (.cons (.gl "MOST_ROOMS" (.int 60)) .nil))))) (.seq (.ret (.call 1 (.cons (.idx (.call 9 (.cons (.var 1) (.cons (.var 0) .nil))) (.con (.int 2))) (.cons (.var 0) .nil)))) .nil)))
def ftBody : IS := (.seq (.asg (.nm 6) (.bi .min (.cons (.var 5) (.cons (.var 3) .nil)))) (.seq (.aug 2 .add (.bin .mul (.var 4) (.var 6))) (.seq (.aug 3 .sub (.var 6)) .nil)))
theorem ft_eq : B_first_total = (.seq (.asg (.nm 2) (.con (.int 0))) (.seq (.asg (.nm 3) (.var 1)) (.seq (.for (.tp [4, 5]) (.var 0) ftBody) (.seq (.ite (.cmp .gt (.var 3) (.con (.int 0))) (.seq (.ret (.con .non)) .nil) .nil) (.seq (.ret (.var 2)) .nil))))) := rfl
def oD : Option Int → D
  | some i => .int i
  | none => .non
@[simp] theorem oD_some {i : Int} : oD (some i) = .int i := rfl
@[simp] theorem oD_none : oD none = .non := rfl
def tot (A : List Int) (n : Nat) : Option Int := if n ≤ A.length then some (PS A n) else none
theorem pD_inj {p q : Int × Int} (h : pD p = pD q) : p = q := by
  unfold pD at h
  injection h with h
  injection h with h1 h2
  injection h1 with h1
  injection h2 with h2 _
  injection h2 with h2
  exact Prod.ext h1 h2
theorem sum_rep {s : Int} : ∀ m : Nat, (List.replicate m s).sum = m * s
  | 0 => by simp
  | m + 1 => by rw [List.replicate_succ, List.sum_cons, sum_rep m, Int.natCast_add, Int.add_mul]; omega
theorem turn_ft {c : Oracle} {W : Nat} {x0 x1 x6 : Option D} {t l s m : Int} (h6 : Jnk x6) (hs : smallMul s (min m l) = true) :
    ex c W ftBody [x0, x1, some (.int t), some (.int l), some (.int s), some (.int m), x6] = .nx [x0, x1, some (.int (t + s * min m l)), some (.int (l - min m l)), some (.int s), some (.int m), some (.int (min m l))] := by
  unfold ftBody
  generalize hg : min m l = g at hs
  rcases h6 with rfl | ⟨i, rfl⟩ <;> simp [hs, hg]
/-- a loop over runs -/
theorem fruns {bnd : Env → D → Option Env} {body : Env → Fl} {L : List (Int × Int)} (I : List (Int × Int) → Env → Prop) {e : Env} (h0 : I [] e)
    (h : ∀ l q e, (∃ r, L = l ++ q :: r) → I l e → ∃ e1 e2, bnd e (pD q) = some e1 ∧ body e1 = .nx e2 ∧ I (l ++ [q]) e2) : ∃ e', floop bnd body (L.map pD) e = .nx e' ∧ I L e' := by
  obtain ⟨e', h1, l, hl, h2⟩ := floop_inv (bnd := bnd) (body := body) (fun done e => ∃ l, done = l.map pD ∧ I l e) (L.map pD) [] e ⟨[], rfl, h0⟩ (by
    rintro done d rest e hd ⟨l, rfl, hi⟩
    rw [List.nil_append] at hd
    obtain ⟨l2, l3, rfl, e2, e3⟩ := List.map_eq_append_iff.mp hd
    have : l2 = l := (List.map_inj_right (f := pD) (fun p q => pD_inj)).mp e2
    subst this
    cases l3 with
    | nil => cases e3
    | cons q l3 =>
      rw [List.map_cons] at e3
      injection e3 with e3 _
      subst e3
      obtain ⟨e1, e2, q1, q2, q3⟩ := h l2 q e ⟨l3, rfl⟩ hi
      exact ⟨e1, e2, q1, q2, l2 ++ [q], by simp, q3⟩)
  rw [List.nil_append] at hl
  have : l = L := ((List.map_inj_right (f := pD) (fun p q => pD_inj)).mp hl).symm
  subst this
  exact ⟨e', h1, h2⟩
theorem ft_ex {c : Oracle} {W : Nat} {L : List (Int × Int)} {n : Nat} (hw : WF L) (hn : n < 1000000000000) :
    ∃ e, ex c W B_first_total [some (eR L), some (.int (n : Int)), none, none, none, none, none] = .ret (oD (tot (Ex L) n)) e ∧ e.length = 7 ∧ e.take 2 = [some (eR L), some (.int (n : Int))] := by
  obtain ⟨e', h, x4, x5, x6, rfl, g4, g5, g6⟩ := fruns (bnd := fun e d => bindT e (.tp [4, 5]) d) (body := fun e => ex c W ftBody e) (L := L)
    (fun l e => ∃ x4 x5 x6, e = [some (eR L), some (.int (n : Int)), some (.int (PS (Ex l) n)), some (.int ((n - (Ex l).length : Nat) : Int)), x4, x5, x6] ∧ Jnk x4 ∧ Jnk x5 ∧ Jnk x6)
    (e := [some (eR L), some (.int (n : Int)), some (.int 0), some (.int (n : Int)), none, none, none]) ⟨none, none, none, by simp [Ex_nil, PS], .inl rfl, .inl rfl, .inl rfl⟩ (by
      rintro l q e ⟨r, rfl⟩ ⟨x4, x5, x6, rfl, g4, g5, g6⟩
      have hq : 0 < q.2 := hw q (by simp)
      have hE : Ex (l ++ [q]) = Ex l ++ List.replicate q.2.toNat q.1 := by rw [Ex_app, Ex_cons, Ex_nil, List.append_nil]
      have hs : smallMul q.1 (min q.2 ((n - (Ex l).length : Nat) : Int)) = true := smallR (by omega)
      have em : min q.2 ((n - (Ex l).length : Nat) : Int) = ((min (n - (Ex l).length) q.2.toNat : Nat) : Int) := by omega
      refine ⟨[some (eR (l ++ q :: r)), some (.int (n : Int)), some (.int (PS (Ex l) n)), some (.int ((n - (Ex l).length : Nat) : Int)), some (.int q.1), some (.int q.2), x6], _, ?_, turn_ft g6 hs, some (.int q.1), some (.int q.2), some (.int (min q.2 ((n - (Ex l).length : Nat) : Int))), ?_, .inr ⟨_, rfl⟩, .inr ⟨_, rfl⟩, .inr ⟨_, rfl⟩⟩
      · generalize ((n - (Ex l).length : Nat) : Int) = a
        generalize (n : Int) = b
        rcases g4 with rfl | ⟨i4, rfl⟩ <;> rcases g5 with rfl | ⟨i5, rfl⟩ <;> simp [pD]
      · have e1 : PS (Ex (l ++ [q])) n = PS (Ex l) n + q.1 * min q.2 ((n - (Ex l).length : Nat) : Int) := by
          unfold PS
          rw [hE, List.take_append, List.sum_append, List.take_replicate, sum_rep, em, Int.mul_comm]
        have e2 : ((n - (Ex (l ++ [q])).length : Nat) : Int) = ((n - (Ex l).length : Nat) : Int) - min q.2 ((n - (Ex l).length : Nat) : Int) := by
          rw [hE, List.length_append, List.length_replicate]; omega
        rw [e1, e2])
  rw [ft_eq]
  have st : ∀ (N : Int) b, ex c W (.seq (.asg (.nm 2) (.con (.int 0))) (.seq (.asg (.nm 3) (.var 1)) b)) [some (eR L), some (.int N), none, none, none, none, none] = ex c W b [some (eR L), some (.int N), some (.int 0), some (.int N), none, none, none] := by intro N b; simp
  have hv : ev c (.var 0) .v [some (eR L), some (.int (n : Int)), some (.int 0), some (.int (n : Int)), none, none, none] = .ok (.lst (L.map pD)) [some (eR L), some (.int (n : Int)), some (.int 0), some (.int (n : Int)), none, none, none] := by simp [eR]
  rw [st, ex_seq, ex_for, hv, fl_ok, un_lst, items_lst]
  show ∃ e, (floop _ _ _ _).then _ = _ ∧ _
  rw [h, then_nx]
  refine ⟨[some (eR L), some (.int (n : Int)), some (.int (PS (Ex L) n)), some (.int ((n - (Ex L).length : Nat) : Int)), x4, x5, x6], ?_, rfl, rfl⟩
  unfold tot
  by_cases hle : n ≤ (Ex L).length
  · rw [if_pos hle, show n - (Ex L).length = 0 by omega]
    generalize (n : Int) = N
    simp
  · rw [if_neg hle]
    have : 0 < ((n - (Ex L).length : Nat) : Int) := by omega
    generalize ((n - (Ex L).length : Nat) : Int) = a at this
    generalize (n : Int) = N
    simp [this]
theorem rdeeds_ex {c : Oracle} {W : Nat} {n r : Int} {lo R v : D}
    (h1 : c 3 [.int n, .int 1, .int 1000000000000] = .ok .non [some (.int n), some (.int 1), some (.int 1000000000000)])
    (h2 : c 3 [.int r, .int 1, .int 60] = .ok .non [some (.int r), some (.int 1), some (.int 60)])
    (h3 : c 6 [.int r, .int n] = .ok (.tup [lo, R]) [some (.int r), some (.int n)])
    (h4 : c 1 [R, .int n] = .ok v [some R, some (.int n)]) (hR : D.un R = R) (hv : D.un v = v) :
    ex c W B_row_deeds [some (.int n), some (.int r)] = .ret v [some (.int n), some (.int r)] := by
  unfold B_row_deeds
  simp [h1, h2, h3, h4, hR, hv]
theorem vdeeds_ex {c : Oracle} {W : Nat} {n r : Int} {R lo V v : D}
    (h1 : c 3 [.int n, .int 1, .int 1000000000000] = .ok .non [some (.int n), some (.int 1), some (.int 1000000000000)])
    (h2 : c 3 [.int r, .int 1, .int 60] = .ok .non [some (.int r), some (.int 1), some (.int 60)])
    (h3 : c 9 [.int r, .int n] = .ok (.tup [R, lo, V]) [some (.int r), some (.int n)])
    (h4 : c 1 [V, .int n] = .ok v [some V, some (.int n)]) (hR : D.un V = V) (hv : D.un v = v) :
    ex c W B_visit_deeds [some (.int n), some (.int r)] = .ret v [some (.int n), some (.int r)] := by
  unfold B_visit_deeds
  simp [h1, h2, h3, h4, hR, hv]
theorem oD_un {o : Option Int} : D.un (oD o) = oD o := by cases o <;> rfl
theorem tot_row {n k : Nat} (h : 1 ≤ n) : tot (row n k) n = tot (fr k) n := by
  unfold tot
  rw [row_fr h, PS_take (Nat.le_refl _), List.length_take]
  by_cases h2 : n ≤ (fr k).length
  · rw [if_pos h2, if_pos (by omega)]
  · rw [if_neg h2, if_neg (by omega)]
theorem tot_vis {n k : Nat} (h : 1 ≤ n) : tot (vis n k) n = tot (fv (k + 1)) n := by
  unfold tot
  rw [vis_fv h, PS_take (Nat.le_refl _), List.length_take]
  by_cases h2 : n ≤ (fv (k + 1)).length
  · rw [if_pos h2, if_pos (by omega)]
  · rw [if_neg h2, if_neg (by omega)]
section
variable {Γ : Nat → Option Df} {W k : Nat}
theorem c_ft (h : Γ 1 = some ⟨2, 7, B_first_total⟩) {L : List (Int × Int)} {n : Nat} (hw : WF L) (hn : n < 1000000000000) : run Γ W (k + 1) 1 [eR L, .int (n : Int)] = .ok (oD (tot (Ex L) n)) [some (eR L), some (.int (n : Int))] := by
  obtain ⟨e, q3, q4, q5⟩ := ft_ex (c := run Γ W k) (W := W) hw hn
  exact cret (k := k) h q3 rfl rfl q4 q5
theorem c_rdeeds (G : GP Γ) (h1 : Γ 1 = some ⟨2, 7, B_first_total⟩) (h2 : Γ 7 = some ⟨2, 2, B_row_deeds⟩) {n j : Nat} (n1 : 1 ≤ n) (n2 : n ≤ 1000001) (hW : n < W) (hj : j < 60) : run Γ W (k + 4) 7 [.int (n : Int), .int ((j : Int) + 1)] = .ok (oD (tot (fr j) n)) [some (.int (n : Int)), some (.int ((j : Int) + 1))] := by
  have hsz : ((n : Nat) : Int).toNat ≤ sizeLine := by rw [sizeLine_eq]; omega
  obtain ⟨lo, R, _, _, w, q, h8⟩ := c_pair G (k := k) (W := W) (n := j) (most := (n : Int)) (by omega) (by omega) (by omega) hsz
  rw [Int.toNat_natCast] at q
  have h9 := c_ft h1 (W := W) (k := k + 2) (n := n) w (by omega)
  rw [q, tot_row n1] at h9
  exact cret (k := k + 3) h2 (rdeeds_ex (c_judge G (k := k + 1) _ _ _ (by omega) (by omega)) (c_judge G (k := k + 1) _ _ _ (by omega) (by omega)) h8 h9 rfl oD_un) rfl rfl rfl rfl
theorem c_vdeeds (G : GP Γ) (GW : GV Γ) (h1 : Γ 1 = some ⟨2, 7, B_first_total⟩) (h2 : Γ 10 = some ⟨2, 2, B_visit_deeds⟩) {n j : Nat} (n1 : 1 ≤ n) (n2 : n ≤ 1000001) (hW : n < W) (hj : j < 60) : run Γ W (k + 4) 10 [.int (n : Int), .int ((j : Int) + 1)] = .ok (oD (tot (fv (j + 1)) n)) [some (.int (n : Int)), some (.int ((j : Int) + 1))] := by
  have hsz : ((n : Nat) : Int).toNat ≤ sizeLine := by rw [sizeLine_eq]; omega
  obtain ⟨R, lo, V, _, _, _, _, w, q, h8⟩ := c_trio G GW (k := k) (W := W) (n := j) (most := (n : Int)) (by omega) (by omega) (by omega) hsz
  rw [Int.toNat_natCast] at q
  have h9 := c_ft h1 (W := W) (k := k + 2) (n := n) w (by omega)
  rw [q, tot_vis n1] at h9
  exact cret (k := k + 3) h2 (vdeeds_ex (c_judge G (k := k + 1) _ _ _ (by omega) (by omega)) (c_judge G (k := k + 1) _ _ _ (by omega) (by omega)) h8 h9 rfl oD_un) rfl rfl rfl rfl
end
end Q9

set_option Elab.async false
set_option linter.all false
set_option maxRecDepth 100000
namespace Q9
open PySem PySem.Spec L2
theorem fr_mono {k i : Nat} (h : i ≤ 2 ^ k) : PS (fr (k + 1)) i ≤ PS (fr k) i := by
  have := fr_le (k := k) (i := i) (j := 0) h (Nat.zero_le _)
  simp only [Nat.add_zero, PS_zero] at this
  omega
theorem fr_one : ∀ k, PS (fr k) 1 ≤ 1
  | 0 => by simp [fr, PS]
  | k + 1 => Int.le_trans (fr_mono Nat.one_le_two_pow) (fr_one k)
theorem PS_lt {A : List Int} (hp : ∀ x ∈ A, 0 < x) {n : Nat} (h : n < A.length) : PS A n + 1 ≤ PS A (n + 1) := by
  unfold PS
  rw [List.take_succ, List.getElem?_eq_getElem h, List.sum_append]
  have := hp _ (List.getElem_mem h)
  simp
  omega
theorem up_bound : ∀ k n, 1 ≤ n → n ≤ 2 ^ k → PS (fr k) n ≤ 2 * PS (fv k) (n - 1) + 1
  | 0, n, h1, h2 => by
    have : n = 1 := by simp at h2; omega
    subst this
    simp [fr, fv, PS]
  | k + 1, n, h1, h2 => by
    obtain ⟨i, j, e, q1, q2, q3⟩ := fv_split (k := k) (n := n - 1) (by omega)
    have ih := up_bound k (j + 1) (by omega) q2
    have h3 := fr_le (k := k) (i := j + 1) (j := i) q2 q1
    have h4 := fr_mono (k := k) q1
    rw [show j + 1 + i = n by omega] at h3
    rw [Nat.add_sub_cancel] at ih
    omega
theorem low_bound : ∀ k n, 1 ≤ n → n ≤ 2 ^ k → PS (fv (k + 1)) (n - 1) + 1 + PS (fv k) (n - 1) ≤ PS (fr k) n
  | 0, n, h1, h2 => by
    have : n = 1 := by simp at h2; omega
    subst this
    simp [fr, PS]
  | k + 1, n, h1, h2 => by
    obtain ⟨p, t, e, p1, p2, t2, q⟩ := fr_split h1 h2
    have ih := low_bound k p p1 p2
    have hk : 2 ^ (k + 1) = 2 * 2 ^ k := by rw [Nat.pow_succ]; omega
    have h3 := fv_le (k := k + 1) (i := t) (j := p - 1) (by omega) (by omega)
    have h4 := fv_le (k := k) (i := t) (j := p - 1) t2 (by omega)
    rw [show t + (p - 1) = n - 1 by omega] at h3 h4
    omega
section
variable {c : Oracle} {W : Nat} {e : Env} {m : Md}
@[simp] theorem ev_bm {f : Bm} {a as : IE} : ev c (.bm f a as) m e = fin m ((ev c a (pk as) e).bind fun x e1 => (evA c as e1).bind fun ds e2 => ofO (bmD f (D.un x) ds) e2) := rfl
@[simp] theorem bm_bits {i : Int} : bmD .bits (.int i) [] = some (.int (Builtin.Int.intBits i : Nat)) := rfl
@[simp] theorem isn_int {i : Int} : cmpD .isn (.int i) .non = some false := rfl
@[simp] theorem isn_non : cmpD .isn .non .non = some true := rfl
@[simp] theorem notn_int {i : Int} : cmpD .notn (.int i) .non = some true := rfl
@[simp] theorem notn_non : cmpD .notn .non .non = some false := rfl
end
theorem bits_up {n : Nat} (h1 : 1 ≤ n) {m : Nat} : Builtin.Int.intBits ((n : Int) - 1) ≤ m ↔ n ≤ 2 ^ m := by
  rw [intBits_le_iff]
  omega
theorem tot_some {A : List Int} {n : Nat} (h : n ≤ A.length) : tot A n = some (PS A n) := if_pos h
theorem c_great {Γ : Nat → Option Df} {W k : Nat} (G : GL Γ) (h : Γ 20 = some ⟨2, 4, B__law_great⟩) : ∀ g sd ct lim : Int, 0 < lim → ∃ v g' sd' ct', 0 ≤ v ∧ v < lim ∧ run Γ W (k + 2) 20 [.brw (pool g sd ct), .int lim] = .ok (.int v) [some (.brw (pool g' sd' ct')), some (.int lim)] := by
  intro g sd ct lim h0
  obtain ⟨v, g', sd', ct', x, y, a, b, q⟩ := great_ex (c := run Γ W (k + 1)) (W := W) (g := g) (sd := sd) (ct := ct) h0 (c_draw G)
  exact ⟨v, g', sd', ct', a, b, cret (k := k + 1) h q rfl rfl rfl rfl⟩
theorem c_rn {Γ : Nat → Option Df} {W k : Nat} (G : GL Γ) (h : Γ 20 = some ⟨2, 4, B__law_great⟩) (hp : Γ 21 = some ⟨1, 3, B__law_power⟩) (hr : Γ 22 = some ⟨2, 6, B__law_rooms_and_n⟩) {g sd ct sp : Int} (hsp : sp = 0 ∨ sp = 1) :
    ∃ r n g' sd' ct', 1 ≤ r ∧ r ≤ 60 ∧ 1 ≤ n ∧ n ≤ 1000000 ∧ n ≤ ((2 ^ (min r 30 - 1 + sp).toNat : Nat) : Int) - sp ∧ run Γ W (k + 3) 22 [.brw (pool g sd ct), .int sp] = .ok (.tup [.int r, .int n]) [some (.brw (pool g' sd' ct')), some (.int sp)] := by
  obtain ⟨r, n, g', sd', ct', e, a1, a2, a3, a4, a5, q, q1, q2⟩ := rn_ex (c := run Γ W (k + 2)) (W := W) (g := g) (sd := sd) (ct := ct) hsp (c_draw G) (c_great G h) (fun n hn => c_power hp hn)
  exact ⟨r, n, g', sd', ct', a1, a2, a3, a4, a5, cret (k := k + 2) hr q rfl rfl q1 q2⟩
end Q9

set_option Elab.async false
set_option linter.all false
set_option maxRecDepth 100000
namespace Q9
open PySem PySem.Spec L2
def oP : Option Int → PyData
  | some i => .int i
  | none => .none
theorem pysO {P : List (Option Int)} : D.pys (P.map oD) = some (P.map oP) := by
  induction P with
  | nil => rfl
  | cons x xs ih => cases x <;> simp [D.pys, D.py, ih, oP]
theorem layO {P : List (Option Int)} : PyData.canLayAll0 (P.map oP) = true := by
  induction P with
  | nil => simp [PyData.canLayAll0]
  | cons x xs ih => cases x <;> simp [PyData.canLayAll0, ih, PyData.canLay0, oP]
theorem depO {P : List (Option Int)} : PyData.depthAll (P.map oP) ≤ 1 := by
  induction P with
  | nil => simp [PyData.depthAll]
  | cons x xs ih => cases x <;> simp [PyData.depthAll, ih, PyData.depth, oP]
theorem shO {P : List (Option Int)} : SeqAt.shaped (.list (P.map oP)) = true := by
  unfold SeqAt.shaped
  have := depO (P := P)
  simp [PyData.canLay0, PyData.depth, layO]
  omega
theorem shN : SeqAt.shaped .none = true := by
  unfold SeqAt.shaped
  simp [PyData.canLay0, PyData.depth]
@[simp] theorem mem_non {P : List (Option Int)} : memD .non (P.map oD) = some (P.any Option.isNone) := by
  show (match D.py .non, D.pys (P.map oD) with
    | some p, some qs => if SeqAt.shaped p && SeqAt.shaped (.list qs) then some (qs.any fun z => PyData.eqv z p) else none
    | _, _ => none) = _
  rw [pysO]
  show (if SeqAt.shaped .none && SeqAt.shaped (.list (P.map oP)) then some ((P.map oP).any fun z => PyData.eqv z .none) else none) = _
  rw [shN, shO]
  show some ((P.map oP).any fun z => PyData.eqv z .none) = _
  rw [List.any_map]
  congr 2
  funext x
  cases x <;> simp [oP, PyData.eqv]
@[simp] theorem cmp_in {x : D} {l : List D} : cmpD .isin x (.lst l) = memD x l := by cases x <;> rfl
@[simp] theorem eqv_bl {a b : Bool} : D.eqv (.bl a) (.bl b) = some (decide (a = b)) := by
  have h : ∀ a : Bool, SeqAt.shaped (.bool a) = true := by intro a; unfold SeqAt.shaped; simp [PyData.canLay0, PyData.depth]
  show (if SeqAt.shaped (.bool a) && SeqAt.shaped (.bool b) then some (PyData.eqv (.bool a) (.bool b)) else none) = _
  rw [h, h]
  show some (PyData.eqv (.bool a) (.bool b)) = _
  cases a <;> cases b <;> simp [PyData.eqv]
theorem shI' {x : Option Int} : SeqAt.shaped (oP x) = true := by cases x with
  | none => exact shN
  | some i => exact shI
theorem pyO {x : Option Int} : D.py (oD x) = some (oP x) := by cases x <;> rfl
@[simp] theorem eqv_oD {a b : Option Int} : D.eqv (oD a) (oD b) = some (decide (a = b)) := by
  show (match D.py (oD a), D.py (oD b) with
    | some x, some y => if SeqAt.shaped x && SeqAt.shaped y then some (PyData.eqv x y) else none
    | _, _ => none) = _
  rw [pyO, pyO]
  show (if SeqAt.shaped (oP a) && SeqAt.shaped (oP b) then some (PyData.eqv (oP a) (oP b)) else none) = _
  rw [shI', shI']
  show some (PyData.eqv (oP a) (oP b)) = _
  cases a with
  | none => cases b <;> simp [oP, PyData.eqv]
  | some i => cases b with
    | none => simp [oP, PyData.eqv]
    | some j => simp [oP, eqvI]
theorem cloop_filter {bnd : Env → D → Option Env} {cond elt : Env → Re D} (p : D → Bool) (f : D → D) (P : Env → Prop) : ∀ (ds acc : List D) (e : Env), P e → acc.length + ds.length ≤ sizeLine →
    (∀ e d, P e → d ∈ ds → ∃ e1 e2, bnd e d = some e1 ∧ cond e1 = .ok (.bl (p d)) e2 ∧ (p d = false → P e2) ∧ (p d = true → ∃ e3 x, elt e2 = .ok x e3 ∧ D.un x = f d ∧ P e3)) → ∃ e', cloop bnd cond elt ds acc e = .ok (.own (.lst (acc ++ (ds.filter p).map f))) e' ∧ P e'
  | [], acc, e, hp, _, _ => ⟨e, by show Re.ok _ _ = _; simp, hp⟩
  | d :: ds, acc, e, hp, hl, h => by
    obtain ⟨e1, e2, h1, h2, h3, h4⟩ := h e d hp List.mem_cons_self
    simp only [List.length_cons] at hl
    show ∃ e', (match (generalizing := false) bnd e d with
      | none => Re.stk
      | some e1 => (cond e1).bind fun b e2 => match b with
        | .bl true => (elt e2).bind fun x e3 => if acc.length < sizeLine then cloop bnd cond elt ds (acc ++ [D.un x]) e3 else .stk
        | .bl false => cloop bnd cond elt ds acc e2
        | _ => .stk) = _ ∧ _
    rw [h1]
    show ∃ e', (cond e1).bind _ = _ ∧ _
    rw [h2]
    cases hpd : p d with
    | false =>
      obtain ⟨e', q1, q2⟩ := cloop_filter p f P ds acc e2 (h3 hpd) (by omega) fun e d' q m => h e d' q (List.mem_cons_of_mem _ m)
      refine ⟨e', ?_, q2⟩
      show cloop bnd cond elt ds acc e2 = _
      rw [q1, List.filter_cons_of_neg (by rw [hpd]; simp)]
    | true =>
      obtain ⟨e3, x, q3, q4, q5⟩ := h4 hpd
      obtain ⟨e', q1, q2⟩ := cloop_filter p f P ds (acc ++ [f d]) e3 q5 (by simp; omega) fun e d' q m => h e d' q (List.mem_cons_of_mem _ m)
      refine ⟨e', ?_, q2⟩
      show (elt e2).bind _ = _
      rw [q3]
      show (if acc.length < sizeLine then cloop bnd cond elt ds (acc ++ [D.un x]) e3 else .stk) = _
      rw [if_pos (by omega), q4, q1, List.filter_cons_of_pos hpd]
      simp
def OJ (x : Option D) : Prop := x = none ∨ ∃ t : Option Int, x = some (oD t)
end Q9

set_option Elab.async false
set_option linter.all false
set_option maxRecDepth 100000
namespace Q9
open PySem PySem.Spec L2
@[simp] theorem ex_retV {c : Oracle} {W : Nat} {i : Nat} {e : Env} : ex c W (.retV i) e = (match e[i]? with
    | some (some (.own d)) => .ret (.own d) (e.set i none)
    | _ => .stk) := rfl
@[simp] theorem ex_forO {c : Oracle} {W : Nat} {tg : Tg} {i : Nat} {en : Bool} {b : IS} {e : Env} : ex c W (.forO tg i en b) e = (match e[i]? with
    | some (some (.own (.lst l))) => unbr i (iloop (fun e d => bindT e tg d) (fun e => ex c W b e) i en W 0 (e.set i (some (.brw (.lst l)))))
    | _ => .stk) := rfl
/-- a loop over an own list -/
theorem iloop_inv {bnd : Env → D → Option Env} {body : Env → Fl} {i : Nat} {en : Bool} {l : List D} (I : Nat → Env → Prop) (hI : ∀ j e, I j e → e[i]? = some (some (.brw (.lst l))))
    (hs : ∀ j e d, l[j]? = some d → I j e → ∃ e1 e2, bnd e (if en then .tup [.int (j : Int), d] else d) = some e1 ∧ body e1 = .nx e2 ∧ I (j + 1) e2) :
    ∀ n j e, l.length ≤ j + n → j ≤ l.length → I j e → ∃ e', iloop bnd body i en n j e = .nx e' ∧ I l.length e'
  | n, j, e, hn, hj, h => by
    rw [iloop_eq, hI j e h]
    show ∃ e', (match l[j]? with
      | none => Fl.nx e
      | some d => match n with
        | 0 => .stk
        | n + 1 => match bnd e (if en then .tup [.int (j : Int), d] else d) with
          | none => .stk
          | some e1 => match body e1 with
            | .nx e2 => iloop bnd body i en n (j + 1) e2
            | .ct e2 => iloop bnd body i en n (j + 1) e2
            | .brk e2 => .nx e2
            | r => r) = _ ∧ _
    cases hd : l[j]? with
    | none =>
      have : l.length ≤ j := by rw [List.getElem?_eq_none_iff] at hd; exact hd
      have e1 : j = l.length := by omega
      subst e1
      exact ⟨e, rfl, h⟩
    | some d =>
      have hlt := (List.getElem?_eq_some_iff.mp hd).1
      cases n with
      | zero => omega
      | succ n =>
        obtain ⟨e1, e2, h1, h2, h3⟩ := hs j e d hd h
        obtain ⟨e', h4, h5⟩ := iloop_inv I hI hs n (j + 1) e2 (by omega) (by omega) h3
        refine ⟨e', ?_, h5⟩
        show (match bnd e (if en then .tup [.int (j : Int), d] else d) with
          | none => Fl.stk
          | some e1 => match body e1 with
            | .nx e2 => iloop bnd body i en n (j + 1) e2
            | .ct e2 => iloop bnd body i en n (j + 1) e2
            | .brk e2 => .nx e2
            | r => r) = _
        rw [h1]
        show (match body e1 with
            | .nx e2 => iloop bnd body i en n (j + 1) e2
            | .ct e2 => iloop bnd body i en n (j + 1) e2
            | .brk e2 => .nx e2
            | r => r) = _
        rw [h2]
        exact h4
def C23 : IS := (.seq (.asg (.nm 3) (.lstE .nil)) (.seq (.asg (.nm 4) (.con (.int 0))) (.seq (.for (.tp [5, 6]) (.var 0) (.seq (.asg (.nm 7) (.bi .max (.cons (.var 1) (.cons (.bin .add (.var 4) (.con (.int 1))) .nil)))) (.seq (.asg (.nm 8) (.bi .min (.cons (.var 2) (.cons (.bin .add (.var 4) (.var 6)) .nil)))) (.seq (.ite (.cmp .le (.var 7) (.var 8)) (.seq (.aug 3 .add (.bin .mul (.lstE (.cons (.var 5) .nil)) (.bin .add (.bin .sub (.var 8) (.var 7)) (.con (.int 1))))) .nil) .nil) (.seq (.aug 4 .add (.var 6)) .nil))))) (.seq (.retV 3) .nil))))
theorem C23_eq : C23 = (.seq (.asg (.nm 3) (.lstE .nil)) (.seq (.asg (.nm 4) (.con (.int 0))) (.seq (.for (.tp [5, 6]) (.var 0) cBody) (.seq (.retV 3) .nil)))) := rfl
theorem cut23 {c : Oracle} {W : Nat} {L : List (Int × Int)} {first last : Int} (hw : WF L) (h1 : 1 ≤ first) (hb : last.toNat ≤ sizeLine) :
    ∃ e, ex c W C23 [some (eR L), some (.int first), some (.int last), none, none, none, none, none, none] = .ret (.own (.lst ((cutE (Ex L) first last).map .int))) e ∧ e.length = 9 ∧ e.take 3 = [some (eR L), some (.int first), some (.int last)] := by
  obtain ⟨e', h, x5, x6, x7, x8, rfl, _⟩ := fruns (bnd := fun e d => bindT e (.tp [5, 6]) d) (body := fun e => ex c W cBody e) (L := L)
    (fun l e => ∃ x5 x6 x7 x8, e = [some (eR L), some (.int first), some (.int last), some (.own (.lst ((cutE (Ex l) first last).map .int))), some (.int ((Ex l).length : Int)), x5, x6, x7, x8] ∧ CFree x5 x6 x7 x8)
    (e := [some (eR L), some (.int first), some (.int last), some (.own (.lst [])), some (.int 0), none, none, none, none])
    ⟨none, none, none, none, by simp [cutE, Ex_nil], .inl rfl, .inl rfl, .inl rfl, .inl rfl⟩
    (by
      rintro l2 q e ⟨l3, rfl⟩ ⟨x5, x6, x7, x8, rfl, g5, g6, g7, g8⟩
      have hq : 0 < q.2 := hw q (by simp)
      have hE : Ex (l2 ++ [q]) = Ex l2 ++ List.replicate q.2.toNat q.1 := by rw [Ex_app, Ex_cons, Ex_nil, List.append_nil]
      have hc := cut_app (E := Ex l2) (s := q.1) (m := q.2) (first := first) (last := last) h1 (by omega)
      have hlen : (cutE (Ex l2) first last).length + (min last (((Ex l2).length : Int) + q.2) - max first (((Ex l2).length : Int) + 1) + 1).toNat ≤ sizeLine := by
        rw [cutE_len]; omega
      refine ⟨[some (eR (l2 ++ q :: l3)), some (.int first), some (.int last), some (.own (.lst ((cutE (Ex l2) first last).map .int))), some (.int ((Ex l2).length : Int)), some (.int q.1), some (.int q.2), x7, x8], _, ?_, turn_cut g7 g8 hlen, some (.int q.1), some (.int q.2), some (.int (max first (((Ex l2).length : Int) + 1))), some (.int (min last (((Ex l2).length : Int) + q.2))), ?_, .inr ⟨_, rfl⟩, .inr ⟨_, rfl⟩, .inr ⟨_, rfl⟩, .inr ⟨_, rfl⟩⟩
      · rcases g5 with rfl | ⟨i5, rfl⟩ <;> rcases g6 with rfl | ⟨i6, rfl⟩ <;> simp [pD]
      · rw [hE, hc, List.length_append, List.length_replicate, show ((((Ex l2).length + q.2.toNat : Nat)) : Int) = (Ex l2).length + q.2 by omega])
  rw [C23_eq]
  refine ⟨[some (eR L), some (.int first), some (.int last), none, some (.int ((Ex L).length : Int)), x5, x6, x7, x8], ?_, rfl, rfl⟩
  have st : ∀ b, ex c W (.seq (.asg (.nm 3) (.lstE .nil)) (.seq (.asg (.nm 4) (.con (.int 0))) b)) [some (eR L), some (.int first), some (.int last), none, none, none, none, none, none] = ex c W b [some (eR L), some (.int first), some (.int last), some (.own (.lst [])), some (.int 0), none, none, none, none] := by
    intro b; simp
  rw [st, ex_seq, ex_for]
  have hv : ev c (.var 0) .v [some (eR L), some (.int first), some (.int last), some (.own (.lst [])), some (.int 0), none, none, none, none] = .ok (.lst (L.map pD)) [some (eR L), some (.int first), some (.int last), some (.own (.lst [])), some (.int 0), none, none, none, none] := by simp [eR]
  rw [hv, fl_ok, un_lst, items_lst]
  show (floop _ _ _ _).then _ = _
  rw [h, then_nx]
  simp
theorem rsteps23 {c : Oracle} {W : Nat} {r g a b : Int} {lo R : D} {l : List D}
    (hg : binD .shl (.int 1) (.int (r - 1)) = some (.int g))
    (hc4 : c 3 [.int r, .int 1, .int 60] = .ok .non [some (.int r), some (.int 1), some (.int 60)])
    (hc5 : c 14 [.int a, .int b, .int g] = .ok .non [some (.int a), some (.int b), some (.int g)])
    (hc8 : c 6 [.int r, .int b] = .ok (.tup [lo, R]) [some (.int r), some (.int b)])
    (hc2 : c 13 [R, .int a, .int b] = .ok (.own (.lst l)) [some R, some (.int a), some (.int b)]) (hR : D.un R = R) :
    ex c W B_row_steps [some (.int r), some (.int a), some (.int b)] = .ret (.own (.lst l)) [some (.int r), some (.int a), some (.int b)] := by
  unfold B_row_steps
  simp [-bin_shl, hg, hc4, hc5, hc8, hc2, hR]
theorem vsteps23 {c : Oracle} {W : Nat} {r g a b : Int} {R lo V : D} {l : List D}
    (hg : binD .shl (.int 1) (.int r) = some (.int g))
    (hc4 : c 3 [.int r, .int 1, .int 60] = .ok .non [some (.int r), some (.int 1), some (.int 60)])
    (hc5 : c 14 [.int a, .int b, .int (g - 1)] = .ok .non [some (.int a), some (.int b), some (.int (g - 1))])
    (hc8 : c 9 [.int r, .int b] = .ok (.tup [R, lo, V]) [some (.int r), some (.int b)])
    (hc2 : c 13 [V, .int a, .int b] = .ok (.own (.lst l)) [some V, some (.int a), some (.int b)]) (hR : D.un V = V) :
    ex c W B_visit_steps [some (.int r), some (.int a), some (.int b)] = .ret (.own (.lst l)) [some (.int r), some (.int a), some (.int b)] := by
  unfold B_visit_steps
  simp [-bin_shl, hg, hc4, hc5, hc8, hc2, hR]
def M23 : IS := (.seq (.ite (.cmp .eq (.var 0) (.con (.int 0))) (.seq (.ret (.call 15 (.cons (.var 1) (.cons (.var 2) (.cons (.var 3) .nil))))) .nil) .nil) (.seq (.ret (.call 16 (.cons (.var 1) (.cons (.var 2) (.cons (.var 3) .nil))))) .nil))
def P23 : IS := (.seq (.ite (.cmp .eq (.var 1) (.con (.int 0))) (.seq (.ret (.con (.int 0))) .nil) .nil) (.seq (.ite (.cmp .eq (.var 0) (.con (.int 0))) (.seq (.ret (.call 7 (.cons (.var 1) (.cons (.var 2) .nil)))) .nil) .nil) (.seq (.ret (.call 10 (.cons (.var 1) (.cons (.var 2) .nil)))) .nil)))
def I23 : IS := (.seq (.ret (.and (.isi .int (.var 0)) (.not (.isi .bool (.var 0))))) .nil)
def H23 : IS := (.seq (.asg (.nm 4) (.call 17 (.cons (.var 0) (.cons (.var 1) (.cons (.var 2) (.cons (.var 3) .nil)))))) (.seq (.ite (.or (.not (.isi .list (.var 4))) (.cmp .ne (.bi .len (.cons (.var 4) .nil)) (.bin .add (.bin .sub (.var 3) (.var 2)) (.con (.int 1))))) (.seq (.ret (.con (.bl false))) .nil) .nil) (.seq (.forO (.tp [8, 9]) 4 true (.seq (.ite (.or (.not (.call 12 (.cons (.var 9) .nil))) (.and (.cmp .gt (.var 8) (.con (.int 0))) (.cmp .lt (.var 9) (.idx (.var 4) (.bin .sub (.var 8) (.con (.int 1))))))) (.seq (.ret (.con (.bl false))) .nil) .nil) .nil)) (.seq (.ite (.and (.cmp .eq (.var 2) (.con (.int 1))) (.cmp .ne (.idx (.var 4) (.con (.int 0))) (.con (.int 1)))) (.seq (.ret (.con (.bl false))) .nil) .nil) (.seq (.asg (.nm 5) (.call 11 (.cons (.var 0) (.cons (.bin .sub (.var 2) (.con (.int 1))) (.cons (.var 1) .nil))))) (.seq (.ite (.cmp .ne (.bin .sub (.call 11 (.cons (.var 0) (.cons (.var 2) (.cons (.var 1) .nil)))) (.var 5)) (.idx (.var 4) (.con (.int 0)))) (.seq (.ret (.con (.bl false))) .nil) .nil) (.seq (.asg (.nm 6) (.call 11 (.cons (.var 0) (.cons (.var 3) (.cons (.var 1) .nil))))) (.seq (.ite (.or (.cmp .ne (.bin .sub (.var 6) (.var 5)) (.bi .sum (.cons (.var 4) .nil))) (.cmp .ne (.bin .sub (.var 6) (.call 11 (.cons (.var 0) (.cons (.bin .sub (.var 3) (.con (.int 1))) (.cons (.var 1) .nil))))) (.idx (.var 4) (.neg (.con (.int 1)))))) (.seq (.ret (.con (.bl false))) .nil) .nil) (.seq (.asg (.nm 7) (.bi .list (.cons (.var 4) .nil))) (.seq (.exp (.mm .clear 4 .nil)) (.seq (.ret (.cmp .eq (.call 17 (.cons (.var 0) (.cons (.var 1) (.cons (.var 2) (.cons (.var 3) .nil))))) (.var 7))) .nil)))))))))))
def L23 : IS := (.seq (.asg (.nm 1) (.call 19 (.cons (.var 0) (.cons (.con (.int 0)) .nil)))) (.seq (.asg (.nm 2) (.call 0 (.cons (.aB 1) (.cons (.con (.int 2)) .nil)))) (.seq (.asg (.nm 3) (.call 0 (.cons (.aB 1) (.cons (.con (.int 200)) .nil)))) (.seq (.asg (.tp [4, 5]) (.call 22 (.cons (.aB 1) (.cons (.var 2) .nil)))) (.seq (.ite (.not (.call 18 (.cons (.var 2) (.cons (.var 4) (.cons (.bi .max (.cons (.con (.int 1)) (.cons (.bin .sub (.var 5) (.var 3)) .nil))) (.cons (.var 5) .nil)))))) (.seq (.ret (.con (.bl false))) .nil) .nil) (.seq (.ret (.and (.cmp .eq (.call 15 (.cons (.con (.int 1)) (.cons (.con (.int 1)) (.cons (.con (.int 1)) .nil)))) (.lstE (.cons (.con (.int 1)) .nil))) (.cmp .eq (.call 16 (.cons (.con (.int 1)) (.cons (.con (.int 1)) (.cons (.con (.int 1)) .nil)))) (.lstE (.cons (.con (.int 1)) .nil))))) .nil))))))
theorem told23a {c : Oracle} {W : Nat} {r a b : Int} {l : List D} (h : c 15 [.int r, .int a, .int b] = .ok (.own (.lst l)) [some (.int r), some (.int a), some (.int b)]) :
    ex c W M23 [some (.int 0), some (.int r), some (.int a), some (.int b)] = .ret (.own (.lst l)) [some (.int 0), some (.int r), some (.int a), some (.int b)] := by
  unfold M23
  simp [h]
theorem told23b {c : Oracle} {W : Nat} {r a b : Int} {l : List D} (h : c 16 [.int r, .int a, .int b] = .ok (.own (.lst l)) [some (.int r), some (.int a), some (.int b)]) :
    ex c W M23 [some (.int 1), some (.int r), some (.int a), some (.int b)] = .ret (.own (.lst l)) [some (.int 1), some (.int r), some (.int a), some (.int b)] := by
  unfold M23
  simp [h]
theorem before23z {c : Oracle} {W : Nat} {kd r : Int} : ex c W P23 [some (.int kd), some (.int 0), some (.int r)] = .ret (.int 0) [some (.int kd), some (.int 0), some (.int r)] := by
  unfold P23
  simp
theorem before23a {c : Oracle} {W : Nat} {n r : Int} {v : D} (hn : n ≠ 0) (h : c 7 [.int n, .int r] = .ok v [some (.int n), some (.int r)]) (hv : D.un v = v) : ex c W P23 [some (.int 0), some (.int n), some (.int r)] = .ret v [some (.int 0), some (.int n), some (.int r)] := by
  unfold P23
  simp [hn, h, hv]
theorem before23b {c : Oracle} {W : Nat} {n r : Int} {v : D} (hn : n ≠ 0) (h : c 10 [.int n, .int r] = .ok v [some (.int n), some (.int r)]) (hv : D.un v = v) : ex c W P23 [some (.int 1), some (.int n), some (.int r)] = .ret v [some (.int 1), some (.int n), some (.int r)] := by
  unfold P23
  simp [hn, h, hv]
theorem int23 {c : Oracle} {W : Nat} {n : Int} : ex c W I23 [some (.int n)] = .ret (.bl true) [some (.int n)] := by
  unfold I23
  simp
def lb23 : IS := (.seq (.ite (.or (.not (.call 12 (.cons (.var 9) .nil))) (.and (.cmp .gt (.var 8) (.con (.int 0))) (.cmp .lt (.var 9) (.idx (.var 4) (.bin .sub (.var 8) (.con (.int 1))))))) (.seq (.ret (.con (.bl false))) .nil) .nil) .nil)
def re23 : IS := (.seq (.ite (.and (.cmp .eq (.var 2) (.con (.int 1))) (.cmp .ne (.idx (.var 4) (.con (.int 0))) (.con (.int 1)))) (.seq (.ret (.con (.bl false))) .nil) .nil) (.seq (.asg (.nm 5) (.call 11 (.cons (.var 0) (.cons (.bin .sub (.var 2) (.con (.int 1))) (.cons (.var 1) .nil))))) (.seq (.ite (.cmp .ne (.bin .sub (.call 11 (.cons (.var 0) (.cons (.var 2) (.cons (.var 1) .nil)))) (.var 5)) (.idx (.var 4) (.con (.int 0)))) (.seq (.ret (.con (.bl false))) .nil) .nil) (.seq (.asg (.nm 6) (.call 11 (.cons (.var 0) (.cons (.var 3) (.cons (.var 1) .nil))))) (.seq (.ite (.or (.cmp .ne (.bin .sub (.var 6) (.var 5)) (.bi .sum (.cons (.var 4) .nil))) (.cmp .ne (.bin .sub (.var 6) (.call 11 (.cons (.var 0) (.cons (.bin .sub (.var 3) (.con (.int 1))) (.cons (.var 1) .nil))))) (.idx (.var 4) (.neg (.con (.int 1)))))) (.seq (.ret (.con (.bl false))) .nil) .nil) (.seq (.asg (.nm 7) (.bi .list (.cons (.var 4) .nil))) (.seq (.exp (.mm .clear 4 .nil)) (.seq (.ret (.cmp .eq (.call 17 (.cons (.var 0) (.cons (.var 1) (.cons (.var 2) (.cons (.var 3) .nil))))) (.var 7))) .nil))))))))
theorem H23_eq : H23 = (.seq (.asg (.nm 4) (.call 17 (.cons (.var 0) (.cons (.var 1) (.cons (.var 2) (.cons (.var 3) .nil)))))) (.seq (.ite (.or (.not (.isi .list (.var 4))) (.cmp .ne (.bi .len (.cons (.var 4) .nil)) (.bin .add (.bin .sub (.var 3) (.var 2)) (.con (.int 1))))) (.seq (.ret (.con (.bl false))) .nil) .nil) (.seq (.forO (.tp [8, 9]) 4 true lb23) re23))) := rfl
@[simp] theorem has_ll {l : List D} : Tk.has .list (.lst l) = some true := rfl
@[simp] theorem bi_list {l : List D} : biD .list [.lst l] = some (.own (.lst l)) := rfl
@[simp] theorem mm_clear {l : List D} : mmD .clear (.lst l) [] = some (.non, .lst []) := rfl
theorem lb23_ex {c : Oracle} {W : Nat} {x0 x1 x2 x3 x5 x6 x7 : Option D} {Z : List D} {j s t : Int} (hI : ∀ i, c 12 [.int i] = .ok (.bl true) [some (.int i)]) (h : 0 < j → atI Z (j - 1) = some (.int t)) (hst : 0 < j → t ≤ s) :
    ex c W lb23 [x0, x1, x2, x3, some (.brw (.lst Z)), x5, x6, x7, some (.int j), some (.int s)] = .nx [x0, x1, x2, x3, some (.brw (.lst Z)), x5, x6, x7, some (.int j), some (.int s)] := by
  unfold lb23
  by_cases hj : 0 < j
  · have h1 := h hj
    have h2 : ¬ s < t := by have := hst hj; omega
    simp [hI, hj, h1, h2]
  · simp [hI, hj]
theorem re23_ex {c : Oracle} {W : Nat} {kd r a b p0 p1 p2 p3 s0 sl : Int} {S : List Int} {x8 x9 : Option D}
    (hT : c 17 [.int kd, .int r, .int a, .int b] = .ok (.own (.lst (S.map .int))) [some (.int kd), some (.int r), some (.int a), some (.int b)])
    (b0 : c 11 [.int kd, .int (a - 1), .int r] = .ok (.int p0) [some (.int kd), some (.int (a - 1)), some (.int r)])
    (b1 : c 11 [.int kd, .int a, .int r] = .ok (.int p1) [some (.int kd), some (.int a), some (.int r)])
    (b2 : c 11 [.int kd, .int b, .int r] = .ok (.int p2) [some (.int kd), some (.int b), some (.int r)])
    (b3 : c 11 [.int kd, .int (b - 1), .int r] = .ok (.int p3) [some (.int kd), some (.int (b - 1)), some (.int r)])
    (a0 : atI (S.map D.int) 0 = some (.int s0)) (a1 : atI (S.map D.int) (-1) = some (.int sl)) (f0 : a = 1 → s0 = 1) (f1 : p1 - p0 = s0) (f2 : p2 - p0 = S.sum) (f3 : p2 - p3 = sl) :
    ∃ e, ex c W re23 [some (.int kd), some (.int r), some (.int a), some (.int b), some (.own (.lst (S.map .int))), none, none, none, x8, x9] = .ret (.bl true) e ∧ e.length = 10 ∧ e.take 4 = [some (.int kd), some (.int r), some (.int a), some (.int b)] := by
  have hs : intsD (S.map .int) = some S := intsD_map
  have e0 : D.eqv (.lst (S.map D.int)) (.lst (S.map D.int)) = some true := by
    have := eqv_ints (a := S) (b := S)
    simpa using this
  refine ⟨[some (.int kd), some (.int r), some (.int a), some (.int b), some (.own (.lst [])), some (.int p0), some (.int p2), some (.own (.lst (S.map .int))), x8, x9], ?_, rfl, rfl⟩
  unfold re23
  generalize S.map D.int = Z at hT a0 a1 hs e0 ⊢
  by_cases h : a = 1
  · have h1 := f0 h
    subst h
    subst h1
    have z : (1 : Int) - 1 = 0 := by omega
    rw [z] at b0
    simp [hT, b0, b1, b2, b3, a0, a1, hs, e0, f1, f2, f3]
  · simp [hT, b0, b1, b2, b3, a0, a1, hs, e0, f1, f2, f3, h]
theorem holds23 {c : Oracle} {W : Nat} {kd r a b p0 p1 p2 p3 s0 sl : Int} {S : List Int} (hW : S.length ≤ W)
    (hT : c 17 [.int kd, .int r, .int a, .int b] = .ok (.own (.lst (S.map .int))) [some (.int kd), some (.int r), some (.int a), some (.int b)])
    (hI : ∀ i, c 12 [.int i] = .ok (.bl true) [some (.int i)]) (hlen : (S.length : Int) = b - a + 1) (hso : S.Pairwise (· ≤ ·))
    (b0 : c 11 [.int kd, .int (a - 1), .int r] = .ok (.int p0) [some (.int kd), some (.int (a - 1)), some (.int r)])
    (b1 : c 11 [.int kd, .int a, .int r] = .ok (.int p1) [some (.int kd), some (.int a), some (.int r)])
    (b2 : c 11 [.int kd, .int b, .int r] = .ok (.int p2) [some (.int kd), some (.int b), some (.int r)])
    (b3 : c 11 [.int kd, .int (b - 1), .int r] = .ok (.int p3) [some (.int kd), some (.int (b - 1)), some (.int r)])
    (a0 : atI (S.map D.int) 0 = some (.int s0)) (a1 : atI (S.map D.int) (-1) = some (.int sl)) (f0 : a = 1 → s0 = 1) (f1 : p1 - p0 = s0) (f2 : p2 - p0 = S.sum) (f3 : p2 - p3 = sl) :
    ∃ e, ex c W H23 [some (.int kd), some (.int r), some (.int a), some (.int b), none, none, none, none, none, none] = .ret (.bl true) e ∧ e.length = 10 ∧ e.take 4 = [some (.int kd), some (.int r), some (.int a), some (.int b)] := by
  obtain ⟨e', h1, x8, x9, rfl, _⟩ := iloop_inv (bnd := fun e d => bindT e (.tp [8, 9]) d) (body := fun e => ex c W lb23 e) (i := 4) (en := true) (l := S.map D.int)
    (fun j e => ∃ x8 x9, e = [some (.int kd), some (.int r), some (.int a), some (.int b), some (.brw (.lst (S.map .int))), none, none, none, x8, x9] ∧ Jnk x8 ∧ Jnk x9)
    (by rintro j e ⟨x8, x9, rfl, _⟩; rfl)
    (by
      rintro j e d hd ⟨x8, x9, rfl, g8, g9⟩
      rw [List.getElem?_map] at hd
      cases hsj : S[j]? with
      | none => rw [hsj] at hd; cases hd
      | some s =>
        rw [hsj] at hd
        cases hd
        obtain ⟨hj, es⟩ := List.getElem?_eq_some_iff.mp hsj
        refine ⟨[some (.int kd), some (.int r), some (.int a), some (.int b), some (.brw (.lst (S.map .int))), none, none, none, some (.int (j : Int)), some (.int s)], _, ?_, lb23_ex (t := S.getD (j - 1) 0) hI (fun h => ?_) (fun h => ?_), _, _, rfl, .inr ⟨_, rfl⟩, .inr ⟨_, rfl⟩⟩
        · generalize (j : Int) = z
          generalize S.map D.int = Z
          rcases g8 with rfl | ⟨u, rfl⟩ <;> rcases g9 with rfl | ⟨u', rfl⟩ <;> simp
        · rw [show (j : Int) - 1 = ((j - 1 : Nat) : Int) by omega, atI_nat, List.getElem?_map, List.getElem?_eq_getElem (show j - 1 < S.length by omega), List.getD_eq_getElem?_getD, List.getElem?_eq_getElem (show j - 1 < S.length by omega)]
          rfl
        · rw [List.getD_eq_getElem?_getD, List.getElem?_eq_getElem (show j - 1 < S.length by omega), ← es]
          exact List.pairwise_iff_getElem.mp hso (j - 1) j (by omega) hj (by omega))
    W 0 [some (.int kd), some (.int r), some (.int a), some (.int b), some (.brw (.lst (S.map .int))), none, none, none, none, none] (by simpa using hW) (Nat.zero_le _) ⟨none, none, rfl, .inl rfl, .inl rfl⟩
  obtain ⟨e, q1, q2, q3⟩ := re23_ex (c := c) (W := W) (x8 := x8) (x9 := x9) hT b0 b1 b2 b3 a0 a1 f0 f1 f2 f3
  refine ⟨e, ?_, q2, q3⟩
  rw [H23_eq]
  have st : ∀ b', ex c W (.seq (.asg (.nm 4) (.call 17 (.cons (.var 0) (.cons (.var 1) (.cons (.var 2) (.cons (.var 3) .nil)))))) (.seq (.ite (.or (.not (.isi .list (.var 4))) (.cmp .ne (.bi .len (.cons (.var 4) .nil)) (.bin .add (.bin .sub (.var 3) (.var 2)) (.con (.int 1))))) (.seq (.ret (.con (.bl false))) .nil) .nil) b')) [some (.int kd), some (.int r), some (.int a), some (.int b), none, none, none, none, none, none] = ex c W b' [some (.int kd), some (.int r), some (.int a), some (.int b), some (.own (.lst (S.map .int))), none, none, none, none, none] := by
    intro b'
    have hl : (((S.map D.int).length : Nat) : Int) = b - a + 1 := by rw [List.length_map]; exact hlen
    generalize S.map D.int = Z at hT hl ⊢
    simp [hT, hl]
  rw [st, ex_seq, ex_forO]
  show (unbr 4 (iloop (fun e d => bindT e (.tp [8, 9]) d) (fun e => ex c W lb23 e) 4 true W 0 [some (.int kd), some (.int r), some (.int a), some (.int b), some (.brw (.lst (S.map .int))), none, none, none, none, none])).then _ = _
  rw [h1]
  exact q1
/-! ## the steps are differences (plain) -/
theorem PS_one_more {A : List Int} {n : Nat} (h : n < A.length) : PS A (n + 1) = PS A n + A[n] := by
  unfold PS
  rw [List.take_succ, List.getElem?_eq_getElem h, List.sum_append]
  simp
theorem atI_neg {α : Type} {l : List α} {n : Nat} (h : l.length = n + 1) : atI l (-1) = l[n]? := by
  unfold atI
  rw [h, ixN_last, Option.bind_some]
structure Df23 (A : List Int) (a b : Nat) (S : List Int) (s0 sl : Int) : Prop where
  len : (S.length : Int) = (b : Int) - (a : Int) + 1
  so : S.Pairwise (· ≤ ·)
  a0 : atI (S.map D.int) 0 = some (.int s0)
  a1 : atI (S.map D.int) (-1) = some (.int sl)
  f0 : (a : Int) = 1 → s0 = 1
  f1 : PS A a - PS A (a - 1) = s0
  f2 : PS A b - PS A (a - 1) = S.sum
  f3 : PS A b - PS A (b - 1) = sl
theorem df23 {A : List Int} (hs : A.Pairwise (· ≤ ·)) (h1 : PS A 1 = 1) {a b : Nat} (ha : 1 ≤ a) (hab : a ≤ b) (hb : b ≤ A.length) : ∃ s0 sl, Df23 A a b (cutE A (a : Int) (b : Int)) s0 sl := by
  have ec : cutE A (a : Int) (b : Int) = (A.take b).drop (a - 1) := by unfold cutE; rw [Int.toNat_natCast, Int.toNat_natCast]
  have el : (cutE A (a : Int) (b : Int)).length = b - (a - 1) := by rw [ec, List.length_drop, List.length_take]; omega
  have g : ∀ i, i < b - (a - 1) → (cutE A (a : Int) (b : Int))[i]? = A[a - 1 + i]? := by
    intro i hi
    rw [ec, List.getElem?_drop, List.getElem?_take, if_pos (by omega)]
  have ha' : a - 1 < A.length := by omega
  have hb' : b - 1 < A.length := by omega
  refine ⟨A[a - 1], A[b - 1], ⟨by rw [el]; omega, ?_, ?_, ?_, ?_, ?_, ?_, ?_⟩⟩
  · rw [ec]; exact (hs.sublist (List.take_sublist ..)).sublist (List.drop_sublist ..)
  · have : ((0 : Nat) : Int) = 0 := rfl
    rw [← this, atI_nat, List.getElem?_map, g 0 (by omega), Nat.add_zero, List.getElem?_eq_getElem ha']
    rfl
  · rw [atI_neg (n := b - a) (by rw [List.length_map, el]; omega), List.getElem?_map, g (b - a) (by omega), show a - 1 + (b - a) = b - 1 by omega, List.getElem?_eq_getElem hb']
    rfl
  · intro h
    have : a = 1 := by omega
    subst this
    have := PS_one_more (A := A) (n := 0) (by omega)
    rw [PS_zero] at this
    simp only [Nat.zero_add] at this
    have e : A[1 - 1] = A[0] := rfl
    omega
  · have := PS_one_more ha'
    rw [show a - 1 + 1 = a by omega] at this
    omega
  · rw [ec]
    have h2 : PS A b = PS A (a - 1) + ((A.take b).drop (a - 1)).sum := by
      unfold PS
      conv => lhs; rw [← List.take_append_drop (a - 1) (A.take b)]
      rw [List.sum_append, List.take_take, Nat.min_eq_left (by omega)]
    omega
  · have := PS_one_more hb'
    rw [show b - 1 + 1 = b by omega] at this
    omega
def T23 : IS := (.seq (.ite (.not (.call 18 (.cons (.var 2) (.cons (.var 4) (.cons (.bi .max (.cons (.con (.int 1)) (.cons (.bin .sub (.var 5) (.var 3)) .nil))) (.cons (.var 5) .nil)))))) (.seq (.ret (.con (.bl false))) .nil) .nil) (.seq (.ret (.and (.cmp .eq (.call 15 (.cons (.con (.int 1)) (.cons (.con (.int 1)) (.cons (.con (.int 1)) .nil)))) (.lstE (.cons (.con (.int 1)) .nil))) (.cmp .eq (.call 16 (.cons (.con (.int 1)) (.cons (.con (.int 1)) (.cons (.con (.int 1)) .nil)))) (.lstE (.cons (.con (.int 1)) .nil))))) .nil))
theorem L23_eq : L23 = (.seq (.asg (.nm 1) (.call 19 (.cons (.var 0) (.cons (.con (.int 0)) .nil)))) (.seq (.asg (.nm 2) (.call 0 (.cons (.aB 1) (.cons (.con (.int 2)) .nil)))) (.seq (.asg (.nm 3) (.call 0 (.cons (.aB 1) (.cons (.con (.int 200)) .nil)))) (.seq (.asg (.tp [4, 5]) (.call 22 (.cons (.aB 1) (.cons (.var 2) .nil)))) T23)))) := rfl
theorem head23 {c : Oracle} {W : Nat} {x0 : D} {l : List D} {g sd kd bk r n g1 sd1 ct1 g2 sd2 ct2 g3 sd3 ct3 : Int} (hx : x0 = .flk l)
    (h1 : c 19 [x0, .int 0] = .ok (.own (pool g sd 0)) [some x0, some (.int 0)])
    (h2 : c 0 [.brw (pool g sd 0), .int 2] = .ok (.int kd) [some (.brw (pool g1 sd1 ct1)), some (.int 2)])
    (h3 : c 0 [.brw (pool g1 sd1 ct1), .int 200] = .ok (.int bk) [some (.brw (pool g2 sd2 ct2)), some (.int 200)])
    (h4 : c 22 [.brw (pool g2 sd2 ct2), .int kd] = .ok (.tup [.int r, .int n]) [some (.brw (pool g3 sd3 ct3)), some (.int kd)]) :
    ex c W L23 [some x0, none, none, none, none, none] = ex c W T23 [some x0, some (.own (pool g3 sd3 ct3)), some (.int kd), some (.int bk), some (.int r), some (.int n)] := by
  subst hx
  rw [L23_eq]
  generalize T23 = T
  unfold pool at *
  simp [h1, h2, h3, h4]
theorem tail23 {c : Oracle} {W : Nat} {x0 x1 : Option D} {kd bk r n : Int}
    (h1 : c 18 [.int kd, .int r, .int (max 1 (n - bk)), .int n] = .ok (.bl true) [some (.int kd), some (.int r), some (.int (max 1 (n - bk))), some (.int n)])
    (h2 : c 15 [.int 1, .int 1, .int 1] = .ok (.own (.lst [.int 1])) [some (.int 1), some (.int 1), some (.int 1)])
    (h3 : c 16 [.int 1, .int 1, .int 1] = .ok (.own (.lst [.int 1])) [some (.int 1), some (.int 1), some (.int 1)]) :
    ex c W T23 [x0, x1, some (.int kd), some (.int bk), some (.int r), some (.int n)] = .ret (.bl true) [x0, x1, some (.int kd), some (.int bk), some (.int r), some (.int n)] := by
  have s1 : 1 ≤ sizeLine := by rw [sizeLine_eq]; omega
  have e0 : D.eqv (.lst [.int 1]) (.lst [.int 1]) = some true := by
    have := eqv_ints (a := [1]) (b := [1])
    simpa using this
  unfold T23
  simp [h1, h2, h3, s1, e0]
structure G23 (Γ : Nat → Option Df) : Prop where
  p : GP Γ
  v : GV Γ
  l : GL Γ
  power : Γ 21 = some ⟨1, 3, B__law_power⟩
  great : Γ 20 = some ⟨2, 4, B__law_great⟩
  rn : Γ 22 = some ⟨2, 6, B__law_rooms_and_n⟩
  ft : Γ 1 = some ⟨2, 7, B_first_total⟩
  rd : Γ 7 = some ⟨2, 2, B_row_deeds⟩
  vd : Γ 10 = some ⟨2, 2, B_visit_deeds⟩
  js : Γ 14 = some ⟨3, 3, B_judge_stretch⟩
  cu : Γ 13 = some ⟨3, 9, C23⟩
  rs : Γ 15 = some ⟨3, 3, B_row_steps⟩
  vs : Γ 16 = some ⟨3, 3, B_visit_steps⟩
  ii : Γ 12 = some ⟨1, 1, I23⟩
  to : Γ 17 = some ⟨4, 4, M23⟩
  be : Γ 11 = some ⟨3, 3, P23⟩
  lh : Γ 18 = some ⟨4, 10, H23⟩
  law : Γ 23 = some ⟨1, 6, L23⟩
section
variable {Γ : Nat → Option Df} (G : G23 Γ) {W k : Nat} (hW : 1000001 < W)
include G hW
theorem c_js {a b n : Int} (h1 : 1 ≤ a) (h2 : a ≤ b) (h3 : b ≤ a + 199) (h4 : b ≤ 1000000000000) (h5 : b ≤ n) : run Γ W (k + 3) 14 [.int a, .int b, .int n] = .ok .non [some (.int a), some (.int b), some (.int n)] :=
  cnx (k := k + 2) G.js (stretch_ex (c_judge G.p) h1 h2 h3 h4 h5) rfl rfl rfl
theorem c_cut {L : List (Int × Int)} {first last : Int} (hw : WF L) (h1 : 1 ≤ first) (hb : last.toNat ≤ sizeLine) : run Γ W (k + 1) 13 [eR L, .int first, .int last] = .ok (.own (.lst ((cutE (Ex L) first last).map .int))) [some (eR L), some (.int first), some (.int last)] := by
  obtain ⟨e, q3, q4, q5⟩ := cut23 (c := run Γ W k) (W := W) hw h1 hb
  exact cret (k := k) G.cu q3 rfl rfl q4 q5
theorem cutE_take {A : List Int} {a b : Int} : cutE (A.take b.toNat) a b = cutE A a b := by unfold cutE; rw [List.take_take, Nat.min_self]
theorem c_rs {j : Nat} {a b : Int} (hj : j < 60) (h1 : 1 ≤ a) (h2 : a ≤ b) (h3 : b ≤ a + 199) (h4 : b ≤ 1000000) (h5 : b ≤ ((2 ^ j : Nat) : Int)) : run Γ W (k + 4) 15 [.int ((j : Int) + 1), .int a, .int b] = .ok (.own (.lst ((cutE (fr j) a b).map .int))) [some (.int ((j : Int) + 1)), some (.int a), some (.int b)] := by
  have hsz : b.toNat ≤ sizeLine := by rw [sizeLine_eq]; omega
  obtain ⟨lo, R, _, _, w, q, h8⟩ := c_pair G.p (k := k) (W := W) (n := j) (most := b) (by omega) (by omega) (by omega) hsz
  have hg : binD .shl (.int 1) (.int ((j : Int) + 1 - 1)) = some (.int ((2 ^ j : Nat) : Int)) := by rw [show (j : Int) + 1 - 1 = j by omega]; exact shl_one (e := []) (by omega)
  have hc := c_cut G hW (k := k + 2) (first := a) (last := b) w h1 hsz
  rw [q, row_fr (by omega), cutE_take G hW] at hc
  exact cret (k := k + 3) G.rs (rsteps23 hg (c_judge G.p (k := k + 1) _ _ _ (by omega) (by omega)) (c_js G hW h1 h2 h3 (by omega) h5) h8 hc rfl) rfl rfl rfl rfl
theorem c_vs {j : Nat} {a b : Int} (hj : j < 60) (h1 : 1 ≤ a) (h2 : a ≤ b) (h3 : b ≤ a + 199) (h4 : b ≤ 1000000) (h5 : b ≤ ((2 ^ (j + 1) : Nat) : Int) - 1) : run Γ W (k + 4) 16 [.int ((j : Int) + 1), .int a, .int b] = .ok (.own (.lst ((cutE (fv (j + 1)) a b).map .int))) [some (.int ((j : Int) + 1)), some (.int a), some (.int b)] := by
  have hsz : b.toNat ≤ sizeLine := by rw [sizeLine_eq]; omega
  obtain ⟨R, lo, V, _, _, _, _, w, q, h8⟩ := c_trio G.p G.v (k := k) (W := W) (n := j) (most := b) (by omega) (by omega) (by omega) hsz
  have hg : binD .shl (.int 1) (.int ((j : Int) + 1)) = some (.int ((2 ^ (j + 1) : Nat) : Int)) := shl_one (e := []) (n := j + 1) (by omega)
  have hc := c_cut G hW (k := k + 2) (first := a) (last := b) w h1 hsz
  rw [q, vis_fv (by omega), cutE_take G hW] at hc
  exact cret (k := k + 3) G.vs (vsteps23 hg (c_judge G.p (k := k + 1) _ _ _ (by omega) (by omega)) (c_js G hW h1 h2 h3 (by omega) h5) h8 hc rfl) rfl rfl rfl rfl
theorem c_hold23 {A : List Int} {kd : Int} {j a b : Nat} (hj : j < 60) (hk : (kd = 0 ∧ A = fr j) ∨ (kd = 1 ∧ A = fv (j + 1))) (h1 : 1 ≤ a) (h2 : a ≤ b) (h3 : b ≤ a + 199) (h4 : b ≤ 1000000) (h5 : b ≤ A.length) :
    run Γ W (k + 6) 18 [.int kd, .int ((j : Int) + 1), .int (a : Int), .int (b : Int)] = .ok (.bl true) [some (.int kd), some (.int ((j : Int) + 1)), some (.int (a : Int)), some (.int (b : Int))] := by
  have f1 := fr_len j
  have f2 := fv_len (j + 1)
  have hpos : 1 ≤ A.length := by omega
  have hone : A.Pairwise (· ≤ ·) ∧ PS A 1 = 1 := by
    rcases hk with ⟨_, rfl⟩ | ⟨_, rfl⟩
    · have a1 := fr_one j
      have a2 := PS_lt (fr_ok j).2 (n := 0) (by omega)
      simp only [Nat.zero_add, PS_zero] at a2
      exact ⟨(fr_ok j).1, by omega⟩
    · have a1 := fv_le (k := j) (i := 1) (j := 0) Nat.one_le_two_pow Nat.one_le_two_pow
      have a3 := fr_one j
      have a2 := PS_lt (fv_ok (j + 1)).2 (n := 0) (by omega)
      simp only [Nat.zero_add, Nat.add_zero, PS_zero] at a1 a2
      exact ⟨(fv_ok (j + 1)).1, by omega⟩
  obtain ⟨s0, sl, Dd⟩ := df23 hone.1 hone.2 h1 h2 h5
  have hT : run Γ W (k + 5) 17 [.int kd, .int ((j : Int) + 1), .int (a : Int), .int (b : Int)] = .ok (.own (.lst ((cutE A (a : Int) (b : Int)).map .int))) [some (.int kd), some (.int ((j : Int) + 1)), some (.int (a : Int)), some (.int (b : Int))] := by
    rcases hk with ⟨rfl, rfl⟩ | ⟨rfl, rfl⟩
    · exact cret (k := k + 4) G.to (told23a (c_rs G hW (k := k) hj (by omega) (by omega) (by omega) (by omega) (by omega))) rfl rfl rfl rfl
    · exact cret (k := k + 4) G.to (told23b (c_vs G hW (k := k) hj (by omega) (by omega) (by omega) (by omega) (by omega))) rfl rfl rfl rfl
  have hB : ∀ m : Nat, m ≤ b → run Γ W (k + 5) 11 [.int kd, .int (m : Int), .int ((j : Int) + 1)] = .ok (.int (PS A m)) [some (.int kd), some (.int (m : Int)), some (.int ((j : Int) + 1))] := by
    intro m hm
    by_cases h0 : m = 0
    · subst h0
      exact cret (k := k + 4) G.be before23z rfl rfl rfl rfl
    · rcases hk with ⟨rfl, rfl⟩ | ⟨rfl, rfl⟩
      · have := c_rdeeds G.p G.ft G.rd (W := W) (k := k) (n := m) (j := j) (by omega) (by omega) (by omega) hj
        rw [tot_some (by omega), oD_some] at this
        exact cret (k := k + 4) G.be (before23a (by omega) this rfl) rfl rfl rfl rfl
      · have := c_vdeeds G.p G.v G.ft G.vd (W := W) (k := k) (n := m) (j := j) (by omega) (by omega) (by omega) hj
        rw [tot_some (by omega), oD_some] at this
        exact cret (k := k + 4) G.be (before23b (by omega) this rfl) rfl rfl rfl rfl
  have hlW : (cutE A (a : Int) (b : Int)).length ≤ W := by have := Dd.len; omega
  obtain ⟨e, q1, q2, q3⟩ := holds23 (c := run Γ W (k + 5)) (W := W) hlW hT (fun i => cret (k := k + 4) G.ii int23 rfl rfl rfl rfl) Dd.len Dd.so
    (by rw [show (a : Int) - 1 = ((a - 1 : Nat) : Int) by omega]; exact hB (a - 1) (by omega)) (hB a (by omega)) (hB b (by omega))
    (by rw [show (b : Int) - 1 = ((b - 1 : Nat) : Int) by omega]; exact hB (b - 1) (by omega)) Dd.a0 Dd.a1 Dd.f0 Dd.f1 Dd.f2 Dd.f3
  exact cret (k := k + 5) G.lh q1 rfl rfl q2 q3
theorem plain23 : ∀ ns : List Int, ns.length ≤ 63 → ∃ ps, run Γ W (k + 7) 23 [.flk (ns.map .int)] = .ok (.bl true) ps := by
  intro ns hns
  obtain ⟨g, sd, q1⟩ := c_pool G.l (W := W) (k := k + 5) hns
  obtain ⟨kd, g1, sd1, ct1, kd0, kd1, q2⟩ := c_draw G.l (W := W) (k := k + 5) g sd 0 2 (by omega) (by omega)
  obtain ⟨bk, g2, sd2, ct2, bk0, bk1, q3⟩ := c_draw G.l (W := W) (k := k + 5) g1 sd1 ct1 200 (by omega) (by omega)
  have kdc : kd = 0 ∨ kd = 1 := by omega
  obtain ⟨r, n, g3, sd3, ct3, r1, r2, n1, n2, n3, q4⟩ := c_rn G.l G.great G.power G.rn (W := W) (k := k + 3) (g := g2) (sd := sd2) (ct := ct2) kdc
  have hh := head23 (c := run Γ W (k + 6)) (W := W) (l := ns.map .int) rfl q1 q2 q3 q4
  obtain ⟨J, rfl⟩ : ∃ J : Nat, r = (J : Int) + 1 := ⟨(r - 1).toNat, by omega⟩
  obtain ⟨N, rfl⟩ : ∃ N : Nat, n = (N : Int) := ⟨n.toNat, by omega⟩
  have f1 := fr_len J
  have f2 := fv_len (J + 1)
  have e1 : 2 ^ (min ((J : Int) + 1) 30 - 1 + kd).toNat ≤ 2 ^ ((J : Int) + kd).toNat := Nat.pow_le_pow_right (by omega) (by omega)
  have h1 : run Γ W (k + 6) 18 [.int kd, .int ((J : Int) + 1), .int (max 1 ((N : Int) - bk)), .int (N : Int)] = .ok (.bl true) [some (.int kd), some (.int ((J : Int) + 1)), some (.int (max 1 ((N : Int) - bk))), some (.int (N : Int))] := by
    obtain ⟨a, ea⟩ : ∃ a : Nat, max 1 ((N : Int) - bk) = (a : Int) := ⟨(max 1 ((N : Int) - bk)).toNat, by omega⟩
    rw [ea]
    rcases kdc with rfl | rfl
    · rw [show ((J : Int) + 0).toNat = J by omega] at e1
      exact c_hold23 G hW (k := k) (A := fr J) (by omega) (.inl ⟨rfl, rfl⟩) (by omega) (by omega) (by omega) (by omega) (by omega)
    · rw [show ((J : Int) + 1).toNat = J + 1 by omega] at e1
      exact c_hold23 G hW (k := k) (A := fv (J + 1)) (by omega) (.inr ⟨rfl, rfl⟩) (by omega) (by omega) (by omega) (by omega) (by omega)
  have h2 := c_rs G hW (k := k + 2) (j := 0) (a := 1) (b := 1) (by omega) (by omega) (by omega) (by omega) (by omega) (by simp)
  have h3 := c_vs G hW (k := k + 2) (j := 0) (a := 1) (b := 1) (by omega) (by omega) (by omega) (by omega) (by omega) (by simp)
  have c1 : cutE (fr 0) 1 1 = [1] := rfl
  have c2 : cutE (fv (0 + 1)) 1 1 = [1] := by
    have : fv (0 + 1) = [1] := by show mrg [1] [] = [1]; rw [mrg_nil_right]
    rw [this]; rfl
  rw [c1] at h2
  rw [c2] at h3
  rw [tail23 h1 h2 h3] at hh
  exact ⟨_, cret (k := k + 6) G.law hh rfl rfl rfl rfl⟩
end
end Q9

namespace G9
open PySem PySem.Spec L2 Q9
set_option maxHeartbeats 0
def top (i : Nat) : Stmt := PySem.Challenge.pw_cleanhelpers_k23_whole_steps_are_differe.main.body.getD i (.Pass ⟨0, 0, 0, 0⟩)
/-- _law_draw(_law_pool_here, _law_limit): slots 0 _law_pool_here 1 _law_limit 2 _law_mixed 3 _law_digit -/
def b0 : IS := (.seq (.ite (.cmp .gt (.idx (.var 0) (.con (.int 0))) (.con (.int 0))) (.seq (.asg (.nm 3) (.bin .mod (.bi .int (.cons (.idx (.var 0) (.con (.int 0))) .nil)) (.var 1))) (.seq (.setI 0 (.con (.int 0)) (.bin .fdiv (.idx (.var 0) (.con (.int 0))) (.var 1))) (.seq (.ret (.var 3)) .nil))) .nil) (.seq (.setI 0 (.con (.int 2)) (.bin .add (.idx (.var 0) (.con (.int 2))) (.con (.int 1)))) (.seq (.asg (.nm 2) (.bin .mod (.bi .int (.cons (.bin .add (.idx (.var 0) (.con (.int 1))) (.bin .mul (.con (.int 40692)) (.idx (.var 0) (.con (.int 2))))) .nil)) (.con (.int 2147483399)))) (.seq (.asg (.nm 2) (.bin .mod (.bi .int (.cons (.bin .mul (.var 2) (.bin .add (.bin .fdiv (.var 2) (.con (.int 2003))) (.con (.int 69621)))) .nil)) (.con (.int 2147483647)))) (.seq (.asg (.nm 2) (.bin .mod (.bi .int (.cons (.bin .mul (.var 2) (.bin .add (.bin .fdiv (.var 2) (.con (.int 1009))) (.con (.int 40692)))) .nil)) (.con (.int 2147483399)))) (.seq (.setI 0 (.con (.int 1)) (.bin .add (.var 2) (.con (.int 1)))) (.seq (.ret (.bin .mod (.bi .int (.cons (.bin .fdiv (.var 2) (.con (.int 11))) .nil)) (.var 1))) .nil)))))))
def d0 : FD := ⟨top 25, ["_law_pool_here", "_law_limit", "_law_mixed", "_law_digit"], ["_law_pool_here", "_law_limit"], ⟨2, 4, b0⟩⟩
/-- first_total(runs, n): slots 0 runs 1 n 2 total 3 left 4 step 5 many 6 taken -/
def b1 : IS := (.seq (.asg (.nm 2) (.con (.int 0))) (.seq (.asg (.nm 3) (.var 1)) (.seq (.for (.tp [4, 5]) (.var 0) (.seq (.asg (.nm 6) (.bi .min (.cons (.var 5) (.cons (.var 3) .nil)))) (.seq (.aug 2 .add (.bin .mul (.var 4) (.var 6))) (.seq (.aug 3 .sub (.var 6)) .nil)))) (.seq (.ite (.cmp .gt (.var 3) (.con (.int 0))) (.seq (.ret (.con .non)) .nil) .nil) (.seq (.ret (.var 2)) .nil)))))
def d1 : FD := ⟨top 7, ["runs", "n", "total", "left", "step", "many", "taken"], ["runs", "n"], ⟨2, 7, b1⟩⟩
/-- is_integer(thing): slots 0 thing -/
def b2 : IS := (.seq (.ret (.and (.isi .int (.var 0)) (.not (.isi .bool (.var 0))))) .nil)
def d2 : FD := ⟨top 4, ["thing"], ["thing"], ⟨1, 1, b2⟩⟩
/-- judge_count(thing, low, high): slots 0 thing 1 low 2 high -/
def b3 : IS := (.seq (.ite (.or (.not (.call 2 (.cons (.var 0) .nil))) (.not (.chain .le .le (.var 1) (.var 0) (.var 2)))) (.seq .unk .nil) .nil) .nil)
def d3 : FD := ⟨top 15, ["thing", "low", "high"], ["thing", "low", "high"], ⟨3, 3, b3⟩⟩
/-- put_run(runs, step, many): slots 0 runs 1 step 2 many -/
def b4 : IS := (.seq (.ite (.and (.var 0) (.cmp .eq (.idx (.idx (.var 0) (.neg (.con (.int 1)))) (.con (.int 0))) (.var 1))) (.seq (.setI 0 (.neg (.con (.int 1))) (.tupE (.cons (.var 1) (.cons (.bin .add (.idx (.idx (.var 0) (.neg (.con (.int 1)))) (.con (.int 1))) (.var 2)) .nil)))) .nil) (.seq (.ite (.cmp .gt (.var 2) (.con (.int 0))) (.seq (.exp (.mm .append 0 (.cons (.tupE (.cons (.var 1) (.cons (.var 2) .nil))) .nil))) .nil) .nil) .nil)) .nil)
def d4 : FD := ⟨top 6, ["runs", "step", "many"], ["runs", "step", "many"], ⟨3, 3, b4⟩⟩
/-- with_one_room_more(lower, most): slots 0 lower 1 most 2 runs 3 left 4 plain 5 at 6 used 7 below 8 low_used 9 has_sum 10 many -/
def b5 : IS := (.seq (.asg (.nm 2) (.lstE .nil)) (.seq (.asg (.nm 3) (.var 1)) (.seq (.asg (.nm 4) (.con (.int 0))) (.seq (.asgs [5, 6] (.con (.int 0))) (.seq (.asgs [7, 8] (.con (.int 0))) (.seq (.whl (.cmp .gt (.var 3) (.con (.int 0))) (.seq (.asg (.nm 9) (.and (.cmp .lt (.var 5) (.bi .len (.cons (.var 2) .nil))) (.cmp .lt (.var 7) (.bi .len (.cons (.var 0) .nil))))) (.seq (.ite (.and (.cmp .lt (.var 4) (.bi .len (.cons (.var 0) .nil))) (.or (.not (.var 9)) (.cmp .le (.idx (.idx (.var 0) (.var 4)) (.con (.int 0))) (.bin .add (.idx (.idx (.var 2) (.var 5)) (.con (.int 0))) (.idx (.idx (.var 0) (.var 7)) (.con (.int 0))))))) (.seq (.asg (.nm 10) (.bi .min (.cons (.idx (.idx (.var 0) (.var 4)) (.con (.int 1))) (.cons (.var 3) .nil)))) (.seq (.exp (.call 4 (.cons (.aB 2) (.cons (.idx (.idx (.var 0) (.var 4)) (.con (.int 0))) (.cons (.var 10) .nil))))) (.seq (.aug 4 .add (.con (.int 1))) .nil))) (.seq (.ite (.var 9) (.seq (.asg (.nm 10) (.bi .min (.cons (.bin .sub (.idx (.idx (.var 2) (.var 5)) (.con (.int 1))) (.var 6)) (.cons (.bin .sub (.idx (.idx (.var 0) (.var 7)) (.con (.int 1))) (.var 8)) (.cons (.var 3) .nil))))) (.seq (.aug 6 .add (.var 10)) (.seq (.aug 8 .add (.var 10)) (.seq (.exp (.call 4 (.cons (.aB 2) (.cons (.bin .add (.idx (.idx (.var 2) (.var 5)) (.con (.int 0))) (.idx (.idx (.var 0) (.var 7)) (.con (.int 0)))) (.cons (.var 10) .nil))))) (.seq (.ite (.cmp .eq (.var 6) (.idx (.idx (.var 2) (.var 5)) (.con (.int 1)))) (.seq (.par [5, 6] (.cons (.bin .add (.var 5) (.con (.int 1))) (.cons (.con (.int 0)) .nil))) .nil) .nil) (.seq (.ite (.cmp .eq (.var 8) (.idx (.idx (.var 0) (.var 7)) (.con (.int 1)))) (.seq (.par [7, 8] (.cons (.bin .add (.var 7) (.con (.int 1))) (.cons (.con (.int 0)) .nil))) .nil) .nil) .nil)))))) (.seq (.ret (.var 2)) .nil)) .nil)) (.seq (.aug 3 .sub (.var 10)) .nil)))) (.seq (.ret (.var 2)) .nil)))))))
def d5 : FD := ⟨top 10, ["lower", "most", "runs", "left", "plain", "at", "used", "below", "low_used", "has_sum", "many"], ["lower", "most"], ⟨2, 11, b5⟩⟩
/-- row_pair(rooms, most): slots 0 rooms 1 most 2 lower 3 runs 4 _ -/
def b6 : IS := (.seq (.asg (.nm 2) (.lstE .nil)) (.seq (.asg (.nm 3) (.lstE (.cons (.tupE (.cons (.con (.int 1)) (.cons (.con (.int 1)) .nil))) .nil))) (.seq (.for (.nm 4) (.rng1 (.bin .sub (.var 0) (.con (.int 1)))) (.seq (.par [2, 3] (.cons (.var 3) (.cons (.call 5 (.cons (.var 3) (.cons (.var 1) .nil))) .nil))) .nil)) (.seq (.ret (.tupE (.cons (.var 2) (.cons (.var 3) .nil)))) .nil))))
def d6 : FD := ⟨top 16, ["rooms", "most", "lower", "runs", "_"], ["rooms", "most"], ⟨2, 5, b6⟩⟩
/-- row_deeds(n, rooms): slots 0 n 1 rooms -/
def b7 : IS := (.seq (.exp (.call 3 (.cons (.var 0) (.cons (.con (.int 1)) (.cons (.gl "MOST" (.int 1000000000000)) .nil))))) (.seq (.exp (.call 3 (.cons (.var 1) (.cons (.con (.int 1)) (.cons (.gl "MOST_ROOMS" (.int 60)) .nil))))) (.seq (.ret (.call 1 (.cons (.idx (.call 6 (.cons (.var 1) (.cons (.var 0) .nil))) (.con (.int 1))) (.cons (.var 0) .nil)))) .nil)))
def d7 : FD := ⟨top 18, ["n", "rooms"], ["n", "rooms"], ⟨2, 2, b7⟩⟩
/-- merged(first, second, most): slots 0 first 1 second 2 most 3 runs 4 left 5 at 6 other 7 step 8 many -/
def b8 : IS := (.seq (.asg (.nm 3) (.lstE .nil)) (.seq (.asg (.nm 4) (.var 2)) (.seq (.asgs [5, 6] (.con (.int 0))) (.seq (.whl (.and (.cmp .gt (.var 4) (.con (.int 0))) (.or (.cmp .lt (.var 5) (.bi .len (.cons (.var 0) .nil))) (.cmp .lt (.var 6) (.bi .len (.cons (.var 1) .nil))))) (.seq (.ite (.or (.cmp .eq (.var 6) (.bi .len (.cons (.var 1) .nil))) (.and (.cmp .lt (.var 5) (.bi .len (.cons (.var 0) .nil))) (.cmp .le (.idx (.idx (.var 0) (.var 5)) (.con (.int 0))) (.idx (.idx (.var 1) (.var 6)) (.con (.int 0)))))) (.seq (.asg (.tp [7, 8]) (.idx (.var 0) (.var 5))) (.seq (.aug 5 .add (.con (.int 1))) .nil)) (.seq (.asg (.tp [7, 8]) (.idx (.var 1) (.var 6))) (.seq (.aug 6 .add (.con (.int 1))) .nil))) (.seq (.exp (.call 4 (.cons (.aB 3) (.cons (.var 7) (.cons (.bi .min (.cons (.var 8) (.cons (.var 4) .nil))) .nil))))) (.seq (.aug 4 .sub (.bi .min (.cons (.var 8) (.cons (.var 4) .nil)))) .nil)))) (.seq (.ret (.var 3)) .nil)))))
def d8 : FD := ⟨top 9, ["first", "second", "most", "runs", "left", "at", "other", "step", "many"], ["first", "second", "most"], ⟨3, 9, b8⟩⟩
/-- visit_trio(rooms, most): slots 0 rooms 1 most 2 runs 3 lower 4 visits 5 _ -/
def b9 : IS := (.seq (.asg (.nm 2) (.lstE (.cons (.tupE (.cons (.con (.int 1)) (.cons (.con (.int 1)) .nil))) .nil))) (.seq (.asg (.nm 3) (.lstE .nil)) (.seq (.asg (.nm 4) (.lstE (.cons (.tupE (.cons (.con (.int 1)) (.cons (.con (.int 1)) .nil))) .nil))) (.seq (.for (.nm 5) (.rng1 (.bin .sub (.var 0) (.con (.int 1)))) (.seq (.asg (.nm 2) (.call 5 (.cons (.var 2) (.cons (.var 1) .nil)))) (.seq (.par [3, 4] (.cons (.var 4) (.cons (.call 8 (.cons (.var 2) (.cons (.var 4) (.cons (.var 1) .nil)))) .nil))) .nil))) (.seq (.ret (.tupE (.cons (.var 2) (.cons (.var 3) (.cons (.var 4) .nil))))) .nil)))))
def d9 : FD := ⟨top 17, ["rooms", "most", "runs", "lower", "visits", "_"], ["rooms", "most"], ⟨2, 6, b9⟩⟩
/-- visit_deeds(n, rooms): slots 0 n 1 rooms -/
def b10 : IS := (.seq (.exp (.call 3 (.cons (.var 0) (.cons (.con (.int 1)) (.cons (.gl "MOST" (.int 1000000000000)) .nil))))) (.seq (.exp (.call 3 (.cons (.var 1) (.cons (.con (.int 1)) (.cons (.gl "MOST_ROOMS" (.int 60)) .nil))))) (.seq (.ret (.call 1 (.cons (.idx (.call 9 (.cons (.var 1) (.cons (.var 0) .nil))) (.con (.int 2))) (.cons (.var 0) .nil)))) .nil)))
def d10 : FD := ⟨top 19, ["n", "rooms"], ["n", "rooms"], ⟨2, 2, b10⟩⟩
/-- _law_before(_law_deeds, _law_n, _law_rooms): slots 0 _law_deeds 1 _law_n 2 _law_rooms -/
def b11 : IS := (.seq (.ite (.cmp .eq (.var 1) (.con (.int 0))) (.seq (.ret (.con (.int 0))) .nil) .nil) (.seq (.ite (.cmp .eq (.var 0) (.con (.int 0))) (.seq (.ret (.call 7 (.cons (.var 1) (.cons (.var 2) .nil)))) .nil) .nil) (.seq (.ret (.call 10 (.cons (.var 1) (.cons (.var 2) .nil)))) .nil)))
def d11 : FD := ⟨top 30, ["_law_deeds", "_law_n", "_law_rooms"], ["_law_deeds", "_law_n", "_law_rooms"], ⟨3, 3, b11⟩⟩
/-- _law_is_int(_law_thing): slots 0 _law_thing -/
def b12 : IS := (.seq (.ret (.and (.isi .int (.var 0)) (.not (.isi .bool (.var 0))))) .nil)
def d12 : FD := ⟨top 28, ["_law_thing"], ["_law_thing"], ⟨1, 1, b12⟩⟩
/-- cut_runs(runs, first, last): slots 0 runs 1 first 2 last 3 steps 4 before 5 step 6 many 7 low 8 high -/
def b13 : IS := (.seq (.asg (.nm 3) (.lstE .nil)) (.seq (.asg (.nm 4) (.con (.int 0))) (.seq (.for (.tp [5, 6]) (.var 0) (.seq (.asg (.nm 7) (.bi .max (.cons (.var 1) (.cons (.bin .add (.var 4) (.con (.int 1))) .nil)))) (.seq (.asg (.nm 8) (.bi .min (.cons (.var 2) (.cons (.bin .add (.var 4) (.var 6)) .nil)))) (.seq (.ite (.cmp .le (.var 7) (.var 8)) (.seq (.aug 3 .add (.bin .mul (.lstE (.cons (.var 5) .nil)) (.bin .add (.bin .sub (.var 8) (.var 7)) (.con (.int 1))))) .nil) .nil) (.seq (.aug 4 .add (.var 6)) .nil))))) (.seq (.retV 3) .nil))))
def d13 : FD := ⟨top 8, ["runs", "first", "last", "steps", "before", "step", "many", "low", "high"], ["runs", "first", "last"], ⟨3, 9, b13⟩⟩
/-- judge_stretch(first, last, many): slots 0 first 1 last 2 many -/
def b14 : IS := (.seq (.exp (.call 3 (.cons (.var 0) (.cons (.con (.int 1)) (.cons (.bi .min (.cons (.gl "MOST" (.int 1000000000000)) (.cons (.var 2) .nil))) .nil))))) (.seq (.exp (.call 3 (.cons (.var 1) (.cons (.var 0) (.cons (.bi .min (.cons (.bin .sub (.bin .add (.var 0) (.gl "MOST_STEPS" (.int 200))) (.con (.int 1))) (.cons (.gl "MOST" (.int 1000000000000)) (.cons (.var 2) .nil)))) .nil))))) .nil))
def d14 : FD := ⟨top 20, ["first", "last", "many"], ["first", "last", "many"], ⟨3, 3, b14⟩⟩
/-- row_steps(rooms, first, last): slots 0 rooms 1 first 2 last -/
def b15 : IS := (.seq (.exp (.call 3 (.cons (.var 0) (.cons (.con (.int 1)) (.cons (.gl "MOST_ROOMS" (.int 60)) .nil))))) (.seq (.exp (.call 14 (.cons (.var 1) (.cons (.var 2) (.cons (.bin .shl (.con (.int 1)) (.bin .sub (.var 0) (.con (.int 1)))) .nil))))) (.seq (.ret (.call 13 (.cons (.idx (.call 6 (.cons (.var 0) (.cons (.var 2) .nil))) (.con (.int 1))) (.cons (.var 1) (.cons (.var 2) .nil))))) .nil)))
def d15 : FD := ⟨top 21, ["rooms", "first", "last"], ["rooms", "first", "last"], ⟨3, 3, b15⟩⟩
/-- visit_steps(rooms, first, last): slots 0 rooms 1 first 2 last -/
def b16 : IS := (.seq (.exp (.call 3 (.cons (.var 0) (.cons (.con (.int 1)) (.cons (.gl "MOST_ROOMS" (.int 60)) .nil))))) (.seq (.exp (.call 14 (.cons (.var 1) (.cons (.var 2) (.cons (.bin .sub (.bin .shl (.con (.int 1)) (.var 0)) (.con (.int 1))) .nil))))) (.seq (.ret (.call 13 (.cons (.idx (.call 9 (.cons (.var 0) (.cons (.var 2) .nil))) (.con (.int 2))) (.cons (.var 1) (.cons (.var 2) .nil))))) .nil)))
def d16 : FD := ⟨top 22, ["rooms", "first", "last"], ["rooms", "first", "last"], ⟨3, 3, b16⟩⟩
/-- _law_told(_law_kind, _law_rooms, _law_first, _law_last): slots 0 _law_kind 1 _law_rooms 2 _law_first 3 _law_last -/
def b17 : IS := (.seq (.ite (.cmp .eq (.var 0) (.con (.int 0))) (.seq (.ret (.call 15 (.cons (.var 1) (.cons (.var 2) (.cons (.var 3) .nil))))) .nil) .nil) (.seq (.ret (.call 16 (.cons (.var 1) (.cons (.var 2) (.cons (.var 3) .nil))))) .nil))
def d17 : FD := ⟨top 31, ["_law_kind", "_law_rooms", "_law_first", "_law_last"], ["_law_kind", "_law_rooms", "_law_first", "_law_last"], ⟨4, 4, b17⟩⟩
/-- _law_holds(_law_kind, _law_rooms, _law_first, _law_last): slots 0 _law_kind 1 _law_rooms 2 _law_first 3 _law_last 4 _law_steps 5 _law_before_here 6 _law_end 7 _law_kept 8 _law_index 9 _law_step -/
def b18 : IS := (.seq (.asg (.nm 4) (.call 17 (.cons (.var 0) (.cons (.var 1) (.cons (.var 2) (.cons (.var 3) .nil)))))) (.seq (.ite (.or (.not (.isi .list (.var 4))) (.cmp .ne (.bi .len (.cons (.var 4) .nil)) (.bin .add (.bin .sub (.var 3) (.var 2)) (.con (.int 1))))) (.seq (.ret (.con (.bl false))) .nil) .nil) (.seq (.forO (.tp [8, 9]) 4 true (.seq (.ite (.or (.not (.call 12 (.cons (.var 9) .nil))) (.and (.cmp .gt (.var 8) (.con (.int 0))) (.cmp .lt (.var 9) (.idx (.var 4) (.bin .sub (.var 8) (.con (.int 1))))))) (.seq (.ret (.con (.bl false))) .nil) .nil) .nil)) (.seq (.ite (.and (.cmp .eq (.var 2) (.con (.int 1))) (.cmp .ne (.idx (.var 4) (.con (.int 0))) (.con (.int 1)))) (.seq (.ret (.con (.bl false))) .nil) .nil) (.seq (.asg (.nm 5) (.call 11 (.cons (.var 0) (.cons (.bin .sub (.var 2) (.con (.int 1))) (.cons (.var 1) .nil))))) (.seq (.ite (.cmp .ne (.bin .sub (.call 11 (.cons (.var 0) (.cons (.var 2) (.cons (.var 1) .nil)))) (.var 5)) (.idx (.var 4) (.con (.int 0)))) (.seq (.ret (.con (.bl false))) .nil) .nil) (.seq (.asg (.nm 6) (.call 11 (.cons (.var 0) (.cons (.var 3) (.cons (.var 1) .nil))))) (.seq (.ite (.or (.cmp .ne (.bin .sub (.var 6) (.var 5)) (.bi .sum (.cons (.var 4) .nil))) (.cmp .ne (.bin .sub (.var 6) (.call 11 (.cons (.var 0) (.cons (.bin .sub (.var 3) (.con (.int 1))) (.cons (.var 1) .nil))))) (.idx (.var 4) (.neg (.con (.int 1)))))) (.seq (.ret (.con (.bl false))) .nil) .nil) (.seq (.asg (.nm 7) (.bi .list (.cons (.var 4) .nil))) (.seq (.exp (.mm .clear 4 .nil)) (.seq (.ret (.cmp .eq (.call 17 (.cons (.var 0) (.cons (.var 1) (.cons (.var 2) (.cons (.var 3) .nil))))) (.var 7))) .nil)))))))))))
def d18 : FD := ⟨top 32, ["_law_kind", "_law_rooms", "_law_first", "_law_last", "_law_steps", "_law_before_here", "_law_end", "_law_kept", "_law_index", "_law_step"], ["_law_kind", "_law_rooms", "_law_first", "_law_last"], ⟨4, 10, b18⟩⟩
/-- _law_pool(_law_script, _law_spot): slots 0 _law_script 1 _law_spot 2 _law_cell 3 _law_great_here 4 _law_one -/
def b19 : IS := (.seq (.asg (.nm 2) (.bi .sum (.cons (.lc [4] (.nm 4) (.var 0) (.con (.bl true)) (.bin .mod (.bi .int (.cons (.var 4) .nil)) (.con (.int 1000003)))) .nil))) (.seq (.ite (.cmp .lt (.var 1) (.bi .len (.cons (.var 0) .nil))) (.seq (.asg (.nm 2) (.bi .int (.cons (.idx (.var 0) (.var 1)) .nil))) .nil) .nil) (.seq (.asg (.nm 3) (.con (.int 0))) (.seq (.ite (.cmp .ge (.var 2) (.bin .pow (.con (.int 10)) (.con (.int 18)))) (.seq (.asg (.nm 3) (.var 2)) .nil) .nil) (.seq (.ret (.lstE (.cons (.var 3) (.cons (.bin .add (.bin .mod (.bi .int (.cons (.bin .add (.bin .add (.bin .mul (.var 2) (.con (.int 31))) (.bin .mul (.var 1) (.con (.int 7919)))) (.con (.int 12345))) .nil)) (.con (.int 2147483629))) (.con (.int 1))) (.cons (.con (.int 0)) .nil))))) .nil)))))
def d19 : FD := ⟨top 24, ["_law_script", "_law_spot", "_law_cell", "_law_great_here", "_law_one"], ["_law_script", "_law_spot"], ⟨2, 5, b19⟩⟩
/-- _law_great(_law_pool_here, _law_limit): slots 0 _law_pool_here 1 _law_limit 2 _law_number 3 _law_k -/
def b20 : IS := (.seq (.asg (.nm 2) (.con (.int 0))) (.seq (.for (.nm 3) (.rng1 (.con (.int 8))) (.seq (.asg (.nm 2) (.bin .add (.bin .mul (.var 2) (.con (.int 10000))) (.call 0 (.cons (.aB 0) (.cons (.con (.int 10000)) .nil))))) .nil)) (.seq (.ret (.bin .mod (.bi .int (.cons (.var 2) .nil)) (.var 1))) .nil)))
def d20 : FD := ⟨top 26, ["_law_pool_here", "_law_limit", "_law_number", "_law_k"], ["_law_pool_here", "_law_limit"], ⟨2, 4, b20⟩⟩
/-- _law_power(_law_many): slots 0 _law_many 1 _law_power_here 2 _law_k -/
def b21 : IS := (.seq (.asg (.nm 1) (.con (.int 1))) (.seq (.for (.nm 2) (.rng1 (.var 0)) (.seq (.asg (.nm 1) (.bin .mul (.var 1) (.con (.int 2)))) .nil)) (.seq (.ret (.var 1)) .nil)))
def d21 : FD := ⟨top 27, ["_law_many", "_law_power_here", "_law_k"], ["_law_many"], ⟨1, 3, b21⟩⟩
/-- _law_rooms_and_n(_law_pool_here, _law_spare): slots 0 _law_pool_here 1 _law_spare 2 _law_wide 3 _law_rooms 4 _law_most 5 _law_near -/
def b22 : IS := (.seq (.asg (.nm 2) (.call 0 (.cons (.aB 0) (.cons (.con (.int 4)) .nil)))) (.seq (.asg (.nm 3) (.bin .add (.con (.int 1)) (.call 0 (.cons (.aB 0) (.cons (.con (.int 9)) .nil))))) (.seq (.ite (.cmp .eq (.var 2) (.con (.int 2))) (.seq (.asg (.nm 3) (.bin .add (.con (.int 1)) (.call 0 (.cons (.aB 0) (.cons (.con (.int 16)) .nil))))) .nil) .nil) (.seq (.ite (.cmp .eq (.var 2) (.con (.int 3))) (.seq (.asg (.nm 3) (.bin .add (.con (.int 1)) (.call 0 (.cons (.aB 0) (.cons (.con (.int 60)) .nil))))) .nil) .nil) (.seq (.asg (.nm 4) (.bi .min (.cons (.bin .pow (.con (.int 10)) (.con (.int 6))) (.cons (.bin .sub (.call 21 (.cons (.bin .add (.bin .sub (.bi .min (.cons (.var 3) (.cons (.con (.int 30)) .nil))) (.con (.int 1))) (.var 1)) .nil)) (.var 1)) .nil)))) (.seq (.asg (.nm 5) (.call 0 (.cons (.aB 0) (.cons (.con (.int 4)) .nil)))) (.seq (.ite (.cmp .eq (.var 5) (.con (.int 0))) (.seq (.ret (.tupE (.cons (.var 3) (.cons (.var 4) .nil)))) .nil) .nil) (.seq (.ite (.cmp .eq (.var 5) (.con (.int 1))) (.seq (.ret (.tupE (.cons (.var 3) (.cons (.bin .add (.con (.int 1)) (.call 0 (.cons (.aB 0) (.cons (.bi .min (.cons (.var 4) (.cons (.con (.int 60)) .nil))) .nil)))) .nil)))) .nil) .nil) (.seq (.ret (.tupE (.cons (.var 3) (.cons (.bin .add (.con (.int 1)) (.call 20 (.cons (.aB 0) (.cons (.var 4) .nil)))) .nil)))) .nil)))))))))
def d22 : FD := ⟨top 29, ["_law_pool_here", "_law_spare", "_law_wide", "_law_rooms", "_law_most", "_law_near"], ["_law_pool_here", "_law_spare"], ⟨2, 6, b22⟩⟩
/-- law(_law_script): slots 0 _law_script 1 _law_pool_here 2 _law_kind 3 _law_back 4 _law_rooms 5 _law_last -/
def b23 : IS := (.seq (.asg (.nm 1) (.call 19 (.cons (.var 0) (.cons (.con (.int 0)) .nil)))) (.seq (.asg (.nm 2) (.call 0 (.cons (.aB 1) (.cons (.con (.int 2)) .nil)))) (.seq (.asg (.nm 3) (.call 0 (.cons (.aB 1) (.cons (.con (.int 200)) .nil)))) (.seq (.asg (.tp [4, 5]) (.call 22 (.cons (.aB 1) (.cons (.var 2) .nil)))) (.seq (.ite (.not (.call 18 (.cons (.var 2) (.cons (.var 4) (.cons (.bi .max (.cons (.con (.int 1)) (.cons (.bin .sub (.var 5) (.var 3)) .nil))) (.cons (.var 5) .nil)))))) (.seq (.ret (.con (.bl false))) .nil) .nil) (.seq (.ret (.and (.cmp .eq (.call 15 (.cons (.con (.int 1)) (.cons (.con (.int 1)) (.cons (.con (.int 1)) .nil)))) (.lstE (.cons (.con (.int 1)) .nil))) (.cmp .eq (.call 16 (.cons (.con (.int 1)) (.cons (.con (.int 1)) (.cons (.con (.int 1)) .nil)))) (.lstE (.cons (.con (.int 1)) .nil))))) .nil))))))
def d23 : FD := ⟨top 33, ["_law_script", "_law_pool_here", "_law_kind", "_law_back", "_law_rooms", "_law_last"], ["_law_script"], ⟨1, 6, b23⟩⟩
def fd : Nat → FD
  | 0 => d0
  | 1 => d1
  | 2 => d2
  | 3 => d3
  | 4 => d4
  | 5 => d5
  | 6 => d6
  | 7 => d7
  | 8 => d8
  | 9 => d9
  | 10 => d10
  | 11 => d11
  | 12 => d12
  | 13 => d13
  | 14 => d14
  | 15 => d15
  | 16 => d16
  | 17 => d17
  | 18 => d18
  | 19 => d19
  | 20 => d20
  | 21 => d21
  | 22 => d22
  | 23 => d23
  | _ => d0
def T : Tab where
  fn := fun f => match f with
    | 0 => "_law_draw"
    | 1 => "first_total"
    | 2 => "is_integer"
    | 3 => "judge_count"
    | 4 => "put_run"
    | 5 => "with_one_room_more"
    | 6 => "row_pair"
    | 7 => "row_deeds"
    | 8 => "merged"
    | 9 => "visit_trio"
    | 10 => "visit_deeds"
    | 11 => "_law_before"
    | 12 => "_law_is_int"
    | 13 => "cut_runs"
    | 14 => "judge_stretch"
    | 15 => "row_steps"
    | 16 => "visit_steps"
    | 17 => "_law_told"
    | 18 => "_law_holds"
    | 19 => "_law_pool"
    | 20 => "_law_great"
    | 21 => "_law_power"
    | 22 => "_law_rooms_and_n"
    | 23 => "law"
    | _ => ""
  np := fun f => (fd f).ps.length
  pn := fun f => (fd f).ps
  n := 24
  co := fun x => if x = "MOST" then some (.int 1000000000000) else if x = "MOST_ROOMS" then some (.int 60) else if x = "MOST_STEPS" then some (.int 200) else none
  bl := ["bool", "enumerate", "int", "isinstance", "len", "list", "max", "min", "range", "sum"]
theorem checked : (List.range 24).all (fun f => fdB T f (fd f)) = true := by decide +kernel
theorem hok : ∀ f, f < T.n → fdB T f (fd f) = true := fun f hf => List.all_eq_true.mp checked f (List.mem_range.mpr hf)
theorem facts {K : PySem.W.Frag} {h : Heap} {mg : Str → Option Value} (X : K.In h) (G : h.Ns mainGlobals mg)
    {f0 f1 f2 f3 f4 f5 f6 f7 f8 f9 f10 f11 f12 f13 f14 f15 f16 f17 f18 f19 f20 f21 f22 f23 : Addr} {od0 an0 od1 an1 od2 an2 od3 an3 od4 an4 od5 an5 od6 an6 od7 an7 od8 an8 od9 an9 od10 an10 od11 an11 od12 an12 od13 an13 od14 an14 od15 an15 od16 an16 od17 an17 od18 an18 od19 an19 od20 an20 od21 an21 od22 an22 od23 an23 : Option Addr} {sl0 sl1 sl2 sl3 sl4 sl5 sl6 sl7 sl8 sl9 sl10 sl11 sl12 sl13 sl14 sl15 sl16 sl17 sl18 sl19 sl20 sl21 sl22 sl23 : Array (Option Value)} {oc0 kV0 dc0 pm0 cd0 ct0 oc1 kV1 dc1 pm1 cd1 ct1 oc2 kV2 dc2 pm2 cd2 ct2 oc3 kV3 dc3 pm3 cd3 ct3 oc4 kV4 dc4 pm4 cd4 ct4 oc5 kV5 dc5 pm5 cd5 ct5 oc6 kV6 dc6 pm6 cd6 ct6 oc7 kV7 dc7 pm7 cd7 ct7 oc8 kV8 dc8 pm8 cd8 ct8 oc9 kV9 dc9 pm9 cd9 ct9 oc10 kV10 dc10 pm10 cd10 ct10 oc11 kV11 dc11 pm11 cd11 ct11 oc12 kV12 dc12 pm12 cd12 ct12 oc13 kV13 dc13 pm13 cd13 ct13 oc14 kV14 dc14 pm14 cd14 ct14 oc15 kV15 dc15 pm15 cd15 ct15 oc16 kV16 dc16 pm16 cd16 ct16 oc17 kV17 dc17 pm17 cd17 ct17 oc18 kV18 dc18 pm18 cd18 ct18 oc19 kV19 dc19 pm19 cd19 ct19 oc20 kV20 dc20 pm20 cd20 ct20 oc21 kV21 dc21 pm21 cd21 ct21 oc22 kV22 dc22 pm22 cd22 ct22 oc23 kV23 dc23 pm23 cd23 ct23 : Value}
    {t_MOST t_MOST_ROOMS t_MOST_STEPS : Tok}
    (a0 : PySem.W.nsIn K mainGlobals "_law_draw" = some (some (.ref f0))) (l0 : K.lookup f0 = some ⟨oc0, od0, .func (PySem.W.fnOf "_law_draw" "_law_draw" (defArgs d0.st) (defBody d0.st) (defScope d0.st) .none kV0 dc0 pm0 an0 cd0 ct0), sl0⟩) (c0 : PySem.W.codeIn K cd0 "_law_draw" = true) (k0 : PySem.W.keepIn K (.ref f0) = true)
    (a1 : PySem.W.nsIn K mainGlobals "first_total" = some (some (.ref f1))) (l1 : K.lookup f1 = some ⟨oc1, od1, .func (PySem.W.fnOf "first_total" "first_total" (defArgs d1.st) (defBody d1.st) (defScope d1.st) .none kV1 dc1 pm1 an1 cd1 ct1), sl1⟩) (c1 : PySem.W.codeIn K cd1 "first_total" = true) (k1 : PySem.W.keepIn K (.ref f1) = true)
    (a2 : PySem.W.nsIn K mainGlobals "is_integer" = some (some (.ref f2))) (l2 : K.lookup f2 = some ⟨oc2, od2, .func (PySem.W.fnOf "is_integer" "is_integer" (defArgs d2.st) (defBody d2.st) (defScope d2.st) .none kV2 dc2 pm2 an2 cd2 ct2), sl2⟩) (c2 : PySem.W.codeIn K cd2 "is_integer" = true) (k2 : PySem.W.keepIn K (.ref f2) = true)
    (a3 : PySem.W.nsIn K mainGlobals "judge_count" = some (some (.ref f3))) (l3 : K.lookup f3 = some ⟨oc3, od3, .func (PySem.W.fnOf "judge_count" "judge_count" (defArgs d3.st) (defBody d3.st) (defScope d3.st) .none kV3 dc3 pm3 an3 cd3 ct3), sl3⟩) (c3 : PySem.W.codeIn K cd3 "judge_count" = true) (k3 : PySem.W.keepIn K (.ref f3) = true)
    (a4 : PySem.W.nsIn K mainGlobals "put_run" = some (some (.ref f4))) (l4 : K.lookup f4 = some ⟨oc4, od4, .func (PySem.W.fnOf "put_run" "put_run" (defArgs d4.st) (defBody d4.st) (defScope d4.st) .none kV4 dc4 pm4 an4 cd4 ct4), sl4⟩) (c4 : PySem.W.codeIn K cd4 "put_run" = true) (k4 : PySem.W.keepIn K (.ref f4) = true)
    (a5 : PySem.W.nsIn K mainGlobals "with_one_room_more" = some (some (.ref f5))) (l5 : K.lookup f5 = some ⟨oc5, od5, .func (PySem.W.fnOf "with_one_room_more" "with_one_room_more" (defArgs d5.st) (defBody d5.st) (defScope d5.st) .none kV5 dc5 pm5 an5 cd5 ct5), sl5⟩) (c5 : PySem.W.codeIn K cd5 "with_one_room_more" = true) (k5 : PySem.W.keepIn K (.ref f5) = true)
    (a6 : PySem.W.nsIn K mainGlobals "row_pair" = some (some (.ref f6))) (l6 : K.lookup f6 = some ⟨oc6, od6, .func (PySem.W.fnOf "row_pair" "row_pair" (defArgs d6.st) (defBody d6.st) (defScope d6.st) .none kV6 dc6 pm6 an6 cd6 ct6), sl6⟩) (c6 : PySem.W.codeIn K cd6 "row_pair" = true) (k6 : PySem.W.keepIn K (.ref f6) = true)
    (a7 : PySem.W.nsIn K mainGlobals "row_deeds" = some (some (.ref f7))) (l7 : K.lookup f7 = some ⟨oc7, od7, .func (PySem.W.fnOf "row_deeds" "row_deeds" (defArgs d7.st) (defBody d7.st) (defScope d7.st) .none kV7 dc7 pm7 an7 cd7 ct7), sl7⟩) (c7 : PySem.W.codeIn K cd7 "row_deeds" = true) (k7 : PySem.W.keepIn K (.ref f7) = true)
    (a8 : PySem.W.nsIn K mainGlobals "merged" = some (some (.ref f8))) (l8 : K.lookup f8 = some ⟨oc8, od8, .func (PySem.W.fnOf "merged" "merged" (defArgs d8.st) (defBody d8.st) (defScope d8.st) .none kV8 dc8 pm8 an8 cd8 ct8), sl8⟩) (c8 : PySem.W.codeIn K cd8 "merged" = true) (k8 : PySem.W.keepIn K (.ref f8) = true)
    (a9 : PySem.W.nsIn K mainGlobals "visit_trio" = some (some (.ref f9))) (l9 : K.lookup f9 = some ⟨oc9, od9, .func (PySem.W.fnOf "visit_trio" "visit_trio" (defArgs d9.st) (defBody d9.st) (defScope d9.st) .none kV9 dc9 pm9 an9 cd9 ct9), sl9⟩) (c9 : PySem.W.codeIn K cd9 "visit_trio" = true) (k9 : PySem.W.keepIn K (.ref f9) = true)
    (a10 : PySem.W.nsIn K mainGlobals "visit_deeds" = some (some (.ref f10))) (l10 : K.lookup f10 = some ⟨oc10, od10, .func (PySem.W.fnOf "visit_deeds" "visit_deeds" (defArgs d10.st) (defBody d10.st) (defScope d10.st) .none kV10 dc10 pm10 an10 cd10 ct10), sl10⟩) (c10 : PySem.W.codeIn K cd10 "visit_deeds" = true) (k10 : PySem.W.keepIn K (.ref f10) = true)
    (a11 : PySem.W.nsIn K mainGlobals "_law_before" = some (some (.ref f11))) (l11 : K.lookup f11 = some ⟨oc11, od11, .func (PySem.W.fnOf "_law_before" "_law_before" (defArgs d11.st) (defBody d11.st) (defScope d11.st) .none kV11 dc11 pm11 an11 cd11 ct11), sl11⟩) (c11 : PySem.W.codeIn K cd11 "_law_before" = true) (k11 : PySem.W.keepIn K (.ref f11) = true)
    (a12 : PySem.W.nsIn K mainGlobals "_law_is_int" = some (some (.ref f12))) (l12 : K.lookup f12 = some ⟨oc12, od12, .func (PySem.W.fnOf "_law_is_int" "_law_is_int" (defArgs d12.st) (defBody d12.st) (defScope d12.st) .none kV12 dc12 pm12 an12 cd12 ct12), sl12⟩) (c12 : PySem.W.codeIn K cd12 "_law_is_int" = true) (k12 : PySem.W.keepIn K (.ref f12) = true)
    (a13 : PySem.W.nsIn K mainGlobals "cut_runs" = some (some (.ref f13))) (l13 : K.lookup f13 = some ⟨oc13, od13, .func (PySem.W.fnOf "cut_runs" "cut_runs" (defArgs d13.st) (defBody d13.st) (defScope d13.st) .none kV13 dc13 pm13 an13 cd13 ct13), sl13⟩) (c13 : PySem.W.codeIn K cd13 "cut_runs" = true) (k13 : PySem.W.keepIn K (.ref f13) = true)
    (a14 : PySem.W.nsIn K mainGlobals "judge_stretch" = some (some (.ref f14))) (l14 : K.lookup f14 = some ⟨oc14, od14, .func (PySem.W.fnOf "judge_stretch" "judge_stretch" (defArgs d14.st) (defBody d14.st) (defScope d14.st) .none kV14 dc14 pm14 an14 cd14 ct14), sl14⟩) (c14 : PySem.W.codeIn K cd14 "judge_stretch" = true) (k14 : PySem.W.keepIn K (.ref f14) = true)
    (a15 : PySem.W.nsIn K mainGlobals "row_steps" = some (some (.ref f15))) (l15 : K.lookup f15 = some ⟨oc15, od15, .func (PySem.W.fnOf "row_steps" "row_steps" (defArgs d15.st) (defBody d15.st) (defScope d15.st) .none kV15 dc15 pm15 an15 cd15 ct15), sl15⟩) (c15 : PySem.W.codeIn K cd15 "row_steps" = true) (k15 : PySem.W.keepIn K (.ref f15) = true)
    (a16 : PySem.W.nsIn K mainGlobals "visit_steps" = some (some (.ref f16))) (l16 : K.lookup f16 = some ⟨oc16, od16, .func (PySem.W.fnOf "visit_steps" "visit_steps" (defArgs d16.st) (defBody d16.st) (defScope d16.st) .none kV16 dc16 pm16 an16 cd16 ct16), sl16⟩) (c16 : PySem.W.codeIn K cd16 "visit_steps" = true) (k16 : PySem.W.keepIn K (.ref f16) = true)
    (a17 : PySem.W.nsIn K mainGlobals "_law_told" = some (some (.ref f17))) (l17 : K.lookup f17 = some ⟨oc17, od17, .func (PySem.W.fnOf "_law_told" "_law_told" (defArgs d17.st) (defBody d17.st) (defScope d17.st) .none kV17 dc17 pm17 an17 cd17 ct17), sl17⟩) (c17 : PySem.W.codeIn K cd17 "_law_told" = true) (k17 : PySem.W.keepIn K (.ref f17) = true)
    (a18 : PySem.W.nsIn K mainGlobals "_law_holds" = some (some (.ref f18))) (l18 : K.lookup f18 = some ⟨oc18, od18, .func (PySem.W.fnOf "_law_holds" "_law_holds" (defArgs d18.st) (defBody d18.st) (defScope d18.st) .none kV18 dc18 pm18 an18 cd18 ct18), sl18⟩) (c18 : PySem.W.codeIn K cd18 "_law_holds" = true) (k18 : PySem.W.keepIn K (.ref f18) = true)
    (a19 : PySem.W.nsIn K mainGlobals "_law_pool" = some (some (.ref f19))) (l19 : K.lookup f19 = some ⟨oc19, od19, .func (PySem.W.fnOf "_law_pool" "_law_pool" (defArgs d19.st) (defBody d19.st) (defScope d19.st) .none kV19 dc19 pm19 an19 cd19 ct19), sl19⟩) (c19 : PySem.W.codeIn K cd19 "_law_pool" = true) (k19 : PySem.W.keepIn K (.ref f19) = true)
    (a20 : PySem.W.nsIn K mainGlobals "_law_great" = some (some (.ref f20))) (l20 : K.lookup f20 = some ⟨oc20, od20, .func (PySem.W.fnOf "_law_great" "_law_great" (defArgs d20.st) (defBody d20.st) (defScope d20.st) .none kV20 dc20 pm20 an20 cd20 ct20), sl20⟩) (c20 : PySem.W.codeIn K cd20 "_law_great" = true) (k20 : PySem.W.keepIn K (.ref f20) = true)
    (a21 : PySem.W.nsIn K mainGlobals "_law_power" = some (some (.ref f21))) (l21 : K.lookup f21 = some ⟨oc21, od21, .func (PySem.W.fnOf "_law_power" "_law_power" (defArgs d21.st) (defBody d21.st) (defScope d21.st) .none kV21 dc21 pm21 an21 cd21 ct21), sl21⟩) (c21 : PySem.W.codeIn K cd21 "_law_power" = true) (k21 : PySem.W.keepIn K (.ref f21) = true)
    (a22 : PySem.W.nsIn K mainGlobals "_law_rooms_and_n" = some (some (.ref f22))) (l22 : K.lookup f22 = some ⟨oc22, od22, .func (PySem.W.fnOf "_law_rooms_and_n" "_law_rooms_and_n" (defArgs d22.st) (defBody d22.st) (defScope d22.st) .none kV22 dc22 pm22 an22 cd22 ct22), sl22⟩) (c22 : PySem.W.codeIn K cd22 "_law_rooms_and_n" = true) (k22 : PySem.W.keepIn K (.ref f22) = true)
    (a23 : PySem.W.nsIn K mainGlobals "law" = some (some (.ref f23))) (l23 : K.lookup f23 = some ⟨oc23, od23, .func (PySem.W.fnOf "law" "law" (defArgs d23.st) (defBody d23.st) (defScope d23.st) .none kV23 dc23 pm23 an23 cd23 ct23), sl23⟩) (c23 : PySem.W.codeIn K cd23 "law" = true) (k23 : PySem.W.keepIn K (.ref f23) = true)
    (g_MOST : PySem.W.nsIn K mainGlobals "MOST" = some (some (.int 1000000000000 t_MOST)))
    (g_MOST_ROOMS : PySem.W.nsIn K mainGlobals "MOST_ROOMS" = some (some (.int 60 t_MOST_ROOMS)))
    (g_MOST_STEPS : PySem.W.nsIn K mainGlobals "MOST_STEPS" = some (some (.int 200 t_MOST_STEPS)))
    (z_bool : PySem.W.nsIn K mainGlobals "bool" = some none)
    (z_enumerate : PySem.W.nsIn K mainGlobals "enumerate" = some none)
    (z_int : PySem.W.nsIn K mainGlobals "int" = some none)
    (z_isinstance : PySem.W.nsIn K mainGlobals "isinstance" = some none)
    (z_len : PySem.W.nsIn K mainGlobals "len" = some none)
    (z_list : PySem.W.nsIn K mainGlobals "list" = some none)
    (z_max : PySem.W.nsIn K mainGlobals "max" = some none)
    (z_min : PySem.W.nsIn K mainGlobals "min" = some none)
    (z_range : PySem.W.nsIn K mainGlobals "range" = some none)
    (z_sum : PySem.W.nsIn K mainGlobals "sum" = some none)
    : Facts T fd K mg := by
  refine ⟨fun f hf => ?_, fun x i hx => ?_, fun x i hx => ?_, fun x hx => ?_⟩
  · match f, hf with
    | 0, _ => exact ⟨f0, _, fun_mk (st := d0.st) l0 c0 k0, PySem.W.mg_of X G a0, fun us hl => match us, hl with | [_, _], _ => ⟨rfl, rfl⟩⟩
    | 1, _ => exact ⟨f1, _, fun_mk (st := d1.st) l1 c1 k1, PySem.W.mg_of X G a1, fun us hl => match us, hl with | [_, _], _ => ⟨rfl, rfl⟩⟩
    | 2, _ => exact ⟨f2, _, fun_mk (st := d2.st) l2 c2 k2, PySem.W.mg_of X G a2, fun us hl => match us, hl with | [_], _ => ⟨rfl, rfl⟩⟩
    | 3, _ => exact ⟨f3, _, fun_mk (st := d3.st) l3 c3 k3, PySem.W.mg_of X G a3, fun us hl => match us, hl with | [_, _, _], _ => ⟨rfl, rfl⟩⟩
    | 4, _ => exact ⟨f4, _, fun_mk (st := d4.st) l4 c4 k4, PySem.W.mg_of X G a4, fun us hl => match us, hl with | [_, _, _], _ => ⟨rfl, rfl⟩⟩
    | 5, _ => exact ⟨f5, _, fun_mk (st := d5.st) l5 c5 k5, PySem.W.mg_of X G a5, fun us hl => match us, hl with | [_, _], _ => ⟨rfl, rfl⟩⟩
    | 6, _ => exact ⟨f6, _, fun_mk (st := d6.st) l6 c6 k6, PySem.W.mg_of X G a6, fun us hl => match us, hl with | [_, _], _ => ⟨rfl, rfl⟩⟩
    | 7, _ => exact ⟨f7, _, fun_mk (st := d7.st) l7 c7 k7, PySem.W.mg_of X G a7, fun us hl => match us, hl with | [_, _], _ => ⟨rfl, rfl⟩⟩
    | 8, _ => exact ⟨f8, _, fun_mk (st := d8.st) l8 c8 k8, PySem.W.mg_of X G a8, fun us hl => match us, hl with | [_, _, _], _ => ⟨rfl, rfl⟩⟩
    | 9, _ => exact ⟨f9, _, fun_mk (st := d9.st) l9 c9 k9, PySem.W.mg_of X G a9, fun us hl => match us, hl with | [_, _], _ => ⟨rfl, rfl⟩⟩
    | 10, _ => exact ⟨f10, _, fun_mk (st := d10.st) l10 c10 k10, PySem.W.mg_of X G a10, fun us hl => match us, hl with | [_, _], _ => ⟨rfl, rfl⟩⟩
    | 11, _ => exact ⟨f11, _, fun_mk (st := d11.st) l11 c11 k11, PySem.W.mg_of X G a11, fun us hl => match us, hl with | [_, _, _], _ => ⟨rfl, rfl⟩⟩
    | 12, _ => exact ⟨f12, _, fun_mk (st := d12.st) l12 c12 k12, PySem.W.mg_of X G a12, fun us hl => match us, hl with | [_], _ => ⟨rfl, rfl⟩⟩
    | 13, _ => exact ⟨f13, _, fun_mk (st := d13.st) l13 c13 k13, PySem.W.mg_of X G a13, fun us hl => match us, hl with | [_, _, _], _ => ⟨rfl, rfl⟩⟩
    | 14, _ => exact ⟨f14, _, fun_mk (st := d14.st) l14 c14 k14, PySem.W.mg_of X G a14, fun us hl => match us, hl with | [_, _, _], _ => ⟨rfl, rfl⟩⟩
    | 15, _ => exact ⟨f15, _, fun_mk (st := d15.st) l15 c15 k15, PySem.W.mg_of X G a15, fun us hl => match us, hl with | [_, _, _], _ => ⟨rfl, rfl⟩⟩
    | 16, _ => exact ⟨f16, _, fun_mk (st := d16.st) l16 c16 k16, PySem.W.mg_of X G a16, fun us hl => match us, hl with | [_, _, _], _ => ⟨rfl, rfl⟩⟩
    | 17, _ => exact ⟨f17, _, fun_mk (st := d17.st) l17 c17 k17, PySem.W.mg_of X G a17, fun us hl => match us, hl with | [_, _, _, _], _ => ⟨rfl, rfl⟩⟩
    | 18, _ => exact ⟨f18, _, fun_mk (st := d18.st) l18 c18 k18, PySem.W.mg_of X G a18, fun us hl => match us, hl with | [_, _, _, _], _ => ⟨rfl, rfl⟩⟩
    | 19, _ => exact ⟨f19, _, fun_mk (st := d19.st) l19 c19 k19, PySem.W.mg_of X G a19, fun us hl => match us, hl with | [_, _], _ => ⟨rfl, rfl⟩⟩
    | 20, _ => exact ⟨f20, _, fun_mk (st := d20.st) l20 c20 k20, PySem.W.mg_of X G a20, fun us hl => match us, hl with | [_, _], _ => ⟨rfl, rfl⟩⟩
    | 21, _ => exact ⟨f21, _, fun_mk (st := d21.st) l21 c21 k21, PySem.W.mg_of X G a21, fun us hl => match us, hl with | [_], _ => ⟨rfl, rfl⟩⟩
    | 22, _ => exact ⟨f22, _, fun_mk (st := d22.st) l22 c22 k22, PySem.W.mg_of X G a22, fun us hl => match us, hl with | [_, _], _ => ⟨rfl, rfl⟩⟩
    | 23, _ => exact ⟨f23, _, fun_mk (st := d23.st) l23 c23 k23, PySem.W.mg_of X G a23, fun us hl => match us, hl with | [_], _ => ⟨rfl, rfl⟩⟩
    | n + 24, h => exact absurd h (by show ¬ (n + 24 < 24); omega)
  · change (if x = "MOST" then some (D.int 1000000000000) else if x = "MOST_ROOMS" then some (D.int 60) else if x = "MOST_STEPS" then some (D.int 200) else none) = _ at hx
    by_cases e_MOST : x = "MOST"
    · subst e_MOST; rw [if_pos rfl] at hx; cases hx; exact ⟨_, PySem.W.mg_of X G g_MOST⟩
    rw [if_neg e_MOST] at hx
    by_cases e_MOST_ROOMS : x = "MOST_ROOMS"
    · subst e_MOST_ROOMS; rw [if_pos rfl] at hx; cases hx; exact ⟨_, PySem.W.mg_of X G g_MOST_ROOMS⟩
    rw [if_neg e_MOST_ROOMS] at hx
    by_cases e_MOST_STEPS : x = "MOST_STEPS"
    · subst e_MOST_STEPS; rw [if_pos rfl] at hx; cases hx; exact ⟨_, PySem.W.mg_of X G g_MOST_STEPS⟩
    rw [if_neg e_MOST_STEPS] at hx
    cases hx
  · change (if x = "MOST" then some (D.int 1000000000000) else if x = "MOST_ROOMS" then some (D.int 60) else if x = "MOST_STEPS" then some (D.int 200) else none) = _ at hx
    by_cases e_MOST : x = "MOST"
    · subst e_MOST; rw [if_pos rfl] at hx; cases hx
    rw [if_neg e_MOST] at hx
    by_cases e_MOST_ROOMS : x = "MOST_ROOMS"
    · subst e_MOST_ROOMS; rw [if_pos rfl] at hx; cases hx
    rw [if_neg e_MOST_ROOMS] at hx
    by_cases e_MOST_STEPS : x = "MOST_STEPS"
    · subst e_MOST_STEPS; rw [if_pos rfl] at hx; cases hx
    rw [if_neg e_MOST_STEPS] at hx
    cases hx
  · have hx : x ∈ (["bool", "enumerate", "int", "isinstance", "len", "list", "max", "min", "range", "sum"] : List String) := List.contains_iff_mem.mp hx
    simp only [List.mem_cons, List.not_mem_nil, or_false] at hx
    rcases hx with rfl | rfl | rfl | rfl | rfl | rfl | rfl | rfl | rfl | rfl
    · exact PySem.W.mg_none_of X G z_bool
    · exact PySem.W.mg_none_of X G z_enumerate
    · exact PySem.W.mg_none_of X G z_int
    · exact PySem.W.mg_none_of X G z_isinstance
    · exact PySem.W.mg_none_of X G z_len
    · exact PySem.W.mg_none_of X G z_list
    · exact PySem.W.mg_none_of X G z_max
    · exact PySem.W.mg_none_of X G z_min
    · exact PySem.W.mg_none_of X G z_range
    · exact PySem.W.mg_none_of X G z_sum
end G9

namespace G9
open PySem PySem.Spec L2 Q9
theorem plain : ∀ ns : List Int, ns.length ≤ 63 → ∃ ps, run (gam T fd) 2000000 10 23 [.flk (ns.map .int)] = .ok (.bl true) ps :=
  plain23 (Γ := gam T fd) (W := 2000000) (k := 3) ⟨⟨rfl, rfl, rfl, rfl, rfl⟩, ⟨rfl, rfl⟩, ⟨rfl, rfl⟩, rfl, rfl, rfl, rfl, rfl, rfl, rfl, rfl, rfl, rfl, rfl, rfl, rfl, rfl, rfl⟩ (by decide)
end G9

open PySem PySem.W PyProof.Rows
set_option maxRecDepth 100000 in
set_option maxHeartbeats 0 in
theorem PySem.Challenge.cw_cleanhelpers_k23_whole_steps_are_differe_holds : PySem.Challenge.rw_cleanhelpers_k23_whole_steps_are_differe.Holds := by
  w_on; o_law; k_head; (case hw => w_witness2)
  k_fill
  refine Q9.walk9 (l := PySem.Challenge.rw_cleanhelpers_k23_whole_steps_are_differe) (n := 63) (k := 10) (f := 23) (W := 2000000) (T := G9.T) (fd := G9.fd) (x := "_law_script") rfl (by decide) rfl ⟨rfl, by decide, by decide⟩ (fun w h Y => PySem.W.kIn_of Y) (by decide) rfl rfl G9.hok ?F G9.plain
  case F =>
    intro w mg h KX G
    refine' G9.facts KX G ?a0 ?l0 ?c0 ?k0 ?a1 ?l1 ?c1 ?k1 ?a2 ?l2 ?c2 ?k2 ?a3 ?l3 ?c3 ?k3 ?a4 ?l4 ?c4 ?k4 ?a5 ?l5 ?c5 ?k5 ?a6 ?l6 ?c6 ?k6 ?a7 ?l7 ?c7 ?k7 ?a8 ?l8 ?c8 ?k8 ?a9 ?l9 ?c9 ?k9 ?a10 ?l10 ?c10 ?k10 ?a11 ?l11 ?c11 ?k11 ?a12 ?l12 ?c12 ?k12 ?a13 ?l13 ?c13 ?k13 ?a14 ?l14 ?c14 ?k14 ?a15 ?l15 ?c15 ?k15 ?a16 ?l16 ?c16 ?k16 ?a17 ?l17 ?c17 ?k17 ?a18 ?l18 ?c18 ?k18 ?a19 ?l19 ?c19 ?k19 ?a20 ?l20 ?c20 ?k20 ?a21 ?l21 ?c21 ?k21 ?a22 ?l22 ?c22 ?k22 ?a23 ?l23 ?c23 ?k23 ?g_MOST ?g_MOST_ROOMS ?g_MOST_STEPS ?z_bool ?z_enumerate ?z_int ?z_isinstance ?z_len ?z_list ?z_max ?z_min ?z_range ?z_sum
    (case a0 => k_is); (case l0 => k_is); (case c0 => k_is); (case k0 => k_is)
    (case a1 => k_is); (case l1 => k_is); (case c1 => k_is); (case k1 => k_is)
    (case a2 => k_is); (case l2 => k_is); (case c2 => k_is); (case k2 => k_is)
    (case a3 => k_is); (case l3 => k_is); (case c3 => k_is); (case k3 => k_is)
    (case a4 => k_is); (case l4 => k_is); (case c4 => k_is); (case k4 => k_is)
    (case a5 => k_is); (case l5 => k_is); (case c5 => k_is); (case k5 => k_is)
    (case a6 => k_is); (case l6 => k_is); (case c6 => k_is); (case k6 => k_is)
    (case a7 => k_is); (case l7 => k_is); (case c7 => k_is); (case k7 => k_is)
    (case a8 => k_is); (case l8 => k_is); (case c8 => k_is); (case k8 => k_is)
    (case a9 => k_is); (case l9 => k_is); (case c9 => k_is); (case k9 => k_is)
    (case a10 => k_is); (case l10 => k_is); (case c10 => k_is); (case k10 => k_is)
    (case a11 => k_is); (case l11 => k_is); (case c11 => k_is); (case k11 => k_is)
    (case a12 => k_is); (case l12 => k_is); (case c12 => k_is); (case k12 => k_is)
    (case a13 => k_is); (case l13 => k_is); (case c13 => k_is); (case k13 => k_is)
    (case a14 => k_is); (case l14 => k_is); (case c14 => k_is); (case k14 => k_is)
    (case a15 => k_is); (case l15 => k_is); (case c15 => k_is); (case k15 => k_is)
    (case a16 => k_is); (case l16 => k_is); (case c16 => k_is); (case k16 => k_is)
    (case a17 => k_is); (case l17 => k_is); (case c17 => k_is); (case k17 => k_is)
    (case a18 => k_is); (case l18 => k_is); (case c18 => k_is); (case k18 => k_is)
    (case a19 => k_is); (case l19 => k_is); (case c19 => k_is); (case k19 => k_is)
    (case a20 => k_is); (case l20 => k_is); (case c20 => k_is); (case k20 => k_is)
    (case a21 => k_is); (case l21 => k_is); (case c21 => k_is); (case k21 => k_is)
    (case a22 => k_is); (case l22 => k_is); (case c22 => k_is); (case k22 => k_is)
    (case a23 => k_is); (case l23 => k_is); (case c23 => k_is); (case k23 => k_is)
    (case g_MOST => k_is)
    (case g_MOST_ROOMS => k_is)
    (case g_MOST_STEPS => k_is)
    (case z_bool => k_is)
    (case z_enumerate => k_is)
    (case z_int => k_is)
    (case z_isinstance => k_is)
    (case z_len => k_is)
    (case z_list => k_is)
    (case z_max => k_is)
    (case z_min => k_is)
    (case z_range => k_is)
    (case z_sum => k_is)
