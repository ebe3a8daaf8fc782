import PyProof.Rows.All
import HandS.ForMost
import HandS.ForExc
import HandS.CallSlots
import HandS.TryMany
import HandS.TryOnly
import HandS.Wide
import HandS.Deep
import HandS.Flow
import HandS.ExcField
import HandS.TupAny
import HandS.IsInst
import HandS.Conv
import HandS.Small
import KE.KExcSuper
import KE.KSuper
import HandS.ExcInit
import HandS.Words
import HandS.WordsExc
import HandS.ExcOwn
import HandS.More
import HandS.Style
import KE.SortKeyed
import HandS.SetFor
import HandS.Strs
import HandS.OwnEq
import HandS.TupSets
import KE.GoesMore
import PyProof.InstNe
import KE.DataMinMax
import KE.GoesComp
import KE.DataCmp
import PySem.Challenge.RW_gentleweb_k21_whole_visits
set_option Elab.async false
set_option linter.all false
set_option maxRecDepth 100000
set_option maxHeartbeats 4000000
namespace G
open PySem PySem.Spec PyProof.Rows L2

/-! ## data, objects, stores, results -/
/-- the built-in classes -/
inductive BT where
  | none | bool | int | str | list | tuple | dict
  deriving DecidableEq, Inhabited
def BT.name : BT → String
  | .none => "NoneType" | .bool => "bool" | .int => "int" | .str => "str" | .list => "list" | .tuple => "tuple" | .dict => "dict"
inductive Da where
  | non | bl (b : Bool) | int (i : Int) | str (x : Str)
  | lst (ds : List Da) | tup (ds : List Da)
  | scr (ns : List Int)
  | ins (c : Nat) (fs : List (Str × Da))
  | fn (k : Nat)
  | ty (b : BT)
  | cls (k : Nat)
  | exv (c : Nat) (fs : List (Str × Da))
  | ref (n : Nat)
  deriving Inhabited
inductive Ob where
  | lst (ds : List Da)
  | ins (c : Nat) (fs : List (Str × Da))
  | gone
  deriving Inhabited
abbrev Sto := List Ob
abbrev Env := List (Option Da)
inductive Rs (α : Type) where
  | ok (a : α) (S : Sto)
  | exc (c : Nat) (fs : List (Str × Da)) (S : Sto)
  | bad
def Rs.bind {α β : Type} (r : Rs α) (k : α → Sto → Rs β) : Rs β := match r with
  | .ok a S => k a S
  | .exc c fs S => .exc c fs S
  | .bad => .bad
inductive Fl where
  | nx (ε : Env) (S : Sto)
  | rt (d : Da) (S : Sto)
  | bk (ε : Env) (S : Sto)
  | ct (ε : Env) (S : Sto)
  | ex (c : Nat) (fs : List (Str × Da)) (ε : Env) (S : Sto)
  | bad
abbrev E := Env → Sto → Rs Da
abbrev TeE := Env → Sto → Rs Bool
abbrev Es := Env → Sto → Rs (List Da)
abbrev Sm := Env → Sto → Fl

/-- classes and functions by number -/
structure Tab where
  cls : Nat → Addr
  fnA : Nat → Addr
  /-- the exception that is handled: where it stands, its class, its dict -/
  cur : Option (Addr × Value × Option Addr) := none
/-- a view of the heap: the addresses of the store's objects, the hidden ones, the abstract heap -/
structure Hv where
  m : List (Option Addr)
  B : List Addr
  H : Hp
def Hv.free (h : Hv) (a : Addr) : Prop := some a ∉ h.m ∧ a ∉ h.B
def SL (K : PySem.W.Frag) (h : Hv) (a : Addr) (xs : List V) : Prop :=
  (Rd h.H a (.lst xs) ∧ h.free a) ∨ ∃ (o : Obj) (its : Array Value) (n : Nat), K.lookup a = some o ∧ o.cls = .type "list" ∧ o.dict = none ∧ o.data = .seq its n ∧ its.size ≤ sizeLine ∧ Vals xs its.toList
def ST (K : PySem.W.Frag) (h : Hv) (a : Addr) (xs : List V) : Prop :=
  (Rd h.H a (.tup xs) ∧ h.free a) ∨ ∃ (o : Obj) (its : Array Value) (n : Nat), K.lookup a = some o ∧ o.cls = .type "tuple" ∧ o.data = .seq its n ∧ its.size ≤ sizeLine ∧ Vals xs its.toList
mutual
inductive RV (K : PySem.W.Frag) (T : Tab) (h : Hv) : V → Da → Prop
  | non : RV K T h .non .non
  | bl (b : Bool) : RV K T h (.bl b) (.bl b)
  | int (i : Int) : RV K T h (.int i) (.int i)
  | str (x : Str) : RV K T h (.str x) (.str x)
  | lst {a : Addr} {xs : List V} {ds : List Da} : h.H a = some (.lst xs) → h.free a → RVs K T h xs ds → RV K T h (.ref a) (.lst ds)
  | scr {a : Addr} {ns : List Int} : SL K h a (ns.map V.int) → RV K T h (.ref a) (.scr ns)
  | tup {a : Addr} {xs : List V} {ds : List Da} : ST K h a xs → RVs K T h xs ds → RV K T h (.ref a) (.tup ds)
  | ins {a dx : Addr} {gs : List (Str × V)} {c : Nat} {fs : List (Str × Da)} : h.H a = some (.ins (T.cls c) dx gs) → h.free a → RVf K T h gs fs → RV K T h (.ref a) (.ins c fs)
  | fn (k : Nat) : RV K T h (.ref (T.fnA k)) (.fn k)
  | ty (b : BT) : RV K T h (.ty b.name) (.ty b)
  | cls (k : Nat) : RV K T h (.ref (T.cls k)) (.cls k)
  | ref {v : V} {n : Nat} {o : Option Addr} : h.m[n]? = some o → (∀ a, o = some a → v = .ref a) → RV K T h v (.ref n)
inductive RVs (K : PySem.W.Frag) (T : Tab) (h : Hv) : List V → List Da → Prop
  | nil : RVs K T h [] []
  | cons {v : V} {vs : List V} {d : Da} {ds : List Da} : RV K T h v d → RVs K T h vs ds → RVs K T h (v :: vs) (d :: ds)
inductive RVf (K : PySem.W.Frag) (T : Tab) (h : Hv) : List (Str × V) → List (Str × Da) → Prop
  | nil : RVf K T h [] []
  | cons {f : Str} {v : V} {vs : List (Str × V)} {d : Da} {ds : List (Str × Da)} : RV K T h v d → RVf K T h vs ds → RVf K T h ((f, v) :: vs) ((f, d) :: ds)
end
structure Grow (h h' : Hv) : Prop where
  B : h'.B = h.B
  slot : ∀ (n : Nat) (o : Option Addr), h.m[n]? = some o → h'.m[n]? = some o ∨ h'.m[n]? = some none
  keep : ∀ (a : Addr) (o : HO), h.H a = some o → some a ∉ h.m → h'.H a = some o ∧ some a ∉ h'.m
theorem Grow.refl (h : Hv) : Grow h h := ⟨rfl, fun _ _ e => .inl e, fun _ _ e n => ⟨e, n⟩⟩
theorem Grow.trans {h1 h2 h3 : Hv} (a : Grow h1 h2) (b : Grow h2 h3) : Grow h1 h3 where
  B := b.B.trans a.B
  slot := fun n o e => by
    rcases a.slot n o e with e1 | e1
    · exact b.slot n o e1
    · rcases b.slot n _ e1 with e2 | e2 <;> exact .inr e2
  keep := fun a' o e n => let ⟨e1, n1⟩ := a.keep a' o e n; b.keep a' o e1 n1
theorem Grow.free {h h' : Hv} (g : Grow h h') {a : Addr} {o : HO} (e : h.H a = some o) (f : h.free a) : h'.H a = some o ∧ h'.free a :=
  let ⟨e1, n1⟩ := g.keep a o e f.1; ⟨e1, n1, by rw [g.B]; exact f.2⟩
/-- what stands by itself stays -/
structure Ext (h h' : Hv) : Prop where
  slot : ∀ (n : Nat) (o : Option Addr), h.m[n]? = some o → h'.m[n]? = some o ∨ h'.m[n]? = some none
  keep : ∀ (a : Addr) (o : HO), h.H a = some o → h.free a → h'.H a = some o ∧ h'.free a
theorem Grow.ext {h h' : Hv} (g : Grow h h') : Ext h h' := ⟨g.slot, fun _ _ e f => g.free e f⟩
instance {h h' : Hv} : Coe (Grow h h') (Ext h h') := ⟨Grow.ext⟩
theorem Ext.refl (h : Hv) : Ext h h := ⟨fun _ _ e => .inl e, fun _ _ e n => ⟨e, n⟩⟩
theorem Ext.trans {h1 h2 h3 : Hv} (a : Ext h1 h2) (b : Ext h2 h3) : Ext h1 h3 where
  slot := fun n o e => by
    rcases a.slot n o e with e1 | e1
    · exact b.slot n o e1
    · rcases b.slot n _ e1 with e2 | e2 <;> exact .inr e2
  keep := fun a' o e n => let ⟨e1, n1⟩ := a.keep a' o e n; b.keep a' o e1 n1
theorem SL.mono {K : PySem.W.Frag} {h h' : Hv} {a : Addr} {xs : List V} (g : Ext h h') : SL K h a xs → SL K h' a xs
  | .inl ⟨.inl e, f⟩ => let ⟨e1, f1⟩ := g.keep _ _ e f; .inl ⟨.inl e1, f1⟩
  | .inl ⟨.inr ⟨o, e⟩, f⟩ => let ⟨e1, f1⟩ := g.keep _ _ e f; .inl ⟨.inr ⟨o, e1⟩, f1⟩
  | .inr w => .inr w
theorem ST.mono {K : PySem.W.Frag} {h h' : Hv} {a : Addr} {xs : List V} (g : Ext h h') : ST K h a xs → ST K h' a xs
  | .inl ⟨.inl e, f⟩ => let ⟨e1, f1⟩ := g.keep _ _ e f; .inl ⟨.inl e1, f1⟩
  | .inl ⟨.inr ⟨o, e⟩, f⟩ => let ⟨e1, f1⟩ := g.keep _ _ e f; .inl ⟨.inr ⟨o, e1⟩, f1⟩
  | .inr w => .inr w
theorem SL.sq {K : PySem.W.Frag} {h : Hv} {a : Addr} {xs : List V} : SL K h a xs → SqL K h.H a xs
  | .inl ⟨r, _⟩ => .inl r
  | .inr w => .inr w
theorem ST.sq {K : PySem.W.Frag} {h : Hv} {a : Addr} {xs : List V} : ST K h a xs → SqT K h.H a xs
  | .inl ⟨r, _⟩ => .inl r
  | .inr w => .inr w
section
variable {K : PySem.W.Frag} {T : Tab} {h h' : Hv}
mutual
theorem RV.mono (g : Ext h h') : ∀ {v : V} {d : Da}, RV K T h v d → RV K T h' v d
  | _, _, .non => .non
  | _, _, .bl b => .bl b
  | _, _, .int i => .int i
  | _, _, .str x => .str x
  | _, _, .lst e f r => let ⟨e1, f1⟩ := g.keep _ _ e f; .lst e1 f1 (RVs.mono g r)
  | _, _, .scr s => .scr (s.mono g)
  | _, _, .tup s r => .tup (s.mono g) (RVs.mono g r)
  | _, _, .ins e f r => let ⟨e1, f1⟩ := g.keep _ _ e f; .ins e1 f1 (RVf.mono g r)
  | _, _, .fn k => .fn k
  | _, _, .ty k => .ty k
  | _, _, .cls k => .cls k
  | _, _, .ref (n := n) (o := o) e q => by
    rcases g.slot n o e with e1 | e1
    · exact .ref e1 q
    · exact .ref e1 fun a z => by cases z
theorem RVs.mono (g : Ext h h') : ∀ {vs : List V} {ds : List Da}, RVs K T h vs ds → RVs K T h' vs ds
  | _, _, .nil => .nil
  | _, _, .cons r t => .cons (RV.mono g r) (RVs.mono g t)
theorem RVf.mono (g : Ext h h') : ∀ {vs : List (Str × V)} {ds : List (Str × Da)}, RVf K T h vs ds → RVf K T h' vs ds
  | _, _, .nil => .nil
  | _, _, .cons r t => .cons (RV.mono g r) (RVf.mono g t)
end
theorem RVs.length : ∀ {vs : List V} {ds : List Da}, RVs K T h vs ds → vs.length = ds.length
  | _, _, .nil => rfl
  | _, _, .cons _ t => congrArg (· + 1) (RVs.length t)
theorem RVs.get : ∀ {vs : List V} {ds : List Da} {i : Nat} {d : Da}, RVs K T h vs ds → ds[i]? = some d → ∃ v, vs[i]? = some v ∧ RV K T h v d
  | _, _, _, _, .nil, e => by simp at e
  | _, _, 0, _, .cons r _, e => by simp at e; subst e; exact ⟨_, rfl, r⟩
  | _, _, i + 1, d, .cons _ t, e => by
    obtain ⟨v, h1, h2⟩ := RVs.get (i := i) (d := d) t (by simpa using e)
    exact ⟨v, by simpa using h1, h2⟩
theorem RVs.get' : ∀ {vs : List V} {ds : List Da} {i : Nat} {v : V}, RVs K T h vs ds → vs[i]? = some v → ∃ d, ds[i]? = some d ∧ RV K T h v d
  | _, _, _, _, .nil, e => by simp at e
  | _, _, 0, _, .cons r _, e => by simp at e; subst e; exact ⟨_, rfl, r⟩
  | _, _, i + 1, d, .cons _ t, e => by
    obtain ⟨v, h1, h2⟩ := RVs.get' (i := i) (v := d) t (by simpa using e)
    exact ⟨v, by simpa using h1, h2⟩
theorem RVs.append : ∀ {vs ws : List V} {ds es : List Da}, RVs K T h vs ds → RVs K T h ws es → RVs K T h (vs ++ ws) (ds ++ es)
  | _, _, _, _, .nil, s => s
  | _, _, _, _, .cons r t, s => .cons r (RVs.append t s)
theorem RVs.take : ∀ {vs : List V} {ds : List Da} (n : Nat), RVs K T h vs ds → RVs K T h (vs.take n) (ds.take n)
  | _, _, 0, _ => .nil
  | _, _, _ + 1, .nil => .nil
  | _, _, n + 1, .cons r t => .cons r (RVs.take n t)
theorem RVs.drop : ∀ {vs : List V} {ds : List Da} (n : Nat), RVs K T h vs ds → RVs K T h (vs.drop n) (ds.drop n)
  | _, _, 0, r => r
  | _, _, _ + 1, .nil => .nil
  | _, _, n + 1, .cons _ t => RVs.drop n t
theorem RVs.set {v : V} {d : Da} (r : RV K T h v d) : ∀ {vs : List V} {ds : List Da} (i : Nat), RVs K T h vs ds → RVs K T h (vs.set i v) (ds.set i d)
  | _, _, _, .nil => .nil
  | _, _, 0, .cons _ t => .cons r t
  | _, _, i + 1, .cons q t => .cons q (RVs.set r i t)
theorem RVs.snoc {vs : List V} {ds : List Da} {v : V} {d : Da} (a : RVs K T h vs ds) (b : RV K T h v d) : RVs K T h (vs ++ [v]) (ds ++ [d]) := a.append (.cons b .nil)
theorem RVs.ints : ∀ {vs : List V} {ns : List Int}, RVs K T h vs (ns.map Da.int) → vs = ns.map V.int
  | _, [], .nil => rfl
  | _, n :: ns, .cons r t => by cases r; rw [RVs.ints t]; rfl
theorem RVs.of_ints : ∀ (ns : List Int), RVs K T h (ns.map V.int) (ns.map Da.int)
  | [] => .nil
  | n :: ns => .cons (.int n) (RVs.of_ints ns)
end

def ObR (K : PySem.W.Frag) (T : Tab) (h : Hv) (a : Addr) : Ob → Prop
  | .lst ds => ∃ xs, h.H a = some (.lst xs) ∧ RVs K T h xs ds
  | .ins c fs => ∃ dx gs, h.H a = some (.ins (T.cls c) dx gs) ∧ RVf K T h gs fs
  | .gone => False
structure HeapR (K : PySem.W.Frag) (T : Tab) (h : Hv) (S : Sto) : Prop where
  len : h.m.length = S.length
  nd : ∀ (i j : Nat) (a : Addr), h.m[i]? = some (some a) → h.m[j]? = some (some a) → i = j
  ob : ∀ (n : Nat) (a : Addr) (ob : Ob), h.m[n]? = some (some a) → S[n]? = some ob → ObR K T h a ob
  gone : ∀ (n : Nat), h.m[n]? = some none → S[n]? = some .gone
  hid : ∀ a ∈ h.B, some a ∉ h.m ∧ h.H a ≠ none
theorem ObR.some {K : PySem.W.Frag} {T : Tab} {h : Hv} {a : Addr} {ob : Ob} (r : ObR K T h a ob) : ∃ o, h.H a = some o := by
  cases ob with
  | lst ds => obtain ⟨xs, e, _⟩ := r; exact ⟨_, e⟩
  | ins c fs => obtain ⟨dx, gs, e, _⟩ := r; exact ⟨_, e⟩
  | gone => exact r.elim
section
variable {K : PySem.W.Frag} {T : Tab} {h h' : Hv} {S : Sto}
theorem HeapR.tracked (r : HeapR K T h S) {a : Addr} (e : some a ∈ h.m) : ∃ o, h.H a = some o := by
  obtain ⟨n, hn⟩ := List.getElem?_of_mem e
  have hl : n < S.length := by rw [← r.len]; exact (List.getElem?_eq_some_iff.mp hn).1
  exact (r.ob n a S[n] hn (by simp [hl])).some
/-- a fresh address is free -/
theorem HeapR.fresh (r : HeapR K T h S) {p : Addr} (hp : h.H p = none) : h.free p := by
  refine ⟨fun e => ?_, fun e => (r.hid p e).2 hp⟩
  obtain ⟨o, q⟩ := r.tracked e
  rw [hp] at q; cases q
/-- a new object that is a value -/
theorem grow_new (hp : h.H p = none) (o : HO) : Grow h { h with H := upd h.H p o } where
  B := rfl
  slot := fun _ _ e => .inl e
  keep := fun a u e n => ⟨by show upd h.H p o a = _; rw [upd_ne (ne_of_none e hp)]; exact e, n⟩
theorem ObR.mono {a : Addr} {ob : Ob} (g : Ext h h') (e : h'.H a = h.H a) (r : ObR K T h a ob) : ObR K T h' a ob := by
  cases ob with
  | lst ds => obtain ⟨xs, q, t⟩ := r; exact ⟨xs, e.trans q, t.mono g⟩
  | ins c fs => obtain ⟨dx, gs, q, t⟩ := r; exact ⟨dx, gs, e.trans q, t.mono g⟩
  | gone => exact r
theorem HeapR.new (r : HeapR K T h S) {p : Addr} (hp : h.H p = none) (o : HO) : HeapR K T { h with H := upd h.H p o } S where
  len := r.len
  nd := r.nd
  ob := fun n a ob e s => (r.ob n a ob e s).mono (grow_new hp o) (by
    obtain ⟨u, q⟩ := (r.ob n a ob e s).some
    exact upd_ne (ne_of_none q hp))
  gone := r.gone
  hid := fun a e => ⟨(r.hid a e).1, by
    show upd h.H p o a ≠ none
    by_cases z : a = p
    · subst z; rw [upd_same]; exact fun q => nomatch q
    · rw [upd_ne z]; exact (r.hid a e).2⟩
/-- .. and a mutable one -/
theorem grow_alloc (hp : h.H p = none) (o : HO) : Grow h { m := h.m ++ [some p], B := h.B, H := upd h.H p o } where
  B := rfl
  slot := fun n u e => .inl (by
    show (h.m ++ [some p])[n]? = some u
    rw [List.getElem?_append_left (List.getElem?_eq_some_iff.mp e).1]; exact e)
  keep := fun a u e n => by
    have ne := ne_of_none e hp
    refine ⟨by show upd h.H p o a = _; rw [upd_ne ne]; exact e, fun z => ?_⟩
    have z' : some a ∈ h.m ++ [some p] := z
    rcases List.mem_append.mp z' with z | z
    · exact n z
    · simp at z; exact ne z
theorem HeapR.alloc (r : HeapR K T h S) {p : Addr} (hp : h.H p = none) (o : HO) {ob : Ob} (q : ObR K T { m := h.m ++ [some p], B := h.B, H := upd h.H p o } p ob) :
    HeapR K T { m := h.m ++ [some p], B := h.B, H := upd h.H p o } (S ++ [ob]) where
  len := by simp [r.len]
  nd := fun i j a e1 e2 => by
    have key : ∀ k, (h.m ++ [some p])[k]? = some (some a) → h.m[k]? = some (some a) ∨ (k = h.m.length ∧ a = p) := fun k e => by
      by_cases hk : k < h.m.length
      · rw [List.getElem?_append_left hk] at e; exact .inl e
      · rw [List.getElem?_append_right (Nat.le_of_not_lt hk)] at e
        by_cases hk0 : k - h.m.length = 0
        · rw [hk0] at e; simp at e; exact .inr ⟨by omega, e.symm⟩
        · obtain ⟨t, ht⟩ : ∃ t, k - h.m.length = t + 1 := ⟨k - h.m.length - 1, by omega⟩
          rw [ht] at e; simp at e
    have nop : ∀ k, h.m[k]? = some (some a) → a ≠ p := fun k e z => by
      have := (r.fresh hp).1; rw [← z] at this; exact this (List.mem_of_getElem? e)
    rcases key i e1 with h1 | ⟨h1, h1'⟩ <;> rcases key j e2 with h2 | ⟨h2, h2'⟩
    · exact r.nd i j a h1 h2
    · exact absurd h2' (nop i h1)
    · exact absurd h1' (nop j h2)
    · rw [h1, h2]
  ob := fun n a ob' e s => by
    by_cases hn : n < h.m.length
    · have e' : h.m[n]? = some (some a) := by
        have e'' : (h.m ++ [some p])[n]? = some (some a) := e
        rw [List.getElem?_append_left hn] at e''; exact e''
      have s' : S[n]? = some ob' := by rw [List.getElem?_append_left (by rw [← r.len]; exact hn)] at s; exact s
      have x := r.ob n a ob' e' s'
      obtain ⟨u, qu⟩ := x.some
      exact x.mono (grow_alloc hp o) (upd_ne (ne_of_none qu hp))
    · have e' : (h.m ++ [some p])[n]? = some (some a) := e
      rw [List.getElem?_append_right (Nat.le_of_not_lt hn)] at e'
      rw [List.getElem?_append_right (by rw [← r.len]; exact Nat.le_of_not_lt hn), ← r.len] at s
      cases hk : n - h.m.length with
      | zero => rw [hk] at e' s; simp at e' s; subst e'; subst s; exact q
      | succ t => rw [hk] at e'; simp at e'
  gone := fun n e => by
    have e' : (h.m ++ [some p])[n]? = some none := e
    by_cases hn : n < h.m.length
    · rw [List.getElem?_append_left hn] at e'
      rw [List.getElem?_append_left (by rw [← r.len]; exact hn)]
      exact r.gone n e'
    · rw [List.getElem?_append_right (Nat.le_of_not_lt hn)] at e'
      cases hk : n - h.m.length with
      | zero => rw [hk] at e'; simp at e'
      | succ t => rw [hk] at e'; simp at e'
  hid := fun a e => by
    obtain ⟨h1, h2⟩ := r.hid a e
    have ne : a ≠ p := fun z => by subst z; exact h2 hp
    refine ⟨fun z => ?_, by show upd h.H p o a ≠ none; rw [upd_ne ne]; exact h2⟩
    rcases List.mem_append.mp (show some a ∈ h.m ++ [some p] from z) with z | z
    · exact h1 z
    · simp at z; exact ne z
/-- a mutable object changes -/
theorem grow_write (r : HeapR K T h S) {n : Nat} {a : Addr} (hn : h.m[n]? = some (some a)) (o : HO) : Grow h { h with H := upd h.H a o } where
  B := rfl
  slot := fun _ _ e => .inl e
  keep := fun b u e nb => ⟨by
    show upd h.H a o b = _
    rw [upd_ne (fun z => by subst z; exact nb (List.mem_of_getElem? hn))]; exact e, nb⟩
theorem HeapR.write (r : HeapR K T h S) {n : Nat} {a : Addr} (hn : h.m[n]? = some (some a)) (o : HO) {ob : Ob} (q : ObR K T { h with H := upd h.H a o } a ob) :
    HeapR K T { h with H := upd h.H a o } (S.set n ob) where
  len := by simp [r.len]
  nd := r.nd
  ob := fun k b ob' e s => by
    by_cases hk : k = n
    · subst hk
      have e' : h.m[k]? = some (some b) := e
      rw [hn] at e'; cases e'
      have hl : k < S.length := by rw [← r.len]; exact (List.getElem?_eq_some_iff.mp hn).1
      rw [List.getElem?_set_self hl] at s; cases s
      exact q
    · rw [List.getElem?_set_ne (Ne.symm hk)] at s
      have ne : b ≠ a := fun z => by subst z; exact hk (r.nd k n b e hn)
      exact (r.ob k b ob' e s).mono (grow_write r hn o) (upd_ne ne)
  gone := fun k e => by
    by_cases hk : k = n
    · subst hk
      have e' : h.m[k]? = some none := e
      rw [hn] at e'; cases e'
    · rw [List.getElem?_set_ne (Ne.symm hk)]
      exact r.gone k e
  hid := fun b e => ⟨(r.hid b e).1, by
    show upd h.H a o b ≠ none
    rw [upd_ne (fun z => by subst z; exact (r.hid b e).1 (List.mem_of_getElem? hn))]
    exact (r.hid b e).2⟩
end
/-- the record of an exception -/
def XR (K : PySem.W.Frag) (T : Tab) (h : Hv) (cls : Value) (dd : Option Addr) (c : Nat) (fs : List (Str × Da)) : Prop :=
  cls = .ref (T.cls c) ∧ ((dd = none ∧ fs = []) ∨ ∃ d gs, dd = some d ∧ h.H d = some (.xd gs) ∧ h.free d ∧ RVf K T h gs fs)
theorem XR.mono {K : PySem.W.Frag} {T : Tab} {h h' : Hv} {cls : Value} {dd : Option Addr} {c : Nat} {fs : List (Str × Da)} (g : Ext h h') (x : XR K T h cls dd c fs) : XR K T h' cls dd c fs := by
  obtain ⟨e, r⟩ := x
  refine ⟨e, ?_⟩
  rcases r with r | ⟨d, gs, e1, e2, f, r⟩
  · exact .inl r
  · obtain ⟨e3, f3⟩ := g.keep _ _ e2 f
    exact .inr ⟨d, gs, e1, e3, f3, r.mono g⟩
def isExv : Da → Bool
  | .exv _ _ => true
  | _ => false
/-- what a slot holds -/
def SlotR (K : PySem.W.Frag) (T : Tab) (h : Hv) (o : Option (Option V)) (d : Da) : Prop :=
  (isExv d = false ∧ ∃ v, o = some (some v) ∧ RV K T h v d) ∨ ∃ a cls dd c fs, d = .exv c fs ∧ T.cur = some (a, cls, dd) ∧ o = some (some (.ref a)) ∧ XR K T h cls dd c fs
theorem SlotR.mono {K : PySem.W.Frag} {T : Tab} {h h' : Hv} {o : Option (Option V)} {d : Da} (g : Ext h h') : SlotR K T h o d → SlotR K T h' o d
  | .inl ⟨n, v, e, r⟩ => .inl ⟨n, v, e, r.mono g⟩
  | .inr ⟨a, cls, dd, c, fs, e, e1, e2, x⟩ => .inr ⟨a, cls, dd, c, fs, e, e1, e2, x.mono g⟩
theorem RV.notX {K : PySem.W.Frag} {T : Tab} {h : Hv} {v : V} {d : Da} (r : RV K T h v d) : isExv d = false := by cases r <;> rfl
def EnvR (K : PySem.W.Frag) (T : Tab) (h : Hv) (σ : L2.St) (ε : Env) : Prop :=
  σ.length = ε.length ∧ ∀ (i : Nat) (d : Da), ε[i]? = some (some d) → SlotR K T h σ[i]? d
theorem EnvR.mono {K : PySem.W.Frag} {T : Tab} {h h' : Hv} {σ : L2.St} {ε : Env} (g : Ext h h') (e : EnvR K T h σ ε) : EnvR K T h' σ ε :=
  ⟨e.1, fun i d q => (e.2 i d q).mono g⟩
theorem EnvR.put {K : PySem.W.Frag} {T : Tab} {h : Hv} {σ : L2.St} {ε : Env} (e : EnvR K T h σ ε) {v : V} {d : Da} (i : Nat) (r : SlotR K T h (some (some v)) d) : EnvR K T h (σ.set i (some v)) (ε.set i (some d)) := by
  refine ⟨by simp [e.1], fun j d' q => ?_⟩
  by_cases hj : j = i
  · subst hj
    by_cases hl : j < ε.length
    · rw [List.getElem?_set_self hl] at q; cases q
      rw [List.getElem?_set_self (by rw [e.1]; exact hl)]; exact r
    · rw [List.getElem?_eq_none (by simpa using hl)] at q; cases q
  · rw [List.getElem?_set_ne (Ne.symm hj)] at q
    rw [List.getElem?_set_ne (Ne.symm hj)]
    exact e.2 j d' q
theorem EnvR.set {K : PySem.W.Frag} {T : Tab} {h : Hv} {σ : L2.St} {ε : Env} (e : EnvR K T h σ ε) {v : V} {d : Da} (r : RV K T h v d) (i : Nat) : EnvR K T h (σ.set i (some v)) (ε.set i (some d)) :=
  e.put i (.inl ⟨r.notX, v, rfl, r⟩)
theorem EnvR.unset {K : PySem.W.Frag} {T : Tab} {h : Hv} {σ : L2.St} {ε : Env} (e : EnvR K T h σ ε) (i : Nat) (o : Option V) : EnvR K T h (σ.set i o) (ε.set i none) := by
  refine ⟨by simp [e.1], fun j d' q => ?_⟩
  by_cases hj : j = i
  · subst hj
    by_cases hl : j < ε.length
    · rw [List.getElem?_set_self hl] at q; cases q
    · rw [List.getElem?_eq_none (by simpa using hl)] at q; cases q
  · rw [List.getElem?_set_ne (Ne.symm hj)] at q
    rw [List.getElem?_set_ne (Ne.symm hj)]
    exact e.2 j d' q
/-! ### another exception at hand: values don't see it -/
section
variable {K : PySem.W.Frag} {T T' : Tab} {h : Hv}
mutual
theorem RV.retab (c : T'.cls = T.cls) (f : T'.fnA = T.fnA) : ∀ {v : V} {d : Da}, RV K T h v d → RV K T' h v d
  | _, _, .non => .non
  | _, _, .bl b => .bl b
  | _, _, .int i => .int i
  | _, _, .str x => .str x
  | _, _, .lst e g r => .lst e g (RVs.retab c f r)
  | _, _, .scr s => .scr s
  | _, _, .tup s r => .tup s (RVs.retab c f r)
  | _, _, .ins e g r => .ins (by rw [c]; exact e) g (RVf.retab c f r)
  | _, _, .fn k => by rw [← f]; exact .fn k
  | _, _, .ty k => .ty k
  | _, _, .cls k => by rw [← c]; exact .cls k
  | _, _, .ref e q => .ref e q
theorem RVs.retab (c : T'.cls = T.cls) (f : T'.fnA = T.fnA) : ∀ {vs : List V} {ds : List Da}, RVs K T h vs ds → RVs K T' h vs ds
  | _, _, .nil => .nil
  | _, _, .cons r t => .cons (RV.retab c f r) (RVs.retab c f t)
theorem RVf.retab (c : T'.cls = T.cls) (f : T'.fnA = T.fnA) : ∀ {vs : List (Str × V)} {ds : List (Str × Da)}, RVf K T h vs ds → RVf K T' h vs ds
  | _, _, .nil => .nil
  | _, _, .cons r t => .cons (RV.retab c f r) (RVf.retab c f t)
end
theorem HeapR.retab {S : Sto} (c : T'.cls = T.cls) (f : T'.fnA = T.fnA) (r : HeapR K T h S) : HeapR K T' h S :=
  ⟨r.len, r.nd, fun n a ob e s => by
    have x := r.ob n a ob e s
    cases ob with
    | lst ds => obtain ⟨xs, q, t⟩ := x; exact ⟨xs, q, t.retab c f⟩
    | ins k fs => obtain ⟨dx, gs, q, t⟩ := x; exact ⟨dx, gs, by rw [c]; exact q, t.retab c f⟩
    | gone => exact x, r.gone, r.hid⟩
theorem XR.retab {cls : Value} {dd : Option Addr} {k : Nat} {fs : List (Str × Da)} (c : T'.cls = T.cls) (f : T'.fnA = T.fnA) (x : XR K T h cls dd k fs) : XR K T' h cls dd k fs := by
  obtain ⟨e, r⟩ := x
  refine ⟨by rw [c]; exact e, ?_⟩
  rcases r with r | ⟨d, gs, e1, e2, f', r⟩
  · exact .inl r
  · exact .inr ⟨d, gs, e1, e2, f', r.retab c f⟩
end
/-! ### freezing, and leaving a scope -/
section
variable {K : PySem.W.Frag} {T : Tab} {h h' : Hv} {S S' : Sto}
theorem grow_freeze {n : Nat} : Grow h { h with m := h.m.set n none } where
  B := rfl
  slot := fun k o e => by
    by_cases hk : k = n
    · subst hk; right
      exact List.getElem?_set_self (List.getElem?_eq_some_iff.mp e).1
    · left; exact (List.getElem?_set_ne (Ne.symm hk)).trans e
  keep := fun a o e f => ⟨e, fun z => by
    rcases List.mem_or_eq_of_mem_set (show some a ∈ h.m.set n none from z) with z | z
    · exact f z
    · cases z⟩
theorem HeapR.freeze (r : HeapR K T h S) (n : Nat) : HeapR K T { h with m := h.m.set n none } (S.set n .gone) where
  len := by simp [r.len]
  nd := fun i j a e1 e2 => by
    have key : ∀ k, (h.m.set n none)[k]? = some (some a) → h.m[k]? = some (some a) := fun k e => by
      by_cases hk : k = n
      · subst hk
        by_cases hl : k < h.m.length
        · rw [List.getElem?_set_self hl] at e; cases e
        · rw [List.getElem?_eq_none (by simpa using hl)] at e; cases e
      · rw [List.getElem?_set_ne (Ne.symm hk)] at e; exact e
    exact r.nd i j a (key i e1) (key j e2)
  ob := fun k a ob e s => by
    by_cases hk : k = n
    · subst hk
      have e' : (h.m.set k none)[k]? = some (some a) := e
      by_cases hl : k < h.m.length
      · rw [List.getElem?_set_self hl] at e'; cases e'
      · rw [List.getElem?_eq_none (by simpa using hl)] at e'; cases e'
    · have e' : (h.m.set n none)[k]? = some (some a) := e
      rw [List.getElem?_set_ne (Ne.symm hk)] at e' s
      exact (r.ob k a ob e' s).mono (h' := { h with m := h.m.set n none }) grow_freeze.ext rfl
  gone := fun k e => by
    by_cases hk : k = n
    · subst hk
      have e' : (h.m.set k none)[k]? = some none := e
      by_cases hl : k < h.m.length
      · exact List.getElem?_set_self (by rw [← r.len]; exact hl)
      · rw [List.getElem?_eq_none (by simpa using hl)] at e'; cases e'
    · have e' : (h.m.set n none)[k]? = some none := e
      rw [List.getElem?_set_ne (Ne.symm hk)] at e' ⊢
      exact r.gone k e'
  hid := fun a e => by
    refine ⟨fun z => ?_, (r.hid a e).2⟩
    rcases List.mem_or_eq_of_mem_set (show some a ∈ h.m.set n none from z) with z | z
    · exact (r.hid a e).1 z
    · cases z
end
mutual
/-- no object of the store at n or behind it -/
def belowD (n : Nat) : Da → Bool
  | .lst ds => belowDs n ds
  | .tup ds => belowDs n ds
  | .ins _ fs => belowDf n fs
  | .ref k => decide (k < n)
  | .exv _ _ => false
  | _ => true
def belowDs (n : Nat) : List Da → Bool
  | [] => true
  | d :: ds => belowD n d && belowDs n ds
def belowDf (n : Nat) : List (Str × Da) → Bool
  | [] => true
  | d :: ds => belowD n d.2 && belowDf n ds
end
def belowO (n : Nat) : Ob → Bool
  | .lst ds => belowDs n ds
  | .ins _ fs => belowDf n fs
  | .gone => true
section
variable {K : PySem.W.Frag} {T : Tab} {h h' : Hv} {S S' : Sto}
mutual
theorem RV.belo : ∀ {d : Da} {v : V}, RV K T h v d → belowD h.m.length d = true
  | _, _, .non => rfl
  | _, _, .bl b => rfl
  | _, _, .int i => rfl
  | _, _, .str x => rfl
  | _, _, .lst e g r => RVs.belo r
  | _, _, .scr s => rfl
  | _, _, .tup s r => RVs.belo r
  | _, _, .ins e g r => RVf.belo r
  | _, _, .fn k => rfl
  | _, _, .ty k => rfl
  | _, _, .cls k => rfl
  | _, _, .ref e q => decide_eq_true (List.getElem?_eq_some_iff.mp e).1
theorem RVs.belo : ∀ {ds : List Da} {vs : List V}, RVs K T h vs ds → belowDs h.m.length ds = true
  | _, _, .nil => rfl
  | _, _, .cons r t => by simp only [belowDs, Bool.and_eq_true]; exact ⟨RV.belo r, RVs.belo t⟩
theorem RVf.belo : ∀ {ds : List (Str × Da)} {vs : List (Str × V)}, RVf K T h vs ds → belowDf h.m.length ds = true
  | _, _, .nil => rfl
  | _, _, .cons r t => by simp only [belowDf, Bool.and_eq_true]; exact ⟨RV.belo r, RVf.belo t⟩
end
theorem SL.cut {n : Nat} {a : Addr} {xs : List V} : SL K h a xs → SL K { h with m := h.m.take n } a xs
  | .inl ⟨e, f1, f2⟩ => .inl ⟨e, fun z => f1 (List.mem_of_mem_take z), f2⟩
  | .inr w => .inr w
theorem ST.cut {n : Nat} {a : Addr} {xs : List V} : ST K h a xs → ST K { h with m := h.m.take n } a xs
  | .inl ⟨e, f1, f2⟩ => .inl ⟨e, fun z => f1 (List.mem_of_mem_take z), f2⟩
  | .inr w => .inr w
mutual
theorem RV.cut {n : Nat} : ∀ {d : Da} {v : V}, RV K T h v d → belowD n d = true → RV K T { h with m := h.m.take n } v d
  | _, _, .non, _ => .non
  | _, _, .bl b, _ => .bl b
  | _, _, .int i, _ => .int i
  | _, _, .str x, _ => .str x
  | _, _, .lst e g r, b => .lst e ⟨fun z => g.1 (List.mem_of_mem_take z), g.2⟩ (RVs.cut r (by simpa [belowD] using b))
  | _, _, .scr s, _ => .scr s.cut
  | _, _, .tup s r, b => .tup s.cut (RVs.cut r (by simpa [belowD] using b))
  | _, _, .ins e g r, b => .ins e ⟨fun z => g.1 (List.mem_of_mem_take z), g.2⟩ (RVf.cut r (by simpa [belowD] using b))
  | _, _, .fn k, _ => .fn k
  | _, _, .ty k, _ => .ty k
  | _, _, .cls k, _ => .cls k
  | _, _, .ref (n := k) e q, b => .ref (by
      have hk : k < n := by simpa [belowD] using b
      show (h.m.take n)[k]? = _
      rw [List.getElem?_take_of_lt hk]; exact e) q
theorem RVs.cut {n : Nat} : ∀ {ds : List Da} {vs : List V}, RVs K T h vs ds → belowDs n ds = true → RVs K T { h with m := h.m.take n } vs ds
  | _, _, .nil, _ => .nil
  | _, _, .cons r t, b => by
    simp only [belowDs, Bool.and_eq_true] at b
    exact .cons (RV.cut r b.1) (RVs.cut t b.2)
theorem RVf.cut {n : Nat} : ∀ {ds : List (Str × Da)} {vs : List (Str × V)}, RVf K T h vs ds → belowDf n ds = true → RVf K T { h with m := h.m.take n } vs ds
  | _, _, .nil, _ => .nil
  | _, _, .cons r t, b => by
    simp only [belowDf, Bool.and_eq_true] at b
    exact .cons (RV.cut r b.1) (RVf.cut t b.2)
end
def ScopeOk (S S' : Sto) : Prop := S.length ≤ S'.length ∧ ∀ i, i < S.length → S'[i]? = S[i]? ∨ ∃ ob, S'[i]? = some ob ∧ belowO S.length ob = true
theorem grow_cut (r : HeapR K T h S) (g : Grow h h') : Grow h { h' with m := h'.m.take S.length } where
  B := g.B
  slot := fun n o e => by
    have hn : n < S.length := by rw [← r.len]; exact (List.getElem?_eq_some_iff.mp e).1
    have t : (h'.m.take S.length)[n]? = h'.m[n]? := List.getElem?_take_of_lt hn
    rcases g.slot n o e with z | z
    · exact .inl (t.trans z)
    · exact .inr (t.trans z)
  keep := fun a o e n => let ⟨e1, n1⟩ := g.keep a o e n; ⟨e1, fun z => n1 (List.mem_of_mem_take z)⟩
theorem HeapR.cut (r : HeapR K T h S) (g : Grow h h') (r' : HeapR K T h' S') (sc : ScopeOk S S') : HeapR K T { h' with m := h'.m.take S.length } (S'.take S.length) where
  len := by show (h'.m.take S.length).length = _; rw [List.length_take, List.length_take, r'.len]
  nd := fun i j a e1 e2 => r'.nd i j a (by
      have e : (h'.m.take S.length)[i]? = some (some a) := e1
      rw [List.getElem?_take] at e; split at e <;> first | exact e | cases e) (by
      have e : (h'.m.take S.length)[j]? = some (some a) := e2
      rw [List.getElem?_take] at e; split at e <;> first | exact e | cases e)
  ob := fun n a ob e s => by
    have e' : (h'.m.take S.length)[n]? = some (some a) := e
    rw [List.getElem?_take] at e' s
    split at e'
    · rename_i hn
      rw [if_pos hn] at s
      have x := r'.ob n a ob e' s
      have bl : belowO S.length ob = true := by
        rcases sc.2 n hn with z | ⟨ob', z1, z2⟩
        · have hl : n < h.m.length := by rw [r.len]; exact hn
          rw [z] at s
          cases q : h.m[n]? with
          | none => rw [List.getElem?_eq_none_iff] at q; omega
          | some o =>
            cases o with
            | none => have := r.gone n q; rw [this] at s; cases s; rfl
            | some b =>
              have y := r.ob n b ob q s
              cases ob with
              | lst ds => obtain ⟨xs, _, t⟩ := y; rw [← r.len]; exact t.belo
              | ins c fs => obtain ⟨dx, gs, _, t⟩ := y; rw [← r.len]; exact t.belo
              | gone => exact y.elim
        · rw [s] at z1; cases z1; exact z2
      cases ob with
      | lst ds => obtain ⟨xs, q, t⟩ := x; exact ⟨xs, q, t.cut bl⟩
      | ins c fs => obtain ⟨dx, gs, q, t⟩ := x; exact ⟨dx, gs, q, t.cut bl⟩
      | gone => exact x.elim
    · cases e'
  gone := fun n e => by
    have e' : (h'.m.take S.length)[n]? = some none := e
    rw [List.getElem?_take] at e' ⊢
    split at e'
    · rename_i hn; rw [if_pos hn]; exact r'.gone n e'
    · cases e'
  hid := fun a e => ⟨fun z => (r'.hid a e).1 (List.mem_of_mem_take z), (r'.hid a e).2⟩
end
end G

namespace G
open PySem PySem.Spec PyProof.Rows L2
abbrev St := L2.St

/-! ## readings -/
section
variable {α β γ δ : Type}
def Post (K : PySem.W.Frag) (T : Tab) (W : WX) (R : Hv → β → α → Prop) (σ : St) (h : Hv) (r : Rs α) (Q : β → Hp → Prop) : Prop :=
  match r with
  | .ok a S => ∀ v h', Grow h h' → R h' v a → HeapR K T h' S → Q v h'.H
  | .exc c fs S => ∀ cls dd h', Grow h h' → XR K T h' cls dd c fs → HeapR K T h' S → W cls dd σ h'.H
  | .bad => False
def tG (K : PySem.W.Frag) (T : Tab) (W : WX) (R : Hv → β → α → Prop) (f : Env → Sto → Rs α) : St → Hp → (β → Hp → Prop) → Prop := fun σ H Q =>
  ∃ h S ε, h.H = H ∧ EnvR K T h σ ε ∧ HeapR K T h S ∧ Post K T W R σ h (f ε S) Q
variable {K : PySem.W.Frag} {T : Tab} {W : WX} {R : Hv → β → α → Prop} {R2 : Hv → δ → γ → Prop} {σ : St} {h h' : Hv} {r : Rs α} {Q Q' : β → Hp → Prop}
theorem Post.grow (g : Grow h h') (p : Post K T W R σ h r Q) : Post K T W R σ h' r Q := by
  cases r with
  | ok a S => exact fun v h2 g2 => p v h2 (g.trans g2)
  | exc c fs S => exact fun cls dd h2 g2 => p cls dd h2 (g.trans g2)
  | bad => exact p
theorem Post.imp (p : Post K T W R σ h r Q) (w : ∀ v H, Q v H → Q' v H) : Post K T W R σ h r Q' := by
  cases r with
  | ok a S => exact fun v h2 g2 r2 s2 => w _ _ (p v h2 g2 r2 s2)
  | exc c fs S => exact p
  | bad => exact p
theorem Post.bind {k : α → Sto → Rs γ} {P : δ → Hp → Prop} (p : Post K T W R2 σ h (r.bind k) P) :
    Post K T W R σ h r (fun v H1 => ∃ h1 S1 a, h1.H = H1 ∧ Grow h h1 ∧ R h1 v a ∧ HeapR K T h1 S1 ∧ Post K T W R2 σ h1 (k a S1) P) := by
  cases r with
  | ok a S => exact fun v h2 g2 r2 s2 => ⟨h2, S, a, rfl, g2, r2, s2, Post.grow g2 p⟩
  | exc c fs S => exact p
  | bad => exact p
theorem Post.ret {a : α} {S : Sto} {v : β} (p : Post K T W R σ h (.ok a S) Q) (rr : R h v a) (s : HeapR K T h S) : Q v h.H := p v h (Grow.refl h) rr s
end
abbrev REq {α : Type} : Hv → α → α → Prop := fun _ x y => x = y

abbrev EI (X : Cx) (T : Tab) (W : WX) (e : Expr) (f : E) : Prop := PE X e (tG X.K T W (RV X.K T) f)
abbrev TI' (X : Cx) (T : Tab) (W : WX) (e : Expr) (f : TeE) : Prop := PT X e (tG X.K T W REq f)
abbrev WI (X : Cx) (T : Tab) (W : WX) (e : Expr) (f : TeE) : Prop := PW X e (tG X.K T W REq f)
abbrev AI (X : Cx) (T : Tab) (W : WX) (es : List Expr) (f : Es) : Prop := PA X es (tG X.K T W (RVs X.K T) f)

theorem wkE {X : Cx} {e : Expr} {t t' : TE} (h : PE X e t) (w : ∀ σ H Q, t' σ H Q → t σ H Q) : PE X e t' := ⟨fun pins s σ H Q I q => h.run pins s σ H Q I (w σ H Q q)⟩
theorem wkT {X : Cx} {e : Expr} {t t' : TT} (h : PT X e t) (w : ∀ σ H Q, t' σ H Q → t σ H Q) : PT X e t' := ⟨fun pins s σ H Q I q => h.run pins s σ H Q I (w σ H Q q)⟩
theorem wkW {X : Cx} {e : Expr} {t t' : TT} (h : PW X e t) (w : ∀ σ H Q, t' σ H Q → t σ H Q) : PW X e t' := ⟨fun wh pins s σ H Q I q => h.run wh pins s σ H Q I (w σ H Q q)⟩
theorem wkA {X : Cx} {es : List Expr} {t t' : TA} (h : PA X es t) (w : ∀ σ H Q, t' σ H Q → t σ H Q) : PA X es t' := ⟨fun pos pins s σ H Q I q => h.run pos pins s σ H Q I (w σ H Q q)⟩
theorem wkS {X : Cx} {st : Stmt} {t t' : TS} (h : PS X st t) (w : ∀ D σ H, t' D σ H → t D σ H) : PS X st t' := ⟨fun pins s σ H D I q => h.run pins s σ H D I (w D σ H q)⟩
theorem wkSs {X : Cx} {st : List Stmt} {t t' : TS} (h : PSs X st t) (w : ∀ D σ H, t' D σ H → t D σ H) : PSs X st t' := ⟨fun pins s σ H D I q => h.run pins s σ H D I (w D σ H q)⟩

/-! ## the meanings -/
def eVar (i : Nat) : E := fun ε S => match ε[i]? with | some (some d) => (if isExv d then .bad else .ok d S) | _ => .bad
def eC (d : Da) : E := fun _ S => .ok d S
def Rs.of {α : Type} : Option (α × Sto) → Rs α
  | some (a, S) => .ok a S
  | none => .bad
/-- a value operation that changes no store -/
def pur1 (f : Da → Option Da) : Da → Sto → Option (Da × Sto) := fun x S => (f x).map fun d => (d, S)
def pur2 (f : Da → Da → Option Da) : Da → Da → Sto → Option (Da × Sto) := fun x y S => (f x y).map fun d => (d, S)
def eOp1 (g : Da → Sto → Option (Da × Sto)) (a : E) : E := fun ε S => (a ε S).bind fun x S => Rs.of (g x S)
def eOp2 (g : Da → Da → Sto → Option (Da × Sto)) (a b : E) : E := fun ε S => (a ε S).bind fun x S => (b ε S).bind fun y S => Rs.of (g x y S)
def esNil : Es := fun _ S => .ok [] S
def esCons (a : E) (b : Es) : Es := fun ε S => (a ε S).bind fun x S => (b ε S).bind fun xs S => .ok (x :: xs) S
def eOpN (g : List Da → Sto → Option (Da × Sto)) (a : Es) : E := fun ε S => (a ε S).bind fun xs S => Rs.of (g xs S)
def truth : Da → Option Bool
  | .non => some false
  | .bl b => some b
  | .int i => some (i != 0)
  | .str x => if x.length ≤ sizeLine then some ((x.length : Int) != 0) else none
  | .lst ds => some (!ds.isEmpty)
  | .tup ds => some (!ds.isEmpty)
  | .scr ns => some (!ns.isEmpty)
  | _ => none
def tOf (a : E) : TeE := fun ε S => (a ε S).bind fun x S => match truth x with | some b => .ok b S | none => .bad
def asB : Da → Option Bool
  | .bl b => some b
  | _ => none
def tBl (a : E) : TeE := fun ε S => (a ε S).bind fun x S => match asB x with | some b => .ok b S | none => .bad
def tAnd (a b : TeE) : TeE := fun ε S => (a ε S).bind fun x S => if x then b ε S else .ok false S
def tOr (a b : TeE) : TeE := fun ε S => (a ε S).bind fun x S => if x then .ok true S else b ε S
def tNot (a : TeE) : TeE := fun ε S => (a ε S).bind fun x S => .ok (!x) S
def eAnd (a b : E) : E := fun ε S => (a ε S).bind fun x S => match truth x with | some c => (if c then b ε S else .ok x S) | none => .bad
def eOr (a b : E) : E := fun ε S => (a ε S).bind fun x S => match truth x with | some c => (if c then .ok x S else b ε S) | none => .bad
def eNot (a : E) : E := fun ε S => (a ε S).bind fun x S => match truth x with | some c => .ok (.bl (!c)) S | none => .bad
def eIf (t : TeE) (a b : E) : E := fun ε S => (t ε S).bind fun x S => if x then a ε S else b ε S

section
variable {X : Cx} {T : Tab} {W : WX} {e a b c : Expr} {pos : Pos} {f g : E}
theorem i_var {i : Nat} {x : Str} (hN : X.N[i]? = some x) (hv : Vis X.env.scope x) (hd : (x == ("__debug__" : Str)) = false := by decide) (hcd : (x == ("__classdict__" : Str)) = false := by decide) : EI X T W (.Name x pos) (eVar i) :=
  wkE (pe_var hN hv hd hcd) fun σ H Q ⟨h, S, ε, e, er, hr, p⟩ => by
    cases q : ε[i]? with
    | none => simp only [eVar, q] at p; exact p.elim
    | some o =>
      cases o with
      | none => simp only [eVar, q] at p; exact p.elim
      | some d =>
        simp only [eVar, q] at p
        rcases er.2 i d q with ⟨nx, v, e1, rv⟩ | ⟨a, cls, dd, c, fs, e1, _⟩
        · rw [nx, if_neg Bool.false_ne_true] at p
          exact ⟨v, e1, by subst e; exact p.ret rv hr⟩
        · subst e1
          simp only [isExv, if_true] at p
          exact p.elim
theorem i_c {v : V} {d : Da} (h : PE X e (tC v)) (r : ∀ hv, RV X.K T hv v d) : EI X T W e (eC d) :=
  wkE h fun σ H Q ⟨h, S, ε, e, er, hr, p⟩ => by subst e; exact Post.ret (v := v) p (r h) hr
theorem i_int {i : Int} {j : Nat} : EI X T W (.Constant (.int i) j pos) (eC (.int i)) := i_c pe_int fun _ => .int i
theorem i_bl {i : Bool} {j : Nat} : EI X T W (.Constant (.bool i) j pos) (eC (.bl i)) := i_c pe_bl fun _ => .bl i
theorem i_non {j : Nat} : EI X T W (.Constant .none j pos) (eC .non) := i_c pe_non fun _ => .non
theorem i_str {x : Str} {j : Nat} : EI X T W (.Constant (.str x) j pos) (eC (.str x)) := i_c pe_str fun _ => .str x

/-! ### operators -/
def PostO (K : PySem.W.Frag) (T : Tab) (h : Hv) (o : Option (Da × Sto)) (Q : VK) : Prop :=
  match o with
  | some (d, S) => ∀ v h', Grow h h' → RV K T h' v d → HeapR K T h' S → Q v h'.H
  | none => False
theorem Post.of {K : PySem.W.Frag} {σ : St} {h : Hv} {o : Option (Da × Sto)} {Q : VK} (p : Post K T W (RV K T) σ h (Rs.of o) Q) : PostO K T h o Q := by
  cases o with
  | none => exact p
  | some q => exact p
theorem PostO.ret {K : PySem.W.Frag} {h : Hv} {d : Da} {S : Sto} {v : V} {Q : VK} (p : PostO K T h (some (d, S)) Q) (r : RV K T h v d) (s : HeapR K T h S) : Q v h.H := p v h (Grow.refl h) r s
def rD1 (K : PySem.W.Frag) (T : Tab) (g : Da → Sto → Option (Da × Sto)) : V → Hp → VK → Prop := fun x H Q => ∃ h S dx, h.H = H ∧ HeapR K T h S ∧ RV K T h x dx ∧ PostO K T h (g dx S) Q
def rD2 (K : PySem.W.Frag) (T : Tab) (g : Da → Da → Sto → Option (Da × Sto)) : R2 := fun x y H Q => ∃ h S dx dy, h.H = H ∧ HeapR K T h S ∧ RV K T h x dx ∧ RV K T h y dy ∧ PostO K T h (g dx dy S) Q
def rDN (K : PySem.W.Frag) (T : Tab) (g : List Da → Sto → Option (Da × Sto)) : List V → Hp → VK → Prop := fun xs H Q => ∃ h S ds, h.H = H ∧ HeapR K T h S ∧ RVs K T h xs ds ∧ PostO K T h (g ds S) Q
theorem OpR.imp {f : Value → Value → Sem Value} {r r' : R2} (h : OpR X f r) (w : ∀ x y H Q, r' x y H Q → r x y H Q) : OpR X f r' := fun pins s σ H x y v u Q I rx ry q => h pins s σ H x y v u Q I rx ry (w x y H Q q)
theorem UnR.imp {f : Value → Sem Value} {r r' : V → Hp → VK → Prop} (h : UnR X f r) (w : ∀ x H Q, r' x H Q → r x H Q) : UnR X f r' := fun pins s σ H x v Q I rx q => h pins s σ H x v Q I rx (w x H Q q)
theorem CallR.imp {f : Value} {r r' : List V → Hp → VK → Prop} (h : CallR X f r) (w : ∀ x H Q, r' x H Q → r x H Q) : CallR X f r' := fun pins s σ H x v Q I rx q => h pins s σ H x v Q I rx (w x H Q q)
theorem IxR.imp {r r' : R2} (h : IxR X r) (w : ∀ x y H Q, r' x y H Q → r x y H Q) : IxR X r' := fun A B pins s σ H x y v u Q I rx ry q => h A B pins s σ H x y v u Q I rx ry (w x y H Q q)

theorem lift2 {K : PySem.W.Frag} {r : R2} {ta tb : TE} {g2 : Da → Da → Sto → Option (Da × Sto)} (w : ∀ x y H Q, rD2 K T g2 x y H Q → r x y H Q) {fa fb : E} (ha : ta = tG K T W (RV K T) fa) (hb : tb = tG K T W (RV K T) fb) :
    ∀ σ H Q, tG K T W (RV K T) (eOp2 g2 fa fb) σ H Q → tOp r ta tb σ H Q := by
  subst ha; subst hb
  rintro σ H Q ⟨h, S, ε, e, er, hr, p⟩
  refine ⟨h, S, ε, e, er, hr, (Post.bind p).imp fun x H1 ⟨h1, S1, d1, e1, g1, r1, hr1, p1⟩ => ?_⟩
  refine ⟨h1, S1, ε, e1, er.mono g1, hr1, (Post.bind p1).imp fun y H2 ⟨h2, S2, d2, e2, g2, r2, hr2, p2⟩ => ?_⟩
  exact w _ _ _ _ ⟨h2, S2, d1, d2, e2, hr2, r1.mono g2, r2, p2.of⟩
theorem i_bin {op : Operator} {g2 : Da → Da → Sto → Option (Da × Sto)} (ho : OpR X (binaryOp op) (rD2 X.K T g2)) (ha : EI X T W a f) (hb : EI X T W b g) : EI X T W (.BinOp a op b pos) (eOp2 g2 f g) :=
  wkE (pe_op ho ha hb) (lift2 (fun _ _ _ _ q => q) rfl rfl)
theorem i_cmp {op : CmpOp} {g2 : Da → Da → Sto → Option (Da × Sto)} (ho : OpR X (compareOp op) (rD2 X.K T g2)) (ha : EI X T W a f) (hb : EI X T W b g) (hm : behindInMarks op b = false) : EI X T W (.Compare a [op] [b] pos) (eOp2 g2 f g) :=
  wkE (pe_cmpR ho ha hb hm) (lift2 (fun _ _ _ _ q => q) rfl rfl)
theorem i_ix {g2 : Da → Da → Sto → Option (Da × Sto)} (ho : IxR X (rD2 X.K T g2)) (ha : EI X T W a f) (hb : EI X T W b g) (hm : PlainIx b) : EI X T W (.Subscript a b pos) (eOp2 g2 f g) :=
  wkE (pe_ix ho ha hb hm) (lift2 (fun _ _ _ _ q => q) rfl rfl)
theorem i_un {op : UnaryOp} {g1 : Da → Sto → Option (Da × Sto)} (ho : UnR X (unaryOp op) (rD1 X.K T g1)) (ha : EI X T W a f) : EI X T W (.UnaryOp op a pos) (eOp1 g1 f) :=
  wkE (pe_un ho ha) fun σ H Q ⟨h, S, ε, e, er, hr, p⟩ => ⟨h, S, ε, e, er, hr, (Post.bind p).imp fun x H1 ⟨h1, S1, d1, e1, _, r1, hr1, p1⟩ => ⟨h1, S1, d1, e1, hr1, r1, p1.of⟩⟩

/-! ### tests -/
theorem i_tcmp {op : CmpOp} {g2 : Da → Da → Sto → Option (Da × Sto)} (ho : OpR X (compareOp op) (rD2 X.K T g2)) (ha : EI X T W a f) (hb : EI X T W b g) (hm : behindInMarks op b = false) : TI' X T W (.Compare a [op] [b] pos) (tBl (eOp2 g2 f g)) := by
  refine wkT (pt_cmpR ho ha hb hm) fun σ H Q ⟨h, S, ε, e, er, hr, p⟩ => ?_
  refine lift2 (K := X.K) (T := T) (W := W) (fun _ _ _ _ q => q) rfl rfl σ H _ ⟨h, S, ε, e, er, hr, (Post.bind p).imp fun x H1 ⟨h1, S1, d1, e1, _, r1, hr1, p1⟩ => ?_⟩
  cases r1 with
  | bl k => exact ⟨k, rfl, by subst e1; exact Post.ret p1 rfl hr1⟩
  | _ => exact (show False from p1).elim
theorem i_tblv (ha : EI X T W a f) (he : ∀ whole, isTrue a X.env whole = (do let v ← whole; standAt a.pos; holding [v] (truthy v)) := by intro _; rfl) : TI' X T W a (tBl f) :=
  wkT (pt_val ha he) fun σ H Q ⟨h, S, ε, e, er, hr, p⟩ => ⟨h, S, ε, e, er, hr, (Post.bind p).imp fun x H1 ⟨h1, S1, d1, e1, _, r1, hr1, p1⟩ => by
    cases r1 with
    | bl k => exact ⟨k, rfl, by subst e1; exact Post.ret p1 rfl hr1⟩
    | _ => exact (show False from p1).elim⟩
theorem truV_of {K : PySem.W.Frag} {h : Hv} {v : V} {d : Da} {k : Bool} (r : RV K T h v d) (t : truth d = some k) : TruV K v h.H k := by
  cases r with
  | non => simp only [truth, Option.some.injEq] at t; exact t.symm
  | bl b => simp only [truth, Option.some.injEq] at t; exact t.symm
  | int i => simp only [truth, Option.some.injEq] at t; exact t.symm
  | str x =>
    simp only [truth] at t
    split at t
    · rename_i hl; simp only [Option.some.injEq] at t; exact ⟨hl, t.symm⟩
    · cases t
  | lst e f rs =>
    simp only [truth, Option.some.injEq] at t
    refine .inl ⟨_, SqL.of e, ?_⟩
    rw [← t]; cases rs <;> rfl
  | scr s =>
    simp only [truth, Option.some.injEq] at t
    refine .inl ⟨_, s.sq, ?_⟩
    rw [← t]; simp
  | tup s rs =>
    simp only [truth, Option.some.injEq] at t
    refine .inr (.inl ⟨_, s.sq, ?_⟩)
    rw [← t]; cases rs <;> rfl
  | ins _ _ _ => cases t
  | fn _ => cases t
  | ty _ => cases t
  | cls _ => cases t
  | ref _ _ => cases t
theorem i_truth (ha : EI X T W a f) (he : ∀ whole, isTrue a X.env whole = (do let v ← whole; standAt a.pos; holding [v] (truthy v)) := by intro _; rfl) : TI' X T W a (tOf f) :=
  wkT (pt_truth ha he) fun σ H Q ⟨h, S, ε, e, er, hr, p⟩ => ⟨h, S, ε, e, er, hr, (Post.bind p).imp fun x H1 ⟨h1, S1, d1, e1, _, r1, hr1, p1⟩ => by
    cases q : truth d1 with
    | none => simp only [q] at p1; exact p1.elim
    | some k => simp only [q] at p1; subst e1; exact ⟨k, truV_of r1 q, Post.ret p1 rfl hr1⟩⟩
variable {t u : TeE} {rest : List Expr}
theorem i_and1 (ha : TI' X T W a t) : WI X T W (.BoolOp .And [a] pos) t := pw_and1 ha
theorem i_or1 (ha : TI' X T W a t) : WI X T W (.BoolOp .Or [a] pos) t := pw_or1 ha
theorem i_tand (ha : TI' X T W a t) (hb : WI X T W (.BoolOp .And (b :: rest) pos) u) : WI X T W (.BoolOp .And (a :: b :: rest) pos) (tAnd t u) :=
  wkW (pw_and ha hb) fun σ H Q ⟨h, S, ε, e, er, hr, p⟩ => ⟨h, S, ε, e, er, hr, (Post.bind p).imp fun x H1 ⟨h1, S1, d1, e1, g1, r1, hr1, p1⟩ => by
    have r1' : x = d1 := r1
    subst r1'
    cases x with
    | true => rw [if_pos rfl]; exact ⟨h1, S1, ε, e1, er.mono g1, hr1, p1⟩
    | false => rw [if_neg (by decide)]; subst e1; exact Post.ret p1 rfl hr1⟩
theorem i_tor (ha : TI' X T W a t) (hb : WI X T W (.BoolOp .Or (b :: rest) pos) u) : WI X T W (.BoolOp .Or (a :: b :: rest) pos) (tOr t u) :=
  wkW (pw_or ha hb) fun σ H Q ⟨h, S, ε, e, er, hr, p⟩ => ⟨h, S, ε, e, er, hr, (Post.bind p).imp fun x H1 ⟨h1, S1, d1, e1, g1, r1, hr1, p1⟩ => by
    have r1' : x = d1 := r1
    subst r1'
    cases x with
    | true => rw [if_pos rfl]; subst e1; exact Post.ret p1 rfl hr1
    | false => rw [if_neg (by decide)]; exact ⟨h1, S1, ε, e1, er.mono g1, hr1, p1⟩⟩
theorem i_tnot (ha : TI' X T W a t) : TI' X T W (.UnaryOp .Not a pos) (tNot t) :=
  wkT (pt_not ha) fun σ H Q ⟨h, S, ε, e, er, hr, p⟩ => ⟨h, S, ε, e, er, hr, (Post.bind p).imp fun x H1 ⟨h1, S1, d1, e1, g1, r1, hr1, p1⟩ => by
    have r1' : x = d1 := r1
    subst r1'; subst e1
    exact Post.ret p1 rfl hr1⟩
theorem i_w (h : WI X T W a t) : TI' X T W a t := PW.pt h
theorem i_one {op : BoolOp} (ha : EI X T W a f) : EI X T W (.BoolOp op [a] pos) f := pe_one ha
theorem i_and (ha : EI X T W a f) (hb : EI X T W (.BoolOp .And (b :: rest) pos) g) : EI X T W (.BoolOp .And (a :: b :: rest) pos) (eAnd f g) :=
  wkE (pe_andT ha hb) fun σ H Q ⟨h, S, ε, e, er, hr, p⟩ => ⟨h, S, ε, e, er, hr, (Post.bind p).imp fun x H1 ⟨h1, S1, d1, e1, g1, r1, hr1, p1⟩ => by
    cases q : truth d1 with
    | none => simp only [q] at p1; exact p1.elim
    | some k =>
      simp only [q] at p1
      refine ⟨k, by subst e1; exact truV_of r1 q, ?_⟩
      cases k with
      | true => rw [if_pos rfl]; exact ⟨h1, S1, ε, e1, er.mono g1, hr1, p1⟩
      | false => rw [if_neg (by decide)]; subst e1; exact Post.ret p1 r1 hr1⟩
theorem i_or (ha : EI X T W a f) (hb : EI X T W (.BoolOp .Or (b :: rest) pos) g) : EI X T W (.BoolOp .Or (a :: b :: rest) pos) (eOr f g) :=
  wkE (pe_orT ha hb) fun σ H Q ⟨h, S, ε, e, er, hr, p⟩ => ⟨h, S, ε, e, er, hr, (Post.bind p).imp fun x H1 ⟨h1, S1, d1, e1, g1, r1, hr1, p1⟩ => by
    cases q : truth d1 with
    | none => simp only [q] at p1; exact p1.elim
    | some k =>
      simp only [q] at p1
      refine ⟨k, by subst e1; exact truV_of r1 q, ?_⟩
      cases k with
      | true => rw [if_pos rfl]; subst e1; exact Post.ret p1 r1 hr1
      | false => rw [if_neg (by decide)]; exact ⟨h1, S1, ε, e1, er.mono g1, hr1, p1⟩⟩
theorem i_not (ha : EI X T W a f) : EI X T W (.UnaryOp .Not a pos) (eNot f) :=
  wkE (pe_notT ha) fun σ H Q ⟨h, S, ε, e, er, hr, p⟩ => ⟨h, S, ε, e, er, hr, (Post.bind p).imp fun x H1 ⟨h1, S1, d1, e1, g1, r1, hr1, p1⟩ => by
    cases q : truth d1 with
    | none => simp only [q] at p1; exact p1.elim
    | some k => simp only [q] at p1; subst e1; exact ⟨k, truV_of r1 q, Post.ret p1 (.bl _) hr1⟩⟩
theorem i_if (hc : TI' X T W c t) (ha : EI X T W a f) (hb : EI X T W b g) : EI X T W (.IfExp c a b pos) (eIf t f g) :=
  wkE (pe_ifExp hc ha hb) fun σ H Q ⟨h, S, ε, e, er, hr, p⟩ => ⟨h, S, ε, e, er, hr, (Post.bind p).imp fun x H1 ⟨h1, S1, d1, e1, g1, r1, hr1, p1⟩ => by
    have r1' : x = d1 := r1
    subst r1'
    cases x with
    | true => rw [if_pos rfl]; exact ⟨h1, S1, ε, e1, er.mono g1, hr1, p1⟩
    | false => rw [if_neg (by decide)]; exact ⟨h1, S1, ε, e1, er.mono g1, hr1, p1⟩⟩
variable {es : List Expr} {fs : Es}
theorem a_nil : AI X T W [] esNil := wkA pa_nil fun σ H Q ⟨h, S, ε, e, er, hr, p⟩ => by subst e; exact Post.ret p .nil hr
theorem a_cons (ha : EI X T W a f) (hb : AI X T W es fs) (hs : starEach (a :: es) X.env = (false, eval a X.env) :: starEach es X.env := by rfl) : AI X T W (a :: es) (esCons f fs) :=
  wkA (pa_cons ha hb hs) fun σ H Q ⟨h, S, ε, e, er, hr, p⟩ => ⟨h, S, ε, e, er, hr, (Post.bind p).imp fun x H1 ⟨h1, S1, d1, e1, g1, r1, hr1, p1⟩ =>
    ⟨h1, S1, ε, e1, er.mono g1, hr1, (Post.bind p1).imp fun y H2 ⟨h2, S2, d2, e2, g2, r2, hr2, p2⟩ => by subst e2; exact Post.ret p2 (.cons (r1.mono g2) r2) hr2⟩⟩
end
end G

namespace G
open PySem PySem.Spec PyProof.Rows L2

/-! ## == of data -/
mutual
def toPy : Da → Option PyData
  | .non => some .none
  | .bl b => some (.bool b)
  | .int i => some (.int i)
  | .str x => some (.str x)
  | .lst ds => (toPys ds).map .list
  | .tup ds => (toPys ds).map .tuple
  | _ => none
def toPys : List Da → Option (List PyData)
  | [] => some []
  | d :: ds => match toPy d, toPys ds with
    | some p, some ps => some (p :: ps)
    | _, _ => none
end
mutual
/-- Python's == of data -/
def eqv : Da → Da → Bool
  | .non, .non => true
  | .bl a, .bl b => a == b
  | .bl a, .int j => (if a then 1 else 0) == j
  | .int i, .bl b => i == (if b then 1 else 0)
  | .int i, .int j => i == j
  | .str x, .str y => x == y
  | .lst xs, .lst ys => eqvs xs ys
  | .tup xs, .tup ys => eqvs xs ys
  | _, _ => false
def eqvs : List Da → List Da → Bool
  | [], [] => true
  | x :: xs, y :: ys => eqv x y && eqvs xs ys
  | _, _ => false
end
mutual
/-- data without objects, texts in order, at most n deep -/
def shp : Nat → Da → Bool
  | _, .non => true
  | _, .bl _ => true
  | _, .int _ => true
  | _, .str x => x.cps.all (· < 0x110000)
  | n, .lst ds => decide (0 < n) && shps (n - 1) ds
  | n, .tup ds => decide (0 < n) && shps (n - 1) ds
  | _, _ => false
def shps : Nat → List Da → Bool
  | _, [] => true
  | n, d :: ds => shp n d && shps n ds
end
mutual
theorem toPy_shp : ∀ (n : Nat) (d : Da), shp n d = true → ∃ p, toPy d = some p ∧ p.canLay0 = true ∧ p.depth ≤ n
  | n, .non, _ => ⟨_, rfl, rfl, Nat.zero_le _⟩
  | n, .bl b, _ => ⟨_, rfl, rfl, Nat.zero_le _⟩
  | n, .int i, _ => ⟨_, rfl, rfl, Nat.zero_le _⟩
  | n, .str x, h => ⟨_, rfl, by simpa [PyData.canLay0, PyData.strOk, shp] using h, Nat.zero_le _⟩
  | n, .lst ds, h => by
    simp only [shp, Bool.and_eq_true, decide_eq_true_eq] at h
    obtain ⟨ps, e, c, l⟩ := toPys_shp (n - 1) ds h.2
    exact ⟨.list ps, by simp [toPy, e], by simpa [PyData.canLay0] using c, by simp only [PyData.depth]; omega⟩
  | n, .tup ds, h => by
    simp only [shp, Bool.and_eq_true, decide_eq_true_eq] at h
    obtain ⟨ps, e, c, l⟩ := toPys_shp (n - 1) ds h.2
    exact ⟨.tuple ps, by simp [toPy, e], by simpa [PyData.canLay0] using c, by simp only [PyData.depth]; omega⟩
  | n, .scr _, h => by simp [shp] at h
  | n, .ins _ _, h => by simp [shp] at h
  | n, .fn _, h => by simp [shp] at h
  | n, .ty _, h => by simp [shp] at h
  | n, .cls _, h => by simp [shp] at h
  | n, .exv _ _, h => by simp [shp] at h
  | n, .ref _, h => by simp [shp] at h
theorem toPys_shp : ∀ (n : Nat) (ds : List Da), shps n ds = true → ∃ ps, toPys ds = some ps ∧ PyData.canLayAll0 ps = true ∧ PyData.depthAll ps ≤ n
  | n, [], _ => ⟨[], rfl, rfl, Nat.zero_le _⟩
  | n, d :: ds, h => by
    simp only [shps, Bool.and_eq_true] at h
    obtain ⟨p, e, c, l⟩ := toPy_shp n d h.1
    obtain ⟨ps, e', c', l'⟩ := toPys_shp n ds h.2
    exact ⟨p :: ps, by simp [toPys, e, e'], by simp [PyData.canLayAll0, c, c'], by simp only [PyData.depthAll]; omega⟩
end
mutual
theorem eqv_toPy : ∀ (x y : Da) (p q : PyData), toPy x = some p → toPy y = some q → PyData.eqv p q = eqv x y
  | .lst xs, y, p, q, hp, hq => by
    simp only [toPy, Option.map_eq_some_iff] at hp
    obtain ⟨ps, e, rfl⟩ := hp
    cases y with
    | lst ys =>
      simp only [toPy, Option.map_eq_some_iff] at hq
      obtain ⟨qs, e', rfl⟩ := hq
      simp only [PyData.eqv, eqv]
      exact eqvs_toPy xs ys ps qs e e'
    | tup ys => simp only [toPy, Option.map_eq_some_iff] at hq; obtain ⟨qs, e', rfl⟩ := hq; simp [PyData.eqv, eqv]
    | _ => simp only [toPy] at hq <;> first | (cases hq; done) | (simp only [Option.some.injEq] at hq; subst hq; simp [PyData.eqv, eqv])
  | .tup xs, y, p, q, hp, hq => by
    simp only [toPy, Option.map_eq_some_iff] at hp
    obtain ⟨ps, e, rfl⟩ := hp
    cases y with
    | tup ys =>
      simp only [toPy, Option.map_eq_some_iff] at hq
      obtain ⟨qs, e', rfl⟩ := hq
      simp only [PyData.eqv, eqv]
      exact eqvs_toPy xs ys ps qs e e'
    | lst ys => simp only [toPy, Option.map_eq_some_iff] at hq; obtain ⟨qs, e', rfl⟩ := hq; simp [PyData.eqv, eqv]
    | _ => simp only [toPy] at hq <;> first | (cases hq; done) | (simp only [Option.some.injEq] at hq; subst hq; simp [PyData.eqv, eqv])
  | .non, y, p, q, hp, hq => by
    simp only [toPy, Option.some.injEq] at hp; subst hp
    cases y <;> simp only [toPy, Option.some.injEq, Option.map_eq_some_iff] at hq <;> first | (cases hq; done) | (subst hq; simp [PyData.eqv, eqv]; done) | (obtain ⟨qs, _, rfl⟩ := hq; simp [PyData.eqv, eqv])
  | .bl b, y, p, q, hp, hq => by
    simp only [toPy, Option.some.injEq] at hp; subst hp
    cases y <;> simp only [toPy, Option.some.injEq, Option.map_eq_some_iff] at hq <;> first | (cases hq; done) | (subst hq; simp [PyData.eqv, eqv]; done) | (obtain ⟨qs, _, rfl⟩ := hq; simp [PyData.eqv, eqv])
  | .int b, y, p, q, hp, hq => by
    simp only [toPy, Option.some.injEq] at hp; subst hp
    cases y <;> simp only [toPy, Option.some.injEq, Option.map_eq_some_iff] at hq <;> first | (cases hq; done) | (subst hq; simp [PyData.eqv, eqv]; done) | (obtain ⟨qs, _, rfl⟩ := hq; simp [PyData.eqv, eqv])
  | .str b, y, p, q, hp, hq => by
    simp only [toPy, Option.some.injEq] at hp; subst hp
    cases y <;> simp only [toPy, Option.some.injEq, Option.map_eq_some_iff] at hq <;> first | (cases hq; done) | (subst hq; simp [PyData.eqv, eqv]; done) | (obtain ⟨qs, _, rfl⟩ := hq; simp [PyData.eqv, eqv])
  | .scr _, _, _, _, hp, _ => by simp [toPy] at hp
  | .ins _ _, _, _, _, hp, _ => by simp [toPy] at hp
  | .fn _, _, _, _, hp, _ => by simp [toPy] at hp
  | .ty _, _, _, _, hp, _ => by simp [toPy] at hp
  | .cls _, _, _, _, hp, _ => by simp [toPy] at hp
  | .exv _ _, _, _, _, hp, _ => by simp [toPy] at hp
  | .ref _, _, _, _, hp, _ => by simp [toPy] at hp
theorem eqvs_toPy : ∀ (xs ys : List Da) (ps qs : List PyData), toPys xs = some ps → toPys ys = some qs → PyData.eqvAll ps qs = eqvs xs ys
  | [], ys, ps, qs, hp, hq => by
    simp only [toPys, Option.some.injEq] at hp; subst hp
    cases ys with
    | nil => simp only [toPys, Option.some.injEq] at hq; subst hq; simp [PyData.eqvAll, eqvs]
    | cons y ys =>
      simp only [toPys] at hq
      split at hq
      · simp only [Option.some.injEq] at hq; subst hq; simp [PyData.eqvAll, eqvs]
      · cases hq
  | x :: xs, ys, ps, qs, hp, hq => by
    simp only [toPys] at hp
    split at hp
    · rename_i p' ps' e1 e2
      simp only [Option.some.injEq] at hp; subst hp
      cases ys with
      | nil => simp only [toPys, Option.some.injEq] at hq; subst hq; simp [PyData.eqvAll, eqvs]
      | cons y ys =>
        simp only [toPys] at hq
        split at hq
        · rename_i q' qs' f1 f2
          simp only [Option.some.injEq] at hq; subst hq
          simp only [PyData.eqvAll, eqvs]
          rw [eqv_toPy x y p' q' e1 f1, eqvs_toPy xs ys ps' qs' e2 f2]
        · cases hq
    · cases hp
end
section
variable {K : PySem.W.Frag} {T : Tab} {h : Hv}
mutual
theorem RV.dp : ∀ {d : Da} {v : V} {p : PyData}, RV K T h v d → toPy d = some p → Dp K h.H v p
  | .non, _, _, r, e => by cases r; simp only [toPy, Option.some.injEq] at e; subst e; exact .non
  | .bl b, _, _, r, e => by cases r; simp only [toPy, Option.some.injEq] at e; subst e; exact .bl b
  | .int b, _, _, r, e => by cases r; simp only [toPy, Option.some.injEq] at e; subst e; exact .int b
  | .str b, _, _, r, e => by cases r; simp only [toPy, Option.some.injEq] at e; subst e; exact .str b
  | .lst ds, _, _, r, e => by
    simp only [toPy, Option.map_eq_some_iff] at e
    obtain ⟨ps, e, rfl⟩ := e
    cases r with
    | lst a b c => exact .lst (SqL.of a) (RVs.dp c e)
  | .tup ds, _, _, r, e => by
    simp only [toPy, Option.map_eq_some_iff] at e
    obtain ⟨ps, e, rfl⟩ := e
    cases r with
    | tup a c => exact .tup a.sq (RVs.dp c e)
  | .scr _, _, _, _, e => by simp [toPy] at e
  | .ins _ _, _, _, _, e => by simp [toPy] at e
  | .fn _, _, _, _, e => by simp [toPy] at e
  | .ty _, _, _, _, e => by simp [toPy] at e
  | .cls _, _, _, _, e => by simp [toPy] at e
  | .exv _ _, _, _, _, e => by simp [toPy] at e
  | .ref _, _, _, _, e => by simp [toPy] at e
theorem RVs.dp : ∀ {ds : List Da} {vs : List V} {ps : List PyData}, RVs K T h vs ds → toPys ds = some ps → DpAll K h.H vs ps
  | [], _, _, r, e => by cases r; simp only [toPys, Option.some.injEq] at e; subst e; exact .nil
  | d :: ds, _, _, r, e => by
    simp only [toPys] at e
    split at e
    · rename_i p ps e1 e2
      simp only [Option.some.injEq] at e; subst e
      cases r with
      | cons a b => exact .cons (RV.dp a e1) (RVs.dp b e2)
    · cases e
end
end
/-- a list in the store is read as it stands -/
def drf (S : Sto) : Da → Da
  | .ref n => match S[n]? with
    | some (.lst ds) => .lst ds
    | _ => .ref n
  | d => d
/-- a list that is in the store, by its view: read as a value (only within one step) -/
inductive RVd (K : PySem.W.Frag) (T : Tab) (h : Hv) : V → Da → Prop
  | of {v : V} {d : Da} : RV K T h v d → RVd K T h v d
  | lst {a : Addr} {xs : List V} {ds : List Da} : h.H a = some (.lst xs) → RVs K T h xs ds → RVd K T h (.ref a) (.lst ds)
theorem RV.drf {K : PySem.W.Frag} {T : Tab} {h : Hv} {S : Sto} {v : V} {d : Da} (r : RV K T h v d) (s : HeapR K T h S) : RVd K T h v (drf S d) := by
  cases r with
  | ref e q =>
    rename_i n o
    unfold G.drf
    dsimp only
    cases o with
    | none => rw [s.gone n e]; exact .of (.ref e q)
    | some a =>
      have hv := q a rfl
      subst hv
      cases e2 : S[n]? with
      | none => exact .of (.ref e q)
      | some ob =>
        have x := s.ob n a ob e e2
        cases ob with
        | lst ds => obtain ⟨xs, q1, q2⟩ := x; exact .lst q1 q2
        | ins c fs => exact .of (.ref e q)
        | gone => exact .of (.ref e q)
  | non => exact .of .non
  | bl b => exact .of (.bl b)
  | int b => exact .of (.int b)
  | str b => exact .of (.str b)
  | lst a b c => exact .of (.lst a b c)
  | tup a b => exact .of (.tup a b)
  | scr a => exact .of (.scr a)
  | ins a b c => exact .of (.ins a b c)
  | fn k => exact .of (.fn k)
  | ty k => exact .of (.ty k)
  | cls k => exact .of (.cls k)
theorem RVd.dp {K : PySem.W.Frag} {T : Tab} {h : Hv} {d : Da} {v : V} {p : PyData} (r : RVd K T h v d) (e : toPy d = some p) : Dp K h.H v p := by
  cases r with
  | of r => exact r.dp e
  | lst a c =>
    simp only [toPy, Option.map_eq_some_iff] at e
    obtain ⟨ps, e, rfl⟩ := e
    exact .lst (SqL.of a) (c.dp e)
def scalD : Da → Da → Bool
  | .non, .non => true | .non, .int _ => true | .int _, .non => true | .non, .bl _ => true | .bl _, .non => true | .non, .str _ => true | .str _, .non => true
  | .int _, .int _ => true | .bl _, .bl _ => true | .str _, .str _ => true
  | .int _, .str _ => true | .str _, .int _ => true | .bl _, .str _ => true | .str _, .bl _ => true
  | _, _ => false
def dEq (x y : Da) (S : Sto) : Option (Da × Sto) :=
  if scalD x y || (shp 64 (drf S x) && shp 64 (drf S y)) then some (.bl (eqv (drf S x) (drf S y)), S) else none
def dNe (x y : Da) (S : Sto) : Option (Da × Sto) :=
  if scalD x y || (shp 64 (drf S x) && shp 64 (drf S y)) then some (.bl (!eqv (drf S x) (drf S y)), S) else none
theorem scal_eqv {K : PySem.W.Frag} {T : Tab} {h : Hv} {x y : V} {dx dy : Da} (rx : RV K T h x dx) (ry : RV K T h y dy) (S : Sto) (hs : scalD dx dy = true) : scal x y = true ∧ decide (x = y) = eqv (drf S dx) (drf S dy) := by
  cases rx <;> cases ry <;> first | (simp [scalD] at hs; done) | skip
  all_goals (refine ⟨rfl, ?_⟩; simp only [drf, eqv]; try (first | rfl | exact dec_int | exact dec_bl | exact dec_str | simp))
theorem shaped_of {d : Da} {p : PyData} (h : shp 64 d = true) (e : toPy d = some p) : SeqAt.shaped p = true := by
  obtain ⟨p', e', c, l⟩ := toPy_shp 64 d h
  rw [e] at e'; cases e'
  simp [SeqAt.shaped, c, l]
section
variable {X : Cx} {T : Tab}
theorem o_eq (hu : X.A.units + 64 < cLine) : OpR X (compareOp .Eq) (rD2 X.K T dEq) := by
  refine OpR.imp (OpR.or op_eq (op_eqD hu)) fun x y H Q ⟨h, S, dx, dy, e, hr, r1, r2, p⟩ => ?_
  subst e
  unfold dEq at p
  split at p
  · rename_i hc
    by_cases hs : scalD dx dy = true
    · obtain ⟨e1, e2⟩ := scal_eqv r1 r2 S hs
      exact .inl ⟨e1, by rw [e2]; exact p.ret (.bl _) hr⟩
    · simp only [Bool.or_eq_true, Bool.and_eq_true] at hc
      obtain ⟨s1, s2⟩ := hc.resolve_left hs
      obtain ⟨p1, e1, _⟩ := toPy_shp _ _ s1
      obtain ⟨p2, e2, _⟩ := toPy_shp _ _ s2
      refine .inr ⟨p1, p2, (r1.drf hr).dp e1, (r2.drf hr).dp e2, shaped_of s1 e1, shaped_of s2 e2, ?_⟩
      rw [eqv_toPy _ _ _ _ e1 e2]
      exact p.ret (.bl _) hr
  · exact p.elim
theorem o_ne (hu : X.A.units + 64 < cLine) : OpR X (compareOp .NotEq) (rD2 X.K T dNe) := by
  refine OpR.imp (OpR.or op_ne (op_neD hu)) fun x y H Q ⟨h, S, dx, dy, e, hr, r1, r2, p⟩ => ?_
  subst e
  unfold dNe at p
  split at p
  · rename_i hc
    by_cases hs : scalD dx dy = true
    · obtain ⟨e1, e2⟩ := scal_eqv r1 r2 S hs
      exact .inl ⟨e1, by rw [e2]; exact p.ret (.bl _) hr⟩
    · simp only [Bool.or_eq_true, Bool.and_eq_true] at hc
      obtain ⟨s1, s2⟩ := hc.resolve_left hs
      obtain ⟨p1, e1, _⟩ := toPy_shp _ _ s1
      obtain ⟨p2, e2, _⟩ := toPy_shp _ _ s2
      refine .inr ⟨p1, p2, (r1.drf hr).dp e1, (r2.drf hr).dp e2, shaped_of s1 e1, shaped_of s2 e2, ?_⟩
      rw [eqv_toPy _ _ _ _ e1 e2]
      exact p.ret (.bl _) hr
  · exact p.elim
end
end G

namespace G
open PySem PySem.Spec PyProof.Rows L2

section
variable {K : PySem.W.Frag} {T : Tab} {h : Hv} {S : Sto} {Q : VK} {xs : List V} {ds : List Da}
theorem RV.newTup (hr : HeapR K T h S) (r : RVs K T h xs ds) {q : Addr} (hq : h.H q = none) : RV K T { h with H := upd h.H q (.tup xs) } (.ref q) (.tup ds) :=
  .tup (.inl ⟨.inl upd_same, hr.fresh hq⟩) (r.mono (grow_new hq _).ext)
theorem RV.newLst (hr : HeapR K T h S) (r : RVs K T h xs ds) {q : Addr} (hq : h.H q = none) : RV K T { h with H := upd h.H q (.lst xs) } (.ref q) (.lst ds) :=
  .lst upd_same (hr.fresh hq) (r.mono (grow_new hq _).ext)
theorem PostO.newTup (p : PostO K T h (some (.tup ds, S)) Q) (hr : HeapR K T h S) (r : RVs K T h xs ds) : ∀ q, h.H q = none → Q (.ref q) (upd h.H q (.tup xs)) := fun q hq =>
  p (.ref q) { h with H := upd h.H q (.tup xs) } (grow_new hq _) (.newTup hr r hq) (hr.new hq _)
theorem PostO.newLst (p : PostO K T h (some (.lst ds, S)) Q) (hr : HeapR K T h S) (r : RVs K T h xs ds) : ∀ q, h.H q = none → Q (.ref q) (upd h.H q (.lst xs)) := fun q hq =>
  p (.ref q) { h with H := upd h.H q (.lst xs) } (grow_new hq _) (.newLst hr r hq) (hr.new hq _)
end

/-! ## ints -/
def dAdd (x y : Da) (S : Sto) : Option (Da × Sto) := match drf S x, drf S y with
  | .int i, .int j => some (.int (i + j), S)
  | .int i, .bl k => some (.int (i + b2i k), S)
  | .str i, .str j => if i.length + j.length ≤ sizeLine then some (.str (i ++ j), S) else none
  | .lst i, .lst j => if i.length + j.length ≤ sizeLine then some (.lst (i ++ j), S) else none
  | .tup i, .tup j => if i.length + j.length ≤ sizeLine then some (.tup (i ++ j), S) else none
  | _, _ => none
def dSub (x y : Da) (S : Sto) : Option (Da × Sto) := match x, y with
  | .int i, .int j => some (.int (i - j), S)
  | _, _ => none
/-- a question that the kernel does not work out by itself -/
noncomputable def cdec (p : Prop) : Bool := @decide p (Classical.propDecidable p)
theorem cdec_of {p : Prop} (h : p) : cdec p = true := by unfold cdec; exact @decide_eq_true p (Classical.propDecidable p) h
theorem cdec_to {p : Prop} (h : cdec p = true) : p := by unfold cdec at h; exact @of_decide_eq_true p (Classical.propDecidable p) h
/-- small enough for an index -/
noncomputable def inW (k : Nat) (i : Int) : Bool := cdec (-(2 ^ k) ≤ i ∧ i < 2 ^ k)
theorem inW_to {k : Nat} {i : Int} (h : inW k i = true) : -(2 ^ k) ≤ i ∧ i < 2 ^ k := cdec_to h
theorem inW_62 {i : Int} (h1 : -1000000000000 ≤ i) (h2 : i ≤ 1000000000000) : inW 62 i = true := by
  have e : (2 : Int) ^ 62 = 4611686018427387904 := by decide
  unfold inW; rw [e]; exact cdec_of ⟨by omega, by omega⟩
theorem inW_63 {i : Int} (h1 : -1000000000000 ≤ i) (h2 : i ≤ 1000000000000) : inW 63 i = true := by
  have e : (2 : Int) ^ 63 = 9223372036854775808 := by decide
  unfold inW; rw [e]; exact cdec_of ⟨by omega, by omega⟩
noncomputable def mulOk (i j : Int) : Bool := cdec ((-(2 ^ 64) < i ∧ i < 2 ^ 64) ∨ (-(2 ^ 64) < j ∧ j < 2 ^ 64))
theorem mulOk_l {i j : Int} (h1 : -1000000000000 ≤ i) (h2 : i ≤ 1000000000000) : mulOk i j = true := by
  have e : (2 : Int) ^ 64 = 18446744073709551616 := by decide
  unfold mulOk; rw [e]; exact cdec_of (.inl ⟨by omega, by omega⟩)
theorem mulOk_r {i j : Int} (h1 : -1000000000000 ≤ j) (h2 : j ≤ 1000000000000) : mulOk i j = true := by
  have e : (2 : Int) ^ 64 = 18446744073709551616 := by decide
  unfold mulOk; rw [e]; exact cdec_of (.inr ⟨by omega, by omega⟩)
noncomputable def dMul (x y : Da) (S : Sto) : Option (Da × Sto) := match drf S x, y with
  | .int i, .int j => if mulOk i j then some (.int (i * j), S) else none
  | .lst i, .int j => if i.length * j.toNat ≤ sizeLine ∧ inW 63 j = true then some (.lst (List.replicate j.toNat i).flatten, S) else none
  | _, _ => none
/-- a divisor that is small enough -/
noncomputable def wdv (j : Int) : Bool := cdec (0 < j ∧ j.natAbs.log2 < 9000)
noncomputable def dDiv (x y : Da) (S : Sto) : Option (Da × Sto) := match x, y with
  | .int i, .int j => if 0 < j ∧ j < 1073741824 then some (.int (i / j), S) else if wdv j = true then some (.int (i / j), S) else none
  | _, _ => none
theorem ite_div {α : Type} {j : Int} {a : α} (h : wdv j = true) : (if 0 < j ∧ j < 1073741824 then some a else if wdv j = true then some a else none) = some a := by
  rw [if_pos h]
  split <;> rfl
def dMod (x y : Da) (S : Sto) : Option (Da × Sto) := match x, y with
  | .int i, .int j => if 0 < j then some (.int (i % j), S) else none
  | _, _ => none
noncomputable def powOk (i j : Int) : Bool := cdec (0 ≤ j ∧ j ≤ 1000000 ∧ i.natAbs < 2 ^ 64)
noncomputable def dPow (x y : Da) (S : Sto) : Option (Da × Sto) := match x, y with
  | .int i, .int j => if powOk i j = true then some (.int (i ^ j.toNat), S) else none
  | _, _ => none
def dNeg (x : Da) (S : Sto) : Option (Da × Sto) := match x with
  | .int i => some (.int (-i), S)
  | _ => none
def strLt (x y : Str) : Bool := decide (x.cps.toList < y.cps.toList)
def dLt (x y : Da) (S : Sto) : Option (Da × Sto) := match x, y with
  | .int i, .int j => some (.bl (decide (i < j)), S)
  | .str i, .str j => some (.bl (strLt i j), S)
  | _, _ => none
def dLe (x y : Da) (S : Sto) : Option (Da × Sto) := match x, y with
  | .int i, .int j => some (.bl (decide (i ≤ j)), S)
  | .str i, .str j => some (.bl (!strLt j i), S)
  | _, _ => none
def dGt (x y : Da) (S : Sto) : Option (Da × Sto) := match x, y with
  | .int i, .int j => some (.bl (decide (j < i)), S)
  | .str i, .str j => some (.bl (strLt j i), S)
  | _, _ => none
def dGe (x y : Da) (S : Sto) : Option (Da × Sto) := match x, y with
  | .int i, .int j => some (.bl (decide (j ≤ i)), S)
  | .str i, .str j => some (.bl (!strLt i j), S)
  | _, _ => none
def isNon : Da → Bool
  | .non => true
  | _ => false
/-- x is None: the right side is None -/
def dIs (x y : Da) (S : Sto) : Option (Da × Sto) := match y, x with
  | .non, .ref _ => none
  | .non, x => some (.bl (isNon x), S)
  | _, _ => none
def dIsNot (x y : Da) (S : Sto) : Option (Da × Sto) := match y, x with
  | .non, .ref _ => none
  | .non, x => some (.bl (!isNon x), S)
  | _, _ => none
/-- what an item of a sequence is, by its number -/
def inSeq (S : Sto) (x y : Da) : Option Bool := match drf S y with
  | .lst ds => if shp 64 x && shp 64 (.lst ds) then some (ds.any fun z => eqv z x) else none
  | .tup ds => if shp 64 x && shp 64 (.tup ds) then some (ds.any fun z => eqv z x) else none
  | .str t => match x with
    | .str s => some (!(Builtin.Str.occurrences t s 0 t.length 1).isEmpty)
    | _ => none
  | _ => none
def dIn (x y : Da) (S : Sto) : Option (Da × Sto) := (inSeq S x y).map fun b => (.bl b, S)
def dNotIn (x y : Da) (S : Sto) : Option (Da × Sto) := (inSeq S x y).map fun b => (.bl (!b), S)
def dIx (x y : Da) (S : Sto) : Option (Da × Sto) := match drf S x, y with
  | .lst ds, .int i => (atI ds i).map fun d => (d, S)
  | .tup ds, .int i => (atI ds i).map fun d => (d, S)
  | .scr ns, .int i => (atI ns i).map fun d => (.int d, S)
  | .str z, .int i => if z.length ≤ sizeLine then (atI z.cps.toList i).map fun c => (.str ⟨#[c]⟩, S) else none
  | _, _ => none

theorem eqvs_any {K : PySem.W.Frag} (x : Da) (p : PyData) (hp : toPy x = some p) : ∀ (ds : List Da) (ps : List PyData), toPys ds = some ps → (ps.any fun z => PyData.eqv z p) = ds.any fun z => eqv z x
  | [], ps, e => by simp only [toPys, Option.some.injEq] at e; subst e; rfl
  | d :: ds, ps, e => by
    simp only [toPys] at e
    split at e
    · rename_i q qs e1 e2
      simp only [Option.some.injEq] at e; subst e
      rw [List.any_cons, List.any_cons, eqv_toPy d x q p e1 hp, eqvs_any (K := K) x p hp ds qs e2]
    · cases e
section
variable {X : Cx} {T : Tab}
theorem RVd.int_inv {K : PySem.W.Frag} {T : Tab} {h : Hv} {v : V} {i : Int} (r : RVd K T h v (.int i)) : v = .int i := by cases r with | of r => cases r; rfl
theorem RVd.str_inv {K : PySem.W.Frag} {T : Tab} {h : Hv} {v : V} {i : Str} (r : RVd K T h v (.str i)) : v = .str i := by cases r with | of r => cases r; rfl
theorem RVd.bl_inv {K : PySem.W.Frag} {T : Tab} {h : Hv} {v : V} {i : Bool} (r : RVd K T h v (.bl i)) : v = .bl i := by cases r with | of r => cases r; rfl
theorem RVd.lst_inv {K : PySem.W.Frag} {T : Tab} {h : Hv} {v : V} {ds : List Da} (r : RVd K T h v (.lst ds)) : ∃ a xs, v = .ref a ∧ h.H a = some (.lst xs) ∧ RVs K T h xs ds := by
  cases r with
  | of r => cases r with | lst a b c => exact ⟨_, _, rfl, a, c⟩
  | lst a c => exact ⟨_, _, rfl, a, c⟩
theorem RVd.tup_inv {K : PySem.W.Frag} {T : Tab} {h : Hv} {v : V} {ds : List Da} (r : RVd K T h v (.tup ds)) : ∃ a xs, v = .ref a ∧ ST K h a xs ∧ RVs K T h xs ds := by
  cases r with | of r => cases r with | tup a c => exact ⟨_, _, rfl, a, c⟩
theorem RVs.ne_nil {K : PySem.W.Frag} {T : Tab} {h : Hv} {vs : List V} {ds : List Da} (r : RVs K T h vs ds) : vs = [] ↔ ds = [] := by cases r <;> simp

theorem o_add : OpR X (binaryOp .Add) (rD2 X.K T dAdd) := by
  refine OpR.imp (OpR.or op_add (OpR.or op_add_ib (OpR.or op_add_str (OpR.or op_cat op_catA)))) fun x y H Q ⟨h, S, dx, dy, e, hr, r1, r2, p⟩ => ?_
  subst e
  have q1 := r1.drf hr
  have q2 := r2.drf hr
  unfold dAdd at p
  split at p
  · rename_i i j e1 e2
    rw [e1] at q1; rw [e2] at q2
    exact .inl ⟨_, _, q1.int_inv, q2.int_inv, p.ret (.int _) hr⟩
  · rename_i i j e1 e2
    rw [e1] at q1; rw [e2] at q2
    exact .inr (.inl ⟨_, _, q1.int_inv, q2.bl_inv, p.ret (.int _) hr⟩)
  · rename_i i j e1 e2
    rw [e1] at q1; rw [e2] at q2
    split at p
    · rename_i hl
      exact .inr (.inr (.inl ⟨_, _, q1.str_inv, q2.str_inv, hl, p.ret (.str _) hr⟩))
    · exact p.elim
  · rename_i i j e1 e2
    rw [e1] at q1; rw [e2] at q2
    obtain ⟨a, xs, rfl, ha, ra⟩ := q1.lst_inv
    obtain ⟨b, ys, rfl, hb, rb⟩ := q2.lst_inv
    split at p
    · rename_i hl
      exact .inr (.inr (.inr (.inl ⟨a, b, xs, ys, rfl, rfl, ha, hb, by rw [ra.length, rb.length]; exact hl, p.newLst hr (ra.append rb)⟩)))
    · exact p.elim
  · rename_i i j e1 e2
    rw [e1] at q1; rw [e2] at q2
    obtain ⟨a, xs, rfl, ha, ra⟩ := q1.tup_inv
    obtain ⟨b, ys, rfl, hb, rb⟩ := q2.tup_inv
    split at p
    · rename_i hl
      refine .inr (.inr (.inr (.inr ⟨a, b, xs, ys, rfl, rfl, ha.sq, hb.sq, by rw [ra.length, rb.length]; exact hl, fun z => ?_, fun _ z => ?_, fun _ _ => p.newTup hr (ra.append rb)⟩)))
      · have := ra.ne_nil.mp z; subst this
        exact p.ret (.tup hb rb) hr
      · have := rb.ne_nil.mp z; subst this
        rw [List.append_nil] at p
        exact p.ret (.tup ha ra) hr
    · exact p.elim
  · exact p.elim
theorem o_sub : OpR X (binaryOp .Sub) (rD2 X.K T dSub) := by
  refine OpR.imp op_sub fun x y H Q ⟨h, S, dx, dy, e, hr, r1, r2, p⟩ => ?_
  subst e
  unfold dSub at p
  split at p
  · cases r1; cases r2; exact ⟨_, _, rfl, rfl, p.ret (.int _) hr⟩
  · exact p.elim
theorem o_mul : OpR X (binaryOp .Mult) (rD2 X.K T dMul) := by
  refine OpR.imp (OpR.or op_mul op_rep) fun x y H Q ⟨h, S, dx, dy, e, hr, r1, r2, p⟩ => ?_
  subst e
  have q1 := r1.drf hr
  unfold dMul at p
  split at p
  · rename_i i j e1
    rw [e1] at q1; cases r2
    split at p
    · rename_i hc
      refine .inl ⟨_, _, q1.int_inv, rfl, ?_, p.ret (.int _) hr⟩
      exact cdec_to hc
    · exact p.elim
  · rename_i i j e1
    rw [e1] at q1; cases r2
    obtain ⟨a, xs, rfl, ha, ra⟩ := q1.lst_inv
    split at p
    · rename_i hc
      refine .inr ⟨a, _, xs, rfl, rfl, ha, (inW_to hc.2).1, (inW_to hc.2).2, by rw [ra.length]; exact hc.1, ?_⟩
      have rr : ∀ k : Nat, RVs X.K T h (List.replicate k xs).flatten (List.replicate k i).flatten := fun k => by
        induction k with
        | zero => exact .nil
        | succ k ih => rw [List.replicate_succ, List.replicate_succ, List.flatten_cons, List.flatten_cons]; exact ra.append ih
      exact p.newLst hr (rr _)
    · exact p.elim
  · exact p.elim
theorem o_div : OpR X (binaryOp .FloorDiv) (rD2 X.K T dDiv) := by
  refine OpR.imp op_fdivW fun x y H Q ⟨h, S, dx, dy, e, hr, r1, r2, p⟩ => ?_
  subst e
  unfold dDiv at p
  split at p
  · cases r1; cases r2
    split at p
    · rename_i hc; exact ⟨_, _, rfl, rfl, wide_div (i := 0) (b := 30) hc.1 (by omega) (by decide) (by decide), p.ret (.int _) hr⟩
    · split at p
      · rename_i hc; exact ⟨_, _, rfl, rfl, cdec_to hc, p.ret (.int _) hr⟩
      · exact p.elim
  · exact p.elim
theorem o_mod : OpR X (binaryOp .Mod) (rD2 X.K T dMod) := by
  refine OpR.imp op_mod fun x y H Q ⟨h, S, dx, dy, e, hr, r1, r2, p⟩ => ?_
  subst e
  unfold dMod at p
  split at p
  · cases r1; cases r2
    split at p
    · rename_i hc; exact ⟨_, _, rfl, rfl, hc, p.ret (.int _) hr⟩
    · exact p.elim
  · exact p.elim
theorem o_pow : OpR X (binaryOp .Pow) (rD2 X.K T dPow) := by
  refine OpR.imp op_pow fun x y H Q ⟨h, S, dx, dy, e, hr, r1, r2, p⟩ => ?_
  subst e
  unfold dPow at p
  split at p
  · cases r1; cases r2
    split at p
    · rename_i hc; have hc2 := cdec_to hc; exact ⟨_, _, rfl, rfl, hc2, p.ret (.int _) hr⟩
    · exact p.elim
  · exact p.elim
theorem o_neg : UnR X (unaryOp .USub) (rD1 X.K T dNeg) := by
  refine UnR.imp un_neg fun x H Q ⟨h, S, dx, e, hr, r1, p⟩ => ?_
  subst e
  unfold dNeg at p
  split at p
  · cases r1; exact ⟨_, rfl, p.ret (.int _) hr⟩
  · exact p.elim
theorem o_lt : OpR X (compareOp .Lt) (rD2 X.K T dLt) := by
  refine OpR.imp (OpR.or op_lt op_lt_str) fun x y H Q ⟨h, S, dx, dy, e, hr, r1, r2, p⟩ => ?_
  subst e
  unfold dLt at p
  split at p
  · cases r1; cases r2; exact .inl ⟨_, _, rfl, rfl, p.ret (.bl _) hr⟩
  · cases r1; cases r2; exact .inr ⟨_, _, rfl, rfl, p.ret (.bl _) hr⟩
  · exact p.elim
theorem o_le : OpR X (compareOp .LtE) (rD2 X.K T dLe) := by
  refine OpR.imp (OpR.or op_le op_le_str) fun x y H Q ⟨h, S, dx, dy, e, hr, r1, r2, p⟩ => ?_
  subst e
  unfold dLe at p
  split at p
  · cases r1; cases r2; exact .inl ⟨_, _, rfl, rfl, p.ret (.bl _) hr⟩
  · cases r1; cases r2; exact .inr ⟨_, _, rfl, rfl, p.ret (.bl _) hr⟩
  · exact p.elim
theorem o_gt : OpR X (compareOp .Gt) (rD2 X.K T dGt) := by
  refine OpR.imp (OpR.or op_gt op_gt_str) fun x y H Q ⟨h, S, dx, dy, e, hr, r1, r2, p⟩ => ?_
  subst e
  unfold dGt at p
  split at p
  · cases r1; cases r2; exact .inl ⟨_, _, rfl, rfl, p.ret (.bl _) hr⟩
  · cases r1; cases r2; exact .inr ⟨_, _, rfl, rfl, p.ret (.bl _) hr⟩
  · exact p.elim
theorem o_ge : OpR X (compareOp .GtE) (rD2 X.K T dGe) := by
  refine OpR.imp (OpR.or op_ge op_ge_str) fun x y H Q ⟨h, S, dx, dy, e, hr, r1, r2, p⟩ => ?_
  subst e
  unfold dGe at p
  split at p
  · cases r1; cases r2; exact .inl ⟨_, _, rfl, rfl, p.ret (.bl _) hr⟩
  · cases r1; cases r2; exact .inr ⟨_, _, rfl, rfl, p.ret (.bl _) hr⟩
  · exact p.elim
theorem isNon_of {K : PySem.W.Frag} {T : Tab} {h : Hv} {v : V} {d : Da} (r : RV K T h v d) (hn : ∀ n, d ≠ .ref n) : decide (v = V.non) = isNon d := by
  cases r <;> first | rfl | (simp [isNon]; done) | exact absurd rfl (hn _)
theorem o_is : OpR X (compareOp .Is) (rD2 X.K T dIs) := by
  refine OpR.imp op_isN fun x y H Q ⟨h, S, dx, dy, e, hr, r1, r2, p⟩ => ?_
  subst e
  unfold dIs at p
  split at p
  · exact p.elim
  · rename_i hn
    cases r2
    exact ⟨rfl, by rw [isNon_of r1 (fun n z => hn n z)]; exact p.ret (.bl _) hr⟩
  · exact p.elim
theorem o_isnot : OpR X (compareOp .IsNot) (rD2 X.K T dIsNot) := by
  refine OpR.imp op_notN fun x y H Q ⟨h, S, dx, dy, e, hr, r1, r2, p⟩ => ?_
  subst e
  unfold dIsNot at p
  split at p
  · exact p.elim
  · rename_i hn
    cases r2
    exact ⟨rfl, by rw [isNon_of r1 (fun n z => hn n z)]; exact p.ret (.bl _) hr⟩
  · exact p.elim
/-! ### in -/
def rInT (K : PySem.W.Frag) : R2 := fun x y H Q => ∃ d ds, Dp K H x d ∧ Dp K H y (.tuple ds) ∧ SeqAt.shaped d = true ∧ SeqAt.shaped (.tuple ds) = true ∧ Q (.bl (ds.any fun z => PyData.eqv z d)) H
def rNotInT (K : PySem.W.Frag) : R2 := fun x y H Q => ∃ d ds, Dp K H x d ∧ Dp K H y (.tuple ds) ∧ SeqAt.shaped d = true ∧ SeqAt.shaped (.tuple ds) = true ∧ Q (.bl (!ds.any fun z => PyData.eqv z d)) H
theorem op_inT (hu : X.A.units + 65 < cLine) : OpR X (compareOp .In) (rInT X.K) := by
  intro pins s σ H x y v u Q I rx ry h
  obtain ⟨d, ds, hd, hs, sd, ss, q⟩ := h
  obtain ⟨as, r1⟩ := Dp.reads I d x v hd rx
  obtain ⟨bs, r2⟩ := Dp.reads I _ y u hs ry
  exact SeqAt.in_tuple_reads r2 r1 (SeqAt.canLay_of_shaped ss) (SeqAt.canLay_of_shaped sd) (room_in_shaped sd hu) ⟨.bl _, H, I, rfl, q⟩
theorem op_notInT (hu : X.A.units + 65 < cLine) : OpR X (compareOp .NotIn) (rNotInT X.K) := by
  intro pins s σ H x y v u Q I rx ry h
  obtain ⟨d, ds, hd, hs, sd, ss, q⟩ := h
  obtain ⟨as, r1⟩ := Dp.reads I d x v hd rx
  obtain ⟨bs, r2⟩ := Dp.reads I _ y u hs ry
  exact SeqAt.notIn_tuple_reads r2 r1 (SeqAt.canLay_of_shaped ss) (SeqAt.canLay_of_shaped sd) (room_in_shaped sd hu) ⟨.bl _, H, I, rfl, q⟩
theorem o_in (hu : X.A.units + 65 < cLine) : OpR X (compareOp .In) (rD2 X.K T dIn) := by
  refine OpR.imp (OpR.or (op_inD hu) (OpR.or (op_inT hu) op_in_str)) fun x y H Q ⟨h, S, dx, dy, e, hr, r1, r2, p⟩ => ?_
  subst e
  have q2 := r2.drf hr
  unfold dIn inSeq at p
  split at p
  · rename_i ds e2
    rw [e2] at q2
    split at p
    · rename_i hc
      simp only [Bool.and_eq_true] at hc
      obtain ⟨px, ex, _⟩ := toPy_shp _ _ hc.1
      obtain ⟨py, ey, _⟩ := toPy_shp _ _ hc.2
      have ey' := ey
      simp only [toPy, Option.map_eq_some_iff] at ey
      obtain ⟨ps, ey, rfl⟩ := ey
      refine .inl ⟨px, ps, r1.dp ex, q2.dp ey', shaped_of hc.1 ex, shaped_of hc.2 ey', ?_⟩
      rw [eqvs_any (K := X.K) dx px ex ds ps ey]
      exact p.ret (.bl _) hr
    · exact p.elim
  · rename_i ds e2
    rw [e2] at q2
    split at p
    · rename_i hc
      simp only [Bool.and_eq_true] at hc
      obtain ⟨px, ex, _⟩ := toPy_shp _ _ hc.1
      obtain ⟨py, ey, _⟩ := toPy_shp _ _ hc.2
      have ey' := ey
      simp only [toPy, Option.map_eq_some_iff] at ey
      obtain ⟨ps, ey, rfl⟩ := ey
      refine .inr (.inl ⟨px, ps, r1.dp ex, q2.dp ey', shaped_of hc.1 ex, shaped_of hc.2 ey', ?_⟩)
      rw [eqvs_any (K := X.K) dx px ex ds ps ey]
      exact p.ret (.bl _) hr
    · exact p.elim
  · rename_i t e2
    rw [e2] at q2
    split at p
    · cases r1
      exact .inr (.inr ⟨_, _, rfl, q2.str_inv, p.ret (.bl _) hr⟩)
    · exact p.elim
  · exact p.elim
theorem o_notin (hu : X.A.units + 65 < cLine) : OpR X (compareOp .NotIn) (rD2 X.K T dNotIn) := by
  refine OpR.imp (OpR.or (op_notInD hu) (OpR.or (op_notInT hu) op_notIn_str)) fun x y H Q ⟨h, S, dx, dy, e, hr, r1, r2, p⟩ => ?_
  subst e
  have q2 := r2.drf hr
  unfold dNotIn inSeq at p
  split at p
  · rename_i ds e2
    rw [e2] at q2
    split at p
    · rename_i hc
      simp only [Bool.and_eq_true] at hc
      obtain ⟨px, ex, _⟩ := toPy_shp _ _ hc.1
      obtain ⟨py, ey, _⟩ := toPy_shp _ _ hc.2
      have ey' := ey
      simp only [toPy, Option.map_eq_some_iff] at ey
      obtain ⟨ps, ey, rfl⟩ := ey
      refine .inl ⟨px, ps, r1.dp ex, q2.dp ey', shaped_of hc.1 ex, shaped_of hc.2 ey', ?_⟩
      rw [eqvs_any (K := X.K) dx px ex ds ps ey]
      exact p.ret (.bl _) hr
    · exact p.elim
  · rename_i ds e2
    rw [e2] at q2
    split at p
    · rename_i hc
      simp only [Bool.and_eq_true] at hc
      obtain ⟨px, ex, _⟩ := toPy_shp _ _ hc.1
      obtain ⟨py, ey, _⟩ := toPy_shp _ _ hc.2
      have ey' := ey
      simp only [toPy, Option.map_eq_some_iff] at ey
      obtain ⟨ps, ey, rfl⟩ := ey
      refine .inr (.inl ⟨px, ps, r1.dp ex, q2.dp ey', shaped_of hc.1 ex, shaped_of hc.2 ey', ?_⟩)
      rw [eqvs_any (K := X.K) dx px ex ds ps ey]
      exact p.ret (.bl _) hr
    · exact p.elim
  · rename_i t e2
    rw [e2] at q2
    split at p
    · cases r1
      exact .inr (.inr ⟨_, _, rfl, q2.str_inv, p.ret (.bl _) hr⟩)
    · exact p.elim
  · exact p.elim
/-! ### items -/
theorem RVs.atI {K : PySem.W.Frag} {T : Tab} {h : Hv} {vs : List V} {ds : List Da} {i : Int} {d : Da} (r : RVs K T h vs ds) (e : atI ds i = some d) : ∃ v, atI vs i = some v ∧ RV K T h v d := by
  unfold L2.atI at e ⊢
  rw [r.length]
  cases q : ixN ds.length i with
  | none => rw [q] at e; cases e
  | some j =>
    rw [q] at e
    exact r.get e
theorem atI_map {α β : Type} (f : α → β) (xs : List α) (i : Int) : atI (xs.map f) i = (atI xs i).map f := by
  unfold L2.atI
  rw [List.length_map]
  cases q : ixN xs.length i with
  | none => rfl
  | some j => simp
theorem o_ix : IxR X (rD2 X.K T dIx) := by
  refine IxR.imp ix_seq fun x y H Q ⟨h, S, dx, dy, e, hr, r1, r2, p⟩ => ?_
  subst e
  have q1 := r1.drf hr
  unfold dIx at p
  split at p
  · rename_i ds i e1
    rw [e1] at q1; cases r2
    obtain ⟨a, xs, rfl, ha, ra⟩ := q1.lst_inv
    cases z : atI ds i with
    | none => rw [z] at p; exact p.elim
    | some d =>
      rw [z] at p
      obtain ⟨v, e3, rv⟩ := ra.atI z
      exact .inl ⟨a, xs, i, v, rfl, rfl, SqL.of ha, e3, p.ret rv hr⟩
  · rename_i ds i e1
    rw [e1] at q1; cases r2
    obtain ⟨a, xs, rfl, ha, ra⟩ := q1.tup_inv
    cases z : atI ds i with
    | none => rw [z] at p; exact p.elim
    | some d =>
      rw [z] at p
      obtain ⟨v, e3, rv⟩ := ra.atI z
      exact .inr (.inl ⟨a, xs, i, v, rfl, rfl, ha.sq, e3, p.ret rv hr⟩)
  · rename_i ns i e1
    rw [e1] at q1; cases r2
    cases z : atI ns i with
    | none => rw [z] at p; exact p.elim
    | some d =>
      rw [z] at p
      cases q1 with
      | of q1 => cases q1 with | scr a =>
        exact .inl ⟨_, _, i, .int d, rfl, rfl, a.sq, by rw [atI_map, z]; rfl, p.ret (.int _) hr⟩
  · rename_i t i e1
    rw [e1] at q1; cases r2
    split at p
    · rename_i hl
      cases z : atI t.cps.toList i with
      | none => rw [z] at p; exact p.elim
      | some d =>
        rw [z] at p
        exact .inr (.inr ⟨t, i, d, q1.str_inv, rfl, hl, z, p.ret (.str _) hr⟩)
    · exact p.elim
  · exact p.elim
end
/-! ### slices -/
def eoNone : Env → Sto → Rs (Option Int) := fun _ S => .ok none S
def eoSome (a : E) : Env → Sto → Rs (Option Int) := fun ε S => (a ε S).bind fun x S => match x with | .int i => .ok (some i) S | _ => .bad
def cutD (xs : List Da) (lo hi : Option Int) : List Da := (xs.drop (HT.sIx xs.length 0 lo)).take (HT.sIx xs.length xs.length hi - HT.sIx xs.length 0 lo)
def dSl (x : Da) (lo hi : Option Int) (S : Sto) : Option (Da × Sto) := match drf S x with
  | .lst ds => some (.lst (cutD ds lo hi), S)
  | .tup ds => some (.tup (cutD ds lo hi), S)
  | .str z => if z.length ≤ sizeLine then some (.str (cutS z lo hi), S) else none
  | _ => none
def eSl (a : E) (lo hi : Env → Sto → Rs (Option Int)) : E := fun ε S => (a ε S).bind fun x S => (lo ε S).bind fun l S => (hi ε S).bind fun u S => Rs.of (dSl x l u S)
abbrev OI (X : Cx) (T : Tab) (W : WX) (e : Option Expr) (f : Env → Sto → Rs (Option Int)) : Prop := PO X e (tG X.K T W REq f)
theorem SlR.imp {X : Cx} {r r' : V → Option Int → Option Int → Hp → VK → Prop} (h : SlR X r) (w : ∀ x l u H Q, r' x l u H Q → r x l u H Q) : SlR X r' :=
  fun pins s σ H x v vl vu lo hi sl Q I rx hs pl pu q => h pins s σ H x v vl vu lo hi sl Q I rx hs pl pu (w x lo hi H Q q)
section
variable {X : Cx} {T : Tab} {W : WX} {e a : Expr} {f : E} {pos p2 : Pos}
theorem wkO {e : Option Expr} {t t' : TO} (h : PO X e t) (w : ∀ σ H Q, t' σ H Q → t σ H Q) : PO X e t' := ⟨fun pins s σ H Q I q => h.run pins s σ H Q I (w σ H Q q)⟩
theorem oi_none : OI X T W none eoNone := wkO po_none fun σ H Q ⟨h, S, ε, e, er, hr, p⟩ => by subst e; exact Post.ret p rfl hr
theorem oi_some (ha : EI X T W a f) : OI X T W (some a) (eoSome f) := wkO (po_some ha) fun σ H Q ⟨h, S, ε, e, er, hr, p⟩ =>
  ⟨h, S, ε, e, er, hr, (Post.bind p).imp fun x H1 ⟨h1, S1, d1, e1, g1, r1, hr1, p1⟩ => by
    cases r1 with
    | int i => exact ⟨i, rfl, by subst e1; exact Post.ret p1 rfl hr1⟩
    | _ => exact (show False from p1).elim⟩
theorem RVs.slc {K : PySem.W.Frag} {T : Tab} {h : Hv} {vs : List V} {ds : List Da} (r : RVs K T h vs ds) (lo hi : Option Int) : RVs K T h (cutV vs lo hi) (cutD ds lo hi) := by
  unfold cutV cutD
  rw [r.length]
  exact (r.drop _).take _
theorem i_slice {lo hi : Option Expr} {fl fh : Env → Sto → Rs (Option Int)} (ha : EI X T W a f) (hl : OI X T W lo fl) (hh : OI X T W hi fh) : EI X T W (.Subscript a (.Slice lo hi none p2) pos) (eSl f fl fh) := by
  refine wkE (pe_slice (SlR.or sl_list (SlR.or sl_tupA sl_str)) ha hl hh) fun σ H Q ⟨h, S, ε, e, er, hr, p⟩ => ?_
  refine ⟨h, S, ε, e, er, hr, (Post.bind p).imp fun x H1 ⟨h1, S1, d1, e1, g1, r1, hr1, p1⟩ => ?_⟩
  refine ⟨h1, S1, ε, e1, er.mono g1, hr1, (Post.bind p1).imp fun l H2 ⟨h2, S2, d2, e2, g2, r2, hr2, p2⟩ => ?_⟩
  refine ⟨h2, S2, ε, e2, (er.mono g1.ext).mono g2.ext, hr2, (Post.bind p2).imp fun u H3 ⟨h3, S3, d3, e3, g3, r3, hr3, p3⟩ => ?_⟩
  have r2' : l = d2 := r2
  have r3' : u = d3 := r3
  subst r2'; subst r3'; subst e3
  have p4 := Post.of p3
  have q := ((r1.mono g2.ext).mono g3.ext).drf hr3
  unfold dSl at p4
  split at p4
  · rename_i ds e4
    rw [e4] at q
    obtain ⟨a, xs, rfl, ha, ra⟩ := q.lst_inv
    exact .inl ⟨a, xs, rfl, SqL.of ha, p4.newLst hr3 (ra.slc _ _)⟩
  · rename_i ds e4
    rw [e4] at q
    obtain ⟨a, xs, rfl, ha, ra⟩ := q.tup_inv
    refine .inr (.inl ⟨a, xs, rfl, ha.sq, fun ⟨z1, z2⟩ => ?_, fun _ => p4.newTup hr3 (ra.slc _ _)⟩)
    have e5 : cutD ds l u = ds := by
      unfold cutD
      rw [← ra.length, z1, z2]
      simp [ra.length]
    rw [e5] at p4
    exact p4.ret (.tup ha ra) hr3
  · rename_i z e4
    rw [e4] at q
    split at p4
    · rename_i hl
      exact .inr (.inr ⟨z, q.str_inv, hl, p4.ret (.str _) hr3⟩)
    · exact p4.elim
  · exact p4.elim
/-! ### displays -/
def dTup (xs : List Da) (S : Sto) : Option (Da × Sto) := if xs.length ≤ sizeLine then some (.tup xs, S) else none
def dLst (xs : List Da) (S : Sto) : Option (Da × Sto) := if xs.length ≤ sizeLine then some (.lst xs, S) else none
/-- a new list in the store -/
def dNew (xs : List Da) (S : Sto) : Option (Da × Sto) := if xs.length ≤ sizeLine then some (.ref S.length, S ++ [.lst xs]) else none
variable {es : List Expr} {fs : Es}
theorem i_tup {k : Nat} (ha : AI X T W es fs) : EI X T W (.Tuple es k pos) (eOpN dTup fs) := wkE (pe_tup ha) fun σ H Q ⟨h, S, ε, e, er, hr, p⟩ =>
  ⟨h, S, ε, e, er, hr, (Post.bind p).imp fun x H1 ⟨h1, S1, d1, e1, g1, r1, hr1, p1⟩ => by
    subst e1
    have p2 := Post.of p1
    unfold dTup at p2
    split at p2
    · rename_i hl; exact ⟨by rw [r1.length]; exact hl, p2.newTup hr1 r1⟩
    · exact p2.elim⟩
theorem i_lst (ha : AI X T W es fs) : EI X T W (.List es pos) (eOpN dLst fs) := wkE (pe_lst ha) fun σ H Q ⟨h, S, ε, e, er, hr, p⟩ =>
  ⟨h, S, ε, e, er, hr, (Post.bind p).imp fun x H1 ⟨h1, S1, d1, e1, g1, r1, hr1, p1⟩ => by
    subst e1
    have p2 := Post.of p1
    unfold dLst at p2
    split at p2
    · rename_i hl; exact ⟨by rw [r1.length]; exact hl, p2.newLst hr1 r1⟩
    · exact p2.elim⟩
theorem PostO.alloc {K : PySem.W.Frag} {h : Hv} {S : Sto} {Q : VK} {xs : List V} {ds : List Da} (p : PostO K T h (some (.ref S.length, S ++ [.lst ds])) Q) (hr : HeapR K T h S) (r : RVs K T h xs ds) :
    ∀ q, h.H q = none → Q (.ref q) (upd h.H q (.lst xs)) := fun q hq => by
  refine p (.ref q) { m := h.m ++ [some q], B := h.B, H := upd h.H q (.lst xs) } (grow_alloc hq _) (.ref (o := some q) ?_ fun a e => by cases e; rfl) (hr.alloc hq _ ⟨xs, upd_same, r.mono (grow_alloc hq _).ext⟩)
  show (h.m ++ [some q])[S.length]? = some (some q)
  rw [← hr.len]; simp
theorem i_new (ha : AI X T W es fs) : EI X T W (.List es pos) (eOpN dNew fs) := wkE (pe_lst ha) fun σ H Q ⟨h, S, ε, e, er, hr, p⟩ =>
  ⟨h, S, ε, e, er, hr, (Post.bind p).imp fun x H1 ⟨h1, S1, d1, e1, g1, r1, hr1, p1⟩ => by
    subst e1
    have p2 := Post.of p1
    unfold dNew at p2
    split at p2
    · rename_i hl; exact ⟨by rw [r1.length]; exact hl, p2.alloc hr1 r1⟩
    · exact p2.elim⟩
/-! ### built-in functions by name -/
theorem i_callB {x : Str} {id : String} {p : Pos} {g : List Da → Sto → Option (Da × Sto)} (hc : CallR X (.builtin id) (rDN X.K T g)) (hg : Gl X x) (hm : X.mg x = none) (hv : bootBuiltins x = some (.builtin id)) (ha : AI X T W (e :: es) fs) (hn : x ≠ "__name__" := by decide) (hdb : (x == ("__debug__" : Str)) = false := by decide)
    (he : starEach (e :: es) X.env = (false, eval e X.env) :: starEach es X.env := by rfl) (hpl : (backTo pos (starEach es X.env)).any (·.1) = false := by rfl) : EI X T W (.Call (.Name x p) (e :: es) [] pos) (eOpN g fs) :=
  wkE (pe_callB hc hg hm hv ha hn hdb he hpl) fun σ H Q ⟨h, S, ε, e, er, hr, p⟩ => ⟨h, S, ε, e, er, hr, (Post.bind p).imp fun x H1 ⟨h1, S1, d1, e1, g1, r1, hr1, p1⟩ => ⟨h1, S1, d1, e1, hr1, r1, p1.of⟩⟩
theorem i_callTy {x : Str} {id : String} {p : Pos} {g : List Da → Sto → Option (Da × Sto)} (hc : CallR X (.type id) (rDN X.K T g)) (hg : Gl X x) (hm : X.mg x = none) (hv : bootBuiltins x = some (.type id)) (ha : AI X T W (e :: es) fs) (hn : x ≠ "__name__" := by decide) (hdb : (x == ("__debug__" : Str)) = false := by decide)
    (he : starEach (e :: es) X.env = (false, eval e X.env) :: starEach es X.env := by rfl) (hpl : (backTo pos (starEach es X.env)).any (·.1) = false := by rfl) : EI X T W (.Call (.Name x p) (e :: es) [] pos) (eOpN g fs) :=
  wkE (pe_callTy hc hg hm hv ha hn hdb he hpl) fun σ H Q ⟨h, S, ε, e, er, hr, p⟩ => ⟨h, S, ε, e, er, hr, (Post.bind p).imp fun x H1 ⟨h1, S1, d1, e1, g1, r1, hr1, p1⟩ => ⟨h1, S1, d1, e1, hr1, r1, p1.of⟩⟩
end
end G

namespace G
open PySem PySem.Spec PyProof.Rows L2

/-! ## statements -/
def PostS (K : PySem.W.Frag) (T : Tab) (W : WX) (h : Hv) (r : Fl) (D : Ends) : Prop :=
  match r with
  | .nx ε S => ∀ σ h', Grow h h' → EnvR K T h' σ ε → HeapR K T h' S → D.nx σ h'.H
  | .rt d S => ∀ v h', Grow h h' → RV K T h' v d → HeapR K T h' S → D.rt v h'.H
  | .bk ε S => ∀ σ h', Grow h h' → EnvR K T h' σ ε → HeapR K T h' S → D.bk σ h'.H
  | .ct ε S => ∀ σ h', Grow h h' → EnvR K T h' σ ε → HeapR K T h' S → D.ct σ h'.H
  | .ex c fs ε S => ∀ cls dd σ h', Grow h h' → EnvR K T h' σ ε → XR K T h' cls dd c fs → HeapR K T h' S → W cls dd σ h'.H
  | .bad => False
def tS (K : PySem.W.Frag) (T : Tab) (W : WX) (f : Sm) : TS := fun D σ H => ∃ h S ε, h.H = H ∧ EnvR K T h σ ε ∧ HeapR K T h S ∧ PostS K T W h (f ε S) D
abbrev SI (X : Cx) (T : Tab) (W : WX) (st : Stmt) (f : Sm) : Prop := PS X st (tS X.K T W f)
abbrev SsI (X : Cx) (T : Tab) (W : WX) (st : List Stmt) (f : Sm) : Prop := PSs X st (tS X.K T W f)
/-- an expression, then what follows -/
def lft {α : Type} (r : Rs α) (ε : Env) (k : α → Sto → Fl) : Fl := match r with
  | .ok a S => k a S
  | .exc c fs S => .ex c fs ε S
  | .bad => .bad
section
variable {K : PySem.W.Frag} {T : Tab} {W : WX} {h h' : Hv} {D : Ends}
theorem PostS.grow {r : Fl} (g : Grow h h') (p : PostS K T W h r D) : PostS K T W h' r D := by
  cases r with
  | nx ε S => exact fun σ h2 g2 => p σ h2 (g.trans g2)
  | rt d S => exact fun σ h2 g2 => p σ h2 (g.trans g2)
  | bk ε S => exact fun σ h2 g2 => p σ h2 (g.trans g2)
  | ct ε S => exact fun σ h2 g2 => p σ h2 (g.trans g2)
  | ex c fs ε S => exact fun a b σ h2 g2 => p a b σ h2 (g.trans g2)
  | bad => exact p
theorem PostS.lft {α β : Type} {R : Hv → β → α → Prop} {r : Rs α} {ε : Env} {k : α → Sto → Fl} {σ : St} (er : EnvR K T h σ ε) (p : PostS K T W h (lft r ε k) D) :
    Post K T W R σ h r (fun v H1 => ∃ h1 S1 a, h1.H = H1 ∧ Grow h h1 ∧ R h1 v a ∧ HeapR K T h1 S1 ∧ EnvR K T h1 σ ε ∧ PostS K T W h1 (k a S1) D) := by
  cases r with
  | ok a S => exact fun v h2 g2 r2 s2 => ⟨h2, S, a, rfl, g2, r2, s2, er.mono g2, PostS.grow g2 p⟩
  | exc c fs S => exact fun cls dd h2 g2 x s2 => p cls dd σ h2 g2 (er.mono g2) x s2
  | bad => exact p
theorem PostS.nx {ε : Env} {S : Sto} {σ : St} (p : PostS K T W h (.nx ε S) D) (er : EnvR K T h σ ε) (s : HeapR K T h S) : D.nx σ h.H := p σ h (Grow.refl h) er s
end
def sNop : Sm := fun ε S => .nx ε S
def sSeq (a b : Sm) : Sm := fun ε S => match a ε S with
  | .nx ε S => b ε S
  | r => r
def sSet (i : Nat) (a : E) : Sm := fun ε S => lft (a ε S) ε fun d S => .nx (ε.set i (some d)) S
def sExpr (a : E) : Sm := fun ε S => lft (a ε S) ε fun _ S => .nx ε S
def sRet (a : E) : Sm := fun ε S => lft (a ε S) ε fun d S => .rt d S
def sRetN : Sm := fun _ S => .rt .non S
def sIf (t : TeE) (a b : Sm) : Sm := fun ε S => lft (t ε S) ε fun c S => if c then a ε S else b ε S
def sBreak : Sm := fun ε S => .bk ε S
def sCont : Sm := fun ε S => .ct ε S
/-- targets -/
inductive Tg where
  | name (i : Nat)
  | tup (ts : List Tg)
mutual
def put : Tg → Da → Env → Option Env
  | .name i, d, ε => some (ε.set i (some d))
  | .tup ts, .tup ds, ε => puts ts ds ε
  | .tup ts, .lst ds, ε => puts ts ds ε
  | .tup _, _, _ => none
def puts : List Tg → List Da → Env → Option Env
  | [], [], ε => some ε
  | t :: ts, d :: ds, ε => match put t d ε with
    | some ε => puts ts ds ε
    | none => none
  | _, _, _ => none
end
def sAsg (g : Tg) (a : E) : Sm := fun ε S => lft (a ε S) ε fun d S => match put g d ε with
  | some ε => .nx ε S
  | none => .bad
mutual
def slotsT : Tg → List Nat
  | .name i => [i]
  | .tup ts => slotsTs ts
def slotsTs : List Tg → List Nat
  | [] => []
  | t :: ts => slotsT t ++ slotsTs ts
end
/-- the two frames differ at some places at most -/
def Off (l : List Nat) (σ σ' : St) : Prop := σ'.length = σ.length ∧ ∀ j, j ∉ l → σ'[j]? = σ[j]?
theorem Off.refl (l : List Nat) (σ : St) : Off l σ σ := ⟨rfl, fun _ _ => rfl⟩
theorem Off.trans {l m : List Nat} {σ1 σ2 σ3 : St} (a : Off l σ1 σ2) (b : Off m σ2 σ3) : Off (l ++ m) σ1 σ3 :=
  ⟨b.1.trans a.1, fun j hj => by
    rw [List.mem_append, not_or] at hj
    exact (b.2 j hj.2).trans (a.2 j hj.1)⟩
def tgD (K : PySem.W.Frag) (T : Tab) (g : Tg) : TG := fun v σ H Q => ∃ h S ε d, h.H = H ∧ EnvR K T h σ ε ∧ HeapR K T h S ∧ RV K T h v d ∧ ∃ ε', put g d ε = some ε' ∧ ∀ σ', EnvR K T h σ' ε' → Off (slotsT g) σ σ' → Q σ' H
def tgsD (K : PySem.W.Frag) (T : Tab) (g : List Tg) : TGs := fun vs σ H Q => ∃ h S ε ds, h.H = H ∧ EnvR K T h σ ε ∧ HeapR K T h S ∧ RVs K T h vs ds ∧ ∃ ε', puts g ds ε = some ε' ∧ ∀ σ', EnvR K T h σ' ε' → Off (slotsTs g) σ σ' → Q σ' H
abbrev GI (X : Cx) (T : Tab) (e : Expr) (g : Tg) : Prop := PG X e (tgD X.K T g)
abbrev GsI (X : Cx) (T : Tab) (e : List Expr) (g : List Tg) : Prop := PGs X e (tgsD X.K T g)
section
variable {X : Cx} {T : Tab} {W : WX} {e a b c : Expr} {es : List Expr} {pos : Pos} {f g : E} {t : TeE} {st : Stmt} {rest : List Stmt} {m n : Sm}
theorem s_nil : SsI X T W [] sNop := wkSs pss_nil fun D σ H ⟨h, S, ε, e, er, hr, p⟩ => by subst e; exact p.nx er hr
theorem s_cons (h1 : SI X T W st m) (h2 : SsI X T W rest n) : SsI X T W (st :: rest) (sSeq m n) := by
  refine wkSs (pss_cons h1 h2) fun D σ H ⟨h, S, ε, e, er, hr, p⟩ => ⟨h, S, ε, e, er, hr, ?_⟩
  unfold sSeq at p
  cases q : m ε S with
  | nx ε1 S1 => rw [q] at p; exact fun σ1 h1 g1 er1 hr1 => ⟨h1, S1, ε1, rfl, er1, hr1, PostS.grow g1 p⟩
  | rt d S1 => rw [q] at p; exact p
  | bk d S1 => rw [q] at p; exact p
  | ct d S1 => rw [q] at p; exact p
  | ex c fs d S1 => rw [q] at p; exact p
  | bad => rw [q] at p; exact p
theorem s_one (h1 : SI X T W st m) : SsI X T W [st] m := pss_one h1
theorem s_pass : SI X T W (.Pass pos) sNop := wkS ps_pass fun D σ H ⟨h, S, ε, e, er, hr, p⟩ => by subst e; exact p.nx er hr
theorem s_doc {x j pos'} : SI X T W (.Expr (.Constant (.str x) j pos) pos') sNop := wkS ps_doc fun D σ H ⟨h, S, ε, e, er, hr, p⟩ => by subst e; exact p.nx er hr
theorem s_break : SI X T W (.Break pos) sBreak := wkS ps_break fun D σ H ⟨h, S, ε, e, er, hr, p⟩ => by subst e; exact p σ h (Grow.refl h) er hr
theorem s_cont : SI X T W (.Continue pos) sCont := wkS ps_continue fun D σ H ⟨h, S, ε, e, er, hr, p⟩ => by subst e; exact p σ h (Grow.refl h) er hr
theorem s_expr (ha : EI X T W a f) (hs : swapsWith a none pos.line X.env = pure false := by rfl) : SI X T W (.Expr a pos) (sExpr f) :=
  wkS (ps_expr ha hs) fun D σ H ⟨h, S, ε, e, er, hr, p⟩ => ⟨h, S, ε, e, er, hr, (PostS.lft er p).imp fun v H1 ⟨h1, S1, d, e1, g1, r1, hr1, er1, p1⟩ => by subst e1; exact p1.nx er1 hr1⟩
theorem s_ret (ha : EI X T W a f) : SI X T W (.Return (some a) pos) (sRet f) :=
  wkS (ps_ret ha) fun D σ H ⟨h, S, ε, e, er, hr, p⟩ => ⟨h, S, ε, e, er, hr, (PostS.lft er p).imp fun v H1 ⟨h1, S1, d, e1, g1, r1, hr1, er1, p1⟩ => by subst e1; exact p1 v h1 (Grow.refl h1) r1 hr1⟩
theorem s_retN : SI X T W (.Return none pos) sRetN := wkS ps_retN fun D σ H ⟨h, S, ε, e, er, hr, p⟩ => by subst e; exact p .non h (Grow.refl h) .non hr
theorem s_if {xs ys : List Stmt} (hc : TI' X T W c t) (h1 : SsI X T W xs m) (h2 : SsI X T W ys n) : SI X T W (.If c xs ys pos) (sIf t m n) :=
  wkS (ps_if hc h1 h2) fun D σ H ⟨h, S, ε, e, er, hr, p⟩ => ⟨h, S, ε, e, er, hr, (PostS.lft er p).imp fun v H1 ⟨h1, S1, d, e1, g1, r1, hr1, er1, p1⟩ => by
    have r1' : v = d := r1
    subst r1'
    cases v with
    | true => rw [if_pos rfl]; exact ⟨h1, S1, ε, e1, er1, hr1, p1⟩
    | false => rw [if_neg (by decide)]; exact ⟨h1, S1, ε, e1, er1, hr1, p1⟩⟩
theorem s_set {i : Nat} {x : Str} {pos' : Pos} (hN : X.N.Nodup) (hi : X.N[i]? = some x) (hx : Loc X.env.scope x) (ha : EI X T W a f) (hs : swapsWith a (some (.Name x pos')) pos.line X.env = pure false := by rfl)
    (hf : X.fn x = true ∨ X.env.scope.names.lookup x = some .local := by first | exact .inl rfl | exact .inr rfl | assumption) : SI X T W (.Assign [.Name x pos'] a pos) (sSet i f) :=
  wkS (ps_set hN hi hx ha hs hf) fun D σ H ⟨h, S, ε, e, er, hr, p⟩ => ⟨h, S, ε, e, er, hr, (PostS.lft er p).imp fun v H1 ⟨h1, S1, d, e1, g1, r1, hr1, er1, p1⟩ => by
    subst e1; exact p1.nx (er1.set r1 i) hr1⟩
/-! ### targets -/
theorem wkG {tgt : Expr} {g g' : TG} (h : PG X tgt g) (w : ∀ v σ H Q, g' v σ H Q → g v σ H Q) : PG X tgt g' := ⟨fun pins s σ H v u Q I r q => h.run pins s σ H v u Q I r (w v σ H Q q)⟩
theorem wkGs {tgt : List Expr} {g g' : TGs} (h : PGs X tgt g) (w : ∀ v σ H Q, g' v σ H Q → g v σ H Q) : PGs X tgt g' := ⟨fun pins s σ H v u Q I r q => h.run pins s σ H v u Q I r (w v σ H Q q)⟩
theorem PGor {tgt : Expr} {g g' : TG} (h : PG X tgt g) (h' : PG X tgt g') : PG X tgt (fun v σ H Q => g v σ H Q ∨ g' v σ H Q) :=
  ⟨fun pins s σ H v u Q I r q => q.elim (h.run pins s σ H v u Q I r) (h'.run pins s σ H v u Q I r)⟩
theorem g_name {i : Nat} {x : Str} (hN : X.N.Nodup) (hi : X.N[i]? = some x) (hx : Loc X.env.scope x) (hf : X.fn x = true ∨ X.env.scope.names.lookup x = some .local := by first | exact .inl rfl | exact .inr rfl | assumption) : GI X T (.Name x pos) (.name i) :=
  wkG (pg_name hN hi hx hf) fun v σ H Q ⟨h, S, ε, d, e, er, hr, r, ε', q, k⟩ => by
    simp only [put, Option.some.injEq] at q
    subst q
    refine k _ (er.set r i) ⟨by simp, fun j hj => ?_⟩
    exact List.getElem?_set_ne (fun e => hj (by simp [slotsT, e]))
theorem g_nil : GsI X T [] [] := wkGs pgs_nil fun v σ H Q ⟨h, S, ε, ds, e, er, hr, r, ε', q, k⟩ => by
  cases r with
  | nil => simp only [puts, Option.some.injEq] at q; subst q; exact ⟨rfl, k _ er (Off.refl _ _)⟩
  | cons _ _ => simp [puts] at q
theorem g_cons {t1 : Tg} {ts : List Tg} (h1 : GI X T a t1) (h2 : GsI X T es ts) (hs : (assignEach (a :: es) X.env).map (·.2) = assign a X.env :: (assignEach es X.env).map (·.2) := by rfl) : GsI X T (a :: es) (t1 :: ts) :=
  wkGs (pgs_cons h1 h2 hs) fun v σ H Q ⟨h, S, ε, ds, e, er, hr, r, ε', q, k⟩ => by
    cases r with
    | nil => simp [puts] at q
    | @cons v vs d ds r1 r2 =>
      simp only [puts] at q
      split at q
      · rename_i ε1 q1
        exact ⟨v, vs, rfl, h, S, ε, d, e, er, hr, r1, ε1, q1, fun σ1 er1 o1 => ⟨h, S, ε1, ds, e, er1, hr, r2, ε', q, fun σ' er' o' => k σ' er' (o1.trans o')⟩⟩
      · cases q
theorem g_tup {k : Nat} {ts : List Tg} {n : Nat} (hc : X.calm = true) (h : GsI X T es ts) (hl : ts.length = n := by rfl)
    (hn : (assignEach es X.env).length = n := by rfl) (hst : (assignEach es X.env).findIdx? (·.1) = none := by rfl) : GI X T (.Tuple es k pos) (.tup ts) :=
  wkG (PGor (pg_tup hc h hn hst) (pg_lst hc h hn hst)) fun v σ H Q ⟨h, S, ε, d, e, er, hr, r, ε', q, k⟩ => by
    have len : ∀ (ts : List Tg) (ds : List Da) (ε ε' : Env), puts ts ds ε = some ε' → ds.length = ts.length := fun ts => by
      induction ts with
      | nil => intro ds ε ε' q; cases ds <;> simp [puts] at q ⊢
      | cons t ts ih =>
        intro ds ε ε' q
        cases ds with
        | nil => simp [puts] at q
        | cons d ds =>
          simp only [puts] at q
          split at q
          · rw [List.length_cons, List.length_cons, ih _ _ _ q]
          · cases q
    cases d with
    | tup ds =>
      simp only [put] at q
      cases r with
      | tup s rs => exact .inl ⟨_, _, rfl, by subst e; exact s.sq, by rw [rs.length, len _ _ _ _ q, hl], h, S, ε, ds, e, er, hr, rs, ε', q, k⟩
    | lst ds =>
      simp only [put] at q
      cases r with
      | lst s fr rs => exact .inr ⟨_, _, rfl, by subst e; exact SqL.of s, by rw [rs.length, len _ _ _ _ q, hl], h, S, ε, ds, e, er, hr, rs, ε', q, k⟩
    | _ => simp [put] at q
theorem s_asg {tgt : Expr} {g : Tg} (ha : EI X T W a f) (hg : GI X T tgt g) (hs : swapsWithSole [tgt] a pos.line X.env = pure false := by rfl) (hw : swappedStores [tgt] a X.env = pure none := by rfl)
    (h1 : (assignEach [tgt] X.env).map (·.2) = [assign tgt X.env] := by rfl) : SI X T W (.Assign [tgt] a pos) (sAsg g f) :=
  wkS (ps_asg ha hg hs hw h1) fun D σ H ⟨h, S, ε, e, er, hr, p⟩ => ⟨h, S, ε, e, er, hr, (PostS.lft er p).imp fun v H1 ⟨h1, S1, d, e1, g1, r1, hr1, er1, p1⟩ => by
    cases q : put g d ε with
    | none => simp only [q] at p1; exact p1.elim
    | some ε' => simp only [q] at p1; exact ⟨h1, S1, ε, d, e1, er1, hr1, r1, ε', q, fun σ' er' _ => by subst e1; exact p1.nx er' hr1⟩⟩
/-- a, b = e1, e2 -/
def sPar (i j : Nat) (a : Es) : Sm := fun ε S => lft (a ε S) ε fun ds S => match ds with
  | [x, y] => .nx ((ε.set i (some x)).set j (some y)) S
  | _ => .bad
theorem s_par {i j : Nat} {x y : Str} {fs : Es} {px py pt : Pos} {kt k2 pt2} (hc : X.calm = true) (hN : X.N.Nodup) (hi : X.N[i]? = some x) (hj : X.N[j]? = some y) (hij : i ≠ j)
    (hx : X.env.scope.names.lookup x = some .local) (hy : X.env.scope.names.lookup y = some .local) (ha : AI X T W [a, b] fs)
    (hw : swappedStores [.Tuple [.Name x px, .Name y py] kt pt] (.Tuple [a, b] k2 pt2) X.env = pure (some [x, y]))
    (hs : swapsWithSole [.Tuple [.Name x px, .Name y py] kt pt] (.Tuple [a, b] k2 pt2) pos.line X.env = pure false := by rfl) :
    SI X T W (.Assign [.Tuple [.Name x px, .Name y py] kt pt] (.Tuple [a, b] k2 pt2) pos) (sPar i j fs) :=
  wkS (ps_par hc hN hi hj hij hx hy ha hw hs) fun D σ H ⟨h, S, ε, e, er, hr, p⟩ => ⟨h, S, ε, e, er, hr, (PostS.lft er p).imp fun v H1 ⟨h1, S1, d, e1, g1, r1, hr1, er1, p1⟩ => by
    cases r1 with
    | nil => exact (show False from p1).elim
    | cons q1 r1 =>
      cases r1 with
      | nil => exact (show False from p1).elim
      | cons q2 r1 =>
        cases r1 with
        | cons _ _ => exact (show False from p1).elim
        | nil => subst e1; exact ⟨_, _, rfl, p1.nx ((er1.set q1 i).set q2 j) hr1⟩⟩
/-! ### x op= e -/
def sAug (i : Nat) (g2 : Da → Da → Sto → Option (Da × Sto)) (a : E) : Sm := fun ε S => match ε[i]? with
  | some (some d) => if isExv d then .bad else lft (a ε S) ε fun y S => match g2 d y S with
    | some (z, S) => .nx (ε.set i (some z)) S
    | none => .bad
  | _ => .bad
theorem s_aug {i : Nat} {x : Str} {op : Operator} {g2 : Da → Da → Sto → Option (Da × Sto)} {pos' : Pos} (hN : X.N.Nodup) (hi : X.N[i]? = some x) (hx : Loc X.env.scope x) (ha : EI X T W a f) (ho : OpR X (inplaceOp op) (rD2 X.K T g2))
    (hf : X.fn x = true ∨ X.env.scope.names.lookup x = some .local := by first | exact .inl rfl | exact .inr rfl | assumption) : SI X T W (.AugAssign (.Name x pos') op a pos) (sAug i g2 f) :=
  wkS (ps_aug hN hi hx ha ho hf) fun D σ H ⟨h, S, ε, e, er, hr, p⟩ => by
    unfold sAug at p
    split at p
    · rename_i d q
      rcases er.2 i d q with ⟨nx, v, e1, rv⟩ | ⟨_, _, _, c, fs, e1, _⟩
      · rw [nx, if_neg Bool.false_ne_true] at p
        refine ⟨v, e1, h, S, ε, e, er, hr, (PostS.lft er p).imp fun y H1 ⟨h1, S1, dy, e1, g1, r1, hr1, er1, p1⟩ => ?_⟩
        refine ⟨h1, S1, d, dy, e1, hr1, rv.mono g1, r1, ?_⟩
        cases z : g2 d dy S1 with
        | none => simp only [z] at p1; exact p1.elim
        | some zz =>
          simp only [z] at p1
          exact fun v2 h2 g2 r2 hr2 => (PostS.grow g2 p1).nx ((er1.mono g2).set r2 i) hr2
      · subst e1
        rw [if_pos (by rfl)] at p
        exact p.elim
    · exact p.elim
end
end G

namespace G
open PySem PySem.Spec PyProof.Rows L2

/-! ## what is walked -/
def ItR (K : PySem.W.Frag) (T : Tab) (h : Hv) (J : It) (ds : List Da) : Prop :=
  (∀ i h2 S, Ext h h2 → HeapR K T h2 S → i < ds.length → J.go i h2.H) ∧
  (∀ i h2 S, Ext h h2 → HeapR K T h2 S → ds.length ≤ i → J.stop i h2.H) ∧
  (∀ (i : Nat) h2 S x H', Ext h h2 → HeapR K T h2 S → i < ds.length → J.yld i h2.H x H' → ∃ h3 d, h3.H = H' ∧ Grow h2 h3 ∧ HeapR K T h3 S ∧ ds[i]? = some d ∧ RV K T h3 x d)
abbrev Ie := Env → Sto → Rs (List Da)
abbrev II (X : Cx) (T : Tab) (W : WX) (tg e : Expr) (f : Ie) : Prop := PI X tg e (tG X.K T W (ItR X.K T) f)
theorem wkI {X : Cx} {tg e : Expr} {t t' : TI} (h : PI X tg e t) (w : ∀ σ H Q, t' σ H Q → t σ H Q) : PI X tg e t' := ⟨fun pins s σ H Q I q => h.run pins s σ H Q I (w σ H Q q)⟩
theorem PIor {X : Cx} {tg e : Expr} {t t' : TI} (h : PI X tg e t) (h' : PI X tg e t') : PI X tg e (fun σ H R => t σ H R ∨ t' σ H R) :=
  ⟨fun pins s σ H Q I q => q.elim (h.run pins s σ H Q I) (h'.run pins s σ H Q I)⟩
section
variable {K : PySem.W.Frag} {T : Tab} {h : Hv}
theorem itr_lst {a : Addr} {xs : List V} {ds : List Da} (e : h.H a = some (.lst xs)) (f : h.free a) (r : RVs K T h xs ds) : ItR K T h (Itl K a) ds := by
  refine ⟨fun i h2 S g hr hi => ?_, fun i h2 S g hr hi => ?_, fun i h2 S x H' g hr hi y => ?_⟩
  · obtain ⟨e2, _⟩ := g.keep _ _ e f
    obtain ⟨v, hv, _⟩ := r.get (i := i) (d := ds[i]) (by simp [hi])
    exact ⟨xs, v, SqL.of e2, hv⟩
  · obtain ⟨e2, _⟩ := g.keep _ _ e f
    exact ⟨xs, SqL.of e2, by rw [r.length]; exact hi⟩
  · obtain ⟨e2, _⟩ := g.keep _ _ e f
    obtain ⟨e3, y⟩ := y
    subst e3
    obtain ⟨d, hd, rv⟩ := r.get' (y xs (SqL.of e2))
    exact ⟨h2, d, rfl, Grow.refl h2, hr, hd, rv.mono g⟩
theorem itr_tup {a : Addr} {xs : List V} {ds : List Da} (s : ST K h a xs) (r : RVs K T h xs ds) : ItR K T h (Itt K a) ds := by
  refine ⟨fun i h2 S g hr hi => ?_, fun i h2 S g hr hi => ?_, fun i h2 S x H' g hr hi y => ?_⟩
  · obtain ⟨v, hv, _⟩ := r.get (i := i) (d := ds[i]) (by simp [hi])
    exact ⟨xs, v, (s.mono g).sq, hv⟩
  · exact ⟨xs, (s.mono g).sq, by rw [r.length]; exact hi⟩
  · obtain ⟨e3, y⟩ := y
    subst e3
    obtain ⟨d, hd, rv⟩ := r.get' (y xs (s.mono g).sq)
    exact ⟨h2, d, rfl, Grow.refl h2, hr, hd, rv.mono g⟩
theorem itr_rng (lo : Int) (n : Nat) : ItR K T h (Itr lo n) ((List.range n).map fun i => Da.int (lo + (i : Nat))) := by
  refine ⟨fun i h2 S g hr hi => (show i < n by simpa using hi), fun i h2 S g hr hi => (show n ≤ i by simpa using hi), fun i h2 S x H' g hr hi y => ?_⟩
  · obtain ⟨e3, y⟩ := y
    subst e3; subst y
    have hi' : i < n := by simpa using hi
    exact ⟨h2, .int (lo + i), rfl, Grow.refl h2, hr, by simp [hi'], .int _⟩
theorem itr_str (x : Str) : ItR K T h (Its x) (x.cps.toList.map fun c => Da.str ⟨#[c]⟩) := by
  refine ⟨fun i h2 S g hr hi => (show i < x.cps.size by simpa using hi), fun i h2 S g hr hi => (show x.cps.size ≤ i by simpa using hi), fun i h2 S v H' g hr hi y => ?_⟩
  · obtain ⟨e3, c, hc, y⟩ := y
    subst e3; subst y
    refine ⟨h2, .str ⟨#[c]⟩, rfl, Grow.refl h2, hr, ?_, .str _⟩
    simp [hc]
end
/-- the items of a value -/
def items : Da → Option (List Da)
  | .lst ds => some ds
  | .tup ds => some ds
  | .str x => some (x.cps.toList.map fun c => .str ⟨#[c]⟩)
  | _ => none
def iVal (a : E) : Ie := fun ε S => (a ε S).bind fun x S => match items x with | some ds => .ok ds S | none => .bad
def rng (lo hi : Int) : List Da := (List.range (hi - lo).toNat).map fun i => Da.int (lo + (i : Nat))
noncomputable def iRange1 (a : Es) : Ie := fun ε S => (a ε S).bind fun xs S => match xs with
  | [.int j] => if inW 62 j = true then .ok (rng 0 j) S else .bad
  | _ => .bad
noncomputable def iRange2 (a : Es) : Ie := fun ε S => (a ε S).bind fun xs S => match xs with
  | [.int i, .int j] => if inW 62 i = true ∧ inW 62 j = true then .ok (rng i j) S else .bad
  | _ => .bad
section
variable {X : Cx} {T : Tab} {W : WX} {tg e a b : Expr} {pos p : Pos} {f g : E} {fs : Es}
theorem it_val (ha : EI X T W a f) : II X T W tg a (iVal f) := by
  refine wkI (PIor (pi_list ha) (PIor (pi_tup ha) (pi_str ha))) fun σ H R ⟨h, S, ε, e, er, hr, p⟩ => ?_
  cases q : f ε S with
  | bad => simp only [iVal, q] at p; exact p.elim
  | exc c fs S1 =>
    simp only [iVal, q] at p
    exact .inl ⟨h, S, ε, e, er, hr, by rw [q]; exact p⟩
  | ok d S1 =>
    cases d with
    | lst ds =>
      simp only [iVal, q, Rs.bind, items] at p
      refine .inl ⟨h, S, ε, e, er, hr, ?_⟩
      rw [q]
      intro v h1 g1 r1 hr1
      cases r1 with | lst e1 f1 rs => exact ⟨_, rfl, ⟨_, SqL.of e1⟩, p _ h1 g1 (itr_lst e1 f1 rs) hr1⟩
    | tup ds =>
      simp only [iVal, q, Rs.bind, items] at p
      refine .inr (.inl ⟨h, S, ε, e, er, hr, ?_⟩)
      rw [q]
      intro v h1 g1 r1 hr1
      cases r1 with | tup e1 rs => exact ⟨_, rfl, ⟨_, e1.sq⟩, p _ h1 g1 (itr_tup e1 rs) hr1⟩
    | str x =>
      simp only [iVal, q, Rs.bind, items] at p
      refine .inr (.inr ⟨h, S, ε, e, er, hr, ?_⟩)
      rw [q]
      intro v h1 g1 r1 hr1
      cases r1
      exact ⟨x, rfl, p _ h1 g1 (itr_str x) hr1⟩
    | _ => simp only [iVal, q, Rs.bind, items] at p; exact p.elim
theorem it_range1 (hg : Gl X "range") (hm : X.mg "range" = none) (ha : AI X T W [a] fs) (hs : starEach [a] X.env = [(false, eval a X.env)] := by rfl) : II X T W tg (.Call (.Name "range" p) [a] [] pos) (iRange1 fs) :=
  wkI (pi_range1 hg hm ha hs) fun σ H R ⟨h, S, ε, e, er, hr, p⟩ => ⟨h, S, ε, e, er, hr, by
    unfold iRange1 at p
    refine (Post.bind p).imp fun vs H1 ⟨h1, S1, ds, e1, g1, r1, hr1, p1⟩ => ?_
    split at p1
    · rename_i j
      cases r1 with | cons q1 q2 =>
      cases q2; cases q1
      split at p1
      · rename_i hj
        subst e1
        refine ⟨j, rfl, (inW_to hj).1, (inW_to hj).2, Post.ret p1 ?_ hr1⟩
        have := itr_rng (K := X.K) (T := T) (h := h1) 0 j.toNat
        unfold rng
        rw [Int.sub_zero]
        exact this
      · exact p1.elim
    · exact p1.elim⟩
theorem it_range2 (hg : Gl X "range") (hm : X.mg "range" = none) (ha : AI X T W [a, b] fs) (hs : starEach [a, b] X.env = [(false, eval a X.env), (false, eval b X.env)] := by rfl) (hs2 : starEach [b] X.env = [(false, eval b X.env)] := by rfl) : II X T W tg (.Call (.Name "range" p) [a, b] [] pos) (iRange2 fs) :=
  wkI (pi_range2 hg hm ha hs hs2) fun σ H R ⟨h, S, ε, e, er, hr, p⟩ => ⟨h, S, ε, e, er, hr, by
    unfold iRange2 at p
    refine (Post.bind p).imp fun vs H1 ⟨h1, S1, ds, e1, g1, r1, hr1, p1⟩ => ?_
    split at p1
    · rename_i i j
      cases r1 with | cons q1 q2 =>
      cases q2 with | cons q2 q3 =>
      cases q3; cases q2; cases q1
      split at p1
      · rename_i hj
        subst e1
        exact ⟨i, j, rfl, ⟨(inW_to hj.1).1, (inW_to hj.1).2, (inW_to hj.2).1, (inW_to hj.2).2⟩, Post.ret p1 (itr_rng (K := X.K) (T := T) (h := h1) i (j - i).toNat) hr1⟩
      · exact p1.elim
    · exact p1.elim⟩
end

/-! ## for -/
def forL (g : Tg) (b : Sm) : List Da → Env → Sto → Fl
  | [], ε, S => .nx ε S
  | d :: ds, ε, S => match put g d ε with
    | none => .bad
    | some ε => match b ε S with
      | .nx ε S => forL g b ds ε S
      | .ct ε S => forL g b ds ε S
      | .bk ε S => .nx ε S
      | r => r
def sFor (it : Ie) (g : Tg) (b : Sm) : Sm := fun ε S => lft (it ε S) ε fun ds S => forL g b ds ε S
section
variable {X : Cx} {T : Tab} {W : WX} {tg e : Expr} {pos : Pos} {it : Ie} {g : Tg} {body : List Stmt} {b : Sm}
theorem s_for (po : PassesOwn (model X.prog X.w) X.A X.env X.xe) (hc : X.calm = true) (hi : II X T W tg e it) (hg : GI X T tg g) (hb : SsI X T W body b) (hs : ∀ x, foldedSetIterable e X.env x = pure x := by intro _; rfl) :
    SI X T W (.For tg e body [] pos) (sFor it g b) := by
  refine wkS (ps_for po hc hi hg hb hs) fun D σ H ⟨h, S, ε, e, er, hr, p⟩ => ⟨h, S, ε, e, er, hr, (PostS.lft er p).imp fun J H1 ⟨h1, S1, ds, e1, g1, r1, hr1, er1, p1⟩ => ?_⟩
  refine ⟨fun i m σ' H' => m = ds.length - i ∧ i ≤ ds.length ∧ ∃ h2 S2 ε2, h2.H = H' ∧ Grow h1 h2 ∧ EnvR X.K T h2 σ' ε2 ∧ HeapR X.K T h2 S2 ∧ PostS X.K T W h2 (forL g b (ds.drop i) ε2 S2) D,
    ⟨ds.length, rfl, Nat.zero_le _, h1, S1, ε, e1, Grow.refl h1, er1, hr1, p1⟩, ?_⟩
  rintro i m σ' H' ⟨rfl, hi, h2, S2, ε2, rfl, g2, er2, hr2, p2⟩
  by_cases hlt : i < ds.length
  · refine .inr ⟨r1.1 i h2 S2 g2.ext hr2 hlt, fun σ'' H'' => ∃ h3 S3 ε3, h3.H = H'' ∧ Grow h1 h3 ∧ EnvR X.K T h3 σ'' ε3 ∧ HeapR X.K T h3 S3 ∧ PostS X.K T W h3 (forL g b (ds.drop (i + 1)) ε3 S3) D,
      fun σ'' H'' n => ⟨ds.length - (i + 1), by omega, rfl, hlt, n⟩, fun x H3 y => ?_⟩
    obtain ⟨h3, d, rfl, g3, hr3, hd, rv⟩ := r1.2.2 i h2 S2 x H3 g2.ext hr2 hlt y
    have ed : ds.drop i = d :: ds.drop (i + 1) := by
      rw [List.drop_eq_getElem_cons hlt]
      rw [List.getElem?_eq_getElem hlt] at hd
      cases hd; rfl
    rw [ed] at p2
    unfold forL at p2
    cases q : put g d ε2 with
    | none => simp only [q] at p2; exact p2.elim
    | some ε3 =>
      simp only [q] at p2
      refine ⟨h3, S2, ε2, d, rfl, er2.mono g3.ext, hr3, rv, ε3, q, fun σ3 er3 _ => ⟨h3, S2, ε3, rfl, er3, hr3, ?_⟩⟩
      have p3 := PostS.grow g3 p2
      cases z : b ε3 S2 with
      | nx ε4 S4 => rw [z] at p3; exact fun σ4 h4 g4 er4 hr4 => ⟨h4, S4, ε4, rfl, (g2.trans g3).trans g4, er4, hr4, PostS.grow g4 p3⟩
      | ct ε4 S4 => rw [z] at p3; exact fun σ4 h4 g4 er4 hr4 => ⟨h4, S4, ε4, rfl, (g2.trans g3).trans g4, er4, hr4, PostS.grow g4 p3⟩
      | bk ε4 S4 => rw [z] at p3; exact p3
      | rt d4 S4 => rw [z] at p3; exact p3
      | ex c fs ε4 S4 => rw [z] at p3; exact p3
      | bad => rw [z] at p3; exact p3
  · have ei : i = ds.length := by omega
    subst ei
    rw [List.drop_length] at p2
    exact .inl ⟨r1.2.1 _ h2 S2 g2.ext hr2 (Nat.le_refl _), p2.nx er2 hr2⟩
end

/-! ## while -/
def whileN (t : TeE) (b : Sm) : Nat → Env → Sto → Fl
  | 0, _, _ => .bad
  | n + 1, ε, S => lft (t ε S) ε fun c S => if c then (match b ε S with
      | .nx ε S => whileN t b n ε S
      | .ct ε S => whileN t b n ε S
      | .bk ε S => .nx ε S
      | r => r) else .nx ε S
open Classical in
noncomputable def sWhile (t : TeE) (b : Sm) : Sm := fun ε S => if h : ∃ n, whileN t b n ε S ≠ .bad then whileN t b (Classical.choose h) ε S else .bad
theorem whileN_mono {t : TeE} {b : Sm} : ∀ {n m : Nat} {ε : Env} {S : Sto}, n ≤ m → whileN t b n ε S ≠ .bad → whileN t b m ε S = whileN t b n ε S
  | 0, _, _, _, _, h => absurd rfl h
  | n + 1, 0, _, _, hl, _ => by omega
  | n + 1, m + 1, ε, S, hl, h => by
    unfold whileN at h ⊢
    cases q : t ε S with
    | bad => rfl
    | exc c fs S1 => rfl
    | ok c S1 =>
      simp only [q, lft] at h ⊢
      cases c with
      | false => rfl
      | true =>
        simp only [if_true] at h ⊢
        cases z : b ε S1 with
        | nx ε2 S2 => simp only [z] at h ⊢; exact whileN_mono (by omega) h
        | ct ε2 S2 => simp only [z] at h ⊢; exact whileN_mono (by omega) h
        | _ => rfl
theorem sWhile_of {t : TeE} {b : Sm} {n : Nat} {ε : Env} {S : Sto} (h : whileN t b n ε S ≠ .bad) : sWhile t b ε S = whileN t b n ε S := by
  have hx : ∃ n, whileN t b n ε S ≠ .bad := ⟨n, h⟩
  unfold sWhile
  rw [dif_pos hx]
  have h2 := Classical.choose_spec hx
  rcases Nat.le_total n (Classical.choose hx) with l | l
  · exact whileN_mono l h
  · exact (whileN_mono l h2).symm
section
variable {X : Cx} {T : Tab} {W : WX} {c : Expr} {pos : Pos} {t : TeE} {body : List Stmt} {b : Sm}
theorem s_while (po : PassesOwn (model X.prog X.w) X.A X.env X.xe) (hc : TI' X T W c t) (hb : SsI X T W body b) : SI X T W (.While c body [] pos) (sWhile t b) := by
  refine wkS (ps_while po hc hb) fun D σ H ⟨h, S, ε, e, er, hr, p⟩ => ?_
  unfold sWhile at p
  split at p
  · rename_i hx
    refine ⟨fun m σ' H' => ∃ h2 S2 ε2, h2.H = H' ∧ EnvR X.K T h2 σ' ε2 ∧ HeapR X.K T h2 S2 ∧ PostS X.K T W h2 (whileN t b m ε2 S2) D, ⟨_, h, S, ε, e, er, hr, p⟩, ?_⟩
    rintro m σ' H' ⟨h2, S2, ε2, rfl, er2, hr2, p2⟩
    cases m with
    | zero => exact p2.elim
    | succ m =>
      unfold whileN at p2
      refine ⟨h2, S2, ε2, rfl, er2, hr2, (PostS.lft er2 p2).imp fun k H3 ⟨h3, S3, k', e3, g3, r3, hr3, er3, p3⟩ => ?_⟩
      have r3' : k = k' := r3
      subst r3'
      cases k with
      | false => rw [if_neg (by decide)]; subst e3; exact p3.nx er3 hr3
      | true =>
        rw [if_pos rfl]
        simp only [if_true] at p3
        refine ⟨fun σ4 H4 => ∃ h2 S2 ε2, h2.H = H4 ∧ EnvR X.K T h2 σ4 ε2 ∧ HeapR X.K T h2 S2 ∧ PostS X.K T W h2 (whileN t b m ε2 S2) D, fun σ4 H4 n => ⟨m, Nat.lt_succ_self _, n⟩, h3, S3, ε2, e3, er3, hr3, ?_⟩
        cases z : b ε2 S3 with
        | nx ε4 S4 => simp only [z] at p3; exact fun σ4 h4 g4 er4 hr4 => ⟨h4, S4, ε4, rfl, er4, hr4, PostS.grow g4 p3⟩
        | ct ε4 S4 => simp only [z] at p3; exact fun σ4 h4 g4 er4 hr4 => ⟨h4, S4, ε4, rfl, er4, hr4, PostS.grow g4 p3⟩
        | bk ε4 S4 => simp only [z] at p3; exact p3
        | rt d4 S4 => simp only [z] at p3; exact p3
        | ex c fs ε4 S4 => simp only [z] at p3; exact p3
        | bad => simp only [z] at p3; exact p3
  · exact p.elim
end

/-! ## comprehensions -/
def Rs.bindN {α β : Type} (r : Rs α) (k : α → Sto → Rs β) : Rs β := match r with
  | .ok a S => k a S
  | _ => .bad
def wipeE (ε : Env) : List Nat → Env
  | [] => ε
  | v :: vs => (wipeE ε vs).set v none
def compL (g : Tg) (t : TeE) (a : E) (ε : Env) : List Da → Sto → Rs (List Da)
  | [], S => .ok [] S
  | d :: ds, S => match put g d ε with
    | none => .bad
    | some ε1 => (t ε1 S).bindN fun c S => if c then (a ε1 S).bindN fun x S => (compL g t a ε ds S).bindN fun xs S => .ok (x :: xs) S else compL g t a ε ds S
def tYesD : TeE := fun _ S => .ok true S
/-- [a for g in it if t]: a list as a value -/
def eComp (own : List Nat) (it : Ie) (g : Tg) (t : TeE) (a : E) : E := fun ε S => (it ε S).bind fun ds S => if ds.length ≤ sizeLine then (compL g t a (wipeE ε own) ds S).bindN fun xs S => .ok (.lst xs) S else .bad
/-- the same, a list in the store -/
def eCompNew (own : List Nat) (it : Ie) (g : Tg) (t : TeE) (a : E) : E := fun ε S => (it ε S).bind fun ds S => if ds.length ≤ sizeLine then (compL g t a (wipeE ε own) ds S).bindN fun xs S => .ok (.ref S.length) (S ++ [.lst xs]) else .bad
abbrev wNo : WX := fun _ _ _ _ => False
abbrev QI (X : Cx) (T : Tab) (W : WX) (ifs : List Expr) (t : TeE) : Prop := PTs X ifs (tG X.K T W REq t)
section
variable {K : PySem.W.Frag} {T : Tab} {h h' : Hv}
theorem EnvR.wipe {σ : St} {ε : Env} (er : EnvR K T h σ ε) : ∀ own : List Nat, EnvR K T h (wipe σ own) (wipeE ε own)
  | [] => er
  | v :: vs => (EnvR.wipe er vs).unset v none
theorem Off.wipe {l own : List Nat} {σ σ' : St} (o : Off l σ σ') (hl : ∀ j ∈ l, j ∈ own) : L2.wipe σ' own = L2.wipe σ own := by
  have gen : ∀ (own : List Nat) (j : Nat), (L2.wipe σ' own)[j]? = if j ∈ own then (if j < σ.length then some none else none) else σ'[j]? := by
    intro own j
    induction own with
    | nil => simp [L2.wipe]
    | cons v vs ih =>
      show ((L2.wipe σ' vs).set v none)[j]? = _
      by_cases hv : v = j
      · subst hv
        rw [List.getElem?_set]
        simp [wipe_length, o.1]
      · rw [List.getElem?_set_ne hv, ih]
        simp [Ne.symm hv]
  have gen2 : ∀ (own : List Nat) (j : Nat), (L2.wipe σ own)[j]? = if j ∈ own then (if j < σ.length then some none else none) else σ[j]? := by
    intro own j
    induction own with
    | nil => simp [L2.wipe]
    | cons v vs ih =>
      show ((L2.wipe σ vs).set v none)[j]? = _
      by_cases hv : v = j
      · subst hv
        rw [List.getElem?_set]
        simp [wipe_length]
      · rw [List.getElem?_set_ne hv, ih]
        simp [Ne.symm hv]
  refine List.ext_getElem? fun j => ?_
  rw [gen, gen2]
  by_cases hj : j ∈ own
  · simp [hj]
  · rw [if_neg hj, if_neg hj]
    exact o.2 j fun z => hj (hl j z)
/-- an address is hidden: nothing is known of it -/
def hide (h : Hv) (D : Addr) (o : HO) : Hv := { m := h.m, B := D :: h.B, H := upd h.H D o }
theorem ext_hide {D : Addr} (hD : h.H D = none) (o : HO) : Ext h (hide h D o) where
  slot := fun _ _ e => .inl e
  keep := fun a u e f => by
    have ne := ne_of_none e hD
    exact ⟨by show upd h.H D o a = _; rw [upd_ne ne]; exact e, f.1, fun z => (List.mem_cons.mp z).elim ne f.2⟩
theorem HeapR.hide {S : Sto} {D : Addr} (r : HeapR K T h S) (hD : h.H D = none) (o : HO) : HeapR K T (hide h D o) S where
  len := r.len
  nd := r.nd
  ob := fun n a ob e s => by
    have x := r.ob n a ob e s
    obtain ⟨u, q⟩ := x.some
    exact x.mono (ext_hide hD o) (upd_ne (ne_of_none q hD))
  gone := r.gone
  hid := fun a e => by
    rcases List.mem_cons.mp e with e | e
    · subst e; exact ⟨(r.fresh hD).1, by show upd h.H a o a ≠ none; rw [upd_same]; exact fun z => nomatch z⟩
    · obtain ⟨h1, h2⟩ := r.hid a e
      exact ⟨h1, by show upd h.H D o a ≠ none; rw [upd_ne (fun z => by subst z; exact h2 hD)]; exact h2⟩
/-- a hidden object changes -/
theorem ext_hidden {D : Addr} (hD : D ∈ h.B) (o : HO) : Ext h { h with H := upd h.H D o } where
  slot := fun _ _ e => .inl e
  keep := fun a u e f => ⟨by
    show upd h.H D o a = _
    rw [upd_ne (fun z => by subst z; exact f.2 hD)]; exact e, f⟩
theorem HeapR.hidden {S : Sto} {D : Addr} (r : HeapR K T h S) (hD : D ∈ h.B) (o : HO) : HeapR K T { h with H := upd h.H D o } S where
  len := r.len
  nd := r.nd
  ob := fun n a ob e s => (r.ob n a ob e s).mono (ext_hidden hD o) (upd_ne (fun z => by subst z; exact (r.hid a hD).1 (List.mem_of_getElem? e)))
  gone := r.gone
  hid := fun a e => ⟨(r.hid a e).1, by
    show upd h.H D o a ≠ none
    by_cases z : a = D
    · subst z; rw [upd_same]; exact fun z => nomatch z
    · rw [upd_ne z]; exact (r.hid a e).2⟩
/-- hidden no more -/
theorem ext_show {D : Addr} {B : List Addr} (hB : h.B = D :: B) : Ext h { h with B := B } where
  slot := fun _ _ e => .inl e
  keep := fun a u e f => ⟨e, f.1, fun z => f.2 (by rw [hB]; exact List.mem_cons_of_mem _ z)⟩
theorem HeapR.shown {S : Sto} {D : Addr} {B : List Addr} (r : HeapR K T h S) (hB : h.B = D :: B) : HeapR K T { h with B := B } S where
  len := r.len
  nd := r.nd
  ob := fun n a ob e s => (r.ob n a ob e s).mono (ext_show hB) rfl
  gone := r.gone
  hid := fun a e => r.hid a (by rw [hB]; exact List.mem_cons_of_mem _ e)
end
section
variable {X : Cx} {T : Tab} {W : WX} {tg iter elt : Expr} {ifs : List Expr} {pos : Pos} {it : Ie} {g : Tg} {t : TeE} {a : E} {scope : Scope} {own : List (Str × Nat)}
theorem q_nil {X : Cx} {W : WX} : QI X T W [] tYesD := ⟨fun pins s σ H Q I ⟨h, S, ε, e, er, hr, p⟩ => pts_nil.run pins s σ H Q I (by subst e; exact Post.ret p rfl hr)⟩
theorem q_one {X : Cx} {W : WX} {c : Expr} (ht : TI' X T W c t) : QI X T W [c] t := pts_one ht
/-- the turns of a comprehension -/
theorem comp_core {h1 : Hv} {σ : St} {ε : Env} {J : It} {ds : List Da} {S1 : Sto} {Q : VK} (r1 : ItR X.K T h1 J ds) (hr1 : HeapR X.K T h1 S1) (er1 : EnvR X.K T h1 σ ε) (hl : ds.length ≤ sizeLine)
    (hown : ∀ j ∈ slotsT g, j ∈ own.map (·.2))
    (p : ∃ xs S2, compL g t a (wipeE ε (own.map (·.2))) ds S1 = .ok xs S2 ∧ ∀ (h2 : Hv) (D : Addr) (acc : List V), Grow h1 h2 → HeapR X.K T h2 S2 → h1.H D = none → h2.H D = some (.lst acc) → h2.free D → RVs X.K T h2 acc xs → Q (.ref D) h2.H) :
    ∀ D, h1.H D = none → ∃ W' : Nat → Nat → Hp → Prop, (∃ m, W' 0 m (upd h1.H D (.lst []))) ∧ ∀ i m H, W' i m H →
      (J.stop i H ∧ Q (.ref D) H) ∨ (J.go i H ∧ ∃ Nx : Hp → Prop, (∀ H', Nx H' → ∃ m', m' < m ∧ W' (i + 1) m' H') ∧ ∀ x H', J.yld i H x H' → tgD X.K T g x (wipe σ (own.map (·.2))) H' fun σ2 H2 => wipe σ2 (own.map (·.2)) = wipe σ (own.map (·.2)) ∧ tG X.K T wNo REq t σ2 H2 fun b H3 =>
        if b = true then tG X.K T wNo (RV X.K T) a σ2 H3 fun y H4 => ∃ acc, H4 D = some (.lst acc) ∧ acc.length < sizeLine ∧ Nx (upd H4 D (.lst (acc ++ [y]))) else Nx H3) := by
  intro D hD
  obtain ⟨xs, Se, hcomp, fin⟩ := p
  -- the state between two turns
  refine ⟨fun i m H' => m = ds.length - i ∧ i ≤ ds.length ∧ ∃ h2 S2 acc accD xs2, h2.H = H' ∧ h2.B = D :: h1.B ∧ Ext h1 h2 ∧ (∀ b o, h1.H b = some o → some b ∉ h1.m → h2.H b = some o ∧ some b ∉ h2.m) ∧ HeapR X.K T h2 S2 ∧
      h2.H D = some (.lst acc) ∧ RVs X.K T h2 acc accD ∧ acc.length ≤ i ∧ xs = accD ++ xs2 ∧ compL g t a (wipeE ε (own.map (·.2))) (ds.drop i) S2 = .ok xs2 Se,
    ⟨ds.length, rfl, Nat.zero_le _, hide h1 D (.lst []), S1, [], [], xs, rfl, rfl, ext_hide hD _, fun b o e n => ?_, hr1.hide hD _, upd_same, .nil, Nat.le_refl _, rfl, hcomp⟩, ?_⟩
  · exact ⟨by show upd h1.H D _ b = _; rw [upd_ne (ne_of_none e hD)]; exact e, n⟩
  rintro i m H' ⟨rfl, hi, h2, S2, acc, accD, xs2, rfl, hB, x2, k2, hr2, hDa, ra, la, exs, hc⟩
  by_cases hlt : i < ds.length
  · refine .inr ⟨r1.1 i h2 S2 x2 hr2 hlt, fun H'' => ∃ h2 S2 acc accD xs2, h2.H = H'' ∧ h2.B = D :: h1.B ∧ Ext h1 h2 ∧ (∀ b o, h1.H b = some o → some b ∉ h1.m → h2.H b = some o ∧ some b ∉ h2.m) ∧ HeapR X.K T h2 S2 ∧
        h2.H D = some (.lst acc) ∧ RVs X.K T h2 acc accD ∧ acc.length ≤ i + 1 ∧ xs = accD ++ xs2 ∧ compL g t a (wipeE ε (own.map (·.2))) (ds.drop (i + 1)) S2 = .ok xs2 Se,
      fun H'' n => ⟨ds.length - (i + 1), by omega, rfl, hlt, n⟩, fun x H3 y => ?_⟩
    obtain ⟨h3, d, rfl, g3, hr3, hd, rv⟩ := r1.2.2 i h2 S2 x H3 x2 hr2 hlt y
    have ed : ds.drop i = d :: ds.drop (i + 1) := by
      rw [List.drop_eq_getElem_cons hlt]
      rw [List.getElem?_eq_getElem hlt] at hd
      cases hd; rfl
    rw [ed] at hc
    unfold compL at hc
    have D2 : some D ∉ h2.m := (hr2.hid D (by rw [hB]; exact List.mem_cons_self)).1
    have er3 : EnvR X.K T h3 (wipe σ (own.map (·.2))) (wipeE ε (own.map (·.2))) := ((er1.mono x2).mono g3.ext).wipe _
    cases q : put g d (wipeE ε (own.map (·.2))) with
    | none => simp only [q] at hc; cases hc
    | some ε3 =>
      simp only [q] at hc
      refine ⟨h3, S2, _, d, rfl, er3, hr3, rv, ε3, q, fun σ3 er4 off => ⟨off.wipe hown |>.trans ?_, h3, S2, ε3, rfl, er4, hr3, ?_⟩⟩
      · clear hc q fin exs
        have idem : ∀ (l : List Nat) (v : Nat), (wipe σ l) = wipe σ l := fun _ _ => rfl
        have key : ∀ own : List Nat, wipe (wipe σ own) own = wipe σ own := fun own => by
          refine List.ext_getElem? fun j => ?_
          have gen : ∀ (τ : St) (own : List Nat) (j : Nat), (L2.wipe τ own)[j]? = if j ∈ own then (if j < τ.length then some none else none) else τ[j]? := by
            intro τ own j
            induction own with
            | nil => simp [L2.wipe]
            | cons v vs ih =>
              show ((L2.wipe τ vs).set v none)[j]? = _
              by_cases hv : v = j
              · subst hv
                rw [List.getElem?_set]
                simp [wipe_length]
              · rw [List.getElem?_set_ne hv, ih]
                simp [Ne.symm hv]
          rw [gen, gen, wipe_length]
          by_cases hj : j ∈ own <;> simp [hj]
        exact key _
      · cases z : t ε3 S2 with
        | bad => simp only [z, Rs.bindN] at hc; cases hc
        | exc c fs S3 => simp only [z, Rs.bindN] at hc; cases hc
        | ok b S3 =>
          simp only [z, Rs.bindN] at hc
          intro b' h4 g4 eb hr4
          have eb' : b' = b := eb
          subst eb'
          cases b' with
          | false =>
            simp only [Bool.false_eq_true, if_false] at hc ⊢
            have gg := g3.trans g4
            obtain ⟨e5, _⟩ := gg.keep D _ hDa D2
            exact ⟨h4, S3, acc, accD, xs2, rfl, gg.B.trans hB, x2.trans gg.ext, fun b o e n => let ⟨e1, n1⟩ := k2 b o e n; gg.keep b o e1 n1, hr4, e5, ra.mono gg.ext, by omega, exs, hc⟩
          | true =>
            simp only [if_true] at hc ⊢
            refine ⟨h4, S3, ε3, rfl, er4.mono g4.ext, hr4, ?_⟩
            cases z2 : a ε3 S3 with
            | bad => simp only [z2] at hc; cases hc
            | exc c fs S4 => simp only [z2] at hc; cases hc
            | ok dy S4 =>
              simp only [z2] at hc
              intro y h5 g5 ry hr5
              have gg := (g3.trans g4).trans g5
              obtain ⟨e5, n5⟩ := gg.keep D _ hDa D2
              have D5 : D ∈ h5.B := by rw [gg.B, hB]; exact List.mem_cons_self
              cases z3 : compL g t a (wipeE ε (own.map (·.2))) (ds.drop (i + 1)) S4 with
              | bad => simp only [z3] at hc; cases hc
              | exc c fs S5 => simp only [z3] at hc; cases hc
              | ok xs3 S5 =>
                simp only [z3] at hc
                cases hc
                refine ⟨acc, e5, by omega, { h5 with H := upd h5.H D (.lst (acc ++ [y])) }, S4, acc ++ [y], accD ++ [dy], xs3, rfl, gg.B.trans hB, (x2.trans gg.ext).trans (ext_hidden D5 _), fun b o e n => ?_, hr5.hidden D5 _, upd_same,
                  (((ra.mono gg.ext).mono (ext_hidden D5 _)).snoc (ry.mono (ext_hidden D5 _))), by simp; omega, by rw [exs]; simp, z3⟩
                obtain ⟨e1, n1⟩ := k2 b o e n
                obtain ⟨e6, n6⟩ := gg.keep b o e1 n1
                exact ⟨by show upd h5.H D _ b = _; rw [upd_ne (ne_of_none e hD)]; exact e6, n6⟩
  · have ei : i = ds.length := by omega
    subst ei
    rw [List.drop_length] at hc
    unfold compL at hc
    cases hc
    rw [List.append_nil] at exs
    subst exs
    refine .inl ⟨r1.2.1 _ h2 _ x2 hr2 (Nat.le_refl _), ?_⟩
    have D2 : some D ∉ h2.m := (hr2.hid D (by rw [hB]; exact List.mem_cons_self)).1
    exact fin { h2 with B := h1.B } D acc ⟨rfl, x2.slot, k2⟩ (hr2.shown hB) hD hDa ⟨D2, fun z => (hr1.hid D z).2 hD⟩ (ra.mono (ext_show hB))
theorem i_comp (hc : X.calm = true) (hN : X.N.Nodup) (hi : II X T W tg iter it) (ok : BlkOk X.N X.env.scope scope own)
    (hg : ∀ (s : Shared) (H : Hp) (C : Addr) (cl : List (Str × Addr)) (fp : List Addr), GI (X.blk s H scope (compEnvC scope cl C X.env) fp) T tg g) (ht : ∀ (s : Shared) (H : Hp) (C : Addr) (cl : List (Str × Addr)) (fp : List Addr), QI (X.blk s H scope (compEnvC scope cl C X.env) fp) T wNo ifs t)
    (he : ∀ (s : Shared) (H : Hp) (C : Addr) (cl : List (Str × Addr)) (fp : List Addr), EI (X.blk s H scope (compEnvC scope cl C X.env) fp) T wNo elt a) (hown : ∀ j ∈ slotsT g, j ∈ own.map (·.2) := by decide) (hs : ∀ x, foldedSetIterable iter X.env x = pure x := by intro _; rfl) :
    EI X T W (.ListComp elt [⟨tg, iter, ifs, 0⟩] scope pos) (eComp (own.map (·.2)) it g t a) := by
  refine wkE (pe_lc (g := tgD X.K T g) (tt := tG X.K T wNo REq t) (te := tG X.K T wNo (RV X.K T) a) hc hN hi ok hg ht he hs) fun σ H Q ⟨h, S, ε, e, er, hr, p⟩ => ⟨h, S, ε, e, er, hr, (Post.bind p).imp fun J H1 ⟨h1, S1, ds, e1, g1, r1, hr1, p1⟩ => ?_⟩
  subst e1
  split at p1
  · rename_i hl
    refine comp_core r1 hr1 (er.mono g1.ext) hl hown ?_
    cases z : compL g t a (wipeE ε (own.map (·.2))) ds S1 with
    | bad => rw [z] at p1; exact p1.elim
    | exc c fs S3 => rw [z] at p1; exact p1.elim
    | ok xs S3 =>
      rw [z] at p1
      exact ⟨xs, S3, rfl, fun h2 D acc g2 hr2 _ eD fD ra => p1 (.ref D) h2 g2 (.lst eD fD ra) hr2⟩
  · exact p1.elim
/-- y = [a for g in it if t], in one row -/
theorem s_comp {i : Nat} {y : Str} {py spos : Pos} (hc : X.calm = true) (hN : X.N.Nodup) (hy : X.N[i]? = some y) (hyl : X.env.scope.names.lookup y = some .local)
    (hsw : swapsWith (.ListComp elt [⟨tg, iter, ifs, 0⟩] scope pos) (some (.Name y py)) spos.line X.env = pure true) (hi : II X T W tg iter it) (ok : BlkOk X.N X.env.scope scope own)
    (hg : ∀ (s : Shared) (H : Hp) (C : Addr) (cl : List (Str × Addr)) (fp : List Addr), GI (X.blk s H scope (compEnvC scope cl C X.env) fp) T tg g) (ht : ∀ (s : Shared) (H : Hp) (C : Addr) (cl : List (Str × Addr)) (fp : List Addr), QI (X.blk s H scope (compEnvC scope cl C X.env) fp) T wNo ifs t)
    (he : ∀ (s : Shared) (H : Hp) (C : Addr) (cl : List (Str × Addr)) (fp : List Addr), EI (X.blk s H scope (compEnvC scope cl C X.env) fp) T wNo elt a) (hown : ∀ j ∈ slotsT g, j ∈ own.map (·.2) := by decide) (hs : ∀ x, foldedSetIterable iter X.env x = pure x := by intro _; rfl) :
    SI X T W (.Assign [.Name y py] (.ListComp elt [⟨tg, iter, ifs, 0⟩] scope pos) spos) (sSet i (eComp (own.map (·.2)) it g t a)) := by
  refine wkS (ps_setLc (g := tgD X.K T g) (tt := tG X.K T wNo REq t) (te := tG X.K T wNo (RV X.K T) a) hc hN hy hyl hsw hi ok hg ht he hs) fun D σ H ⟨h, S, ε, e, er, hr, p⟩ => ⟨h, S, ε, e, er, hr, ?_⟩
  have p' := PostS.lft (R := RV X.K T) er p
  refine (Post.bind p').imp fun J H1 ⟨h1, S1, ds, e1, g1, r1, hr1, p1⟩ => ?_
  subst e1
  split at p1
  · rename_i hl
    refine comp_core (Q := fun x H1 => gName i x σ H1 D.nx) (t := t) (a := a) r1 hr1 (er.mono g1.ext) hl hown ?_
    cases z : compL g t a (wipeE ε (own.map (·.2))) ds S1 with
    | bad => rw [z] at p1; exact p1.elim
    | exc c fs S3 => rw [z] at p1; exact p1.elim
    | ok xs S3 =>
      rw [z] at p1
      refine ⟨xs, S3, rfl, fun h2 D' acc g2 hr2 _ eD fD ra => ?_⟩
      obtain ⟨h3, S4, d, e3, g3, r3, hr3, er3, p3⟩ := p1 (.ref D') h2 g2 (.lst eD fD ra) hr2
      show D.nx (σ.set i (some (.ref D'))) h2.H
      rw [← e3]
      exact p3.nx (er3.set r3 i) hr3
  · exact p1.elim
/-! ### the same list, in the store or as a value -/
/-- a list of the store becomes a value -/
def eFrz (a : E) : E := fun ε S => (a ε S).bind fun x S => match x with
  | .ref n => match S[n]? with
    | some (.lst ds) => .ok (.lst ds) (S.set n .gone)
    | _ => .bad
  | d => .ok d S
theorem i_frz {e : Expr} {f : E} (ha : EI X T W e f) : EI X T W e (eFrz f) :=
  wkE ha fun σ H Q ⟨h, S, ε, e, er, hr, p⟩ => ⟨h, S, ε, e, er, hr, by
    have p0 := Post.bind (R := RV X.K T) p
    refine p0.imp fun v H1 ⟨h1, S1, d, e1, g1, r1, hr1, p1⟩ => ?_
    subst e1
    cases r1 with
    | ref e2 q =>
      rename_i n o
      dsimp only at p1
      split at p1
      · rename_i ds e3
        cases o with
        | none => rw [hr1.gone n e2] at e3; cases e3
        | some b =>
          have hv := q b rfl
          subst hv
          obtain ⟨xs, q1, q2⟩ := hr1.ob n b _ e2 e3
          have free : (⟨h1.m.set n none, h1.B, h1.H⟩ : Hv).free b := by
            refine ⟨fun z => ?_, fun z => (hr1.hid b z).1 (List.mem_of_getElem? e2)⟩
            obtain ⟨k, hk⟩ := List.getElem?_of_mem z
            have hk' : (h1.m.set n none)[k]? = some (some b) := hk
            by_cases hkn : k = n
            · subst hkn
              rw [List.getElem?_set_self (List.getElem?_eq_some_iff.mp e2).1] at hk'; cases hk'
            · rw [List.getElem?_set_ne (Ne.symm hkn)] at hk'
              exact hkn (hr1.nd k n b hk' e2)
          exact p1 (.ref b) ⟨h1.m.set n none, h1.B, h1.H⟩ grow_freeze (.lst q1 free (q2.mono (h' := ⟨h1.m.set n none, h1.B, h1.H⟩) grow_freeze.ext)) (hr1.freeze n)
      · exact p1.elim
    | _ => first | exact Post.ret p1 (by constructor <;> assumption) hr1⟩
end
end G

/-! an exception of the program's own: class C(..ValueError): def __init__(self, f): super().__init__(f); self.f = f -/
namespace PySem
namespace GX
open PySem.W PySem.Calls PyProof.Rows PySem.HandSPX
def iA (f : Str) (p1 p2 : Pos) : Arguments := { posonlyargs := [], args := [{ arg := "self", annotation := none, pos := p1 }, { arg := f, annotation := none, pos := p2 }], vararg := none, kwonlyargs := [], kw_defaults := [], kwarg := none, defaults := [] }
def iB (f : Str) (p0 p1 p2 p3 p4 p5 q1 q2 q3 q4 : Pos) : List Stmt := [.Expr (.Call (.Attribute (.Call (.Name "super" p0) [] [] p1) "__init__" p2) [.Name f p3] [] p4) p5, .Assign [.Attribute (.Name "self" q1) f q2] (.Name f q3) q4]
def iS (f : Str) : Scope := { kind := .function, names := [(PySem.Str.ofString "self", .local), (f, .local), (PySem.Str.ofString "__class__", .free), (PySem.Str.ofString "super", .globalImplicit)], isGenerator := false, isCoroutine := false, more := [] }
/-- what the written part says of the class at C and its __init__ at fI -/
structure XTxt (prog : Program) (K : Frag) (mg : Str → Option Value) (C fI : Addr) (f : Str) : Prop where
  cls : ∃ nm q N bs bm sn sub ab col dd k0 k1 k2 k3 k5, K.lookup C = some (excClassObj nm q C N bs bm true sn sub ab col dd k0 k1 k2 k3 k5 "ValueError.__new__") ∧ refsVE bm = true
  sa : findIn K (.ref C) "__setattr__" = some (some (.builtin "object.__setattr__"))
  noN : findIn K (.ref C) f = some none
  iC : findIn K (.ref C) "__init__" = some (some (.ref fI))
  tC : typeIn K (.ref fI) = some (.type "function")
  kC : keepIn K (.ref C) = true
  exC : subIn K (.ref C) (.type "BaseException") = some true
  tyC : typeIn K (.ref C) = some (.type "type")
  hdC : hasDictIn K C = true
  gS : mg "super" = none
  op : nsIn K cStatics "thirdparty.any" = some none
  su : ks_superIn K C C "__init__" = some (some (.builtin "ValueError.__init__"))
  mC : mroIn K C (.ref C) = some true
  mV : mroIn K C (.type "ValueError") = some true
  fn : ∃ (oc : Value) (od : Option Addr) (qual : Str) (doc pm : Value) (an : Option Addr) (cda cc : Addr) (ct : Value) (osl : Array (Option Value)) (r1 r2 p0 p1 p2 p3 p4 p5 q1 q2 q3 q4 : Pos),
    K.lookup fI = some ⟨oc, od, .func (ksFn "__init__" qual (iA f r1 r2) (iB f p0 p1 p2 p3 p4 p5 q1 q2 q3 q4) (iS f) .none .none doc pm an (.ref cda) ct cc), osl⟩ ∧ codeIn K (.ref cda) qual = true ∧ (p2.endLine == p4.line) = true ∧
    (∃ ccl cdd vs ccs file tf, K.lookup cda = some ⟨ccl, cdd, .fields vs, ccs⟩ ∧ vs[2]? = some (.str file tf) ∧ ((prog.main.file : Str) == file) = true) ∧
    (∃ cl cld csl, K.lookup cc = some ⟨cl, cld, .cell (some (.ref C)), csl⟩)
  top : (prog.main.scope.names.lookup ("super" : Str)).isSome = false
theorem he_of {f : Str} {env : Env} {p0 p1 p2 p3 p4 : Pos} (hl : (p2.endLine == p4.line) = true) (hf : methodCallForm 1 (backTo p4 (starEach [.Name f p3] env)) (backToKw p4 (keywordEach [] env)) = true) :
    ∃ pl : Sem Bool, eval (.Call (.Attribute (.Call (.Name "super" p0) [] [] p1) "__init__" p2) [.Name f p3] [] p4) env = (do
      let ov ← attributeBase (.Call (.Name "super" p0) [] [] p1) "__init__" env (eval (.Call (.Name "super" p0) [] [] p1) env)
      standAt p2.atName
      let (g, first) ← holding [ov] (getMethod ov "__init__" pl)
      callWith p4 g first (backTo p4 (starEach [.Name f p3] env)) []) := by
  refine ⟨(do return (← importBound (.Call (.Name "super" p0) [] [] p1) env).getD true), ?_⟩
  have hp : methodCallPos true (.Call (.Name "super" p0) [] [] p1) env p2 p4 = pure p4 := by
    unfold methodCallPos
    rw [hl]
    rfl
  show (do
    let ov ← attributeBase (.Call (.Name "super" p0) [] [] p1) "__init__" env (eval (.Call (.Name "super" p0) [] [] p1) env)
    standAt p2.atName
    methodCall (.Call (.Name "super" p0) [] [] p1) "__init__" p2 p4 env ov (1 + 0) (backTo p4 (starEach [.Name f p3] env)) (backToKw p4 (keywordEach [] env))) = _
  unfold methodCall
  rw [show (1 + 0 : Nat) = 1 from rfl, hf, hp]
  simp only [calleeOf, if_true, pure_bind]
  rfl
/-- f is none of the other names -/
structure FName (f : Str) : Prop where
  he : ∀ (qual : Str) (doc pm : Value) (an : Option Addr) (cda cc L fI : Addr) (ct : Value) (r1 r2 p0 p1 p2 p3 p4 p5 q1 q2 q3 q4 : Pos) (env : Env), env = callEnv (ksFn "__init__" qual (iA f r1 r2) (iB f p0 p1 p2 p3 p4 p5 q1 q2 q3 q4) (iS f) .none .none doc pm an (.ref cda) ct cc) L fI → (p2.endLine == p4.line) = true → ∃ pl : Sem Bool, eval (.Call (.Attribute (.Call (.Name "super" p0) [] [] p1) "__init__" p2) [.Name f p3] [] p4) env = (do
      let ov ← attributeBase (.Call (.Name "super" p0) [] [] p1) "__init__" env (eval (.Call (.Name "super" p0) [] [] p1) env)
      standAt p2.atName
      let (g, first) ← holding [ov] (getMethod ov "__init__" pl)
      callWith p4 g first (backTo p4 (starEach [.Name f p3] env)) [])
  fs : (f == ("self" : Str)) = false
  sf : (("self" : Str) == f) = false
  cf : (("__class__" : Str) == f) = false
  uf : (("super" : Str) == f) = false
  db : (f == ("__debug__" : Str)) = false
  sw : ∀ (env : Env) (q1 q2 q3 q4 : Pos) (n : Nat), swapsWith (.Name f q3) (some (.Attribute (.Name "self" q1) f q2)) q4.line env = pure false
  bind : ∀ (s : Shared) (qual : Str) (doc pm : Value) (an : Option Addr) (cda cc : Addr) (ct : Value) (r1 r2 p0 p1 p2 p3 p4 p5 q1 q2 q3 q4 : Pos) (x : Addr) (v : Value), BindsTo s (ksFn "__init__" qual (iA f r1 r2) (iB f p0 p1 p2 p3 p4 p5 q1 q2 q3 q4) (iS f) .none .none doc pm an (.ref cda) ct cc) ⟨[.ref x, v], []⟩ [("self", .ref x), (f, v)]
theorem one_size (v : Value) : [v].length ≤ sizeLine := by
  rw [sizeLine_eq]
  exact (by decide : 1 ≤ 16777216)
/-- what __init__ leaves of a fresh exception at x -/
structure InitEnd (h h' : Heap) (x C dx t1 : Addr) (f : Str) (v : Value) : Prop where
  keep : ∀ b o, b ≠ x → h.get? b = some o → h'.get? b = some o
  obj : h'.get? x = some { cls := .ref C, dict := some dx, data := .fields #[.ref t1, .none, .none, .none, .bool false, .none] }
  dbig : h.objs.size ≤ dx
  dne : dx ≠ x
  ns : h'.Ns1 dx (fun y => if y = f then some v else none)
/-- a made exception -/
structure OwnMade (h h' : Heap) (e C d : Addr) (f : Str) (v : Value) : Prop where
  keep : ∀ b o, h.get? b = some o → h'.get? b = some o
  new : h.objs.size ≤ e
  obj : ∃ oe vs, h'.get? e = some oe ∧ oe.cls = .ref C ∧ oe.dict = some d ∧ oe.data = .fields vs ∧ vs[1]? = some .none
  dbig : h.objs.size ≤ d
  dne : d ≠ e
  ns : h'.Ns1 d (fun y => if y = f then some v else none)
section
variable {prog : Program} {w : World} {A : Around} {E : Value → Shared → Prop} {R : Result → Shared → Prop} {s : Shared} {K : Frag} {mg : Str → Option Value} {C fI : Addr} {f : Str}
theorem xinit (T : XTxt prog K mg C fI f) (FN : FName f) {x t0 : Addr} {v : Value} (X : K.In s.heap) (hlim : s.heap.NoLimit) (hG : s.heap.Ns mainGlobals mg) (hB : ∃ mb, s.heap.Ns builtinsNs mb ∧ ∀ x : Str, x ≠ "__name__" → mb x = bootBuiltins x)
    (hx : s.heap.get? x = some (excO C t0)) (hnx : K.lookup x = none) (hroom : A.depth < recursionLimit)
    (hq : ∀ h' tk dx t1, InitEnd s.heap h' x C dx t1 f v → R (.ok (.ret .none)) { s with heap := h', toks := tk }) :
    codeAny (model prog w) A (.call (.ref fI) ⟨[.ref x, v], []⟩) R s := by
  obtain ⟨oc, od, qual, doc, pm, an, cda, cc, ct, osl, r1, r2, p0, p1, p2, p3, p4, p5, q1, q2, q3, q4, ho, hcd, hline, ⟨ccl, cdd, vs, ccs, file, tf, hcode, hvs, hfile⟩, ⟨cl, cld, csl, hcell⟩⟩ := T.fn
  obtain ⟨nm, q, N, bs, bm, sn, sub, ab, col, dd, k0, k1, k2, k3, k5, hC, hbm⟩ := T.cls
  have hcl : clsIn K C = some { name := nm, bases := bs, mro := .ref C :: bm, ns := N, qualname := q, hasDict := true, slotNames := sn, subclasses := sub, abstract := ab, collection := col, hasDel := false } := by unfold clsIn; rw [hC] <;> rfl
  have hsu := T.su
  unfold ks_superIn at hsu
  rw [hcl] at hsu
  have lself : (iS f).names.lookup ("self" : Str) = some .local := by simp [iS, List.lookup]
  have lf : (iS f).names.lookup f = some .local := by simp [iS, List.lookup, FN.fs]
  have lcl : (iS f).names.lookup ("__class__" : Str) = some .free := by
    have e : (("__class__" : Str) == ("self" : Str)) = false := by decide +kernel
    simp [iS, List.lookup, FN.cf, e]
  have lsu : (iS f).names.lookup ("super" : Str) = some .globalImplicit := by
    have e : (("super" : Str) == ("self" : Str)) = false := by decide +kernel
    have e2 : (("super" : Str) == ("__class__" : Str)) = false := by decide +kernel
    simp [iS, List.lookup, FN.uf, e, e2]
  obtain ⟨oD, hD1, hD2⟩ : ∃ oD, s.heap.get? C = some oD ∧ oD.data = .cls { name := nm, bases := bs, mro := .ref C :: bm, ns := N, qualname := q, hasDict := true, slotNames := sn, subclasses := sub, abstract := ab, collection := col, hasDel := false } := ⟨_, X _ _ hC, rfl⟩
  refine ks_codeAny_call_defAt (fd := ksFn "__init__" qual (iA f r1 r2) (iB f p0 p1 p2 p3 p4 p5 q1 q2 q3 q4) (iS f) .none .none doc pm an (.ref cda) ct cc) (body := iB f p0 p1 p2 p3 p4 p5 q1 q2 q3 q4) (binds := [("self", .ref x), (f, v)]) hroom (X _ _ ho) rfl hlim (codeRec_of X hcd) rfl (FN.bind _ _ _ _ _ _ _ _ _ _ _ _ _ _ _ _ _ _ _ _ _ _)
    (by intro y hy; simp only [iS, List.mem_cons, List.not_mem_nil, or_false] at hy; rcases hy with rfl | rfl | rfl | rfl <;> (intro z; cases z))
    (by intro y hy; simp only [List.mem_cons, List.not_mem_nil, or_false] at hy; rcases hy with rfl | rfl; exact lself; exact lf) (fun h₁ hns k => ?_)
  have m1 : (fun y => List.lookup y ([(PySem.Str.ofString "self", Value.ref x), (f, v)] : List (Str × Value)).reverse) ("self" : Str) = some (.ref x) := by
    simp [List.lookup, FN.sf]
  have m2 : (fun y => List.lookup y ([(PySem.Str.ofString "self", Value.ref x), (f, v)] : List (Str × Value)).reverse) f = some v := by
    simp [List.lookup]
  obtain ⟨mb, hB1, hB2⟩ := hB
  have hxL : s.heap.objs.size ≠ x := Nat.ne_of_gt (Heap.lt_size hx)
  have X₁ : K.In h₁ := X.keeps k
  have hx₁ := k _ _ hx
  have hxC : x ≠ C := fun z => by rw [z, hC] at hnx; cases hnx
  obtain ⟨pl, hpl⟩ := FN.he qual doc pm an cda cc s.heap.objs.size fI ct r1 r2 p0 p1 p2 p3 p4 p5 q1 q2 q3 q4 (callEnv (ksFn "__init__" qual (iA f r1 r2) (iB f p0 p1 p2 p3 p4 p5 q1 q2 q3 q4) (iS f) .none .none doc pm an (.ref cda) ct cc) s.heap.objs.size fI) rfl hline
  refine ks_wpAt_execs_cons (ks_wpAt_Expr_any (ks_wpAt_MethodCall (pl := pl) ?_ hpl))
  refine ks_wpAt_super_base (env := callEnv (ksFn "__init__" qual (iA f r1 r2) (iB f p0 p1 p2 p3 p4 p5 q1 q2 q3 q4) (iS f) .none .none doc pm an (.ref cda) ct cc) s.heap.objs.size fI) lsu lcl (by decide +kernel) rfl (X₁ _ _ ho) rfl rfl rfl (X₁ _ _ hcode) rfl hvs hfile T.top ?_
  refine ks_loadName_global rfl lsu (loadGlobal_builtin (hG.at fun o q => k _ o q) T.gS (hB1.at fun o q => k _ o q) ((hB2 _ (by decide +kernel)).trans (by decide +kernel : bootBuiltins "super" = some (.type "super"))) ⟨rfl, ?_⟩)
  refine wpAny_loadName_free rfl lcl rfl ⟨_, X₁ _ _ hcell, rfl⟩ ?_
  refine wpAny_loadName_local rfl lself hns m1 ?_
  refine ks_wpAny_isType_cls (k _ _ hD1) hD2 ⟨rfl, ?_⟩
  refine ks_wpAny_call_super (k _ _ hD1) hD2 hx₁ rfl (fun c e => by cases e) (looks_mroIn X₁ T.mC) (fun h₂ e₂ k₂ => ?_)
  have X₂ : K.In h₂ := X₁.keeps k₂
  have I₂ : InstAt h₂ x (excO C t0) C none := ⟨k₂ _ _ hx₁, rfl, rfl, trivial⟩
  -- its __init__
  refine kxs_getMethod kxs_ValueError (l₀ := .ref C :: bm) e₂ (looks_opaque X₂ T.op) (fun A Q E s k q => wpAny_bind ((looks_clsIn X₂ hcl) A _ E s k (wpAny_pure q))) rfl X₂ hsu (I₂.type.andThen (looks_mroIn X₂ T.mV)) hxC (by decide +kernel) ?_
  refine kxs_callWith (i := "ValueError.__init__") (x := x) rfl (evalArgs_plain (Calls.spliced_cons (wpAny_Name (wpAny_loadName_local rfl lf (hns.at fun o q => Heap.get?_push_of_some _ (k₂ _ o q)) m2 (Calls.spliced_nil ?_)) FN.db)))
  refine ⟨Heap.get?_push_at rfl rfl, ?_⟩
  have K₃ : ∀ b o, h₁.get? b = some o → (h₂.push (kxs_mw "ValueError.__init__" x)).get? b = some o := fun b o q => Heap.get?_push_of_some _ (k₂ b o q)
  have hx₃ : (h₂.push (kxs_mw "ValueError.__init__" x)).get? x = some (excRec (.ref C) t0 none .none .none (.bool false)) := K₃ _ _ hx₁
  refine wpAny_call (codeAny_of_tree ?_)
  show wpAny _ (Around.in1 _) (callAny (.ref _) ⟨[v], []⟩) _ _ _
  simp only [callAny]
  refine wpAny_bind (wpAny_load (Heap.get?_push_at rfl rfl) ?_)
  simp only [kxs_mw, show (Value.type "method-wrapper" == Value.type "method" || Value.type "method-wrapper" == Value.type "builtin_function_or_method" || Value.type "method-wrapper" == Value.type "method-wrapper") = true by decide, if_true]
  refine KFB.if_so (by decide) ?_
  refine wpAny_bind (check_bound_init F.excBase_ValueError.toExcCallFacts (X₂.keeps (fun b o q => Heap.get?_push_of_some _ q) _ _ hC) hx₃ rfl ?_)
  refine wpAny_bind (wpAny_pure (wpAny_pure ?_))
  refine ⟨plainId_quiet F.excBase_ValueError.init.plain _, codeAny_builtin F.excBase_ValueError.initEntry ?_⟩
  refine exc_init_tree hx₃ (one_size v) fun h₄ k₄ hx₄ ht₄ => ?_
  have kx : ∀ b o, b ≠ x → s.heap.get? b = some o → h₄.get? b = some o := fun b o hb q => k₄ b o hb (K₃ b o (k b o q))
  have X₄ : K.In h₄ := fun a o e => kx a o (fun z => by rw [z, hnx] at e; cases e) (X a o e)
  have hn₄ : h₄.Ns s.heap.objs.size (fun y => List.lookup y ([(PySem.Str.ofString "self", Value.ref x), (f, v)] : List (Str × Value)).reverse) := hns.at fun o q => k₄ _ o hxL (K₃ _ o q)
  refine ks_wpAt_execs_cons (ks_wpAt_Assign_Attr ?_ (FN.sw _ _ _ _ _ 0))
  refine wpAt_of_wpAny (wpAny_Name (wpAny_loadName_local rfl lf hn₄ m2 ?_) FN.db)
  refine wpAny_Name (wpAny_loadName_local rfl lself hn₄ m1 ?_) (by decide +kernel)
  refine set_plain X₄ (ox := excRec (.ref C) (h₂.push (kxs_mw "ValueError.__init__" x)).objs.size none .none .none (.bool false)) (od := none) ⟨hx₄, rfl, rfl, trivial⟩ T.sa ?_
  refine exc_osa X₄ hx₄ hcl (show refsVE (.ref C :: bm) = true from hbm) rfl T.noN (fun h₅ tk₅ dx k₅ dn dne hx₅ hn₅ => ?_)
  refine wpAt_of_wpAny (wpAny_execs_nil ?_)
  have z : s.heap.objs.size < h₄.objs.size := hn₄.lt
  exact hq h₅ tk₅ dx _ ⟨fun b o hb e => k₅ b o hb (kx b o hb e), hx₅, Nat.le_of_lt (Nat.lt_of_lt_of_le z dn), dne, hn₅⟩
theorem xmade (T : XTxt prog K mg C fI f) (FN : FName f) {v : Value} (X : K.In s.heap) (hlim : s.heap.NoLimit) (hG : s.heap.Ns mainGlobals mg) (hB : ∃ mb, s.heap.Ns builtinsNs mb ∧ ∀ x : Str, x ≠ "__name__" → mb x = bootBuiltins x) (hroom : A.depth + 1 < recursionLimit)
    (hq : ∀ h' tk e d, OwnMade s.heap h' e C d f v → R (.ok (.ret (.ref e))) { s with heap := h', toks := tk }) :
    codeAny (model prog w) A (.call (.ref C) ⟨[v], []⟩) R s := by
  obtain ⟨nm, q, N, bs, bm, sn, sub, ab, col, dd, k0, k1, k2, k3, k5, hC, hbm⟩ := T.cls
  obtain ⟨hp, g, dr, tk, os⟩ := s
  have k : ∀ b o, hp.get? b = some o → ((hp.push (kdv_tup [v])).push (excO C hp.objs.size)).get? b = some o := fun b o e => Heap.get?_push_of_some _ (Heap.get?_push_of_some _ e)
  have hget : ((hp.push (kdv_tup [v])).push (excO C hp.objs.size)).get? (hp.objs.size + 1) = some (excO C hp.objs.size) := by heap_get
  have hnx : K.lookup (hp.objs.size + 1) = none := by
    cases e : K.lookup (hp.objs.size + 1) with
    | none => rfl
    | some o =>
      have z : hp.get? (hp.objs.size + 1) = some o := X _ _ e
      exact absurd (Nat.lt_of_succ_lt (Heap.lt_size z)) (Nat.lt_irrefl _)
  obtain ⟨mb, hB1, hB2⟩ := hB
  refine call_own F.excBase_ValueError (fun X => refsVE_contains X bm hbm) (X _ _ hC) (looks_findIn X T.iC) (fun self => bind_fn X self T.tC) (one_size v) ?_
  refine xinit (s := ⟨(hp.push (kdv_tup [v])).push (excO C hp.objs.size), g, dr, tk, os⟩) T FN (X.keeps k) (hlim.keeps k) (hG.keeps k) ⟨mb, hB1.keeps k, hB2⟩ hget hnx ?_ fun h' tk' dx t1 ⟨k', hx, dn, dne, hns⟩ => ?_
  · show A.depth + 1 < recursionLimit
    exact hroom
  · have old : ∀ b o, hp.get? b = some o → h'.get? b = some o := fun b o e => k' b o (Nat.ne_of_lt (Nat.lt_succ_of_lt (Heap.lt_size e))) (k b o e)
    have z : hp.objs.size + 1 + 1 ≤ dx := by
      first
        | (simpa only [Heap.size_push] using dn)
        | exact dn
        | (have q := dn; rw [Heap.size_push, Heap.size_push] at q; exact q)
    exact ⟨rfl, hq h' tk' (hp.objs.size + 1) dx ⟨old, Nat.le_succ _, ⟨_, _, hx, rfl, rfl, rfl, rfl⟩, Nat.le_trans (Nat.le_trans (Nat.le_succ _) (Nat.le_succ _)) z, dne, hns⟩⟩
end
end GX
end PySem
namespace G
open PySem PySem.Spec PyProof.Rows L2
theorem relO_f {f : Str} {v : V} {v' : Value} (r : RelV v v') (g : Str) : RelO (List.lookup g [(f, v)]) (if g = f then some v' else none) := by
  by_cases hw : g = f
  · subst hw
    rw [if_pos rfl]
    have q : List.lookup g [(g, v)] = some v := by simp [List.lookup]
    rw [q]
    exact r
  · rw [if_neg hw]
    have qw : (g == f) = false := by simpa using hw
    have q2 : List.lookup g [(f, v)] = none := by simp [List.lookup, qw]
    rw [q2]
    trivial
section
variable {X : Cx} {C fI : Addr} {f : Str}
/-- C(e) -/
def tMkX (C : Addr) (f : Str) (ta : TA) : St → Hp → XK → Prop := fun σ H Q => ta σ H fun vs H1 => ∃ v, vs = [v] ∧ ∀ d, H1 d = none → Q (.ref C) (some d) (upd H1 d (.xd [(f, v)]))
theorem pmk_x {x : Str} {a : Expr} {ta : TA} {p pos : Pos} {k : Nat} (T : PySem.GX.XTxt X.prog X.K X.mg C fI f) (FN : PySem.GX.FName f) (gC : X.mg x = some (.ref C)) (hr : Room k X.A) (ha : PA X [a] ta) (hg : Gl X x) (hdb : (x == ("__debug__" : Str)) = false := by decide)
    (he : starEach (a :: []) X.env = (false, eval a X.env) :: starEach [] X.env := by rfl) (hpl : (backTo pos (starEach [] X.env)).any (·.1) = false := by rfl) :
    PMk X (.Call (.Name x p) [a] [] pos) (tMkX C f ta) := by
  intro pins s σ H Q I h
  refine wpAny_Call_Name_kw (ld_glob I hg gC ?_ hdb)
  refine PySem.W.callWith_K (h₀ := X.base) I.ok.mod.kin T.kC (thn (ha.run pos pins s σ H _ I h) fun us s1 hh => ?_) he hpl
  obtain ⟨vs, H1, I1, r1, v, ev, q1⟩ := hh
  subst ev
  refine ⟨I1.kIn, ?_⟩
  cases r1 with
  | cons rv rn =>
    rename_i v' us'
    cases rn
    show wpAny _ _ (call (.ref C) [v']) _ _ _
    have hlim := I1.nolimit
    obtain ⟨mb, hb1, hb2⟩ := I1.mod.blt
    have hG : s1.heap.Ns mainGlobals X.mg := I1.mod.glob.keeps I1.bk
    have hB : ∃ mb, s1.heap.Ns builtinsNs mb ∧ ∀ x : Str, x ≠ "__name__" → mb x = bootBuiltins x := ⟨mb, hb1.keeps I1.bk, hb2⟩
    obtain ⟨hp, g, dr, tk, os⟩ := s1
    refine wpAny_call (PySem.GX.xmade T FN I1.kIn hlim hG hB (by have := hr.dp; omega) fun h' tk' e d M => ?_)
    show MkP X pins σ Q (.ref e) ⟨h', g, dr, tk', os⟩
    obtain ⟨oe, fv, hoe, hc, hd, hdat, h1⟩ := M.obj
    have hns := M.ns
    obtain ⟨G', g1, g2⟩ := restrict h' fun b => decide (b ≠ e)
    have gk : ∀ b, b ≠ e → G'.get? b = h'.get? b := fun b hb => g1 b (decide_eq_true hb)
    have ge : G'.get? e = none := g2 e (by simp)
    have old : ∀ b o, hp.get? b = some o → G'.get? b = some o := fun b o q => (gk b (Nat.ne_of_lt (Nat.lt_of_lt_of_le (Heap.lt_size q) M.new))).trans (M.keep b o q)
    have ob : ObjOk X.prog X.w (upd H1 d (.xd [(f, v)])) G' d (.xd [(f, v)]) :=
      ⟨_, hns.at (fun o q => (gk d M.dne).trans q), fun g => relO_f rv g⟩
    have J : Inv X pins σ (upd H1 d (.xd [(f, v)])) ⟨G', g, dr, tk', os⟩ := I1.laid (t' := tk') old M.dbig ob
    refine ⟨e, oe, fv, ⟨G', g, dr, tk', os⟩, _, .ref C, some d, rfl, J, fun b o q => ?_, ge, hoe, ⟨hc, hd⟩, hdat, h1, ?_, rfl, I1.bare, raises_own T.exC T.tyC, q1 d (I1.hok.fresh M.dbig)⟩
    · by_cases hb : b = e
      · have q' : G'.get? b = some o := q
        rw [hb, ge] at q'; cases q'
      · exact (gk b hb).symm.trans q
    · rw [upd_ne (Ne.symm M.dne)]
      exact I1.hok.fresh M.new
end
end G

namespace G
open PySem PySem.Spec PyProof.Rows L2

/-! ## a call with its frame: no repr is under way -/
structure RoomG (k : Nat) (A : Around) : Prop where
  r : Room k A
  g : A.guards = some []
theorem RoomG.mono {j k : Nat} {A : Around} (r : RoomG k A) (h : j ≤ k) : RoomG j A := ⟨r.r.mono h, r.g⟩
theorem RoomG.deeper {k : Nat} {A : Around} (r : RoomG (k + 1) A) (env : PySem.Env) : RoomG k (A.deeper env) := ⟨r.r.deeper env, r.g⟩
theorem RoomG.make {k : Nat} {A : Around} (r : RoomG (k + 1) A) (C : Addr) (us : List Value) (kw : List (Str × Value)) : RoomG k (A.under (.builtin "type.__call__" ⟨.ref C :: us, kw⟩)) := by
  refine ⟨r.r.make C us kw, ?_⟩
  have e := r.g
  have n : (Code.builtin "type.__call__" ⟨.ref C :: us, kw⟩).isGuard = false := by
    show guardIds.contains "type.__call__" = false
    decide +kernel
  simp [Around.under, Code.guards, n, pushGuards, e]
theorem RoomG.units {k : Nat} {A : Around} (r : RoomG k A) : A.units + 64 < cLine := r.r.units
theorem RoomG.un {k : Nat} {A : Around} (r : RoomG k A) : A.units + 16 * k + 200 < cLine := r.r.un
theorem RoomG.dp {k : Nat} {A : Around} (r : RoomG k A) : A.depth + 3 * k + 5 < recursionLimit := r.r.dp
/-- a def's promise, where no repr is under way -/
structure FnG (P : Program) (w : World) (K : PySem.W.Frag) (mg : Str → Option Value) (base : Heap) (k : Nat) (f : Addr) (fd : FuncData) (ps : List Str) (sp : Sp) : Prop where
  len : ∀ vs H Q E, sp vs H Q E → vs.length = ps.length
  run : ∀ (A : Around) (outer : List PySem.Env) (s : Shared) (H : Hp) (args : Args) (us : List Value) (vs : List V) (Q : VK) (E : XK), RoomG k A → Env0 P w K mg base A outer s H → BindsTo s fd args (ps.zip us) → Vals vs us → sp vs H Q E →
    codeAny (model P w) A (.call (.ref f) args) (CR (L2.CX P w) outer P w H s Q E) s
section
variable {P : Program} {w : World} {K : PySem.W.Frag} {mg : Str → Option Value} {base : Heap} {j k : Nat} {f : Addr} {fd : FuncData} {ps N : List Str} {sp sp' : Sp}
theorem FnG.mono (F : FnG P w K mg base j f fd ps sp) (h : j ≤ k) : FnG P w K mg base k f fd ps sp := ⟨F.len, fun A outer s H args us vs Q E hr => F.run A outer s H args us vs Q E (hr.mono h)⟩
theorem FnG.imp (F : FnG P w K mg base k f fd ps sp) (h : ∀ vs H Q E, sp' vs H Q E → sp vs H Q E) : FnG P w K mg base k f fd ps sp' :=
  ⟨fun vs H Q E q => F.len vs H Q E (h _ _ _ _ q), fun A outer s H args us vs Q E hr he hb hv hs => F.run A outer s H args us vs Q E hr he hb hv (h _ _ _ _ hs)⟩
/-- by the body, as the hand layer has it, the guards beside -/
theorem fnG_of {x qual : Str} {st : Stmt} (F : Fun K x qual st f fd) (S : FnScope N ps (defScope st)) (len : ∀ vs H Q E, sp vs H Q E → vs.length = ps.length)
    (hbody : ∀ (cdv : Value) (A : Around) (outer : List PySem.Env) (s : Shared) (H : Hp) (vs : List V) (Q : VK) (E : XK), RoomG k (A.deeper (envOfC qual (defScope st) s.heap.objs.size f cdv)) → sp vs H Q E →
      ∃ t, PSs (cxOf (L2.CX P w) P w K mg base N qual (defScope st) f cdv A outer s H E) (defBody st) t ∧ t { nx := fun _ H' => Q .non H', rt := Q } (L2.start N vs) H) : FnG P w K mg base (k + 1) f fd ps sp := by
  obtain ⟨oc, od, kV, doc, pm, an, cdv, ct, osl, rfl, lk, hcd⟩ := F.ex
  constructor
  · exact len
  intro A outer s H args us vs Q E hr e0 hb r hsp
  have old : ∀ b o, base.get? b = some o → s.heap.get? b = some o := fun b o e => (e0.bs b o e).1
  have KX : K.In s.heap := e0.mod.kin.keeps old
  refine codeAny_call_function hr.r.depth (KX _ _ lk) rfl S.co S.gen rfl (PySem.W.codeRec_of KX hcd) (hb _ _ _ _ ?_)
  refine wpAny_newFunctionEnv_cells S.kind (fun ⟨n, v⟩ hy => ?_) fun env he s1 x => ?_
  · exact (S.par n (List.of_mem_zip hy).1).imp id fun q => ⟨q, PySem.W.cellsFrom_some _ _ _ (.inl q)⟩
  subst he
  obtain ⟨t, ht, hq⟩ := hbody cdv A outer s H vs Q E (hr.deeper _) hsp
  refine ⟨(e0.mod.nolimit.keeps old).keeps x.toInCall.keep, codeAny_func (wpAny_mono (ht.run [] s1 (L2.start N vs) H _ (inv_start S hr.r.hd e0 (len _ _ _ _ hsp) r x) hq) (fun fl s' hs => ?_) fun e s' hs => hs)⟩
  cases fl with
  | ret u => obtain ⟨v, σ', H', J, rv, q⟩ := hs; exact ⟨v, H', J.os, J.bare, J.base, J.hok, rv, q⟩
  | next => obtain ⟨σ', H', J, q⟩ := hs; exact ⟨V.non, H', J.os, J.bare, J.base, J.hok, rfl, q⟩
  | brk => obtain ⟨_, _, _, q⟩ := hs; exact q.elim
  | cont => obtain ⟨_, _, _, q⟩ := hs; exact q.elim
end
theorem run_fnG {X : Cx} {k : Nat} {f : Addr} {fd : FuncData} {ps : List Str} {sp : Sp} {E : St → XK} {pins : List (Addr × Obj)} {σ : St} {H : Hp} {s : Shared} {Q : VK} {us : List Value} {vs : List V} (F : FnG X.prog X.w X.K X.mg X.base k f fd ps sp) (hr : RoomG k X.A) (hb : Binds X.K fd ps []) (hx : PassesAt (L2.CX X.prog X.w) X σ (E σ))
    (I : Inv X pins σ H s) (r : Vals vs us) (h : sp vs H Q (E σ)) : wpAny (model X.prog X.w) X.A (call (.ref f) us) (EP X pins σ Q) X.xe s := by
  have b := hb s us I.kIn (by rw [List.append_nil, ← r.length]; exact F.len _ _ _ _ h)
  rw [List.append_nil] at b
  refine wpAny_call (codeAny_mono (F.run X.A X.stack s H ⟨us, []⟩ us vs Q (E σ) hr I.env0 b r h) fun r s' hq => ?_)
  cases r with
  | error e => exact hx pins H s e s' I hq
  | ok fl =>
    cases fl with
    | ret u => exact I.after hq
    | next => exact hq.elim
    | brk => exact hq.elim
    | cont => exact hq.elim
/-! ## functions -/
abbrev FnD := List Da → Sto → Rs Da
def PostF (K : PySem.W.Frag) (T : Tab) (h : Hv) (r : Rs Da) (Q : VK) (E : XK) : Prop := match r with
  | .ok d S => ∀ v h', Grow h h' → RV K T h' v d → HeapR K T h' S → Q v h'.H
  | .exc c fs S => ∀ cls dd h', Grow h h' → XR K T h' cls dd c fs → HeapR K T h' S → E cls dd h'.H
  | .bad => False
theorem PostF.grow {K : PySem.W.Frag} {T : Tab} {h h' : Hv} {r : Rs Da} {Q : VK} {E : XK} (g : Grow h h') (p : PostF K T h r Q E) : PostF K T h' r Q E := by
  cases r with
  | ok a S => exact fun v h2 g2 => p v h2 (g.trans g2)
  | exc c fs S => exact fun cls dd h2 g2 => p cls dd h2 (g.trans g2)
  | bad => exact p
/-- outside every except suite -/
def Tab.base (T : Tab) : Tab := ⟨T.cls, T.fnA, none⟩
def spI (K : PySem.W.Frag) (T : Tab) (F : FnD) : Sp := fun vs H Q E => ∃ h S ds, h.H = H ∧ HeapR K T h S ∧ RVs K T h vs ds ∧ PostF K T h (F ds S) Q E
def fnRes : Fl → Rs Da
  | .nx _ S => .ok .non S
  | .rt d S => .ok d S
  | .ex c fs _ S => .exc c fs S
  | _ => .bad
/-- a def of n parameters and N names, its objects kept in the store -/
def runU (n N : Nat) (b : Sm) : FnD := fun ds S => if ds.length = n then fnRes (b (ds.map some ++ List.replicate (N - n) none) S) else .bad
/-- its own objects dropped -/
noncomputable def scp (S : Sto) : Rs Da → Rs Da
  | .ok d S' => @ite _ (belowD S.length d = true ∧ ScopeOk S S') (Classical.propDecidable _) (.ok d (S'.take S.length)) .bad
  | .exc c fs S' => @ite _ (belowDf S.length fs = true ∧ ScopeOk S S') (Classical.propDecidable _) (.exc c fs (S'.take S.length)) .bad
  | .bad => .bad
theorem scp_ok {S S' : Sto} {d : Da} : scp S (.ok d S') = @ite _ (belowD S.length d = true ∧ ScopeOk S S') (Classical.propDecidable _) (.ok d (S'.take S.length)) .bad := rfl
theorem scp_exc {S S' : Sto} {c : Nat} {fs : List (Str × Da)} : scp S (.exc c fs S') = @ite _ (belowDf S.length fs = true ∧ ScopeOk S S') (Classical.propDecidable _) (.exc c fs (S'.take S.length)) .bad := rfl
noncomputable def runFn (n N : Nat) (b : Sm) : FnD := fun ds S => scp S (runU n N b ds S)
theorem XR.cut {K : PySem.W.Frag} {T : Tab} {h : Hv} {n : Nat} {cls : Value} {dd : Option Addr} {c : Nat} {fs : List (Str × Da)} (x : XR K T h cls dd c fs) (b : belowDf n fs = true) : XR K T { h with m := h.m.take n } cls dd c fs := by
  obtain ⟨e, r⟩ := x
  refine ⟨e, ?_⟩
  rcases r with r | ⟨d, gs, e1, e2, f, r⟩
  · exact .inl r
  · exact .inr ⟨d, gs, e1, e2, ⟨fun z => f.1 (List.mem_of_mem_take z), f.2⟩, r.cut b⟩
theorem PostF.scp {K : PySem.W.Frag} {T : Tab} {h : Hv} {S : Sto} {r : Rs Da} {Q : VK} {E : XK} (hr : HeapR K T h S) (p : PostF K T h (scp S r) Q E) : PostF K T h r Q E := by
  cases r with
  | ok d S' =>
    rw [scp_ok] at p
    by_cases c : belowD S.length d = true ∧ ScopeOk S S'
    · rw [if_pos c] at p
      exact fun v h' g r s => p v { h' with m := h'.m.take S.length } (grow_cut (K := K) (T := T) hr g) (r.cut c.1) (HeapR.cut hr g s c.2)
    · rw [if_neg c] at p; exact p.elim
  | exc c fs S' =>
    rw [scp_exc] at p
    by_cases c : belowDf S.length fs = true ∧ ScopeOk S S'
    · rw [if_pos c] at p
      exact fun cls dd h' g x s => p cls dd { h' with m := h'.m.take S.length } (grow_cut (K := K) (T := T) hr g) (x.cut c.1) (HeapR.cut hr g s c.2)
    · rw [if_neg c] at p; exact p.elim
  | bad => exact p
theorem RVs.env {K : PySem.W.Frag} {T : Tab} {h : Hv} {vs : List V} {ds : List Da} (r : RVs K T h vs ds) (N : List Str) : EnvR K T h (L2.start N vs) (ds.map some ++ List.replicate (N.length - vs.length) none) := by
  refine ⟨by simp [L2.start, r.length], fun i d q => .inl ?_⟩
  unfold L2.start
  by_cases hi : i < ds.length
  · rw [List.getElem?_append_left (by simpa using hi)] at q
    rw [List.getElem?_append_left (by simpa [r.length] using hi)]
    rw [List.getElem?_map] at q ⊢
    cases e : ds[i]? with
    | none => rw [e] at q; cases q
    | some d' =>
      rw [e] at q
      cases q
      obtain ⟨v, e1, rv⟩ := r.get e
      exact ⟨rv.notX, v, by rw [e1]; rfl, rv⟩
  · rw [List.getElem?_append_right (by simpa using Nat.le_of_not_lt hi)] at q
    obtain ⟨_, q2⟩ := List.getElem?_eq_some_iff.mp q
    simp at q2
section
variable {P : Program} {w : World} {K : PySem.W.Frag} {mg : Str → Option Value} {base : Heap} {T : Tab}
/-- a def by its body -/
theorem fnU_i {x qual : Str} {st : Stmt} {f : Addr} {fd : FuncData} {N ps : List Str} {k n m : Nat} {b : Sm} (F : Fun K x qual st f fd) (S : FnScope N ps (defScope st)) (hn : ps.length = n) (hm : N.length = m)
    (hb : ∀ (cdv : Value) (A : Around) (outer : List PySem.Env) (s : Shared) (H : Hp) (E : XK), RoomG k (A.deeper (envOfC qual (defScope st) s.heap.objs.size f cdv)) →
      Takes (cxOf (L2.CX P w) P w K mg base N qual (defScope st) f cdv A outer s H E) (fun cls d _ H => E cls d H) →
      SsI (cxOf (L2.CX P w) P w K mg base N qual (defScope st) f cdv A outer s H E) T (fun cls d _ H => E cls d H) (defBody st) b) :
    FnG P w K mg base (k + 1) f fd ps (spI K T (runU n m b)) := by
  refine fnG_of F S (fun vs H Q E ⟨h, S, ds, e, hr, r, p⟩ => ?_) (fun cdv A outer s H vs Q E hroom ⟨h, S', ds, e, hr, r, p⟩ => ⟨_, hb cdv A outer s H E hroom (takes_of rfl rfl rfl rfl), ?_⟩)
  · unfold runU at p
    split at p
    · rename_i hl; rw [r.length, hl, hn]
    · exact p.elim
  · unfold runU at p
    split at p
    · rename_i hl
      refine ⟨h, S', _, e, r.env N, hr, ?_⟩
      have e2 : N.length - vs.length = m - n := by rw [hm, r.length, hl]
      rw [e2]
      cases q : b (ds.map some ++ List.replicate (m - n) none) S' with
      | nx ε S1 => rw [q] at p; exact fun σ h' g er s => p .non h' g .non s
      | rt d S1 => rw [q] at p; exact fun v h' g r s => p v h' g r s
      | bk ε S1 => rw [q] at p; exact p.elim
      | ct ε S1 => rw [q] at p; exact p.elim
      | ex c fs ε S1 => rw [q] at p; exact fun cls dd σ h' g er x s => p cls dd h' g x s
      | bad => rw [q] at p; exact p.elim
    · exact p.elim
theorem FnG.scope {f : Addr} {fd : FuncData} {ps : List Str} {k n m : Nat} {b : Sm} (F : FnG P w K mg base k f fd ps (spI K T (runU n m b))) : FnG P w K mg base k f fd ps (spI K T (runFn n m b)) :=
  F.imp fun vs H Q E ⟨h, S, ds, e, hr, r, p⟩ => ⟨h, S, ds, e, hr, r, PostF.scp hr p⟩
theorem FnG.eqD {f : Addr} {fd : FuncData} {ps : List Str} {k : Nat} {F G : FnD} (F0 : FnG P w K mg base k f fd ps (spI K T F)) (e : ∀ ds S, G ds S ≠ .bad → G ds S = F ds S) : FnG P w K mg base k f fd ps (spI K T G) :=
  F0.imp fun vs H Q E ⟨h, S, ds, e1, hr, r, p⟩ => ⟨h, S, ds, e1, hr, r, by
    by_cases z : G ds S = .bad
    · rw [z] at p; exact p.elim
    · rw [← e ds S z]; exact p⟩
end
/-- a def of the module under its name -/
structure DefI (P : Program) (w : World) (K : PySem.W.Frag) (mg : Str → Option Value) (base : Heap) (T : Tab) (k : Nat) (x : Str) (F : FnD) : Prop where
  ex : ∃ (f : Addr) (fd : FuncData) (ps : List Str), FnG P w K mg base k f fd ps (spI K T F) ∧ mg x = some (.ref f) ∧ PySem.W.keepIn K (.ref f) = true ∧ Binds K fd ps []
theorem DefI.mono {P : Program} {w : World} {K : PySem.W.Frag} {mg : Str → Option Value} {base : Heap} {T : Tab} {j k : Nat} {x : Str} {F : FnD} (D : DefI P w K mg base T j x F) (h : j ≤ k) : DefI P w K mg base T k x F := by
  obtain ⟨f, fd, ps, h1, h2, h3, h4⟩ := D.ex
  exact ⟨f, fd, ps, h1.mono h, h2, h3, h4⟩
theorem DefI.imp {P : Program} {w : World} {K : PySem.W.Frag} {mg : Str → Option Value} {base : Heap} {T : Tab} {k : Nat} {x : Str} {F F' : FnD} (D : DefI P w K mg base T k x F) (e : ∀ ds S, F' ds S ≠ .bad → F' ds S = F ds S) : DefI P w K mg base T k x F' := by
  obtain ⟨f, fd, ps, h1, h2⟩ := D.ex
  exact ⟨f, fd, ps, h1.eqD e, h2⟩
def eCall (F : FnD) (a : Es) : E := fun ε S => (a ε S).bind F
theorem Post.toF {K : PySem.W.Frag} {T : Tab} {W : WX} {σ : St} {h : Hv} {r : Rs Da} {Q : VK} (p : Post K T W (RV K T) σ h r Q) : PostF K T.base h r Q (WE W σ) := by
  cases r with
  | ok a S => exact fun v h' g r s => p v h' g (r.retab (T := T.base) (T' := T) rfl rfl) (s.retab (T := T.base) (T' := T) rfl rfl)
  | exc c fs S => exact fun cls dd h' g x s => p cls dd h' g (x.retab (T := T.base) (T' := T) rfl rfl) (s.retab (T := T.base) (T' := T) rfl rfl)
  | bad => exact p
section
variable {X : Cx} {T : Tab} {W : WX} {k : Nat} {F : FnD} {x : Str} {p pos : Pos} {e : Expr} {es : List Expr} {fs : Es}
theorem i_call (D : DefI X.prog X.w X.K X.mg X.base T.base k x F) (hr : RoomG k X.A) (tk : Takes X W) (hg : Gl X x) (ha : AI X T W (e :: es) fs) (hdb : (x == ("__debug__" : Str)) = false := by decide)
    (he : starEach (e :: es) X.env = (false, eval e X.env) :: starEach es X.env := by rfl) (hpl : (backTo pos (starEach es X.env)).any (·.1) = false := by rfl) : EI X T W (.Call (.Name x p) (e :: es) [] pos) (eCall F fs) := by
  obtain ⟨f, fd, ps, F0, hm, hk, hb⟩ := D.ex
  refine ⟨fun pins s σ H Q I ⟨h, S, ε, e0, er, hh, p⟩ => ?_⟩
  refine wpAny_Call_Name_kw (ld_glob I hg hm ?_ hdb)
  refine PySem.W.callWith_K (h₀ := X.base) I.ok.mod.kin hk (thn (ha.run pos pins s σ H _ I ⟨h, S, ε, e0, er, hh, Post.bind p⟩) fun us s1 ⟨vs, H1, I1, r, h1, S1, ds, e1, g1, r1, hr1, p1⟩ => ⟨I1.kIn, ?_⟩) he hpl
  exact run_fnG F0 hr hb (passAt tk σ) I1 r ⟨h1, S1, ds, e1, hr1.retab (T := T) (T' := T.base) rfl rfl, r1.retab (T := T) (T' := T.base) rfl rfl, p1.toF⟩
def eCall0 (F : FnD) : E := fun ε S => F [] S
theorem i_call0 (D : DefI X.prog X.w X.K X.mg X.base T.base k x F) (hr : RoomG k X.A) (tk : Takes X W) (hg : Gl X x) (hdb : (x == ("__debug__" : Str)) = false := by decide) : EI X T W (.Call (.Name x p) [] [] pos) (eCall0 F) := by
  obtain ⟨f, fd, ps, F0, hm, hk, hb⟩ := D.ex
  refine ⟨fun pins s σ H Q I ⟨h, S, ε, e, er, hr', p⟩ => ?_⟩
  refine wpAny_Call_Name_kw (ld_glob I hg hm ?_ hdb)
  refine PySem.W.callWith_K0 I.kIn hk (run_fnG (us := []) F0 hr hb (passAt tk σ) I .nil ⟨h, S, [], e, hr'.retab (T := T) (T' := T.base) rfl rfl, .nil, Post.toF p⟩)
end
end G

/-! try with any number of clauses, each with or without a name -/
namespace G
open PySem PySem.Spec PyProof.Rows L2
abbrev ATS := Addr → Value → Option Addr → TS
/-- one clause: its class, the slot of its name, its suite -/
structure Hd where
  c : Value
  i : Option Nat
  ts : ATS
def unsl (i : Option Nat) (σ : St) : St := match i with
  | some j => σ.set j none
  | none => σ
def insl (i : Option Nat) (v : V) (σ : St) : St := match i with
  | some j => σ.set j (some v)
  | none => σ
def endsOf (i : Option Nat) (D : Ends) : Ends := { nx := fun σ H => D.nx (unsl i σ) H, rt := D.rt, bk := fun σ H => D.bk (unsl i σ) H, ct := fun σ H => D.ct (unsl i σ) H }
/-- what the clauses ask of the body's exception -/
def wHds (K : PySem.W.Frag) (Wout : WX) (D : Ends) : List Hd → WX
  | [] => Wout
  | d :: r => fun cls dd σ H => ∃ b, PySem.W.exmOne K cls d.c = some b ∧ (b = true → ∀ a, H a = none → d.ts a cls dd (endsOf d.i D) (insl d.i (.ref a) σ) H) ∧ (b = false → wHds K Wout D r cls dd σ H)
abbrev SuOk (X : Cx) (b₀ : Stmt) (suite : List Stmt) (ts : ATS) : Prop := ∀ (a : Addr) (oe : Obj) (cls : Value) (d : Option Addr) (pn : List (Addr × Obj)), Zc cls d oe → (∃ vs, oe.data = .fields vs) → PSs (X.suite a ((a, oe) :: pn)) (b₀ :: suite) (ts a cls d)
inductive HdsI (X : Cx) : List ExceptHandler → List Hd → Prop
  | nil : HdsI X [] []
  | plain {x : Str} {c : Value} {ts : ATS} {b₀ : Stmt} {suite : List Stmt} {np pos' : Pos} {hds : List ExceptHandler} {l : List Hd} (hc : Names X x c) (hsu : SuOk X b₀ suite ts) (r : HdsI X hds l) :
      HdsI X (.ExceptHandler (some (.Name x np)) none (b₀ :: suite) pos' :: hds) (⟨c, none, ts⟩ :: l)
  | named {x n : Str} {i : Nat} {c : Value} {ts : ATS} {b₀ : Stmt} {suite : List Stmt} {np pos' : Pos} {hds : List ExceptHandler} {l : List Hd} (hN : X.N.Nodup) (hi : X.N[i]? = some n) (hln : X.env.kindOf n = some .local) (hc : Names X x c) (hsu : SuOk X b₀ suite ts) (r : HdsI X hds l) :
      HdsI X (.ExceptHandler (some (.Name x np)) (some n) (b₀ :: suite) pos' :: hds) (⟨c, some i, ts⟩ :: l)
section
variable {X : Cx} {body : List Stmt} {h₀ : ExceptHandler} {hds : List ExceptHandler} {l : List Hd} {pos : Pos} {tb : WX → TS} {Wout : WX}
theorem ps_tries (hs : X.stack = X.env :: X.outer) (hf : X.env.frame = some X.env.locals) (tk : Takes X Wout)
    (hb : ∀ (W : WX) (pn : List (Addr × Obj)) (xe : Value → Shared → Prop), Takes (X.tr pn xe) W → PassesOwn (model X.prog X.w) X.A X.env xe → PSs (X.tr pn xe) body (tb W))
    (hh : HdsI X (h₀ :: hds) l) : PS X (.Try body (h₀ :: hds) [] [] pos) (fun D σ H => tb (wHds X.K Wout D l) D σ H) := by
  constructor
  intro pins s σ H D I h
  have ok := I.ok
  have hfr : X.A.frames = some (X.env :: X.outer) := ok.frames.trans (congrArg some hs)
  have run := hb (wHds X.K Wout D l) (X.pn ++ pins) (fun e s₁ => wpAny (model X.prog X.w) X.A (noteFrame e X.env) (fun _ s₂ => wpAny (model X.prog X.w) X.A (setFlight e none) (fun _ s₃ => wpAny (model X.prog X.w) X.A (handleBy e X.env (h₀ :: hds)) (SP X pins D) X.xe s₃) X.xe s₂) X.xe s₁)
  refine wpAny_Try_except (wpAny_mono ((run ?caught PassesOwn.looking).run [] s σ H D (I.toTry _) h) (fun f s1 hsp => ?fine) fun e s1 he => he)
  case fine =>
    cases f with
    | next => obtain ⟨σ', H', J, q⟩ := hsp; exact wpAny_execs_nil ⟨σ', H', J.ofTry ok, q⟩
    | ret u => obtain ⟨v, σ', H', J, r, q⟩ := hsp; exact ⟨v, σ', H', J.ofTry ok, r, q⟩
    | brk => obtain ⟨σ', H', J, q⟩ := hsp; exact ⟨σ', H', J.ofTry ok, q⟩
    | cont => obtain ⟨σ', H', J, q⟩ := hsp; exact ⟨σ', H', J.ofTry ok, q⟩
  case caught =>
    rintro u s' ⟨a, B, sI, pins', σ', H', cls, d, rfl, J', nb, up, sky, na, os, ag, w⟩
    have J : Inv X pins σ' H' sI := J'.ofTry ok
    have sky' : Sky B (X.env :: X.outer) a (Zc cls d) X.env.locals s'.heap := hs ▸ sky
    show wpAny (model X.prog X.w) X.A (noteFrame (.ref a) X.env) _ _ _
    refine Sky.land Zc.steady hfr hf sky' fun h3 fl3 up3 => ?_
    have J3 : Inv X pins σ' H' { s' with heap := h3 } := J.landed nb fl3.1 (up.trans up3) os ag
    obtain ⟨oe3, vs3, he3, hz3, hd3⟩ := fl3.there
    have nfr : a ∉ frs (X.env :: X.outer) := fun hm => by
      obtain ⟨_, o', e', hnf⟩ := fl3.2.2.1.mem hm
      rw [he3] at e'
      cases e'
      exact hnf _ hd3
    have nL : a ≠ X.env.locals := fun z => nfr (List.mem_filterMap.mpr ⟨X.env, List.mem_cons_self, hf.trans (congrArg some z.symm)⟩)
    have nF : a ∉ X.fs := fun hm => let ⟨e, he, q⟩ := List.mem_filterMap.mp hm; nfr (List.mem_filterMap.mpr ⟨e, List.mem_cons_of_mem _ he, q⟩)
    have S3 := J3.suite he3 hd3 na nL nF
    have LT : PySem.W.Looks (model X.prog X.w) h3 (typeOf (.ref a)) cls := fun A Q E s k q => wpAny_typeOf_ref (k _ _ he3) (by rw [hz3.1]; exact q)
    have test : ∀ {x : Str} {c : Value} {np : Pos} {Q : Value → Shared → Prop} {E : Value → Shared → Prop}, Names X x c → Q c { s' with heap := h3 } → wpAny (model X.prog X.w) (X.A.mark (some (.ref a))) (eval (.Name x np) X.env) Q E { s' with heap := h3 } := fun hc q => by
      obtain ⟨hg, hdbg, hm | ⟨hm, hv, hnn⟩⟩ := hc
      · exact ld_glob (X := X.suite a ((a, oe3) :: (X.pn ++ pins))) S3 hg hm q hdbg
      · exact ld_blt (X := X.suite a ((a, oe3) :: (X.pn ++ pins))) S3 hg hm hv q hnn hdbg
    suffices go : ∀ {hds' : List ExceptHandler} {l' : List Hd}, HdsI X hds' l' → wHds X.K Wout D l' cls d σ' H' → wpAny (model X.prog X.w) X.A (handleBy (.ref a) X.env hds') (SP X pins D) X.xe { s' with heap := h3 } from go hh w
    intro hds' l' hk
    induction hk with
    | nil =>
      intro w
      refine wpAny_handleBy_nil ?_
      obtain ⟨k1, k2, k3, oe, vs, Tb, oT, ts', he, hz, hd, h1, hr⟩ := id fl3
      have fin : wpAny (model X.prog X.w) X.A (setFlight (.ref a) X.env.frame) (fun _ s4 => wpAny (model X.prog X.w) X.A (throw (.ref a) : Sem Flow) (SP X pins D) X.xe s4) X.xe { s' with heap := h3 } := by
        rw [hf]
        exact HandSPX.setFlight_upZ fl3 fun h4 hh4 up4 => wpAny_throw (tk _ _ ⟨a, B, sI, pins, σ', H', cls, d, rfl, J, nb, (up.trans up3).trans up4, .inr (.inr (by rw [hs]; exact hh4)), na, os, ag, w⟩)
      unfold PySem.passOn
      refine wpAny_bind (wpAny_field he hd h1 ?_)
      have ne : ¬ ((Value.ref Tb == Value.none) = true) := by simp
      rw [if_neg ne]
      first
        | exact wpAny_bind (wpAny_pure (wpAny_bind fin))
        | exact wpAny_bind fin
    | @plain x c ts b₀ suite np pos' hds2 l2 hc hsu r ih =>
      rintro ⟨b, hb1, hyes, hno⟩
      refine wpAny_handleBy_cons (codeAny_handlers_test (test hc ((PySem.W.exm_one (M := model X.prog X.w) J3.kIn LT hb1).here ?_))) (by intro q; cases q)
      cases b with
      | false => exact ih (hno rfl)
      | true =>
        refine codeAny_handlers_suite (HandSPX.lands_againZ fl3 fun h4 fl4 up4 => ?_)
        have J4 : Inv X pins σ' H' { s' with heap := h4 } := J.landed nb fl4.1 ((up.trans up3).trans up4) os ag
        obtain ⟨oe4, vs4, he4, hz4, hd4⟩ := fl4.there
        refine wpAny_mono ((hsu a oe4 cls d (X.pn ++ pins) hz4 ⟨_, hd4⟩).run [] _ _ H' _ (J4.suite he4 hd4 na nL nF) (hyes rfl a na)) (fun f s6 hsp => ?_) fun _ _ z => z.elim
        cases f with
        | next => obtain ⟨σ6, H6, S6, q6⟩ := hsp; exact ⟨_, _, S6.unsuite ok, q6⟩
        | brk => obtain ⟨σ6, H6, S6, q6⟩ := hsp; exact ⟨_, _, S6.unsuite ok, q6⟩
        | cont => obtain ⟨σ6, H6, S6, q6⟩ := hsp; exact ⟨_, _, S6.unsuite ok, q6⟩
        | ret u => obtain ⟨v6, σ6, H6, S6, r6, q6⟩ := hsp; exact ⟨_, _, _, S6.unsuite ok, r6, q6⟩
    | @named x n i c ts b₀ suite np pos' hds2 l2 hN hi hln hc hsu r ih =>
      rintro ⟨b, hb1, hyes, hno⟩
      refine wpAny_handleBy_cons (codeAny_handlers_test (test hc ((PySem.W.exm_one (M := model X.prog X.w) J3.kIn LT hb1).here ?_))) (by intro q; cases q)
      cases b with
      | false => exact ih (hno rfl)
      | true =>
        refine codeAny_handlers_suite_as (HandSPX.lands_againZ fl3 fun h4 fl4 up4 => ?_)
        have J4 : Inv X pins σ' H' { s' with heap := h4 } := J.landed nb fl4.1 ((up.trans up3).trans up4) os ag
        obtain ⟨oe4, vs4, he4, hz4, hd4⟩ := fl4.there
        refine store_ok (X := X.suite a ((a, oe4) :: (X.pn ++ pins))) (v := .ref a) (J4.suite he4 hd4 na nL nF) hN hi (.inl hln) rfl (fun s5 S5 => ?_) (.inr hln)
        refine wpAny_mono ((hsu a oe4 cls d (X.pn ++ pins) hz4 ⟨_, hd4⟩).run [] s5 _ H' _ S5 (hyes rfl a na)) (fun f s6 hsp => ?_) fun _ _ z => z.elim
        cases f with
        | next => obtain ⟨σ6, H6, S6, q6⟩ := hsp; exact gone_ok (S6.unsuite ok) hN hi hln fun s7 J7 => ⟨_, _, J7, q6⟩
        | brk => obtain ⟨σ6, H6, S6, q6⟩ := hsp; exact gone_ok (S6.unsuite ok) hN hi hln fun s7 J7 => ⟨_, _, J7, q6⟩
        | cont => obtain ⟨σ6, H6, S6, q6⟩ := hsp; exact gone_ok (S6.unsuite ok) hN hi hln fun s7 J7 => ⟨_, _, J7, q6⟩
        | ret u => obtain ⟨v6, σ6, H6, S6, r6, q6⟩ := hsp; exact gone_ok (S6.unsuite ok) hN hi hln fun s7 J7 => ⟨_, _, _, J7, r6, q6⟩
end
/-! ### what it means -/
theorem mem_look {β : Type} {c : Nat} {b : β} : ∀ {l : List (Nat × β)}, l.lookup c = some b → (c, b) ∈ l
  | [], e => by cases e
  | (k, v) :: l, e => by
    by_cases h : c = k
    · subst h; simp [List.lookup] at e; subst e; exact List.mem_cons_self
    · have hb : (c == k) = false := beq_eq_false_iff_ne.mpr h
      simp only [List.lookup, hb] at e
      exact List.mem_cons_of_mem _ (mem_look e)
def clrX (ε : Env) : Env := ε.map fun o => match o with
  | some (.exv _ _) => none
  | o => o
def unsE (i : Option Nat) (ε : Env) : Env := match i with
  | some j => ε.set j none
  | none => ε
def insE (i : Option Nat) (d : Da) (ε : Env) : Env := match i with
  | some j => ε.set j (some d)
  | none => ε
structure HdD where
  tbl : List (Nat × Bool)
  i : Option Nat
  s : Sm
def sufl (i : Option Nat) : Fl → Fl
  | .nx ε S => .nx (unsE i (clrX ε)) S
  | .bk ε S => .bk (unsE i (clrX ε)) S
  | .ct ε S => .ct (unsE i (clrX ε)) S
  | .rt d S => .rt d S
  | _ => .bad
def catchL : List HdD → Nat → List (Str × Da) → Env → Sto → Fl
  | [], c, fs, ε, S => .ex c fs ε S
  | d :: r, c, fs, ε, S => match d.tbl.lookup c with
    | some true => sufl d.i (d.s (insE d.i (.exv c fs) ε) S)
    | some false => catchL r c fs ε S
    | none => .bad
def sTry (b : Sm) (hs : List HdD) : Sm := fun ε S => match b ε S with
  | .ex c fs ε S => catchL hs c fs ε S
  | r => r
def Tab.at (T : Tab) (a : Addr) (cls : Value) (d : Option Addr) : Tab := ⟨T.cls, T.fnA, some (a, cls, d)⟩
abbrev W0 : WX := fun _ _ _ _ => False
abbrev SuI (X : Cx) (T : Tab) (suite : List Stmt) (s : Sm) : Prop := ∀ (a : Addr) (oe : Obj) (cls : Value) (d : Option Addr) (pn : List (Addr × Obj)), Zc cls d oe → (∃ vs, oe.data = .fields vs) → SsI (X.suite a ((a, oe) :: pn)) (T.at a cls d) W0 suite s
inductive HdsD (X : Cx) (T : Tab) : List ExceptHandler → List HdD → List Hd → Prop
  | nil : HdsD X T [] [] []
  | plain {x : Str} {c : Value} {s : Sm} {b₀ : Stmt} {suite : List Stmt} {np pos' : Pos} {hds : List ExceptHandler} {tbl : List (Nat × Bool)} {ds : List HdD} {l : List Hd} (hc : Names X x c) (hm : ∀ p ∈ tbl, PySem.W.exmOne X.K (.ref (T.cls p.1)) c = some p.2) (hsu : SuI X T (b₀ :: suite) s) (r : HdsD X T hds ds l) :
      HdsD X T (.ExceptHandler (some (.Name x np)) none (b₀ :: suite) pos' :: hds) (⟨tbl, none, s⟩ :: ds) (⟨c, none, fun a cls d => tS X.K (T.at a cls d) W0 s⟩ :: l)
  | named {x n : Str} {i : Nat} {c : Value} {s : Sm} {b₀ : Stmt} {suite : List Stmt} {np pos' : Pos} {hds : List ExceptHandler} {tbl : List (Nat × Bool)} {ds : List HdD} {l : List Hd} (hN : X.N.Nodup) (hi : X.N[i]? = some n) (hln : X.env.kindOf n = some .local) (hc : Names X x c)
      (hm : ∀ p ∈ tbl, PySem.W.exmOne X.K (.ref (T.cls p.1)) c = some p.2) (hsu : SuI X T (b₀ :: suite) s) (r : HdsD X T hds ds l) :
      HdsD X T (.ExceptHandler (some (.Name x np)) (some n) (b₀ :: suite) pos' :: hds) (⟨tbl, some i, s⟩ :: ds) (⟨c, some i, fun a cls d => tS X.K (T.at a cls d) W0 s⟩ :: l)
theorem HdsD.to {X : Cx} {T : Tab} {hds : List ExceptHandler} {ds : List HdD} {l : List Hd} (h : HdsD X T hds ds l) : HdsI X hds l := by
  induction h with
  | nil => exact .nil
  | plain hc hm hsu r ih => exact .plain hc (fun a oe cls d pn z f => hsu a oe cls d pn z f) ih
  | named hN hi hln hc hm hsu r ih => exact .named hN hi hln hc (fun a oe cls d pn z f => hsu a oe cls d pn z f) ih
section
variable {K : PySem.W.Frag} {T : Tab} {h : Hv} {σ : St} {ε : Env}
theorem SlotR.to (T' : Tab) (c : T'.cls = T.cls) (f : T'.fnA = T.fnA) (h0 : T.cur = none) {o : Option (Option V)} {d : Da} : SlotR K T h o d → SlotR K T' h o d
  | .inl ⟨n, v, e, r⟩ => .inl ⟨n, v, e, r.retab c f⟩
  | .inr ⟨a, cls, dd, k, fs, e, e1, e2, x⟩ => by rw [h0] at e1; cases e1
theorem EnvR.to (T' : Tab) (c : T'.cls = T.cls) (f : T'.fnA = T.fnA) (h0 : T.cur = none) (r : EnvR K T h σ ε) : EnvR K T' h σ ε := ⟨r.1, fun i d e => (r.2 i d e).to T' c f h0⟩
theorem EnvR.clr (T' : Tab) (c : T'.cls = T.cls) (f : T'.fnA = T.fnA) (i : Option Nat) (r : EnvR K T h σ ε) : EnvR K T' h (unsl i σ) (unsE i (clrX ε)) := by
  have base : EnvR K T' h σ (clrX ε) := by
    refine ⟨by simp [clrX, r.1], fun j d e => ?_⟩
    unfold clrX at e
    rw [List.getElem?_map] at e
    cases q : ε[j]? with
    | none => rw [q] at e; cases e
    | some o =>
      rw [q] at e
      cases o with
      | none => simp at e
      | some d' =>
        have s := r.2 j d' q
        rcases s with ⟨n, v, e1, rv⟩ | ⟨a, cls, dd, k, fs, e1, _⟩
        · have ed : d' = d := by
            cases d' <;> first | (simp [isExv] at n; done) | (simpa using e)
          subst ed
          exact .inl ⟨n, v, e1, rv.retab c f⟩
        · subst e1; simp at e
  cases i with
  | none => exact base
  | some j => exact base.unset j none
end
section
variable {X : Cx} {T : Tab} {W : WX}
theorem HdsD.wish {hds : List ExceptHandler} {ds : List HdD} {l : List Hd} (k : HdsD X T hds ds l) (h0 : T.cur = none) {cls : Value} {dd : Option Addr} {σ : St} {h : Hv} {c : Nat} {fs : List (Str × Da)} {ε : Env} {S : Sto} {D : Ends}
    (er : EnvR X.K T h σ ε) (x : XR X.K T h cls dd c fs) (hr : HeapR X.K T h S) (p : PostS X.K T W h (catchL ds c fs ε S) D) : wHds X.K W D l cls dd σ h.H := by
  have suite : ∀ (i : Option Nat) (s : Sm) (a : Addr), PostS X.K T W h (sufl i (s (insE i (.exv c fs) ε) S)) D → tS X.K (T.at a cls dd) W0 s (endsOf i D) (insl i (.ref a) σ) h.H := fun i s a p => by
    refine ⟨h, S, insE i (.exv c fs) ε, rfl, ?_, hr.retab (T := T) (T' := T.at a cls dd) rfl rfl, ?_⟩
    · have e1 := EnvR.to (T := T) (T.at a cls dd) rfl rfl h0 er
      cases i with
      | none => exact e1
      | some j => exact e1.put j (.inr ⟨a, cls, dd, c, fs, rfl, rfl, rfl, x.retab (T := T) (T' := T.at a cls dd) rfl rfl⟩)
    · have cl : ∀ {h' : Hv} {σ1 : St} {ε1 : Env}, EnvR X.K (T.at a cls dd) h' σ1 ε1 → EnvR X.K T h' (unsl i σ1) (unsE i (clrX ε1)) := fun r => EnvR.clr (T := T.at a cls dd) T rfl rfl i r
      cases q : s (insE i (.exv c fs) ε) S with
      | nx ε1 S1 => rw [q] at p; exact fun σ1 h' g r t => p _ h' g (cl r) (t.retab (T := T.at a cls dd) (T' := T) rfl rfl)
      | bk ε1 S1 => rw [q] at p; exact fun σ1 h' g r t => p _ h' g (cl r) (t.retab (T := T.at a cls dd) (T' := T) rfl rfl)
      | ct ε1 S1 => rw [q] at p; exact fun σ1 h' g r t => p _ h' g (cl r) (t.retab (T := T.at a cls dd) (T' := T) rfl rfl)
      | rt d S1 => rw [q] at p; exact fun v h' g r t => p v h' g (r.retab (T := T.at a cls dd) (T' := T) rfl rfl) (t.retab (T := T.at a cls dd) (T' := T) rfl rfl)
      | ex c' fs' ε1 S1 => rw [q] at p; exact p.elim
      | bad => rw [q] at p; exact p.elim
  have look : ∀ {tbl : List (Nat × Bool)} {v : Value} {b : Bool}, (∀ p ∈ tbl, PySem.W.exmOne X.K (.ref (T.cls p.1)) v = some p.2) → tbl.lookup c = some b → PySem.W.exmOne X.K cls v = some b := fun {tbl v b} hm e => by
    rw [x.1]
    exact hm (c, b) (mem_look e)
  induction k with
  | nil => exact p cls dd σ h (Grow.refl h) er x hr
  | @plain y v s b₀ sub np pos' hds tbl ds l hc hm hsu r ih =>
    unfold catchL at p
    dsimp only at p
    cases e : tbl.lookup c with
    | none => rw [e] at p; exact p.elim
    | some b =>
      rw [e] at p
      refine ⟨b, look hm e, fun z a _ => ?_, fun z => ?_⟩
      · subst z; exact suite none s a p
      · subst z; exact ih p
  | @named y n i v s b₀ sub np pos' hds tbl ds l hN hi hln hc hm hsu r ih =>
    unfold catchL at p
    dsimp only at p
    cases e : tbl.lookup c with
    | none => rw [e] at p; exact p.elim
    | some b =>
      rw [e] at p
      refine ⟨b, look hm e, fun z a _ => ?_, fun z => ?_⟩
      · subst z; exact suite (some i) s a p
      · subst z; exact ih p
variable {body : List Stmt} {h₀ : ExceptHandler} {hds : List ExceptHandler} {l : List Hd} {ds : List HdD} {m : Sm} {pos : Pos}
theorem s_try (h0 : T.cur = none) (tk : Takes X W) (hb : ∀ (W : WX) (pn : List (Addr × Obj)) (xe : Value → Shared → Prop), Takes (X.tr pn xe) W → PassesOwn (model X.prog X.w) X.A X.env xe → SsI (X.tr pn xe) T W body m)
    (hh : HdsD X T (h₀ :: hds) ds l) (hs : X.stack = X.env :: X.outer := by rfl) (hf : X.env.frame = some X.env.locals := by rfl) : SI X T W (.Try body (h₀ :: hds) [] [] pos) (sTry m ds) := by
  refine wkS (ps_tries (tb := fun W => tS X.K T W m) hs hf tk (fun W pn xe t q => hb W pn xe t q) hh.to) fun D σ H ⟨h, S, ε, e, er, hr, p⟩ => ⟨h, S, ε, e, er, hr, ?_⟩
  unfold sTry at p
  cases q : m ε S with
  | ex c fs ε1 S1 => rw [q] at p; exact fun cls dd σ1 h1 g1 er1 x1 hr1 => hh.wish h0 er1 x1 hr1 (PostS.grow g1 p)
  | nx ε1 S1 => rw [q] at p; exact p
  | rt d S1 => rw [q] at p; exact p
  | bk ε1 S1 => rw [q] at p; exact p
  | ct ε1 S1 => rw [q] at p; exact p
  | bad => rw [q] at p; exact p
/-! ### raise -/
def sRaise (c : Nat) (f : Str) (a : Es) : Sm := fun ε S => lft (a ε S) ε fun ds S => match ds with
  | [d] => .ex c [(f, d)] ε S
  | _ => .bad
theorem s_raise {x f : Str} {a : Expr} {es : Es} {c k : Nat} {C fI : Addr} {p pos pos2 : Pos} (hcl : T.cls c = C) (TX : PySem.GX.XTxt X.prog X.K X.mg C fI f) (FN : PySem.GX.FName f) (gC : X.mg x = some (.ref C)) (hroom : Room k X.A) (hc : X.calm = true) (tk : Takes X W) (ha : AI X T W [a] es)
    (hg : Gl X x) (hdb : (x == ("__debug__" : Str)) = false := by decide) (he : starEach (a :: []) X.env = (false, eval a X.env) :: starEach [] X.env := by rfl) (hpl : (backTo pos (starEach [] X.env)).any (·.1) = false := by rfl) :
    SI X T W (.Raise (some (.Call (.Name x p) [a] [] pos)) none pos2) (sRaise c f es) := by
  refine wkS (ps_raise hc tk (pmk_x TX FN gC hroom ha hg hdb he hpl)) fun D σ H ⟨h, S, ε, e, er, hr, p⟩ => ⟨h, S, ε, e, er, hr, (PostS.lft er p).imp fun vs H1 ⟨h1, S1, ds, e1, g1, r1, hr1, er1, p1⟩ => ?_⟩
  cases r1 with
  | nil => exact (show False from p1).elim
  | @cons v vs d ds r r1 =>
    cases r1 with
    | cons _ _ => exact (show False from p1).elim
    | nil =>
      subst e1
      refine ⟨v, rfl, fun q hq => ?_⟩
      have g := grow_new (h := h1) hq (.xd [(f, v)])
      refine p1 (.ref C) (some q) σ { h1 with H := upd h1.H q (.xd [(f, v)]) } g (er1.mono g.ext) ⟨by rw [hcl], .inr ⟨q, [(f, v)], rfl, upd_same, ?_, .cons (r.mono g.ext) .nil⟩⟩ (hr1.new hq _)
      exact hr1.fresh hq
/-! ### e.f in a suite -/
def eXf (cs : List Nat) (i : Nat) (f : Str) : E := fun ε S => match ε[i]? with
  | some (some (.exv c fs)) => if c ∈ cs then (match fs.lookup f with | some d => .ok d S | none => .bad) else .bad
  | _ => .bad
theorem RVf.look {K : PySem.W.Frag} {h : Hv} {gs : List (Str × V)} {fs : List (Str × Da)} (r : RVf K T h gs fs) {f : Str} {d : Da} (e : fs.lookup f = some d) : ∃ v, gs.lookup f = some v ∧ RV K T h v d := by
  induction fs generalizing gs with
  | nil => cases e
  | cons p fs ih =>
    cases r with
    | @cons g v vs d' ds a b =>
      by_cases hf : f = g
      · subst hf
        simp [List.lookup] at e
        subst e
        exact ⟨v, by simp [List.lookup], a⟩
      · have hb : (f == g) = false := beq_eq_false_iff_ne.mpr hf
        simp only [List.lookup, hb] at e ⊢
        exact ih b e
theorem RVf.nolook {K : PySem.W.Frag} {h : Hv} {gs : List (Str × V)} {fs : List (Str × Da)} (r : RVf K T h gs fs) {f : Str} (e : fs.lookup f = none) : gs.lookup f = none := by
  induction fs generalizing gs with
  | nil => cases r; rfl
  | cons p fs ih =>
    cases r with
    | @cons g v vs d' ds a b =>
      by_cases hf : f = g
      · subst hf; simp [List.lookup] at e
      · have hb : (f == g) = false := beq_eq_false_iff_ne.mpr hf
        simp only [List.lookup, hb] at e ⊢
        exact ih b e
theorem i_xf {a : Addr} {cls : Value} {dd : Option Addr} {oe : Obj} {pn : List (Addr × Obj)} {cs : List Nat} {i : Nat} {n f : Str} {pos p2 : Pos} (hz : Zc cls dd oe) (hd : ∃ vs, oe.data = .fields vs) (hN : X.N[i]? = some n) (hv : Vis X.env.scope n)
    (hX : ∀ c ∈ cs, XfC X.K (T.cls c) ∧ PySem.W.findIn X.K (.ref (T.cls c)) f = some none)
    (hb : attributeBase (.Name n p2) f X.env (eval (.Name n p2) X.env) = eval (.Name n p2) X.env := by rfl) (hdn : (n == ("__debug__" : Str)) = false := by decide) (hcd : (n == ("__classdict__" : Str)) = false := by decide) :
    EI (X.suite a ((a, oe) :: pn)) (T.at a cls dd) W (.Attribute (.Name n p2) f pos) (eXf cs i f) := by
  constructor
  rintro pins s σ H Q I ⟨h, S, ε, e, er, hr, p⟩
  unfold eXf at p
  split at p
  · rename_i c fs q
    rcases er.2 i _ q with ⟨nx, _⟩ | ⟨a', cls', dd', c', fs', e1, e2, e3, x⟩
    · simp [isExv] at nx
    · cases e1; cases e2
      split at p
      · rename_i hcs
        split at p
        · rename_i d q2
          obtain ⟨ec, x2⟩ := x
          have ec' : cls = .ref (T.cls c) := ec
          rcases x2 with ⟨_, z⟩ | ⟨d1, gs, z1, z2, z3, z4⟩
          · subst z; cases q2
          · obtain ⟨v, l, rv⟩ := z4.look q2
            refine (pe_xf (X := X) (hX c hcs).1 (hX c hcs).2 hz hd (pe_var (X := X.suite a ((a, oe) :: pn)) hN hv hdn hcd) hb).run pins s σ H Q I ⟨_, e3, rfl, ec', d1, gs, v, z1, by subst e; exact z2, l, ?_⟩
            subst e
            exact Post.ret p rv hr
        · exact p.elim
      · exact p.elim
  · exact p.elim
end
end G

namespace G
open PySem PySem.Spec PyProof.Rows L2

/-! ## kinds -/
def kindD (x : Da) (S : Sto) : Option BT := match drf S x with
  | .non => some .none
  | .bl _ => some .bool
  | .int _ => some .int
  | .str _ => some .str
  | .lst _ => some .list
  | .scr _ => some .list
  | .tup _ => some .tuple
  | _ => none
theorem SL.tyx {K : PySem.W.Frag} {h : Hv} {a : Addr} {xs : List V} : SL K h a xs → TyX K h.H (.ref a) (.type "list")
  | .inl ⟨.inl e, _⟩ => .base (.lst e)
  | .inl ⟨.inr ⟨o, e⟩, _⟩ => .base (.frz e)
  | .inr ⟨o, its, n, e, c, _⟩ => .kList e c
theorem ST.tyx {K : PySem.W.Frag} {h : Hv} {a : Addr} {xs : List V} : ST K h a xs → TyX K h.H (.ref a) (.type "tuple")
  | .inl ⟨.inl e, _⟩ => .base (.tup e)
  | .inl ⟨.inr ⟨o, e⟩, _⟩ => .fTuple e
  | .inr ⟨o, its, n, e, c, _⟩ => .kTuple e c
theorem kind_of {K : PySem.W.Frag} {T : Tab} {h : Hv} {S : Sto} {v : V} {d : Da} {b : BT} (r : RV K T h v d) (s : HeapR K T h S) (e : kindD d S = some b) : TyX K h.H v (.type b.name) := by
  have q := r.drf s
  unfold kindD at e
  generalize drf S d = d' at q e
  cases q with
  | lst a c => simp only [Option.some.injEq] at e; subst e; exact .base (.lst a)
  | of q =>
    cases q with
    | non => simp only [Option.some.injEq] at e; subst e; exact .base .non
    | bl b => simp only [Option.some.injEq] at e; subst e; exact .base (.bl _)
    | int b => simp only [Option.some.injEq] at e; subst e; exact .base (.int _)
    | str b => simp only [Option.some.injEq] at e; subst e; exact .base (.str _)
    | lst a c d => simp only [Option.some.injEq] at e; subst e; exact .base (.lst a)
    | scr a => simp only [Option.some.injEq] at e; subst e; exact a.tyx
    | tup a c => simp only [Option.some.injEq] at e; subst e; exact a.tyx
    | ins _ _ _ => cases e
    | fn _ => cases e
    | ty _ => cases e
    | cls _ => cases e
    | ref _ _ => cases e
def isB : BT → BT → Bool
  | .none, .none => true
  | .bool, .bool => true
  | .bool, .int => true
  | .int, .int => true
  | .str, .str => true
  | .list, .list => true
  | .tuple, .tuple => true
  | .dict, .dict => true
  | _, _ => false
theorem kitB_isB (a b : BT) : kitB a.name b.name = some (isB a b) := by
  cases a <;> cases b <;> decide +kernel
def tysOf : List Da → Option (List BT)
  | [] => some []
  | .ty b :: ds => (tysOf ds).map (b :: ·)
  | _ :: _ => none
/-- isinstance(x, T), T a built-in class -/
def dIsi (xs : List Da) (S : Sto) : Option (Da × Sto) := match xs with
  | [x, .ty b] => (kindD x S).map fun a => (.bl (isB a b), S)
  | _ => none
theorem o_isi {X : Cx} {T : Tab} : CallR X (.builtin "isinstance") (rDN X.K T dIsi) := by
  refine CallR.imp call_isi fun xs H Q ⟨h, S, ds, e, hr, r, p⟩ => ?_
  subst e
  unfold dIsi at p
  split at p
  · rename_i x b
    cases r with
    | cons r1 r =>
      cases r with
      | cons r2 r =>
        cases r
        cases r2
        cases q : kindD x S with
        | none => rw [q] at p; exact p.elim
        | some a =>
          rw [q] at p
          exact ⟨_, _, _, _, _, rfl, .ty _, kind_of r1 hr q, kit_ty (kitB_isB a b), p.ret (.bl _) hr⟩
  · exact p.elim
/-- isinstance(x, (T, U)) -/
def dIsT (x : Da) (cs : List Da) (S : Sto) : Option (Da × Sto) := match kindD x S, tysOf cs with
  | some a, some bs => if cs.length ≤ 16 then some (.bl (bs.any (isB a)), S) else none
  | _, _ => none
def eIsT (a : E) (cs : Es) : E := fun ε S => (a ε S).bind fun x S => (cs ε S).bind fun ds S => Rs.of (dIsT x ds S)
theorem tys_vals {K : PySem.W.Frag} {T : Tab} {h : Hv} : ∀ {ds : List Da} {vs : List V} {bs : List BT}, RVs K T h vs ds → tysOf ds = some bs → Paired ClsV vs (bs.map fun b => Value.type b.name)
  | [], _, bs, .nil, e => by simp only [tysOf, Option.some.injEq] at e; subst e; exact .nil
  | d :: ds, _, bs, .cons r1 r, e => by
    cases d <;> simp only [tysOf] at e <;> try (cases e; done)
    rename_i b
    cases q : tysOf ds with
    | none => rw [q] at e; cases e
    | some bs' =>
      rw [q] at e
      simp only [Option.map_some, Option.some.injEq] at e
      subst e
      cases r1
      exact .cons (.ty _) (tys_vals r q)
theorem kitAny_bs {K : PySem.W.Frag} (a : BT) : ∀ bs : List BT, PySem.W.kitAny K (.type a.name) (bs.map fun b => Value.type b.name) = some (bs.any (isB a))
  | [] => kitAny_nil
  | b :: bs => by
    refine kitAny_cons (kit_ty (kitB_isB a b)) (fun z => ?_) fun z => ?_
    · rw [List.any_cons, z, Bool.false_or]; exact kitAny_bs a bs
    · rw [List.any_cons, z, Bool.true_or]
section
variable {X : Cx} {T : Tab} {W : WX} {a : Expr} {cs : List Expr} {f : E} {gs : Es} {p p2 pos : Pos} {k : Nat}
theorem i_isT (ha : EI X T W a f) (hcs : AI X T W cs gs) (hg : Gl X "isinstance") (hm : X.mg "isinstance" = none)
    (he : starEach [a, .Tuple cs k p2] X.env = (false, eval a X.env) :: starEach [.Tuple cs k p2] X.env := by rfl) (he2 : starEach [.Tuple cs k p2] X.env = (false, eval (.Tuple cs k p2) X.env) :: starEach [] X.env := by rfl)
    (hpl : (backTo pos (starEach [.Tuple cs k p2] X.env)).any (·.1) = false := by rfl) : EI X T W (.Call (.Name "isinstance" p) [a, .Tuple cs k p2] [] pos) (eIsT f gs) := by
  refine wkE (pe_callB call_isiT hg hm PyProof.Rows.boot_isinstance (pa_cons ha (pa_cons (pe_tup hcs) pa_nil he2) he) (by decide) (by decide) he hpl) fun σ H Q ⟨h, S, ε, e, er, hr, p⟩ => ⟨h, S, ε, e, er, hr, (Post.bind p).imp fun x H1 ⟨h1, S1, d1, e1, g1, r1, hr1, p1⟩ => ?_⟩
  refine ⟨h1, S1, ε, e1, er.mono g1, hr1, (Post.bind p1).imp fun vs H2 ⟨h2, S2, ds, e2, g2, r2, hr2, p2⟩ => ?_⟩
  have p3 := Post.of p2
  unfold dIsT at p3
  split at p3
  · rename_i a bs q1 q2
    split at p3
    rotate_left
    · exact p3.elim
    rename_i hlen
    subst e2
    refine ⟨(by rw [r2.length]; rw [sizeLine_eq]; omega), fun q hq => ⟨x, q, vs, _, _, bs.any (isB a), rfl, upd_same, tys_vals r2 q2, ?_, kitAny_bs a bs, ?_⟩⟩
    · have gr := grow_new (h := h2) hq (.tup vs)
      exact kind_of (h := { h2 with H := upd h2.H q (.tup vs) }) ((r1.mono g2.ext).mono gr.ext) (hr2.new hq _) q1
    · exact p3 (.bl _) { h2 with H := upd h2.H q (.tup vs) } (grow_new hq _) (.bl _) (hr2.new hq _)
  · exact p3.elim
end
/-! ## names of built-in classes -/
theorem i_bty {X : Cx} {T : Tab} {W : WX} {x : Str} {pos : Pos} (b : BT) (hg : Gl X x) (hm : X.mg x = none) (hv : bootBuiltins x = some (.type b.name)) (hn : x ≠ "__name__" := by decide) (hd : (x == ("__debug__" : Str)) = false := by decide) : EI X T W (.Name x pos) (eC (.ty b)) :=
  i_c (pe_bltn (v := .ty b.name) hg hm hv rfl hn hd) fun _ => .ty b
/-- a constant of the module -/
theorem i_glob {X : Cx} {T : Tab} {W : WX} {x : Str} {pos : Pos} {v : V} {u : Value} {d : Da} (hg : Gl X x) (hm : X.mg x = some u) (r : RelV v u) (rd : ∀ h, RV X.K T h v d) (hd : (x == ("__debug__" : Str)) = false := by decide) : EI X T W (.Name x pos) (eC d) :=
  i_c (pe_glob hg hm r hd) rd
theorem i_gint {X : Cx} {T : Tab} {W : WX} {x : Str} {pos : Pos} {i : Int} (hg : Gl X x) (hm : ∃ t, X.mg x = some (.int i t)) (hd : (x == ("__debug__" : Str)) = false := by decide) : EI X T W (.Name x pos) (eC (.int i)) := by
  obtain ⟨t, hm⟩ := hm
  exact i_glob (v := .int i) hg hm ⟨t, rfl⟩ (fun _ => .int i) hd
theorem i_gstr {X : Cx} {T : Tab} {W : WX} {x : Str} {pos : Pos} {i : Str} (hg : Gl X x) (hm : ∃ t, X.mg x = some (.str i t)) (hd : (x == ("__debug__" : Str)) = false := by decide) : EI X T W (.Name x pos) (eC (.str i)) := by
  obtain ⟨t, hm⟩ := hm
  exact i_glob (v := .str i) hg hm ⟨t, rfl⟩ (fun _ => .str i) hd
/-! ## built-in functions -/
def dLen (xs : List Da) (S : Sto) : Option (Da × Sto) := match xs with
  | [x] => match drf S x with
    | .str y => if y.length ≤ sizeLine then some (.int y.length, S) else none
    | .lst ds => some (.int ds.length, S)
    | .tup ds => some (.int ds.length, S)
    | .scr ns => some (.int ns.length, S)
    | _ => none
  | _ => none
def dAbs (xs : List Da) (S : Sto) : Option (Da × Sto) := match xs with
  | [.int i] => some (.int (if i < 0 then -i else i), S)
  | _ => none
def dMax2 (xs : List Da) (S : Sto) : Option (Da × Sto) := match xs with
  | [.int i, .int j] => some (.int (if j > i then j else i), S)
  | _ => none
def dMin2 (xs : List Da) (S : Sto) : Option (Da × Sto) := match xs with
  | [.int i, .int j] => some (.int (if j < i then j else i), S)
  | _ => none
def dInt (xs : List Da) (S : Sto) : Option (Da × Sto) := match xs with
  | [.int i] => some (.int i, S)
  | [.bl k] => some (.int (if k then 1 else 0), S)
  | _ => none
/-- list(x): a value | in the store -/
def seqOf (x : Da) (S : Sto) : Option (List Da) := match drf S x with
  | .lst ds => some ds
  | .tup ds => some ds
  | .scr ns => some (ns.map Da.int)
  | _ => none
def dListOf (xs : List Da) (S : Sto) : Option (Da × Sto) := match xs with
  | [x] => (seqOf x S).map fun ds => (.lst ds, S)
  | _ => none
def dListNew (xs : List Da) (S : Sto) : Option (Da × Sto) := match xs with
  | [x] => (seqOf x S).map fun ds => (.ref S.length, S ++ [.lst ds])
  | _ => none
def dTupleOf (xs : List Da) (S : Sto) : Option (Da × Sto) := match xs with
  | [x] => (seqOf x S).map fun ds => (.tup ds, S)
  | _ => none
def intsOf : List Da → Option (List Int)
  | [] => some []
  | .int i :: ds => (intsOf ds).map (i :: ·)
  | _ :: _ => none
def blsOf : List Da → Option (List Bool)
  | [] => some []
  | .bl i :: ds => (blsOf ds).map (i :: ·)
  | _ :: _ => none
def listOf (x : Da) (S : Sto) : Option (List Da) := match drf S x with
  | .lst ds => some ds
  | .scr ns => some (ns.map Da.int)
  | _ => none
def maxL : List Int → Int
  | [] => 0
  | [a] => a
  | a :: l => let m := maxL l; if m < a then a else m
def minL : List Int → Int
  | [] => 0
  | [a] => a
  | a :: l => let m := minL l; if a < m then a else m
theorem maxL_spec : ∀ (l : List Int), l ≠ [] → maxL l ∈ l ∧ ∀ y ∈ l, y ≤ maxL l
  | [], h => absurd rfl h
  | [a], _ => by simp [maxL]
  | a :: b :: l, _ => by
    obtain ⟨h1, h2⟩ := maxL_spec (b :: l) (by simp)
    show (if maxL (b :: l) < a then a else maxL (b :: l)) ∈ _ ∧ ∀ y ∈ _, y ≤ (if maxL (b :: l) < a then a else maxL (b :: l))
    by_cases hh : maxL (b :: l) < a
    · rw [if_pos hh]
      refine ⟨List.mem_cons_self, fun y hy => ?_⟩
      rcases List.mem_cons.mp hy with e | e
      · omega
      · have := h2 y e; omega
    · rw [if_neg hh]
      refine ⟨List.mem_cons_of_mem _ h1, fun y hy => ?_⟩
      rcases List.mem_cons.mp hy with e | e
      · omega
      · exact h2 y e
theorem minL_spec : ∀ (l : List Int), l ≠ [] → minL l ∈ l ∧ ∀ y ∈ l, minL l ≤ y
  | [], h => absurd rfl h
  | [a], _ => by simp [minL]
  | a :: b :: l, _ => by
    obtain ⟨h1, h2⟩ := minL_spec (b :: l) (by simp)
    show (if a < minL (b :: l) then a else minL (b :: l)) ∈ _ ∧ ∀ y ∈ _, (if a < minL (b :: l) then a else minL (b :: l)) ≤ y
    by_cases hh : a < minL (b :: l)
    · rw [if_pos hh]
      refine ⟨List.mem_cons_self, fun y hy => ?_⟩
      rcases List.mem_cons.mp hy with e | e
      · omega
      · have := h2 y e; omega
    · rw [if_neg hh]
      refine ⟨List.mem_cons_of_mem _ h1, fun y hy => ?_⟩
      rcases List.mem_cons.mp hy with e | e
      · omega
      · exact h2 y e
def dMaxL (xs : List Da) (S : Sto) : Option (Da × Sto) := match xs with
  | [x] => match (listOf x S).bind intsOf with
    | some (i :: ns) => some (.int (maxL (i :: ns)), S)
    | _ => none
  | _ => none
def dMinL (xs : List Da) (S : Sto) : Option (Da × Sto) := match xs with
  | [x] => match (listOf x S).bind intsOf with
    | some (i :: ns) => some (.int (minL (i :: ns)), S)
    | _ => none
  | _ => none
def dSum (xs : List Da) (S : Sto) : Option (Da × Sto) := match xs with
  | [x] => ((listOf x S).bind intsOf).map fun ns => (.int ns.sum, S)
  | _ => none
def dAll (xs : List Da) (S : Sto) : Option (Da × Sto) := match xs with
  | [x] => ((listOf x S).bind blsOf).map fun bs => (.bl (bs.all id), S)
  | _ => none
def dAny (xs : List Da) (S : Sto) : Option (Da × Sto) := match xs with
  | [x] => ((listOf x S).bind blsOf).map fun bs => (.bl (bs.any id), S)
  | _ => none
section
variable {K : PySem.W.Frag} {T : Tab} {h : Hv} {S : Sto}
theorem RVs.one {xs : List V} {d : Da} (r : RVs K T h xs [d]) : ∃ v, xs = [v] ∧ RV K T h v d := by
  cases r with
  | cons r1 r => cases r; exact ⟨_, rfl, r1⟩
theorem RVs.two {xs : List V} {d e : Da} (r : RVs K T h xs [d, e]) : ∃ v w, xs = [v, w] ∧ RV K T h v d ∧ RV K T h w e := by
  cases r with
  | cons r1 r => cases r with | cons r2 r => cases r; exact ⟨_, _, rfl, r1, r2⟩
theorem seq_of {v : V} {d : Da} {ds : List Da} (r : RV K T h v d) (s : HeapR K T h S) (e : seqOf d S = some ds) : ∃ p xs, v = .ref p ∧ RVs K T h xs ds ∧ (SqL K h.H p xs ∨ SqT K h.H p xs) := by
  have q := r.drf s
  unfold seqOf at e
  generalize drf S d = d' at q e
  cases d' <;> simp only [Option.some.injEq] at e <;> try (cases e; done)
  · subst e; obtain ⟨a, xs, rfl, h1, h2⟩ := q.lst_inv; exact ⟨a, xs, rfl, h2, .inl (SqL.of h1)⟩
  · subst e; obtain ⟨a, xs, rfl, h1, h2⟩ := q.tup_inv; exact ⟨a, xs, rfl, h2, .inr h1.sq⟩
  · subst e
    cases q with
    | of q => cases q with | scr a => exact ⟨_, _, rfl, .of_ints _, .inl a.sq⟩
theorem list_of {v : V} {d : Da} {ds : List Da} (r : RV K T h v d) (s : HeapR K T h S) (e : listOf d S = some ds) : ∃ p xs, v = .ref p ∧ RVs K T h xs ds ∧ SqL K h.H p xs := by
  have q := r.drf s
  unfold listOf at e
  generalize drf S d = d' at q e
  cases d' <;> simp only [Option.some.injEq] at e <;> try (cases e; done)
  · subst e; obtain ⟨a, xs, rfl, h1, h2⟩ := q.lst_inv; exact ⟨a, xs, rfl, h2, SqL.of h1⟩
  · subst e
    cases q with
    | of q => cases q with | scr a => exact ⟨_, _, rfl, .of_ints _, a.sq⟩
theorem ints_of : ∀ {ds : List Da} {xs : List V} {ns : List Int}, RVs K T h xs ds → intsOf ds = some ns → xs = ns.map V.int
  | [], _, ns, .nil, e => by simp only [intsOf, Option.some.injEq] at e; subst e; rfl
  | d :: ds, _, ns, .cons r1 r, e => by
    cases d <;> simp only [intsOf] at e <;> try (cases e; done)
    cases q : intsOf ds with
    | none => rw [q] at e; cases e
    | some ms =>
      rw [q] at e
      simp only [Option.map_some, Option.some.injEq] at e
      subst e
      cases r1
      rw [ints_of r q]; rfl
theorem bls_of : ∀ {ds : List Da} {xs : List V} {ns : List Bool}, RVs K T h xs ds → blsOf ds = some ns → xs = ns.map V.bl
  | [], _, ns, .nil, e => by simp only [blsOf, Option.some.injEq] at e; subst e; rfl
  | d :: ds, _, ns, .cons r1 r, e => by
    cases d <;> simp only [blsOf] at e <;> try (cases e; done)
    cases q : blsOf ds with
    | none => rw [q] at e; cases e
    | some ms =>
      rw [q] at e
      simp only [Option.map_some, Option.some.injEq] at e
      subst e
      cases r1
      rw [bls_of r q]; rfl
theorem bindS {α β : Type} {o : Option α} {f : α → Option β} {b : β} (e : o.bind f = some b) : ∃ a, o = some a ∧ f a = some b := Option.bind_eq_some_iff.mp e
end
section
variable {X : Cx} {T : Tab}
theorem o_len : CallR X (.builtin "len") (rDN X.K T dLen) := by
  refine CallR.imp call_len fun xs H Q ⟨h, S, ds, e, hr, r, p⟩ => ?_
  subst e
  unfold dLen at p
  split at p
  · rename_i x
    obtain ⟨v, rfl, rv⟩ := r.one
    have q := rv.drf hr
    split at p
    · rename_i y e
      rw [e] at q
      have := q.str_inv
      subst this
      split at p
      · rename_i hl; exact ⟨_, _, rfl, ⟨hl, rfl⟩, p.ret (.int _) hr⟩
      · exact p.elim
    · rename_i y e
      rw [e] at q
      obtain ⟨a, xs, rfl, h1, h2⟩ := q.lst_inv
      rw [← h2.length] at p
      exact ⟨_, _, rfl, .inl ⟨_, SqL.of h1, rfl⟩, p.ret (.int _) hr⟩
    · rename_i y e
      rw [e] at q
      obtain ⟨a, xs, rfl, h1, h2⟩ := q.tup_inv
      rw [← h2.length] at p
      exact ⟨_, _, rfl, .inr ⟨_, h1.sq, rfl⟩, p.ret (.int _) hr⟩
    · rename_i y e
      rw [e] at q
      cases q with
      | of q => cases q with | scr a => exact ⟨_, y.length, rfl, .inl ⟨_, a.sq, by simp⟩, p.ret (.int _) hr⟩
    · exact p.elim
  · exact p.elim
theorem o_abs : CallR X (.builtin "abs") (rDN X.K T dAbs) := by
  refine CallR.imp call_abs fun xs H Q ⟨h, S, ds, e, hr, r, p⟩ => ?_
  subst e
  unfold dAbs at p
  split at p
  · obtain ⟨v, rfl, rv⟩ := r.one
    cases rv
    exact ⟨_, rfl, p.ret (.int _) hr⟩
  · exact p.elim
theorem o_max2 (hc : X.calm = true) : CallR X (.builtin "max") (rDN X.K T dMax2) := by
  refine CallR.imp (call_max2 hc) fun xs H Q ⟨h, S, ds, e, hr, r, p⟩ => ?_
  subst e
  unfold dMax2 at p
  split at p
  · obtain ⟨v, w, rfl, r1, r2⟩ := r.two
    cases r1; cases r2
    exact ⟨_, _, rfl, p.ret (.int _) hr⟩
  · exact p.elim
theorem o_min2 (hc : X.calm = true) : CallR X (.builtin "min") (rDN X.K T dMin2) := by
  refine CallR.imp (call_min2 hc) fun xs H Q ⟨h, S, ds, e, hr, r, p⟩ => ?_
  subst e
  unfold dMin2 at p
  split at p
  · obtain ⟨v, w, rfl, r1, r2⟩ := r.two
    cases r1; cases r2
    exact ⟨_, _, rfl, p.ret (.int _) hr⟩
  · exact p.elim
theorem o_int : CallR X (.type "int") (rDN X.K T dInt) := by
  refine CallR.imp call_int1 fun xs H Q ⟨h, S, ds, e, hr, r, p⟩ => ?_
  subst e
  unfold dInt at p
  split at p
  · obtain ⟨v, rfl, rv⟩ := r.one
    cases rv
    exact .inl ⟨_, rfl, p.ret (.int _) hr⟩
  · obtain ⟨v, rfl, rv⟩ := r.one
    cases rv
    exact .inr ⟨_, rfl, p.ret (.int _) hr⟩
  · exact p.elim
theorem o_list : CallR X (.type "list") (rDN X.K T dListOf) := by
  refine CallR.imp call_list_of fun xs H Q ⟨h, S, ds, e, hr, r, p⟩ => ?_
  subst e
  unfold dListOf at p
  split at p
  · rename_i x
    obtain ⟨v, rfl, rv⟩ := r.one
    cases q : seqOf x S with
    | none => rw [q] at p; exact p.elim
    | some ys =>
      rw [q] at p
      obtain ⟨a, us, rfl, ru, hs⟩ := seq_of rv hr q
      exact ⟨a, us, rfl, hs, PostO.newLst p hr ru⟩
  · exact p.elim
theorem o_listN : CallR X (.type "list") (rDN X.K T dListNew) := by
  refine CallR.imp call_list_of fun xs H Q ⟨h, S, ds, e, hr, r, p⟩ => ?_
  subst e
  unfold dListNew at p
  split at p
  · rename_i x
    obtain ⟨v, rfl, rv⟩ := r.one
    cases q : seqOf x S with
    | none => rw [q] at p; exact p.elim
    | some ys =>
      rw [q] at p
      obtain ⟨a, us, rfl, ru, hs⟩ := seq_of rv hr q
      exact ⟨a, us, rfl, hs, PostO.alloc p hr ru⟩
  · exact p.elim
theorem o_tuple : CallR X (.type "tuple") (rDN X.K T dTupleOf) := by
  refine CallR.imp call_tuple_of fun xs H Q ⟨h, S, ds, e, hr, r, p⟩ => ?_
  subst e
  unfold dTupleOf at p
  split at p
  · rename_i x
    obtain ⟨v, rfl, rv⟩ := r.one
    cases q : seqOf x S with
    | none => rw [q] at p; exact p.elim
    | some ys =>
      rw [q] at p
      have q0 := rv.drf hr
      unfold seqOf at q
      generalize drf S x = d' at q q0
      cases d' <;> simp only [Option.some.injEq] at q <;> try (cases q; done)
      · subst q; obtain ⟨a, us, rfl, h1, h2⟩ := q0.lst_inv; exact ⟨a, us, rfl, .inl ⟨SqL.of h1, PostO.newTup p hr h2⟩⟩
      · subst q; obtain ⟨a, us, rfl, h1, h2⟩ := q0.tup_inv; exact ⟨a, us, rfl, .inr ⟨h1.sq, p.ret (.tup h1 h2) hr⟩⟩
      · subst q
        cases q0 with
        | of q0 => cases q0 with | scr a => exact ⟨_, _, rfl, .inl ⟨a.sq, PostO.newTup p hr (.of_ints _)⟩⟩
  · exact p.elim
theorem o_maxL (hc : X.calm = true) : CallR X (.builtin "max") (rDN X.K T dMaxL) := by
  refine CallR.imp (cr_max hc) fun xs H Q ⟨h, S, ds, e, hr, r, p⟩ => ?_
  subst e
  unfold dMaxL at p
  split at p
  · obtain ⟨v, rfl, rv⟩ := r.one
    split at p
    · rename_i i ns q
      obtain ⟨ys, q1, q2⟩ := bindS q
      obtain ⟨a, us, rfl, ru, hs⟩ := list_of rv hr q1
      have eu := ints_of ru q2
      subst eu
      refine ⟨a, _, rfl, hs, by simp, fun m hm hy => ?_⟩
      obtain ⟨m1, m2⟩ := maxL_spec (i :: ns) (by simp)
      have em : m = maxL (i :: ns) := Int.le_antisymm (m2 m hm) (hy _ m1)
      rw [em]
      exact p.ret (.int _) hr
    · exact p.elim
  · exact p.elim
theorem o_minL (hc : X.calm = true) : CallR X (.builtin "min") (rDN X.K T dMinL) := by
  refine CallR.imp (cr_min hc) fun xs H Q ⟨h, S, ds, e, hr, r, p⟩ => ?_
  subst e
  unfold dMinL at p
  split at p
  · obtain ⟨v, rfl, rv⟩ := r.one
    split at p
    · rename_i i ns q
      obtain ⟨ys, q1, q2⟩ := bindS q
      obtain ⟨a, us, rfl, ru, hs⟩ := list_of rv hr q1
      have eu := ints_of ru q2
      subst eu
      refine ⟨a, _, rfl, hs, by simp, fun m hm hy => ?_⟩
      obtain ⟨m1, m2⟩ := minL_spec (i :: ns) (by simp)
      have em : m = minL (i :: ns) := Int.le_antisymm (hy _ m1) (m2 m hm)
      rw [em]
      exact p.ret (.int _) hr
    · exact p.elim
  · exact p.elim
theorem o_sum (hc : X.calm = true) : CallR X (.builtin "sum") (rDN X.K T dSum) := by
  refine CallR.imp (cr_sum hc) fun xs H Q ⟨h, S, ds, e, hr, r, p⟩ => ?_
  subst e
  unfold dSum at p
  split at p
  · rename_i x
    obtain ⟨v, rfl, rv⟩ := r.one
    cases q : (listOf x S).bind intsOf with
    | none => rw [q] at p; exact p.elim
    | some ns =>
      rw [q] at p
      obtain ⟨ys, q1, q2⟩ := bindS q
      obtain ⟨a, us, rfl, ru, hs⟩ := list_of rv hr q1
      have eu := ints_of ru q2
      subst eu
      exact ⟨a, _, rfl, hs, p.ret (.int _) hr⟩
  · exact p.elim
theorem o_all (hc : X.calm = true) : CallR X (.builtin "all") (rDN X.K T dAll) := by
  refine CallR.imp (cr_all hc) fun xs H Q ⟨h, S, ds, e, hr, r, p⟩ => ?_
  subst e
  unfold dAll at p
  split at p
  · rename_i x
    obtain ⟨v, rfl, rv⟩ := r.one
    cases q : (listOf x S).bind blsOf with
    | none => rw [q] at p; exact p.elim
    | some ns =>
      rw [q] at p
      obtain ⟨ys, q1, q2⟩ := bindS q
      obtain ⟨a, us, rfl, ru, hs⟩ := list_of rv hr q1
      have eu := bls_of ru q2
      subst eu
      exact ⟨a, _, rfl, hs, p.ret (.bl _) hr⟩
  · exact p.elim
theorem o_any (hc : X.calm = true) : CallR X (.builtin "any") (rDN X.K T dAny) := by
  refine CallR.imp (cr_any hc) fun xs H Q ⟨h, S, ds, e, hr, r, p⟩ => ?_
  subst e
  unfold dAny at p
  split at p
  · rename_i x
    obtain ⟨v, rfl, rv⟩ := r.one
    cases q : (listOf x S).bind blsOf with
    | none => rw [q] at p; exact p.elim
    | some ns =>
      rw [q] at p
      obtain ⟨ys, q1, q2⟩ := bindS q
      obtain ⟨a, us, rfl, ru, hs⟩ := list_of rv hr q1
      have eu := bls_of ru q2
      subst eu
      exact ⟨a, _, rfl, hs, p.ret (.bl _) hr⟩
  · exact p.elim
end
/-! ### list(range(a, b)), tuple(..) -/
def rngD (a b : Int) : List Da := (List.range (b - a).toNat).map fun i => Da.int (a + (i : Nat))
theorem rng_vals {K : PySem.W.Frag} {T : Tab} {h : Hv} (a b : Int) : RVs K T h (rgV a b) (rngD a b) := by
  unfold rgV rngD
  generalize List.range (b - a).toNat = l
  induction l with
  | nil => exact .nil
  | cons x l ih => exact .cons (.int _) ih
noncomputable def rgOk (a b : Int) : Bool := cdec (-(2 ^ 62) ≤ a ∧ a < 2 ^ 62 ∧ -(2 ^ 62) ≤ b ∧ b < 2 ^ 62 ∧ (b - a).toNat ≤ 2 ^ 24)
noncomputable def rgRes (new : Bool) (x y : Da) (S : Sto) : Rs Da := match x, y with
  | .int i, .int j => if rgOk i j then (if new then .ok (.ref S.length) (S ++ [.lst (rngD i j)]) else .ok (.lst (rngD i j)) S) else .bad
  | _, _ => .bad
noncomputable def eRg (new : Bool) (a b : E) : E := fun ε S => (a ε S).bind fun x S => (b ε S).bind fun y S => rgRes new x y S
section
variable {X : Cx} {T : Tab} {W : WX} {a b : Expr} {f g : E} {p p2 pl pos : Pos}
theorem rg_end {σ : St} {h1 h2 : Hv} {S2 : Sto} {dx dy : Da} {x y : V} {Q : VK} {new : Bool} (r1 : RV X.K T h2 x dx) (r2 : RV X.K T h2 y dy) (hr : HeapR X.K T h2 S2)
    (p : Post X.K T W (RV X.K T) σ h2 (rgRes new dx dy S2) Q) :
    ∃ i j, x = .int i ∧ y = .int j ∧ RgOk i j ∧ ∀ q, h2.H q = none → Q (.ref q) (upd h2.H q (.lst (rgV i j))) := by
  unfold rgRes at p
  split at p
  · cases r1; cases r2
    rename_i i j
    by_cases ok : rgOk i j = true
    · rw [if_pos ok] at p
      refine ⟨i, j, rfl, rfl, (cdec_to ok), fun q hq => ?_⟩
      cases new with
      | false => exact PostO.newLst (S := S2) (ds := rngD i j) (fun v h' g r s => p v h' g r s) hr (rng_vals i j) q hq
      | true => exact PostO.alloc (S := S2) (ds := rngD i j) (fun v h' g r s => p v h' g r s) hr (rng_vals i j) q hq
    · rw [if_neg ok] at p; exact p.elim
  · exact p.elim
theorem i_listRg2 (new : Bool) (hc : X.calm = true) (hg : Gl X "list") (hm : X.mg "list" = none) (hg2 : Gl X "range") (hm2 : X.mg "range" = none) (ha : EI X T W a f) (hb : EI X T W b g)
    (na : starEach [a, b] X.env = (false, eval a X.env) :: starEach [b] X.env := by rfl) (nb : starEach [b] X.env = (false, eval b X.env) :: starEach [] X.env := by rfl) (hp : (backTo p2 (starEach [b] X.env)).any (·.1) = false := by rfl)
    (nc : starEach [.Call (.Name "range" p) [a, b] [] p2] X.env = (false, eval (.Call (.Name "range" p) [a, b] [] p2) X.env) :: starEach [] X.env := by rfl) : EI X T W (.Call (.Name "list" pl) [.Call (.Name "range" p) [a, b] [] p2] [] pos) (eRg new f g) :=
  wkE (pe_listRg hc hg hm (prg_2 hg2 hm2 ha hb na nb hp) nc) fun σ H Q ⟨h, S, ε, e, er, hr, p⟩ => ⟨h, S, ε, e, er, hr, (Post.bind p).imp fun x H1 ⟨h1, S1, d1, e1, g1, r1, hr1, p1⟩ =>
    ⟨h1, S1, ε, e1, er.mono g1, hr1, (Post.bind p1).imp fun y H2 ⟨h2, S2, d2, e2, g2, r2, hr2, p2⟩ => by
      subst e2
      obtain ⟨i, j, e1, e2, ok, q⟩ := rg_end (h1 := h1) (r1.mono g2.ext) r2 hr2 p2
      exact ⟨i, j, e1, e2, ok, q⟩⟩⟩
theorem i_listRg1 (new : Bool) (hc : X.calm = true) (hg : Gl X "list") (hm : X.mg "list" = none) (hg2 : Gl X "range") (hm2 : X.mg "range" = none) (ha : EI X T W a f)
    (na : starEach [a] X.env = (false, eval a X.env) :: starEach [] X.env := by rfl)
    (nc : starEach [.Call (.Name "range" p) [a] [] p2] X.env = (false, eval (.Call (.Name "range" p) [a] [] p2) X.env) :: starEach [] X.env := by rfl) : EI X T W (.Call (.Name "list" pl) [.Call (.Name "range" p) [a] [] p2] [] pos) (eRg new (eC (.int 0)) f) :=
  wkE (pe_listRg hc hg hm (prg_1 hg2 hm2 ha na) nc) fun σ H Q ⟨h, S, ε, e, er, hr, p⟩ => ⟨h, S, ε, e, er, hr, (Post.bind (show Post X.K T W (RV X.K T) σ h ((f ε S).bind _) Q from p)).imp fun y H2 ⟨h2, S2, d2, e2, g2, r2, hr2, p2⟩ => by
      subst e2
      obtain ⟨i, j, e1, e2, ok, q⟩ := rg_end (h1 := h) (.int 0) r2 hr2 p2
      cases e1
      exact ⟨j, e2, ok, q⟩⟩
end
end G

namespace G
open PySem PySem.Spec PyProof.Rows L2

/-! ## a list of the store is walked: it stands as it was at every turn -/
def ItRS (K : PySem.W.Frag) (T : Tab) (n : Nat) (h : Hv) (J : It) (ds : List Da) : Prop :=
  (∀ i h2 S, Ext h h2 → HeapR K T h2 S → S[n]? = some (.lst ds) → i < ds.length → J.go i h2.H) ∧
  (∀ i h2 S, Ext h h2 → HeapR K T h2 S → S[n]? = some (.lst ds) → ds.length ≤ i → J.stop i h2.H) ∧
  (∀ (i : Nat) h2 S x H', Ext h h2 → HeapR K T h2 S → S[n]? = some (.lst ds) → i < ds.length → J.yld i h2.H x H' → ∃ h3 d, h3.H = H' ∧ Grow h2 h3 ∧ HeapR K T h3 S ∧ ds[i]? = some d ∧ RV K T h3 x d)
abbrev Ies := Env → Sto → Rs (Nat × List Da)
abbrev IIS (X : Cx) (T : Tab) (W : WX) (tg e : Expr) (f : Ies) : Prop := PI X tg e (tG X.K T W (fun h J nd => ItRS X.K T nd.1 h J nd.2) f)
def iSto (a : E) : Ies := fun ε S => (a ε S).bind fun x S => match x with
  | .ref n => match S[n]? with
    | some (.lst ds) => .ok (n, ds) S
    | _ => .bad
  | _ => .bad
theorem sto_at {K : PySem.W.Frag} {T : Tab} {h h2 : Hv} {a : Addr} {n : Nat} {S : Sto} {ds : List Da} (e : h.m[n]? = some (some a)) (g : Ext h h2) (hr : HeapR K T h2 S) (s : S[n]? = some (.lst ds)) : ∃ xs, h2.H a = some (.lst xs) ∧ RVs K T h2 xs ds := by
  rcases g.slot n _ e with z | z
  · exact hr.ob n a _ z s
  · have := hr.gone n z; rw [this] at s; cases s
theorem it_sto {X : Cx} {T : Tab} {W : WX} {tg a : Expr} {f : E} (ha : EI X T W a f) : IIS X T W tg a (iSto f) := by
  refine wkI (pi_list ha) fun σ H R ⟨h, S, ε, e, er, hr, p⟩ => ⟨h, S, ε, e, er, hr, (Post.bind p).imp fun x H1 ⟨h1, S1, d1, e1, g1, r1, hr1, p1⟩ => ?_⟩
  subst e1
  split at p1
  · rename_i n
    split at p1
    · rename_i ds q
      cases r1 with
      | ref e2 q2 =>
        rename_i o
        cases o with
        | none => rw [hr1.gone n e2] at q; cases q
        | some b =>
          have hv := q2 b rfl
          subst hv
          obtain ⟨xs, q3, q4⟩ := hr1.ob n b _ e2 q
          refine ⟨b, rfl, ⟨xs, SqL.of q3⟩, Post.ret (a := (n, ds)) p1 ⟨fun i h2 S g hr2 hg hi => ?_, fun i h2 S g hr2 hg hi => ?_, fun i h2 S x H' g hr2 hg hi y => ?_⟩ hr1⟩
          · obtain ⟨ys, z1, z2⟩ := sto_at e2 g hr2 hg
            obtain ⟨v, hv, _⟩ := z2.get (i := i) (d := ds[i]) (by simp [hi])
            exact ⟨ys, v, SqL.of z1, hv⟩
          · obtain ⟨ys, z1, z2⟩ := sto_at e2 g hr2 hg
            exact ⟨ys, SqL.of z1, by rw [z2.length]; exact hi⟩
          · obtain ⟨ys, z1, z2⟩ := sto_at e2 g hr2 hg
            obtain ⟨e3, y⟩ := y
            subst e3
            obtain ⟨d, hd, rv⟩ := z2.get' (y ys (SqL.of z1))
            exact ⟨h2, d, rfl, Grow.refl h2, hr2, hd, rv⟩
    · exact p1.elim
  · exact p1.elim
/-! ## for over a list of the store -/
open Classical in
noncomputable def forS (n : Nat) (d0 : List Da) (g : Tg) (b : Sm) : List Da → Env → Sto → Fl
  | [], ε, S => if S[n]? = some (.lst d0) then .nx ε S else .bad
  | d :: ds, ε, S => if S[n]? = some (.lst d0) then (match put g d ε with
    | none => .bad
    | some ε => match b ε S with
      | .nx ε S => forS n d0 g b ds ε S
      | .ct ε S => forS n d0 g b ds ε S
      | .bk ε S => .nx ε S
      | r => r) else .bad
noncomputable def sForS (it : Ies) (g : Tg) (b : Sm) : Sm := fun ε S => lft (it ε S) ε fun nd S => forS nd.1 nd.2 g b nd.2 ε S
section
variable {X : Cx} {T : Tab} {W : WX} {tg e : Expr} {pos : Pos} {it : Ies} {g : Tg} {body : List Stmt} {b : Sm}
theorem s_forS (po : PassesOwn (model X.prog X.w) X.A X.env X.xe) (hc : X.calm = true) (hi : IIS X T W tg e it) (hg : GI X T tg g) (hb : SsI X T W body b) (hs : ∀ x, foldedSetIterable e X.env x = pure x := by intro _; rfl) :
    SI X T W (.For tg e body [] pos) (sForS it g b) := by
  refine wkS (ps_for po hc hi hg hb hs) fun D σ H ⟨h, S, ε, e, er, hr, p⟩ => ⟨h, S, ε, e, er, hr, (PostS.lft er p).imp fun J H1 ⟨h1, S1, nd, e1, g1, r1, hr1, er1, p1⟩ => ?_⟩
  obtain ⟨n, ds⟩ := nd
  replace r1 : ItRS X.K T n h1 J ds := r1
  replace p1 : PostS X.K T W h1 (forS n ds g b ds ε S1) D := p1
  refine ⟨fun i m σ' H' => m = ds.length - i ∧ i ≤ ds.length ∧ ∃ h2 S2 ε2, h2.H = H' ∧ Grow h1 h2 ∧ EnvR X.K T h2 σ' ε2 ∧ HeapR X.K T h2 S2 ∧ PostS X.K T W h2 (forS n ds g b (ds.drop i) ε2 S2) D,
    ⟨ds.length, rfl, Nat.zero_le _, h1, S1, ε, e1, Grow.refl h1, er1, hr1, p1⟩, ?_⟩
  rintro i m σ' H' ⟨rfl, hi, h2, S2, ε2, rfl, g2, er2, hr2, p2⟩
  have hg : S2[n]? = some (.lst ds) := by
    by_cases z : S2[n]? = some (.lst ds)
    · exact z
    · cases q : ds.drop i with
      | nil => rw [q] at p2; unfold forS at p2; rw [if_neg z] at p2; exact p2.elim
      | cons d l => rw [q] at p2; unfold forS at p2; rw [if_neg z] at p2; exact p2.elim
  by_cases hlt : i < ds.length
  · refine .inr ⟨r1.1 i h2 S2 g2.ext hr2 hg hlt, fun σ'' H'' => ∃ h3 S3 ε3, h3.H = H'' ∧ Grow h1 h3 ∧ EnvR X.K T h3 σ'' ε3 ∧ HeapR X.K T h3 S3 ∧ PostS X.K T W h3 (forS n ds g b (ds.drop (i + 1)) ε3 S3) D,
      fun σ'' H'' n => ⟨ds.length - (i + 1), by omega, rfl, hlt, n⟩, fun x H3 y => ?_⟩
    obtain ⟨h3, d, rfl, g3, hr3, hd, rv⟩ := r1.2.2 i h2 S2 x H3 g2.ext hr2 hg hlt y
    have ed : ds.drop i = d :: ds.drop (i + 1) := by
      rw [List.drop_eq_getElem_cons hlt]
      rw [List.getElem?_eq_getElem hlt] at hd
      cases hd; rfl
    rw [ed] at p2
    unfold forS at p2
    rw [if_pos hg] at p2
    cases q : put g d ε2 with
    | none => simp only [q] at p2; exact p2.elim
    | some ε3 =>
      simp only [q] at p2
      refine ⟨h3, S2, ε2, d, rfl, er2.mono g3.ext, hr3, rv, ε3, q, fun σ3 er3 _ => ⟨h3, S2, ε3, rfl, er3, hr3, ?_⟩⟩
      have p3 := PostS.grow g3 p2
      cases z : b ε3 S2 with
      | nx ε4 S4 => rw [z] at p3; exact fun σ4 h4 g4 er4 hr4 => ⟨h4, S4, ε4, rfl, (g2.trans g3).trans g4, er4, hr4, PostS.grow g4 p3⟩
      | ct ε4 S4 => rw [z] at p3; exact fun σ4 h4 g4 er4 hr4 => ⟨h4, S4, ε4, rfl, (g2.trans g3).trans g4, er4, hr4, PostS.grow g4 p3⟩
      | bk ε4 S4 => rw [z] at p3; exact p3
      | rt d4 S4 => rw [z] at p3; exact p3
      | ex c fs ε4 S4 => rw [z] at p3; exact p3
      | bad => rw [z] at p3; exact p3
  · have ei : i = ds.length := by omega
    subst ei
    rw [List.drop_length] at p2
    unfold forS at p2
    rw [if_pos hg] at p2
    exact .inl ⟨r1.2.1 _ h2 S2 g2.ext hr2 hg (Nat.le_refl _), p2.nx er2 hr2⟩
end

open Classical in
noncomputable def compS (n : Nat) (d0 : List Da) (g : Tg) (t : TeE) (a : E) (ε : Env) : List Da → Sto → Rs (List Da)
  | [], S => if S[n]? = some (.lst d0) then .ok [] S else .bad
  | d :: ds, S => if S[n]? = some (.lst d0) then (match put g d ε with
    | none => .bad
    | some ε1 => (t ε1 S).bindN fun c S => if c then (a ε1 S).bindN fun x S => (compS n d0 g t a ε ds S).bindN fun xs S => .ok (x :: xs) S else compS n d0 g t a ε ds S) else .bad
noncomputable def eCompS (own : List Nat) (it : Ies) (g : Tg) (t : TeE) (a : E) : E := fun ε S => (it ε S).bind fun nd S => if nd.2.length ≤ sizeLine then (compS nd.1 nd.2 g t a (wipeE ε own) nd.2 S).bindN fun xs S => .ok (.lst xs) S else .bad
section
variable {X : Cx} {T : Tab} {W : WX} {tg iter elt : Expr} {ifs : List Expr} {pos : Pos} {it : Ies} {g : Tg} {t : TeE} {a : E} {scope : Scope} {own : List (Str × Nat)}
/-- the turns of a comprehension -/
theorem compS_core {h1 : Hv} {σ : St} {ε : Env} {J : It} {n : Nat} {ds : List Da} {S1 : Sto} {Q : VK} (r1 : ItRS X.K T n h1 J ds) (hr1 : HeapR X.K T h1 S1) (er1 : EnvR X.K T h1 σ ε) (hl : ds.length ≤ sizeLine)
    (hown : ∀ j ∈ slotsT g, j ∈ own.map (·.2))
    (p : ∃ xs S2, compS n ds g t a (wipeE ε (own.map (·.2))) ds S1 = .ok xs S2 ∧ ∀ (h2 : Hv) (D : Addr) (acc : List V), Grow h1 h2 → HeapR X.K T h2 S2 → h1.H D = none → h2.H D = some (.lst acc) → h2.free D → RVs X.K T h2 acc xs → Q (.ref D) h2.H) :
    ∀ D, h1.H D = none → ∃ W' : Nat → Nat → Hp → Prop, (∃ m, W' 0 m (upd h1.H D (.lst []))) ∧ ∀ i m H, W' i m H →
      (J.stop i H ∧ Q (.ref D) H) ∨ (J.go i H ∧ ∃ Nx : Hp → Prop, (∀ H', Nx H' → ∃ m', m' < m ∧ W' (i + 1) m' H') ∧ ∀ x H', J.yld i H x H' → tgD X.K T g x (wipe σ (own.map (·.2))) H' fun σ2 H2 => wipe σ2 (own.map (·.2)) = wipe σ (own.map (·.2)) ∧ tG X.K T wNo REq t σ2 H2 fun b H3 =>
        if b = true then tG X.K T wNo (RV X.K T) a σ2 H3 fun y H4 => ∃ acc, H4 D = some (.lst acc) ∧ acc.length < sizeLine ∧ Nx (upd H4 D (.lst (acc ++ [y]))) else Nx H3) := by
  intro D hD
  obtain ⟨xs, Se, hcomp, fin⟩ := p
  -- the state between two turns
  refine ⟨fun i m H' => m = ds.length - i ∧ i ≤ ds.length ∧ ∃ h2 S2 acc accD xs2, h2.H = H' ∧ h2.B = D :: h1.B ∧ Ext h1 h2 ∧ (∀ b o, h1.H b = some o → some b ∉ h1.m → h2.H b = some o ∧ some b ∉ h2.m) ∧ HeapR X.K T h2 S2 ∧
      h2.H D = some (.lst acc) ∧ RVs X.K T h2 acc accD ∧ acc.length ≤ i ∧ xs = accD ++ xs2 ∧ compS n ds g t a (wipeE ε (own.map (·.2))) (ds.drop i) S2 = .ok xs2 Se,
    ⟨ds.length, rfl, Nat.zero_le _, hide h1 D (.lst []), S1, [], [], xs, rfl, rfl, ext_hide hD _, fun b o e n => ?_, hr1.hide hD _, upd_same, .nil, Nat.le_refl _, rfl, hcomp⟩, ?_⟩
  · exact ⟨by show upd h1.H D _ b = _; rw [upd_ne (ne_of_none e hD)]; exact e, n⟩
  rintro i m H' ⟨rfl, hi, h2, S2, acc, accD, xs2, rfl, hB, x2, k2, hr2, hDa, ra, la, exs, hc⟩
  have hg : S2[n]? = some (.lst ds) := by
    by_cases z : S2[n]? = some (.lst ds)
    · exact z
    · cases q : ds.drop i with
      | nil => rw [q] at hc; unfold compS at hc; rw [if_neg z] at hc; cases hc
      | cons d l => rw [q] at hc; unfold compS at hc; rw [if_neg z] at hc; cases hc
  by_cases hlt : i < ds.length
  · refine .inr ⟨r1.1 i h2 S2 x2 hr2 hg hlt, fun H'' => ∃ h2 S2 acc accD xs2, h2.H = H'' ∧ h2.B = D :: h1.B ∧ Ext h1 h2 ∧ (∀ b o, h1.H b = some o → some b ∉ h1.m → h2.H b = some o ∧ some b ∉ h2.m) ∧ HeapR X.K T h2 S2 ∧
        h2.H D = some (.lst acc) ∧ RVs X.K T h2 acc accD ∧ acc.length ≤ i + 1 ∧ xs = accD ++ xs2 ∧ compS n ds g t a (wipeE ε (own.map (·.2))) (ds.drop (i + 1)) S2 = .ok xs2 Se,
      fun H'' n => ⟨ds.length - (i + 1), by omega, rfl, hlt, n⟩, fun x H3 y => ?_⟩
    obtain ⟨h3, d, rfl, g3, hr3, hd, rv⟩ := r1.2.2 i h2 S2 x H3 x2 hr2 hg hlt y
    have ed : ds.drop i = d :: ds.drop (i + 1) := by
      rw [List.drop_eq_getElem_cons hlt]
      rw [List.getElem?_eq_getElem hlt] at hd
      cases hd; rfl
    rw [ed] at hc
    unfold compS at hc
    rw [if_pos hg] at hc
    have D2 : some D ∉ h2.m := (hr2.hid D (by rw [hB]; exact List.mem_cons_self)).1
    have er3 : EnvR X.K T h3 (wipe σ (own.map (·.2))) (wipeE ε (own.map (·.2))) := ((er1.mono x2).mono g3.ext).wipe _
    cases q : put g d (wipeE ε (own.map (·.2))) with
    | none => simp only [q] at hc; cases hc
    | some ε3 =>
      simp only [q] at hc
      refine ⟨h3, S2, _, d, rfl, er3, hr3, rv, ε3, q, fun σ3 er4 off => ⟨off.wipe hown |>.trans ?_, h3, S2, ε3, rfl, er4, hr3, ?_⟩⟩
      · clear hc q fin exs
        have idem : ∀ (l : List Nat) (v : Nat), (wipe σ l) = wipe σ l := fun _ _ => rfl
        have key : ∀ own : List Nat, wipe (wipe σ own) own = wipe σ own := fun own => by
          refine List.ext_getElem? fun j => ?_
          have gen : ∀ (τ : St) (own : List Nat) (j : Nat), (L2.wipe τ own)[j]? = if j ∈ own then (if j < τ.length then some none else none) else τ[j]? := by
            intro τ own j
            induction own with
            | nil => simp [L2.wipe]
            | cons v vs ih =>
              show ((L2.wipe τ vs).set v none)[j]? = _
              by_cases hv : v = j
              · subst hv
                rw [List.getElem?_set]
                simp [wipe_length]
              · rw [List.getElem?_set_ne hv, ih]
                simp [Ne.symm hv]
          rw [gen, gen, wipe_length]
          by_cases hj : j ∈ own <;> simp [hj]
        exact key _
      · cases z : t ε3 S2 with
        | bad => simp only [z, Rs.bindN] at hc; cases hc
        | exc c fs S3 => simp only [z, Rs.bindN] at hc; cases hc
        | ok b S3 =>
          simp only [z, Rs.bindN] at hc
          intro b' h4 g4 eb hr4
          have eb' : b' = b := eb
          subst eb'
          cases b' with
          | false =>
            simp only [Bool.false_eq_true, if_false] at hc ⊢
            have gg := g3.trans g4
            obtain ⟨e5, _⟩ := gg.keep D _ hDa D2
            exact ⟨h4, S3, acc, accD, xs2, rfl, gg.B.trans hB, x2.trans gg.ext, fun b o e n => let ⟨e1, n1⟩ := k2 b o e n; gg.keep b o e1 n1, hr4, e5, ra.mono gg.ext, by omega, exs, hc⟩
          | true =>
            simp only [if_true] at hc ⊢
            refine ⟨h4, S3, ε3, rfl, er4.mono g4.ext, hr4, ?_⟩
            cases z2 : a ε3 S3 with
            | bad => simp only [z2] at hc; cases hc
            | exc c fs S4 => simp only [z2] at hc; cases hc
            | ok dy S4 =>
              simp only [z2] at hc
              intro y h5 g5 ry hr5
              have gg := (g3.trans g4).trans g5
              obtain ⟨e5, n5⟩ := gg.keep D _ hDa D2
              have D5 : D ∈ h5.B := by rw [gg.B, hB]; exact List.mem_cons_self
              cases z3 : compS n ds g t a (wipeE ε (own.map (·.2))) (ds.drop (i + 1)) S4 with
              | bad => simp only [z3] at hc; cases hc
              | exc c fs S5 => simp only [z3] at hc; cases hc
              | ok xs3 S5 =>
                simp only [z3] at hc
                cases hc
                refine ⟨acc, e5, by omega, { h5 with H := upd h5.H D (.lst (acc ++ [y])) }, S4, acc ++ [y], accD ++ [dy], xs3, rfl, gg.B.trans hB, (x2.trans gg.ext).trans (ext_hidden D5 _), fun b o e n => ?_, hr5.hidden D5 _, upd_same,
                  (((ra.mono gg.ext).mono (ext_hidden D5 _)).snoc (ry.mono (ext_hidden D5 _))), by simp; omega, by rw [exs]; simp, z3⟩
                obtain ⟨e1, n1⟩ := k2 b o e n
                obtain ⟨e6, n6⟩ := gg.keep b o e1 n1
                exact ⟨by show upd h5.H D _ b = _; rw [upd_ne (ne_of_none e hD)]; exact e6, n6⟩
  · have ei : i = ds.length := by omega
    subst ei
    rw [List.drop_length] at hc
    unfold compS at hc
    rw [if_pos hg] at hc
    cases hc
    rw [List.append_nil] at exs
    subst exs
    refine .inl ⟨r1.2.1 _ h2 _ x2 hr2 hg (Nat.le_refl _), ?_⟩
    have D2 : some D ∉ h2.m := (hr2.hid D (by rw [hB]; exact List.mem_cons_self)).1
    exact fin { h2 with B := h1.B } D acc ⟨rfl, x2.slot, k2⟩ (hr2.shown hB) hD hDa ⟨D2, fun z => (hr1.hid D z).2 hD⟩ (ra.mono (ext_show hB))
theorem i_compS (hc : X.calm = true) (hN : X.N.Nodup) (hi : IIS X T W tg iter it) (ok : BlkOk X.N X.env.scope scope own)
    (hg : ∀ (s : Shared) (H : Hp) (C : Addr) (cl : List (Str × Addr)) (fp : List Addr), GI (X.blk s H scope (compEnvC scope cl C X.env) fp) T tg g) (ht : ∀ (s : Shared) (H : Hp) (C : Addr) (cl : List (Str × Addr)) (fp : List Addr), QI (X.blk s H scope (compEnvC scope cl C X.env) fp) T wNo ifs t)
    (he : ∀ (s : Shared) (H : Hp) (C : Addr) (cl : List (Str × Addr)) (fp : List Addr), EI (X.blk s H scope (compEnvC scope cl C X.env) fp) T wNo elt a) (hown : ∀ j ∈ slotsT g, j ∈ own.map (·.2) := by decide) (hs : ∀ x, foldedSetIterable iter X.env x = pure x := by intro _; rfl) :
    EI X T W (.ListComp elt [⟨tg, iter, ifs, 0⟩] scope pos) (eCompS (own.map (·.2)) it g t a) := by
  refine wkE (pe_lc (g := tgD X.K T g) (tt := tG X.K T wNo REq t) (te := tG X.K T wNo (RV X.K T) a) hc hN hi ok hg ht he hs) fun σ H Q ⟨h, S, ε, e, er, hr, p⟩ => ⟨h, S, ε, e, er, hr, (Post.bind p).imp fun J H1 ⟨h1, S1, nd, e1, g1, r1, hr1, p1⟩ => ?_⟩
  obtain ⟨n, ds⟩ := nd
  replace r1 : ItRS X.K T n h1 J ds := r1
  subst e1
  dsimp only at p1
  split at p1
  · rename_i hl
    refine compS_core r1 hr1 (er.mono g1.ext) hl hown ?_
    cases z : compS n ds g t a (wipeE ε (own.map (·.2))) ds S1 with
    | bad => rw [z] at p1; exact p1.elim
    | exc c fs S3 => rw [z] at p1; exact p1.elim
    | ok xs S3 =>
      rw [z] at p1
      exact ⟨xs, S3, rfl, fun h2 D acc g2 hr2 _ eD fD ra => p1 (.ref D) h2 g2 (.lst eD fD ra) hr2⟩
  · exact p1.elim
/-- y = [a for g in it if t], in one row -/
theorem s_compS {i : Nat} {y : Str} {py spos : Pos} (hc : X.calm = true) (hN : X.N.Nodup) (hy : X.N[i]? = some y) (hyl : X.env.scope.names.lookup y = some .local)
    (hsw : swapsWith (.ListComp elt [⟨tg, iter, ifs, 0⟩] scope pos) (some (.Name y py)) spos.line X.env = pure true) (hi : IIS X T W tg iter it) (ok : BlkOk X.N X.env.scope scope own)
    (hg : ∀ (s : Shared) (H : Hp) (C : Addr) (cl : List (Str × Addr)) (fp : List Addr), GI (X.blk s H scope (compEnvC scope cl C X.env) fp) T tg g) (ht : ∀ (s : Shared) (H : Hp) (C : Addr) (cl : List (Str × Addr)) (fp : List Addr), QI (X.blk s H scope (compEnvC scope cl C X.env) fp) T wNo ifs t)
    (he : ∀ (s : Shared) (H : Hp) (C : Addr) (cl : List (Str × Addr)) (fp : List Addr), EI (X.blk s H scope (compEnvC scope cl C X.env) fp) T wNo elt a) (hown : ∀ j ∈ slotsT g, j ∈ own.map (·.2) := by decide) (hs : ∀ x, foldedSetIterable iter X.env x = pure x := by intro _; rfl) :
    SI X T W (.Assign [.Name y py] (.ListComp elt [⟨tg, iter, ifs, 0⟩] scope pos) spos) (sSet i (eCompS (own.map (·.2)) it g t a)) := by
  refine wkS (ps_setLc (g := tgD X.K T g) (tt := tG X.K T wNo REq t) (te := tG X.K T wNo (RV X.K T) a) hc hN hy hyl hsw hi ok hg ht he hs) fun D σ H ⟨h, S, ε, e, er, hr, p⟩ => ⟨h, S, ε, e, er, hr, ?_⟩
  have p' := PostS.lft (R := RV X.K T) er p
  refine (Post.bind p').imp fun J H1 ⟨h1, S1, nd, e1, g1, r1, hr1, p1⟩ => ?_
  obtain ⟨n, ds⟩ := nd
  replace r1 : ItRS X.K T n h1 J ds := r1
  subst e1
  dsimp only at p1
  split at p1
  · rename_i hl
    refine compS_core (Q := fun x H1 => gName i x σ H1 D.nx) (t := t) (a := a) r1 hr1 (er.mono g1.ext) hl hown ?_
    cases z : compS n ds g t a (wipeE ε (own.map (·.2))) ds S1 with
    | bad => rw [z] at p1; exact p1.elim
    | exc c fs S3 => rw [z] at p1; exact p1.elim
    | ok xs S3 =>
      rw [z] at p1
      refine ⟨xs, S3, rfl, fun h2 D' acc g2 hr2 _ eD fD ra => ?_⟩
      obtain ⟨h3, S4, d, e3, g3, r3, hr3, er3, p3⟩ := p1 (.ref D') h2 g2 (.lst eD fD ra) hr2
      show D.nx (σ.set i (some (.ref D'))) h2.H
      rw [← e3]
      exact p3.nx (er3.set r3 i) hr3
  · exact p1.elim
end
end G

namespace G
open PySem PySem.Spec PyProof.Rows L2

/-! ## methods of built-in classes -/
def rDM (K : PySem.W.Frag) (T : Tab) (g : Da → List Da → Sto → Option (Da × Sto)) : V → List V → Hp → VK → Prop := fun x xs H Q => ∃ h S dx ds, h.H = H ∧ HeapR K T h S ∧ RV K T h x dx ∧ RVs K T h xs ds ∧ PostO K T h (g dx ds S) Q
theorem MtR.imp {X : Cx} {id : String} {r r' : V → List V → Hp → VK → Prop} (h : MtR X id r) (w : ∀ x xs H Q, r' x xs H Q → r x xs H Q) : MtR X id r' := fun pins s σ H x xs v us Q I rx rs q => h pins s σ H x xs v us Q I rx rs (w x xs H Q q)
/-- the receiver is of the class -/
def isLst (x : Da) (S : Sto) : Bool := match kindD x S with
  | some .list => true
  | _ => false
def isStr (x : Da) (S : Sto) : Bool := match x with
  | .str _ => true
  | _ => false
def eBM (c : Da → Sto → Bool) (g : Da → List Da → Sto → Option (Da × Sto)) (o : E) (fs : Es) : E := fun ε S => (o ε S).bind fun x S => if c x S then (fs ε S).bind fun xs S => Rs.of (g x xs S) else .bad
theorem tyV_lst {K : PySem.W.Frag} {T : Tab} {h : Hv} {S : Sto} {v : V} {d : Da} (r : RV K T h v d) (s : HeapR K T h S) (c : isLst d S = true) : tyV K "list" v h.H := by
  have q := r.drf s
  unfold isLst kindD at c
  generalize drf S d = d' at q c
  cases d' <;> simp at c
  · obtain ⟨a, xs, rfl, h1, h2⟩ := q.lst_inv
    exact .inl ⟨rfl, xs, SqL.of h1⟩
  · cases q with
    | of q => cases q with | scr a => exact .inl ⟨rfl, _, a.sq⟩
section
variable {X : Cx} {T : Tab} {W : WX} {o e : Expr} {es : List Expr} {f : E} {fs : Es} {name : Str} {apos cpos : Pos} {id : String} {g : Da → List Da → Sto → Option (Da × Sto)}
theorem i_lm (slot : Slot "list" name id) (hty : typeOf (.builtin id) = pure (.type "method_descriptor")) (hm : MtR X id (rDM X.K T g)) (ho : EI X T W o f) (ha : AI X T W (e :: es) fs)
    (hbase : attributeBase o name X.env (eval o X.env) = eval o X.env := by rfl)
    (hfew : ((backTo cpos (starEach (e :: es) X.env)).all (fun x => !x.1) && (backToKw cpos (keywordEach [] X.env)).all (fun x => x.1.isSome)
      && decide ((e :: es).length + ([] : List Keyword).length + (if ([] : List Keyword).isEmpty then 0 else 1) < 30)) = true := by rfl)
    (hline : (apos.endLine == cpos.line) = true := by rfl) (hs : starEach (e :: es) X.env = (false, eval e X.env) :: starEach es X.env := by rfl) (hplain : (backTo cpos (starEach es X.env)).any (·.1) = false := by rfl) :
    EI X T W (.Call (.Attribute o name apos) (e :: es) [] cpos) (eBM isLst g f fs) :=
  wkE (pe_bm F.plainAttrs_list slot hty hm ho ha hbase hfew hline hs hplain) fun σ H Q ⟨h, S, ε, e, er, hr, p⟩ => ⟨h, S, ε, e, er, hr, (Post.bind p).imp fun x H1 ⟨h1, S1, d1, e1, g1, r1, hr1, p1⟩ => by
    by_cases c : isLst d1 S1 = true
    · rw [if_pos c] at p1
      exact ⟨by subst e1; exact tyV_lst r1 hr1 c, h1, S1, ε, e1, er.mono g1, hr1, (Post.bind p1).imp fun vs H2 ⟨h2, S2, ds, e2, g2, r2, hr2, p2⟩ => ⟨h2, S2, d1, ds, e2, hr2, r1.mono g2.ext, r2, p2.of⟩⟩
    · rw [if_neg c] at p1; exact p1.elim⟩
theorem i_lm0 (slot : Slot "list" name id) (hty : typeOf (.builtin id) = pure (.type "method_descriptor")) (hm : MtR X id (rDM X.K T g)) (ho : EI X T W o f)
    (hbase : attributeBase o name X.env (eval o X.env) = eval o X.env := by rfl) (hline : (apos.endLine == cpos.line) = true := by rfl) :
    EI X T W (.Call (.Attribute o name apos) [] [] cpos) (eBM isLst g f esNil) :=
  wkE (pe_bm0 F.plainAttrs_list slot hty hm ho hbase hline) fun σ H Q ⟨h, S, ε, e, er, hr, p⟩ => ⟨h, S, ε, e, er, hr, (Post.bind p).imp fun x H1 ⟨h1, S1, d1, e1, g1, r1, hr1, p1⟩ => by
    by_cases c : isLst d1 S1 = true
    · rw [if_pos c] at p1
      exact ⟨by subst e1; exact tyV_lst r1 hr1 c, h1, S1, d1, [], e1, hr1, r1, .nil, Post.of p1⟩
    · rw [if_neg c] at p1; exact p1.elim⟩
end
def dAppend (x : Da) (xs : List Da) (S : Sto) : Option (Da × Sto) := match x, xs with
  | .ref n, [y] => match S[n]? with
    | some (.lst ds) => if ds.length < sizeLine then some (.non, S.set n (.lst (ds ++ [y]))) else none
    | _ => none
  | _, _ => none
noncomputable def dInsert (x : Da) (xs : List Da) (S : Sto) : Option (Da × Sto) := match x, xs with
  | .ref n, [.int i, y] => match S[n]? with
    | some (.lst ds) => if ds.length < sizeLine ∧ 0 ≤ i ∧ inW 63 i = true then some (.non, S.set n (.lst (ds.take i.toNat ++ [y] ++ ds.drop i.toNat))) else none
    | _ => none
  | _, _ => none
def dExtend (x : Da) (xs : List Da) (S : Sto) : Option (Da × Sto) := match x, xs with
  | .ref n, [y] => match S[n]?, drf S y with
    | some (.lst ds), .lst zs => if ds.length + zs.length ≤ sizeLine then some (.non, S.set n (.lst (ds ++ zs))) else none
    | _, _ => none
  | _, _ => none
/-- pop the item at i -/
noncomputable def dPopAt (x : Da) (xs : List Da) (S : Sto) : Option (Da × Sto) := match x, xs with
  | .ref n, [.int i] => match S[n]? with
    | some (.lst ds) => if inW 63 i = true then (match seqIndex? i ds.length with
      | some k => match ds[k]? with
        | some y => some (y, S.set n (.lst (ds.eraseIdx k)))
        | none => none
      | none => none) else none
    | _ => none
  | _, _ => none
def dPop (x : Da) (xs : List Da) (S : Sto) : Option (Da × Sto) := match x, xs with
  | .ref n, [] => match S[n]? with
    | some (.lst ds) => match ds[ds.length - 1]? with
      | some y => some (y, S.set n (.lst ds.dropLast))
      | none => none
    | _ => none
  | _, _ => none
section
variable {K : PySem.W.Frag} {T : Tab} {h : Hv} {S : Sto}
/-- the list of the store behind a value -/
theorem sto_of {v : V} {n : Nat} {ds : List Da} (r : RV K T h v (.ref n)) (s : HeapR K T h S) (e : S[n]? = some (.lst ds)) : ∃ a xs, v = .ref a ∧ h.m[n]? = some (some a) ∧ h.H a = some (.lst xs) ∧ RVs K T h xs ds := by
  cases r with
  | ref e2 q2 =>
    rename_i o
    cases o with
    | none => rw [s.gone n e2] at e; cases e
    | some b =>
      obtain ⟨xs, q3, q4⟩ := s.ob n b _ e2 e
      exact ⟨b, xs, q2 b rfl, e2, q3, q4⟩
/-- it is written -/
theorem PostO.write {d : Da} {v : V} {n : Nat} {a : Addr} {ys : List V} {es : List Da} {Q : VK} (p : PostO K T h (some (d, S.set n (.lst es))) Q) (s : HeapR K T h S) (e : h.m[n]? = some (some a)) (r : RVs K T h ys es) (rd : RV K T h v d) :
    Q v (upd h.H a (.lst ys)) := by
  have g := grow_write s e (.lst ys)
  exact p v { h with H := upd h.H a (.lst ys) } g (rd.mono g.ext) (s.write e _ ⟨ys, upd_same, r.mono g.ext⟩)
theorem RVs.dropLast {xs : List V} {ds : List Da} (r : RVs K T h xs ds) : RVs K T h xs.dropLast ds.dropLast := by
  rw [List.dropLast_eq_take, List.dropLast_eq_take, r.length]; exact r.take _
theorem RVs.eraseIdx {xs : List V} {ds : List Da} (r : RVs K T h xs ds) (k : Nat) : RVs K T h (xs.eraseIdx k) (ds.eraseIdx k) := by
  rw [List.eraseIdx_eq_take_drop_succ, List.eraseIdx_eq_take_drop_succ]; exact (r.take k).append (r.drop _)
end
section
variable {X : Cx} {T : Tab}
theorem m_append : MtR X "list.append" (rDM X.K T dAppend) := by
  refine MtR.imp mt_append fun x xs H Q ⟨h, S, dx, ds, e, hr, r, rs, p⟩ => ?_
  subst e
  unfold dAppend at p
  split at p
  · split at p
    · rename_i ys q
      obtain ⟨y, rfl, ry⟩ := rs.one
      obtain ⟨a, us, rfl, e1, e2, e3⟩ := sto_of r hr q
      split at p
      · rename_i hl
        exact ⟨a, us, y, rfl, rfl, e2, by rw [e3.length]; exact hl, PostO.write p hr e1 (e3.snoc ry) .non⟩
      · exact p.elim
    · exact p.elim
  · exact p.elim
theorem m_insert : MtR X "list.insert" (rDM X.K T dInsert) := by
  refine MtR.imp mt_insert fun x xs H Q ⟨h, S, dx, ds, e, hr, r, rs, p⟩ => ?_
  subst e
  unfold dInsert at p
  split at p
  · split at p
    · rename_i ys q
      obtain ⟨v, y, rfl, rv, ry⟩ := rs.two
      cases rv
      obtain ⟨a, us, rfl, e1, e2, e3⟩ := sto_of r hr q
      split at p
      · rename_i hl
        exact ⟨a, us, _, y, rfl, rfl, e2, by rw [e3.length]; exact hl.1, hl.2.1, (inW_to hl.2.2).2, PostO.write p hr e1 (((e3.take _).append (.cons ry .nil)).append (e3.drop _)) .non⟩
      · exact p.elim
    · exact p.elim
  · exact p.elim
theorem m_extend : MtR X "list.extend" (rDM X.K T dExtend) := by
  refine MtR.imp mt_extend fun x xs H Q ⟨h, S, dx, ds, e, hr, r, rs, p⟩ => ?_
  subst e
  unfold dExtend at p
  split at p
  · rename_i n y
    split at p
    · rename_i ys zs q q2
      obtain ⟨v, rfl, ry⟩ := rs.one
      obtain ⟨a, us, rfl, e1, e2, e3⟩ := sto_of r hr q
      have ry' := ry.drf hr
      rw [q2] at ry'
      obtain ⟨b, ws, rfl, f1, f2⟩ := ry'.lst_inv
      split at p
      · rename_i hl
        exact ⟨a, b, us, ws, rfl, rfl, e2, f1, by rw [e3.length, f2.length]; exact hl, PostO.write p hr e1 (e3.append f2) .non⟩
      · exact p.elim
    · exact p.elim
  · exact p.elim
theorem m_popAt : MtR X "list.pop" (rDM X.K T dPopAt) := by
  refine MtR.imp mt_popAt fun x xs H Q ⟨h, S, dx, ds, e, hr, r, rs, p⟩ => ?_
  subst e
  unfold dPopAt at p
  split at p
  · split at p
    · rename_i ys q
      obtain ⟨v, rfl, ry⟩ := rs.one
      cases ry
      obtain ⟨a, us, rfl, e1, e2, e3⟩ := sto_of r hr q
      split at p
      · rename_i hl
        split at p
        · rename_i k hk
          split at p
          · rename_i y hy
            obtain ⟨w, hw, rw'⟩ := e3.get hy
            exact ⟨a, us, _, k, w, rfl, rfl, e2, (inW_to hl).1, (inW_to hl).2, by rw [e3.length]; exact hk, hw, PostO.write p hr e1 (e3.eraseIdx k) rw'⟩
          · exact p.elim
        · exact p.elim
      · exact p.elim
    · exact p.elim
  · exact p.elim
theorem m_pop : MtR X "list.pop" (rDM X.K T dPop) := by
  refine MtR.imp mt_pop fun x xs H Q ⟨h, S, dx, ds, e, hr, r, rs, p⟩ => ?_
  subst e
  unfold dPop at p
  split at p
  · split at p
    · rename_i ys q
      cases rs
      obtain ⟨a, us, rfl, e1, e2, e3⟩ := sto_of r hr q
      split at p
      · rename_i y hy
        obtain ⟨w, hw, rw'⟩ := e3.get hy
        exact ⟨a, us, w, rfl, rfl, e2, by rw [e3.length]; exact hw, PostO.write p hr e1 e3.dropLast rw'⟩
      · exact p.elim
    · exact p.elim
  · exact p.elim
end
/-! ## o[i] = v -/
def dSetIx (x i v : Da) (S : Sto) : Option Sto := match x, i with
  | .ref n, .int k => match S[n]? with
    | some (.lst ds) => (ixN ds.length k).map fun j => S.set n (.lst (ds.set j v))
    | _ => none
  | _, _ => none
def sSetIx (o i v : E) : Sm := fun ε S => lft (v ε S) ε fun y S => lft (o ε S) ε fun x S => lft (i ε S) ε fun k S => match dSetIx x k y S with
  | some S => .nx ε S
  | none => .bad
section
variable {X : Cx} {T : Tab} {W : WX} {o i v : Expr} {fo fi fv : E} {p pos : Pos}
theorem s_setIx (ho : EI X T W o fo) (hi : EI X T W i fi) (hv : EI X T W v fv)
    (ha : ∀ v, assign (.Subscript o i p) X.env v = (do
      let ov ← holding [v] (eval o X.env)
      let iv ← holding [v, ov] (eval i X.env)
      standAt p
      holding [v, ov, iv] (setItem ov iv v)
      release [v, ov, iv] []) := by intro _; rfl)
    (hs : swapsWithSole [.Subscript o i p] v pos.line X.env = pure false := by rfl) (hw : swappedStores [.Subscript o i p] v X.env = pure none := by rfl) (h1 : (assignEach [.Subscript o i p] X.env).map (·.2) = [assign (.Subscript o i p) X.env] := by rfl) :
    SI X T W (.Assign [.Subscript o i p] v pos) (sSetIx fo fi fv) :=
  wkS (ps_asg hv (pg_sub ho hi set_list ha) hs hw h1) fun D σ H ⟨h, S, ε, e, er, hr, p⟩ => ⟨h, S, ε, e, er, hr, (PostS.lft er p).imp fun y H1 ⟨h1, S1, dy, e1, g1, r1, hr1, er1, p1⟩ =>
    ⟨h1, S1, ε, e1, er1, hr1, (PostS.lft er1 p1).imp fun x H2 ⟨h2, S2, dx, e2, g2, r2, hr2, er2, p2⟩ => ⟨h2, S2, ε, e2, er2, hr2, (PostS.lft er2 p2).imp fun kk H3 ⟨h3, S3, dk, e3, g3, r3, hr3, er3, p3⟩ => by
      subst e3
      have r2' := r2.mono g3.ext
      have r1' := (r1.mono g2.ext).mono g3.ext
      cases q : dSetIx dx dk dy S3 with
      | none => rw [q] at p3; exact p3.elim
      | some S4 =>
        rw [q] at p3
        unfold dSetIx at q
        split at q
        · skip
          split at q
          · rename_i ds q2
            cases q3 : ixN ds.length _ with
            | none => rw [q3] at q; cases q
            | some j =>
              rw [q3] at q
              simp only [Option.map_some, Option.some.injEq] at q
              subst q
              cases r3
              obtain ⟨a, us, rfl, e1, e2, e3⟩ := sto_of r2' hr3 q2
              refine ⟨a, us, _, j, rfl, rfl, e2, by rw [e3.length]; exact q3, ?_⟩
              have g := grow_write hr3 e1 (.lst (us.set j y))
              exact p3 σ { h3 with H := upd h3.H a (.lst (us.set j y)) } g (er3.mono g.ext) (hr3.write e1 _ ⟨_, upd_same, (e3.set r1' j).mono g.ext⟩)
          · cases q
        · cases q⟩⟩⟩
end
end G

namespace G
open PySem PySem.Spec PyProof.Rows L2

/-! ## instances: fields, methods, making -/
def putFD (f : Str) (v : Da) : List (Str × Da) → List (Str × Da)
  | [] => [(f, v)]
  | (g, x) :: r => if g = f then (g, v) :: r else (g, x) :: putFD f v r
def insOf (x : Da) (S : Sto) : Option (Nat × List (Str × Da)) := match x with
  | .ins c fs => some (c, fs)
  | .ref n => match S[n]? with
    | some (.ins c fs) => some (c, fs)
    | _ => none
  | _ => none
theorem RVf.put {K : PySem.W.Frag} {T : Tab} {h : Hv} {f : Str} {v : V} {d : Da} (r : RV K T h v d) : ∀ {gs : List (Str × V)} {fs : List (Str × Da)}, RVf K T h gs fs → RVf K T h (putF f v gs) (putFD f d fs)
  | _, _, .nil => .cons r .nil
  | _, _, @RVf.cons _ _ _ g w gs e fs a b => by
    unfold putF putFD
    by_cases z : g = f
    · rw [if_pos z, if_pos z]; exact .cons r b
    · rw [if_neg z, if_neg z]; exact .cons a (RVf.put r b)
theorem RVf.length {K : PySem.W.Frag} {T : Tab} {h : Hv} : ∀ {gs : List (Str × V)} {fs : List (Str × Da)}, RVf K T h gs fs → gs.length = fs.length
  | _, _, .nil => rfl
  | _, _, .cons _ b => congrArg Nat.succ (RVf.length b)
theorem ins_of {K : PySem.W.Frag} {T : Tab} {h : Hv} {S : Sto} {v : V} {d : Da} {c : Nat} {fs : List (Str × Da)} (r : RV K T h v d) (s : HeapR K T h S) (e : insOf d S = some (c, fs)) :
    ∃ a dx gs, v = .ref a ∧ h.H a = some (.ins (T.cls c) dx gs) ∧ RVf K T h gs fs ∧ ∀ n, d = .ref n → h.m[n]? = some (some a) := by
  unfold insOf at e
  split at e
  · cases e
    cases r with
    | ins e1 f1 rs => exact ⟨_, _, _, rfl, e1, rs, fun n z => nomatch z⟩
  · split at e
    · rename_i q
      cases e
      cases r with
      | ref e2 q2 =>
        rename_i o
        cases o with
        | none => rw [s.gone _ e2] at q; cases q
        | some b =>
          obtain ⟨dx, gs, q3, q4⟩ := s.ob _ b _ e2 q
          exact ⟨b, dx, gs, q2 b rfl, q3, q4, fun n z => by cases z; exact e2⟩
    · cases e
  · cases e
/-- o.f -/
def eFld (cs : List Nat) (f : Str) (o : E) : E := fun ε S => (o ε S).bind fun x S => match insOf x S with
  | some (c, fs) => if c ∈ cs then (match fs.lookup f with
    | some d => .ok d S
    | none => .bad) else .bad
  | none => .bad
/-- o.f = v -/
def dFldSet (cs : List Nat) (f : Str) (x v : Da) (S : Sto) : Option Sto := match x with
  | .ref n => match S[n]? with
    | some (.ins c fs) => if c ∈ cs ∧ fs.length < 1000 then some (S.set n (.ins c (putFD f v fs))) else none
    | _ => none
  | _ => none
def sFldSet (cs : List Nat) (f : Str) (o v : E) : Sm := fun ε S => lft (v ε S) ε fun y S => lft (o ε S) ε fun x S => match dFldSet cs f x y S with
  | some S => .nx ε S
  | none => .bad
section
variable {X : Cx} {T : Tab} {W : WX} {o v : Expr} {fo fv : E} {f : Str} {p pos : Pos} {cs : List Nat}
theorem i_fld (hc : ∀ c ∈ cs, Cls X.K (T.cls c) ∧ NoAttr X.K (T.cls c) f) (ho : EI X T W o fo) (hb : attributeBase o f X.env (eval o X.env) = eval o X.env := by rfl) : EI X T W (.Attribute o f pos) (eFld cs f fo) :=
  wkE (pe_fld ho hb) fun σ H Q ⟨h, S, ε, e, er, hr, p⟩ => ⟨h, S, ε, e, er, hr, (Post.bind p).imp fun x H1 ⟨h1, S1, d1, e1, g1, r1, hr1, p1⟩ => by
    subst e1
    split at p1
    · rename_i c fs q
      split at p1
      · rename_i hcs
        split at p1
        · rename_i d q2
          obtain ⟨a, dx, gs, rfl, ha, rf, _⟩ := ins_of r1 hr1 q
          obtain ⟨w, l, rw'⟩ := rf.look q2
          exact ⟨a, _, dx, gs, w, rfl, ha, (hc c hcs).1, (hc c hcs).2, l, Post.ret p1 rw' hr1⟩
        · exact p1.elim
      · exact p1.elim
    · exact p1.elim⟩
theorem s_fldSet (hc : ∀ c ∈ cs, Cls X.K (T.cls c) ∧ NoAttr X.K (T.cls c) f) (ho : EI X T W o fo) (hv : EI X T W v fv) (hs : swapsWith v (some (.Attribute o f p)) pos.line X.env = pure false := by rfl) : SI X T W (.Assign [.Attribute o f p] v pos) (sFldSet cs f fo fv) :=
  wkS (ps_fld ho hv hs) fun D σ H ⟨h, S, ε, e, er, hr, p⟩ => ⟨h, S, ε, e, er, hr, (PostS.lft er p).imp fun y H1 ⟨h1, S1, dy, e1, g1, r1, hr1, er1, p1⟩ =>
    ⟨h1, S1, ε, e1, er1, hr1, (PostS.lft er1 p1).imp fun x H2 ⟨h2, S2, dx, e2, g2, r2, hr2, er2, p2⟩ => by
      subst e2
      have r1' := r1.mono g2.ext
      cases q : dFldSet cs f dx dy S2 with
      | none => rw [q] at p2; exact p2.elim
      | some S3 =>
        rw [q] at p2
        unfold dFldSet at q
        split at q
        · split at q
          · rename_i c fs q2
            split at q
            · rename_i hh
              simp only [Option.some.injEq] at q
              subst q
              obtain ⟨a, dx, gs, rfl, ha, rf, em⟩ := ins_of (c := c) (fs := fs) r2 hr2 (by simp only [insOf, q2])
              refine ⟨a, _, dx, gs, rfl, ha, (hc c hh.1).1, (hc c hh.1).2, by rw [rf.length]; exact hh.2, ?_⟩
              have em := em _ rfl
              have g := grow_write hr2 em (.ins (T.cls c) dx (putF f y gs))
              exact p2 σ { h2 with H := upd h2.H a (.ins (T.cls c) dx (putF f y gs)) } g (er2.mono g.ext) (hr2.write em _ ⟨_, _, upd_same, (rf.put r1').mono g.ext⟩)
            · cases q
          · cases q
        · cases q⟩⟩
end
/-- a method of class c -/
structure MetI (P : Program) (w : World) (K : PySem.W.Frag) (mg : Str → Option Value) (base : Heap) (T : Tab) (k : Nat) (c : Nat) (m : Str) (F : FnD) : Prop where
  cl : Cls K (T.cls c)
  ex : ∃ (f : Addr) (fd : FuncData) (ps : List Str), FnG P w K mg base k f fd ps (spI K T F) ∧ Meth K (T.cls c) m f ∧ Binds K fd ps []
theorem MetI.mono {P : Program} {w : World} {K : PySem.W.Frag} {mg : Str → Option Value} {base : Heap} {T : Tab} {j k c : Nat} {m : Str} {F : FnD} (D : MetI P w K mg base T j c m F) (h : j ≤ k) : MetI P w K mg base T k c m F := by
  obtain ⟨f, fd, ps, h1, h2, h3⟩ := D.ex
  exact ⟨D.cl, f, fd, ps, h1.mono h, h2, h3⟩
theorem MetI.imp {P : Program} {w : World} {K : PySem.W.Frag} {mg : Str → Option Value} {base : Heap} {T : Tab} {k c : Nat} {m : Str} {F F' : FnD} (D : MetI P w K mg base T k c m F) (e : ∀ ds S, F' ds S ≠ .bad → F' ds S = F ds S) : MetI P w K mg base T k c m F' := by
  obtain ⟨f, fd, ps, h1, h2⟩ := D.ex
  exact ⟨D.cl, f, fd, ps, h1.eqD e, h2⟩
def eMeth (c : Nat) (m : Str) (F : FnD) (o : E) (a : Es) : E := fun ε S => (o ε S).bind fun x S => match insOf x S with
  | some (c', fs) => if c' = c ∧ (fs.lookup m).isNone = true then (a ε S).bind fun xs S => F (x :: xs) S else .bad
  | none => .bad
section
variable {X : Cx} {T : Tab} {W : WX} {o e : Expr} {es : List Expr} {fo : E} {fs : Es} {m : Str} {p apos pos : Pos} {c k : Nat} {F : FnD}
theorem meth_at {h1 : Hv} {S1 : Sto} {x : V} {d : Da} {gs : List (Str × Da)} (r : RV X.K T h1 x d) (hr : HeapR X.K T h1 S1) (q : insOf d S1 = some (c, gs)) (l : (gs.lookup m).isNone = true) :
    ∃ a dx vs, x = .ref a ∧ h1.H a = some (.ins (T.cls c) dx vs) ∧ vs.lookup m = none := by
  obtain ⟨a, dx, vs, rfl, ha, rf, _⟩ := ins_of r hr q
  exact ⟨a, dx, vs, rfl, ha, rf.nolook (Option.isNone_iff_eq_none.mp l)⟩
theorem i_meth {pl : Sem Bool} (D : MetI X.prog X.w X.K X.mg X.base T.base k c m F) (hroom : RoomG k X.A) (tk : Takes X W) (ho : EI X T W o fo) (ha : AI X T W (e :: es) fs)
    (hst : starEach (e :: es) X.env = (false, eval e X.env) :: starEach es X.env := by rfl) (hpl : (backTo pos (starEach es X.env)).any (·.1) = false := by rfl)
    (ht : eval (.Call (.Attribute o m apos) (e :: es) [] pos) X.env = (do
      let ov ← eval o X.env
      standAt apos.atName
      let (f, first) ← holding [ov] (getMethod ov m pl)
      callWith pos f first (backTo pos (starEach (e :: es) X.env)) (backToKw pos (keywordEach [] X.env))) := by rfl) : EI X T W (.Call (.Attribute o m apos) (e :: es) [] pos) (eMeth c m F fo fs) := by
  obtain ⟨f, fd, ps, F0, hm, hb⟩ := D.ex
  have hcl : Cls X.K (T.cls c) := D.cl
  have hm' : Meth X.K (T.cls c) m f := hm
  refine ⟨fun pins s σ H Q I ⟨h, S, ε, e0, er, hr, p⟩ => ?_⟩
  refine PySem.W.methodCall_KW (pl := pl) (thn (ho.run pins s σ H _ I ⟨h, S, ε, e0, er, hr, Post.bind p⟩) fun u s1 ⟨x, H1, I1, rx, h1, S1, d1, e1, g1, r1, hr1, p1⟩ => ?_) ht
  split at p1
  · rename_i c' gs q
    split at p1
    · rename_i hh
      obtain ⟨rfl, l⟩ := hh
      obtain ⟨a, dx, vs, rfl, ea, ln⟩ := meth_at r1 hr1 q l
      subst e1
      obtain rfl : u = Value.ref a := rx
      refine getmeth_ok I1 ea hcl hm' ln ?_
      refine PySem.W.callWith_K (first := [.ref a]) (h₀ := X.base) I1.ok.mod.kin hm'.kp (thn (ha.run pos pins s1 σ h1.H _ I1 ⟨h1, S1, ε, rfl, er.mono g1, hr1, Post.bind p1⟩) fun us s2 ⟨vs, H2, I2, rv, h2, S2, ds, e2, g2, r2, hr2, p2⟩ => ⟨I2.kIn, ?_⟩) hst hpl
      exact run_fnG (us := .ref a :: us) (vs := .ref a :: vs) F0 hroom hb (passAt tk σ) I2 (.cons rfl rv) ⟨h2, S2, d1 :: ds, e2, hr2.retab (T := T) (T' := T.base) rfl rfl, .cons ((r1.mono g2.ext).retab (T := T) (T' := T.base) rfl rfl) (r2.retab (T := T) (T' := T.base) rfl rfl), Post.toF p2⟩
    · exact p1.elim
  · exact p1.elim
theorem i_meth0 {pl : Sem Bool} (D : MetI X.prog X.w X.K X.mg X.base T.base k c m F) (hroom : RoomG k X.A) (tk : Takes X W) (ho : EI X T W o fo)
    (ht : eval (.Call (.Attribute o m apos) [] [] pos) X.env = (do
      let ov ← eval o X.env
      standAt apos.atName
      let (f, first) ← holding [ov] (getMethod ov m pl)
      callWith pos f first (backTo pos (starEach [] X.env)) (backToKw pos (keywordEach [] X.env))) := by rfl) : EI X T W (.Call (.Attribute o m apos) [] [] pos) (eMeth c m F fo esNil) := by
  obtain ⟨f, fd, ps, F0, hm, hb⟩ := D.ex
  have hcl : Cls X.K (T.cls c) := D.cl
  have hm' : Meth X.K (T.cls c) m f := hm
  refine ⟨fun pins s σ H Q I ⟨h, S, ε, e0, er, hr, p⟩ => ?_⟩
  refine PySem.W.methodCall_KW (pl := pl) (thn (ho.run pins s σ H _ I ⟨h, S, ε, e0, er, hr, Post.bind p⟩) fun u s1 ⟨x, H1, I1, rx, h1, S1, d1, e1, g1, r1, hr1, p1⟩ => ?_) ht
  split at p1
  · rename_i c' gs q
    split at p1
    · rename_i hh
      obtain ⟨rfl, l⟩ := hh
      obtain ⟨a, dx, vs, rfl, ea, ln⟩ := meth_at r1 hr1 q l
      subst e1
      obtain rfl : u = Value.ref a := rx
      refine getmeth_ok I1 ea hcl hm' ln ?_
      exact PySem.W.callWith_K0 (first := [.ref a]) I1.kIn hm'.kp (run_fnG (us := [.ref a]) (vs := [.ref a]) F0 hroom hb (passAt tk σ) I1 (.cons rfl .nil) ⟨h1, S1, [d1], rfl, hr1.retab (T := T) (T' := T.base) rfl rfl, .cons (r1.retab (T := T) (T' := T.base) rfl rfl) .nil, Post.toF p1⟩)
    · exact p1.elim
  · exact p1.elim
end
/-- a class that is made -/
structure MakI (P : Program) (w : World) (K : PySem.W.Frag) (mg : Str → Option Value) (base : Heap) (T : Tab) (k : Nat) (x : Str) (c : Nat) (F : FnD) : Prop where
  mg_ : mg x = some (.ref (T.cls c))
  ex : ∃ (f : Addr) (fd : FuncData) (ps : List Str), FnG P w K mg base k f fd ps (spI K T F) ∧ Mk K (T.cls c) f ∧ Binds K fd ps []
theorem MakI.mono {P : Program} {w : World} {K : PySem.W.Frag} {mg : Str → Option Value} {base : Heap} {T : Tab} {j k c : Nat} {x : Str} {F : FnD} (D : MakI P w K mg base T j x c F) (h : j ≤ k) : MakI P w K mg base T k x c F := by
  obtain ⟨f, fd, ps, h1, h2, h3⟩ := D.ex
  exact ⟨D.mg_, f, fd, ps, h1.mono h, h2, h3⟩
def mkRes (n : Nat) (r : Rs Da) : Rs Da := r.bind fun d S => match d with
  | .non => .ok (.ref n) S
  | _ => .bad
def eMake (c : Nat) (F : FnD) (a : Es) : E := fun ε S => (a ε S).bind fun xs S => mkRes S.length (F (.ref S.length :: xs) (S ++ [.ins c []]))
/-- an object of the store becomes a value -/
def frzI (r : Rs Da) : Rs Da := r.bind fun x S => match x with
  | .ref n => match S[n]? with
    | some (.ins c fs) => .ok (.ins c fs) (S.set n .gone)
    | _ => .bad
  | d => .ok d S
noncomputable def eMakeV (c : Nat) (F : FnD) (a : Es) : E := fun ε S => (a ε S).bind fun xs S => scp S (frzI (mkRes S.length (F (.ref S.length :: xs) (S ++ [.ins c []]))))
theorem Post.scpE {K : PySem.W.Frag} {T : Tab} {W : WX} {σ : St} {h : Hv} {S : Sto} {r : Rs Da} {Q : VK} (hr : HeapR K T h S) (p : Post K T W (RV K T) σ h (scp S r) Q) : Post K T W (RV K T) σ h r Q := by
  have q : PostF K T h (scp S r) Q (WE W σ) := by
    cases z : scp S r with
    | ok a S => rw [z] at p; exact p
    | exc c fs S => rw [z] at p; exact p
    | bad => rw [z] at p; exact p
  have q2 := PostF.scp hr q
  cases r with
  | ok a S => exact q2
  | exc c fs S => exact q2
  | bad => exact q2
theorem Post.frzI {K : PySem.W.Frag} {T : Tab} {W : WX} {σ : St} {h : Hv} {r : Rs Da} {Q : VK} (p : Post K T W (RV K T) σ h (G.frzI r) Q) : Post K T W (RV K T) σ h r Q := by
  refine (Post.bind (R := RV K T) p).imp fun v H1 ⟨h1, S1, d, e1, g1, r1, hr1, p1⟩ => ?_
  subst e1
  cases d with
  | ref n =>
    dsimp only at p1
    split at p1
    · rename_i c fs e3
      obtain ⟨a, dx, gs, rfl, ha, rf, em⟩ := ins_of (c := c) (fs := fs) r1 hr1 (by simp only [insOf, e3])
      have em := em n rfl
      have free : (⟨h1.m.set n none, h1.B, h1.H⟩ : Hv).free a := by
        refine ⟨fun z => ?_, fun z => (hr1.hid a z).1 (List.mem_of_getElem? em)⟩
        obtain ⟨k, hk⟩ := List.getElem?_of_mem z
        have hk' : (h1.m.set n none)[k]? = some (some a) := hk
        by_cases hkn : k = n
        · subst hkn
          rw [List.getElem?_set_self (List.getElem?_eq_some_iff.mp em).1] at hk'; cases hk'
        · rw [List.getElem?_set_ne (Ne.symm hkn)] at hk'
          exact hkn (hr1.nd k n a hk' em)
      exact p1 (.ref a) ⟨h1.m.set n none, h1.B, h1.H⟩ grow_freeze (.ins ha free (rf.mono (h' := ⟨h1.m.set n none, h1.B, h1.H⟩) grow_freeze.ext)) (hr1.freeze n)
    · exact p1.elim
  | _ => exact Post.ret p1 r1 hr1
section
variable {X : Cx} {T : Tab} {W : WX} {e : Expr} {es : List Expr} {fs : Es} {x : Str} {p pos : Pos} {c k : Nat} {F : FnD}
theorem make_run {pins : List (Addr × Obj)} {σ : St} {s : Shared} {Q : VK} {us : List Value} {vs : List V} {h : Hv} {S : Sto} {ds : List Da} {f : Addr} {fd : FuncData} {ps : List Str} (M : Mk X.K (T.cls c) f) (F0 : FnG X.prog X.w X.K X.mg X.base k f fd ps (spI X.K T.base F))
    (hr : RoomG (k + 1) X.A) (tk : Takes X W) (hb : Binds X.K fd ps []) (I : Inv X pins σ h.H s) (r : Vals vs us) (hh : HeapR X.K T h S) (rv : RVs X.K T h vs ds) (p : Post X.K T W (RV X.K T) σ h (mkRes S.length (F (.ref S.length :: ds) (S ++ [.ins c []]))) Q) :
    wpAny (model X.prog X.w) X.A (call (.ref (T.cls c)) us) (EP X pins σ Q) X.xe s := by
  have I2 := Inv.made (C := T.cls c) I
  have hx0 : h.H (s.heap.objs.size + 1) = none := I.hok.fresh (Nat.le_succ _)
  have hd0 : h.H s.heap.objs.size = none := I.hok.fresh (Nat.le_refl _)
  have g1 := grow_new (h := h) hd0 (.own (s.heap.objs.size + 1))
  have hx1 : (upd h.H s.heap.objs.size (.own (s.heap.objs.size + 1))) (s.heap.objs.size + 1) = none := by rw [upd_ne (Nat.succ_ne_self _)]; exact hx0
  have hh1 := hh.new hd0 (.own (s.heap.objs.size + 1))
  have g2 := grow_alloc (h := { h with H := upd h.H s.heap.objs.size (.own (s.heap.objs.size + 1)) }) hx1 (.ins (T.cls c) s.heap.objs.size [])
  have hh2 := hh1.alloc hx1 (.ins (T.cls c) s.heap.objs.size []) (ob := .ins c []) ⟨_, _, upd_same, .nil⟩
  have gg := g1.trans g2
  have hsp : spI X.K T.base F (V.ref (s.heap.objs.size + 1) :: vs) (upd (upd h.H s.heap.objs.size (.own (s.heap.objs.size + 1))) (s.heap.objs.size + 1) (.ins (T.cls c) s.heap.objs.size [])) (fun v H2 => v = .non ∧ Q (.ref (s.heap.objs.size + 1)) H2) (WE W σ) := by
    refine ⟨_, _, .ref S.length :: ds, rfl, hh2.retab (T := T) (T' := T.base) rfl rfl, .cons (.ref (o := some (s.heap.objs.size + 1)) ?_ fun a e => by cases e; rfl) ((rv.mono gg.ext).retab (T := T) (T' := T.base) rfl rfl), ?_⟩
    · show (h.m ++ [some (s.heap.objs.size + 1)])[S.length]? = _
      rw [← hh.len]; simp
    · have p0 := Post.grow gg p
      unfold mkRes at p0
      cases q : F (.ref S.length :: ds) (S ++ [.ins c []]) with
      | bad => rw [q] at p0; exact p0.elim
      | exc c' fs' S' => rw [q] at p0; exact fun cls dd h' g x s => p0 cls dd h' g (x.retab (T := T.base) (T' := T) rfl rfl) (s.retab (T := T.base) (T' := T) rfl rfl)
      | ok d S' =>
        rw [q] at p0
        intro v h' g rr ss
        simp only [Rs.bind] at p0
        cases d with
        | non =>
          cases rr
          refine ⟨rfl, p0 (.ref (s.heap.objs.size + 1)) h' g ?_ (ss.retab (T := T.base) (T' := T) rfl rfl)⟩
          have em : (h.m ++ [some (s.heap.objs.size + 1)])[S.length]? = some (some (s.heap.objs.size + 1)) := by rw [← hh.len]; simp
          rcases g.slot S.length _ em with z | z
          · exact .ref z fun a e => by cases e; rfl
          · exact .ref z fun a e => by cases e
        | _ => exact p0.elim
  have r2 : Vals (V.ref (s.heap.objs.size + 1) :: vs) (Value.ref (s.heap.objs.size + 1) :: us) := .cons rfl r
  have hl : (Value.ref (s.heap.objs.size + 1) :: us).length = ps.length := by
    rw [← F0.len _ _ _ _ hsp]; exact r2.length.symm
  have bb := hb { s with heap := (s.heap.push PySem.W.emptyDict).push (PySem.W.instObj (T.cls c) s.heap.objs.size) } (Value.ref (s.heap.objs.size + 1) :: us) I2.kIn (by rw [List.append_nil]; exact hl)
  rw [List.append_nil] at bb
  refine wpAny_call (make_map (f := f) I.kIn M.makes M.init (beq_iff_eq.mp M.fn) (codeAny_mono (F0.run _ X.stack _ _ ⟨Value.ref (s.heap.objs.size + 1) :: us, []⟩ (Value.ref (s.heap.objs.size + 1) :: us) _ _ (WE W σ) (hr.make _ us []) (I2.env0.make _ us []) bb r2 hsp) fun r s' hq' => ?_))
  cases r with
  | error e => exact passAt tk σ pins _ _ e s' I2 hq'
  | ok fl =>
    cases fl with
    | ret u =>
      obtain ⟨v, H', I3, rv, ev, q3⟩ := I2.after hq'
      subst ev
      exact ⟨rv, ⟨V.ref (s.heap.objs.size + 1), H', I3, rfl, q3⟩⟩
    | next => exact False.elim hq'
    | brk => exact False.elim hq'
    | cont => exact False.elim hq'
theorem i_make (D : MakI X.prog X.w X.K X.mg X.base T.base k x c F) (hr : RoomG (k + 1) X.A) (tk : Takes X W) (hg : Gl X x) (ha : AI X T W (e :: es) fs) (hdb : (x == ("__debug__" : Str)) = false := by decide)
    (he : starEach (e :: es) X.env = (false, eval e X.env) :: starEach es X.env := by rfl) (hpl : (backTo pos (starEach es X.env)).any (·.1) = false := by rfl) : EI X T W (.Call (.Name x p) (e :: es) [] pos) (eMake c F fs) := by
  obtain ⟨f, fd, ps, F0, M, hb⟩ := D.ex
  refine ⟨fun pins s σ H Q I ⟨h, S, ε, e0, er, hh, p⟩ => ?_⟩
  refine wpAny_Call_Name_kw (ld_glob I hg D.mg_ ?_ hdb)
  refine PySem.W.callWith_K (h₀ := X.base) I.ok.mod.kin M.kp (thn (ha.run pos pins s σ H _ I ⟨h, S, ε, e0, er, hh, Post.bind p⟩) fun us s1 ⟨vs, H1, I1, r, h1, S1, ds, e1, g1, r1, hr1, p1⟩ => ⟨I1.kIn, ?_⟩) he hpl
  subst e1
  exact make_run (T := T) M F0 hr tk hb I1 r hr1 r1 p1
theorem i_makeV (D : MakI X.prog X.w X.K X.mg X.base T.base k x c F) (hr : RoomG (k + 1) X.A) (tk : Takes X W) (hg : Gl X x) (ha : AI X T W (e :: es) fs) (hdb : (x == ("__debug__" : Str)) = false := by decide)
    (he : starEach (e :: es) X.env = (false, eval e X.env) :: starEach es X.env := by rfl) (hpl : (backTo pos (starEach es X.env)).any (·.1) = false := by rfl) : EI X T W (.Call (.Name x p) (e :: es) [] pos) (eMakeV c F fs) := by
  obtain ⟨f, fd, ps, F0, M, hb⟩ := D.ex
  refine ⟨fun pins s σ H Q I ⟨h, S, ε, e0, er, hh, p⟩ => ?_⟩
  refine wpAny_Call_Name_kw (ld_glob I hg D.mg_ ?_ hdb)
  refine PySem.W.callWith_K (h₀ := X.base) I.ok.mod.kin M.kp (thn (ha.run pos pins s σ H _ I ⟨h, S, ε, e0, er, hh, Post.bind p⟩) fun us s1 ⟨vs, H1, I1, r, h1, S1, ds, e1, g1, r1, hr1, p1⟩ => ⟨I1.kIn, ?_⟩) he hpl
  subst e1
  exact make_run (T := T) M F0 hr tk hb I1 r hr1 r1 (Post.frzI (Post.scpE hr1 p1))
end
/-! ## a def in a name of the frame -/
structure FnAt (P : Program) (w : World) (K : PySem.W.Frag) (mg : Str → Option Value) (base : Heap) (T : Tab) (k : Nat) (n : Nat) (F : FnD) : Prop where
  ex : ∃ (fd : FuncData) (ps : List Str), FnG P w K mg base k (T.fnA n) fd ps (spI K T F) ∧ PySem.W.keepIn K (.ref (T.fnA n)) = true ∧ Binds K fd ps []
theorem FnAt.mono {P : Program} {w : World} {K : PySem.W.Frag} {mg : Str → Option Value} {base : Heap} {T : Tab} {j k n : Nat} {F : FnD} (D : FnAt P w K mg base T j n F) (h : j ≤ k) : FnAt P w K mg base T k n F := by
  obtain ⟨fd, ps, h1, h2, h3⟩ := D.ex
  exact ⟨fd, ps, h1.mono h, h2, h3⟩
def eCallL (i : Nat) (tbl : List (Nat × FnD)) (a : Es) : E := fun ε S => match ε[i]? with
  | some (some (.fn n)) => match tbl.lookup n with
    | some F => (a ε S).bind F
    | none => .bad
  | _ => .bad
section
variable {X : Cx} {T : Tab} {W : WX} {e : Expr} {es : List Expr} {fs : Es} {x : Str} {p pos : Pos} {i k : Nat} {tbl : List (Nat × FnD)}
theorem i_callL (D : ∀ q ∈ tbl, FnAt X.prog X.w X.K X.mg X.base T.base k q.1 q.2) (hr : RoomG k X.A) (tk : Takes X W) (hN : X.N[i]? = some x) (hv : Vis X.env.scope x) (ha : AI X T W (e :: es) fs) (hdb : (x == ("__debug__" : Str)) = false := by decide) (hcd : (x == ("__classdict__" : Str)) = false := by decide)
    (he : starEach (e :: es) X.env = (false, eval e X.env) :: starEach es X.env := by rfl) (hpl : (backTo pos (starEach es X.env)).any (·.1) = false := by rfl) : EI X T W (.Call (.Name x p) (e :: es) [] pos) (eCallL i tbl fs) := by
  refine ⟨fun pins s σ H Q I ⟨h, S, ε, e0, er, hh, p⟩ => ?_⟩
  unfold eCallL at p
  split at p
  · rename_i n q
    split at p
    · rename_i F q2
      obtain ⟨fd, ps, F0, hk, hb⟩ := (D (n, F) (mem_look q2)).ex
      rcases er.2 i _ q with ⟨nx, v, e1, rv⟩ | ⟨_, _, _, _, _, e1, _⟩
      · cases rv
        refine wpAny_Call_Name_kw (thn ((pe_var hN hv hdb hcd).run pins s σ H (fun v H1 => v = .ref (T.fnA n) ∧ H1 = H) I ⟨.ref (T.fnA n), e1, rfl, rfl⟩) fun u s1 ⟨v, H1, I1, r1, q1⟩ => ?_)
        obtain ⟨rfl, rfl⟩ := q1
        cases r1
        refine PySem.W.callWith_K (h₀ := X.base) I.ok.mod.kin hk (thn (ha.run pos pins s1 σ _ _ I1 ⟨h, S, ε, e0, er, hh, Post.bind p⟩) fun us s2 ⟨vs, H2, I2, r, h2, S2, ds, e2, g2, r2, hr2, p2⟩ => ⟨I2.kIn, ?_⟩) he hpl
        exact run_fnG F0 hr hb (passAt tk σ) I2 r ⟨h2, S2, ds, e2, hr2.retab (T := T) (T' := T.base) rfl rfl, r2.retab (T := T) (T' := T.base) rfl rfl, Post.toF p2⟩
      · cases e1
    · exact p.elim
  · exact p.elim
end
end G

namespace G
open PySem PySem.Spec PyProof.Rows L2

/-! ## short words for the printed terms -/
section
variable {X : Cx} {T : Tab} {W : WX}
theorem iv (i : Nat) {x : Str} {pos : Pos} (hN : X.N[i]? = some x := by rfl) (hv : Vis X.env.scope x := by first | exact Or.inl rfl | exact Or.inr (Or.inl rfl) | exact Or.inr (Or.inr rfl)) (hd : (x == ("__debug__" : Str)) = false := by decide)
    (hcd : (x == ("__classdict__" : Str)) = false := by decide) : EI X T W (.Name x pos) (eVar i) := i_var hN hv hd hcd
def eChain (g g' : Da → Da → Sto → Option (Da × Sto)) (a b c : E) : E := fun ε S => (a ε S).bind fun x S => (b ε S).bind fun y S => match g x y S with
  | some (.bl true, S) => (c ε S).bind fun z S => Rs.of (g' y z S)
  | some (.bl false, S) => .ok (.bl false) S
  | _ => .bad
variable {a b c : Expr} {f g h : E} {op op' : CmpOp} {g1 g2 : Da → Da → Sto → Option (Da × Sto)} {pos : Pos}
theorem chain_w : ∀ σ H Q, tG X.K T W (RV X.K T) (eChain g1 g2 f g h) σ H Q → tChain (rD2 X.K T g1) (rD2 X.K T g2) (tG X.K T W (RV X.K T) f) (tG X.K T W (RV X.K T) g) (tG X.K T W (RV X.K T) h) σ H Q :=
  fun σ H Q ⟨h0, S, ε, e, er, hr, p⟩ => ⟨h0, S, ε, e, er, hr, (Post.bind p).imp fun x H1 ⟨h1, S1, d1, e1, g1', r1, hr1, p1⟩ =>
    ⟨h1, S1, ε, e1, er.mono g1', hr1, (Post.bind p1).imp fun y H2 ⟨h2, S2, d2, e2, g2', r2, hr2, p2⟩ => by
      refine ⟨h2, S2, d1, d2, e2, hr2, r1.mono g2'.ext, r2, ?_⟩
      split at p2
      · rename_i S3 q
        rw [q]
        intro v h3 g3 r3 hr3
        cases r3
        refine ⟨true, rfl, ?_⟩
        rw [if_pos rfl]
        exact ⟨h3, S3, ε, rfl, ((er.mono g1'.ext).mono g2'.ext).mono g3.ext, hr3, (Post.bind (Post.grow g3 p2)).imp fun z H4 ⟨h4, S4, d4, e4, g4, r4, hr4, p4⟩ => ⟨h4, S4, d2, d4, e4, hr4, (r2.mono g3.ext).mono g4.ext, r4, p4.of⟩⟩
      · rename_i S3 q
        rw [q]
        intro v h3 g3 r3 hr3
        cases r3
        refine ⟨false, rfl, ?_⟩
        rw [if_neg (by decide)]
        exact Post.ret (Post.grow g3 p2) (.bl _) hr3
      · exact p2.elim⟩⟩
theorem i_chain (ho : OpR X (compareOp op) (rD2 X.K T g1)) (ho' : OpR X (compareOp op') (rD2 X.K T g2)) (ha : EI X T W a f) (hb : EI X T W b g) (hc : EI X T W c h) (hm : lastMarks [op, op'] [b, c] = false := by with_unfolding_all rfl) : EI X T W (.Compare a [op, op'] [b, c] pos) (eChain g1 g2 f g h) :=
  wkE (pe_chain ho ho' ha hb hc hm) chain_w
theorem t_chain (ho : OpR X (compareOp op) (rD2 X.K T g1)) (ho' : OpR X (compareOp op') (rD2 X.K T g2)) (ha : EI X T W a f) (hb : EI X T W b g) (hc : EI X T W c h) (hm : lastMarks [op, op'] [b, c] = false := by with_unfolding_all rfl) : TI' X T W (.Compare a [op, op'] [b, c] pos) (tBl (eChain g1 g2 f g h)) :=
  wkT (pt_chain ho ho' ha hb hc hm) fun σ H Q ⟨h0, S, ε, e, er, hr, p⟩ => chain_w (X := X) (T := T) (W := W) σ H _ ⟨h0, S, ε, e, er, hr, (Post.bind p).imp fun x H1 ⟨h1, S1, d1, e1, _, r1, hr1, p1⟩ => by
    cases r1 with
    | bl k => exact ⟨k, rfl, by subst e1; exact Post.ret p1 rfl hr1⟩
    | _ => exact (show False from p1).elim⟩
def sPar3 (i j l : Nat) (a : Es) : Sm := fun ε S => lft (a ε S) ε fun ds S => match ds with
  | [x, y, z] => .nx (((ε.set i (some x)).set j (some y)).set l (some z)) S
  | _ => .bad
theorem s_par3 {i j l : Nat} {x y z : Str} {fs : Es} {px py pz pt : Pos} {kt k2 pt2} (hc : X.calm = true) (hN : X.N.Nodup) (hi : X.N[i]? = some x) (hj : X.N[j]? = some y) (hl : X.N[l]? = some z) (hij : i ≠ j) (hil : i ≠ l) (hjl : j ≠ l)
    (hx : X.env.scope.names.lookup x = some .local) (hy : X.env.scope.names.lookup y = some .local) (hz : X.env.scope.names.lookup z = some .local) (ha : AI X T W [a, b, c] fs)
    (hw : swappedStores [.Tuple [.Name x px, .Name y py, .Name z pz] kt pt] (.Tuple [a, b, c] k2 pt2) X.env = pure (some [x, y, z]))
    (hs : swapsWithSole [.Tuple [.Name x px, .Name y py, .Name z pz] kt pt] (.Tuple [a, b, c] k2 pt2) pos.line X.env = pure false := by rfl) :
    SI X T W (.Assign [.Tuple [.Name x px, .Name y py, .Name z pz] kt pt] (.Tuple [a, b, c] k2 pt2) pos) (sPar3 i j l fs) := by
  refine wkS (ps_par3 hc hN hi hj hl hij hil hjl hx hy hz ha hw hs) fun D σ H ⟨h, S, ε, e, er, hr, p⟩ => ⟨h, S, ε, e, er, hr, (PostS.lft er p).imp fun v H1 ⟨h1, S1, d1, e1, g1, r1, hr1, er1, p1⟩ => ?_⟩
  cases r1 with
  | nil => exact (show False from p1).elim
  | cons q1 r1 =>
    cases r1 with
    | nil => exact (show False from p1).elim
    | cons q2 r1 =>
      cases r1 with
      | nil => exact (show False from p1).elim
      | cons q3 r1 =>
        cases r1 with
        | cons _ _ => exact (show False from p1).elim
        | nil => subst e1; exact ⟨_, _, _, rfl, p1.nx (((er1.set q1 i).set q2 j).set q3 l) hr1⟩
end
end G

namespace G
open PySem PySem.Spec PyProof.Rows L2
/-- a hidden list becomes one of the store -/
theorem adopt {K : PySem.W.Frag} {T : Tab} {h : Hv} {S : Sto} {D : Addr} {B : List Addr} {acc : List V} {xs : List Da} (hB : h.B = D :: B) (hn : D ∉ B) (r : HeapR K T h S) (e : h.H D = some (.lst acc)) (ra : RVs K T h acc xs) :
    Ext h { m := h.m ++ [some D], B := B, H := h.H } ∧ HeapR K T { m := h.m ++ [some D], B := B, H := h.H } (S ++ [.lst xs]) := by
  have hD : D ∈ h.B := by rw [hB]; exact List.mem_cons_self
  have nD := (r.hid D hD).1
  have x : Ext h { m := h.m ++ [some D], B := B, H := h.H } := ⟨fun n o q => .inl ((List.getElem?_append_left (List.getElem?_eq_some_iff.mp q).1).trans q), fun a o q f => ⟨q, fun z => by
    rcases List.mem_append.mp (show some a ∈ h.m ++ [some D] from z) with z | z
    · exact f.1 z
    · simp at z; subst z; exact f.2 hD, fun z => f.2 (by rw [hB]; exact List.mem_cons_of_mem _ z)⟩⟩
  have key : ∀ (k : Nat) (a : Addr), (h.m ++ [some D])[k]? = some (some a) → h.m[k]? = some (some a) ∨ (k = h.m.length ∧ a = D) := fun k a q => by
    by_cases hk : k < h.m.length
    · rw [List.getElem?_append_left hk] at q; exact .inl q
    · rw [List.getElem?_append_right (Nat.le_of_not_lt hk)] at q
      by_cases hk0 : k - h.m.length = 0
      · rw [hk0] at q; simp at q; exact .inr ⟨by omega, q.symm⟩
      · obtain ⟨t, ht⟩ : ∃ t, k - h.m.length = t + 1 := ⟨k - h.m.length - 1, by omega⟩
        rw [ht] at q; simp at q
  refine ⟨x, ⟨by simp [r.len], fun i j a e1 e2 => ?_, fun n a ob q s => ?_, fun n q => ?_, fun a q => ?_⟩⟩
  · rcases key i a e1 with h1 | ⟨h1, h1'⟩ <;> rcases key j a e2 with h2 | ⟨h2, h2'⟩
    · exact r.nd i j a h1 h2
    · subst h2'; exact absurd (List.mem_of_getElem? h1) nD
    · subst h1'; exact absurd (List.mem_of_getElem? h2) nD
    · rw [h1, h2]
  · rcases key n a q with h1 | ⟨h1, h1'⟩
    · have hn : n < S.length := by rw [← r.len]; exact (List.getElem?_eq_some_iff.mp h1).1
      rw [List.getElem?_append_left hn] at s
      exact (r.ob n a ob h1 s).mono x rfl
    · subst h1'
      rw [List.getElem?_append_right (by rw [h1, r.len]; exact Nat.le_refl _)] at s
      have z : n - S.length = 0 := by rw [h1, r.len]; omega
      rw [z] at s
      simp at s
      subst s
      exact ⟨acc, e, ra.mono x⟩
  · have q' : (h.m ++ [some D])[n]? = some none := q
    by_cases hn : n < h.m.length
    · rw [List.getElem?_append_left hn] at q'
      rw [List.getElem?_append_left (by rw [← r.len]; exact hn)]
      exact r.gone n q'
    · rw [List.getElem?_append_right (Nat.le_of_not_lt hn)] at q'
      cases z : n - h.m.length with
      | zero => rw [z] at q'; simp at q'
      | succ t => rw [z] at q'; simp at q'
  · have q' : a ∈ B := q
    obtain ⟨z1, z2⟩ := r.hid a (by rw [hB]; exact List.mem_cons_of_mem _ q')
    refine ⟨fun z => ?_, z2⟩
    rcases List.mem_append.mp (show some a ∈ h.m ++ [some D] from z) with z | z
    · exact z1 z
    · simp at z
      subst z
      exact hn q'
section
variable {X : Cx} {T : Tab} {W : WX} {tg iter elt : Expr} {ifs : List Expr} {pos : Pos} {it : Ie} {g : Tg} {t : TeE} {a : E} {scope : Scope} {own : List (Str × Nat)}
/-- the turns of a comprehension -/
theorem compH_core {h1 : Hv} {σ : St} {ε : Env} {J : It} {ds : List Da} {S1 : Sto} {Q : VK} (r1 : ItR X.K T h1 J ds) (hr1 : HeapR X.K T h1 S1) (er1 : EnvR X.K T h1 σ ε) (hl : ds.length ≤ sizeLine)
    (hown : ∀ j ∈ slotsT g, j ∈ own.map (·.2))
    (p : ∃ xs S2, compL g t a (wipeE ε (own.map (·.2))) ds S1 = .ok xs S2 ∧ ∀ (h2 : Hv) (D : Addr) (acc : List V), h2.B = D :: h1.B → Ext h1 h2 → (∀ b o, h1.H b = some o → some b ∉ h1.m → h2.H b = some o ∧ some b ∉ h2.m) → HeapR X.K T h2 S2 → h1.H D = none → h2.H D = some (.lst acc) → RVs X.K T h2 acc xs → Q (.ref D) h2.H) :
    ∀ D, h1.H D = none → ∃ W' : Nat → Nat → Hp → Prop, (∃ m, W' 0 m (upd h1.H D (.lst []))) ∧ ∀ i m H, W' i m H →
      (J.stop i H ∧ Q (.ref D) H) ∨ (J.go i H ∧ ∃ Nx : Hp → Prop, (∀ H', Nx H' → ∃ m', m' < m ∧ W' (i + 1) m' H') ∧ ∀ x H', J.yld i H x H' → tgD X.K T g x (wipe σ (own.map (·.2))) H' fun σ2 H2 => wipe σ2 (own.map (·.2)) = wipe σ (own.map (·.2)) ∧ tG X.K T wNo REq t σ2 H2 fun b H3 =>
        if b = true then tG X.K T wNo (RV X.K T) a σ2 H3 fun y H4 => ∃ acc, H4 D = some (.lst acc) ∧ acc.length < sizeLine ∧ Nx (upd H4 D (.lst (acc ++ [y]))) else Nx H3) := by
  intro D hD
  obtain ⟨xs, Se, hcomp, fin⟩ := p
  -- the state between two turns
  refine ⟨fun i m H' => m = ds.length - i ∧ i ≤ ds.length ∧ ∃ h2 S2 acc accD xs2, h2.H = H' ∧ h2.B = D :: h1.B ∧ Ext h1 h2 ∧ (∀ b o, h1.H b = some o → some b ∉ h1.m → h2.H b = some o ∧ some b ∉ h2.m) ∧ HeapR X.K T h2 S2 ∧
      h2.H D = some (.lst acc) ∧ RVs X.K T h2 acc accD ∧ acc.length ≤ i ∧ xs = accD ++ xs2 ∧ compL g t a (wipeE ε (own.map (·.2))) (ds.drop i) S2 = .ok xs2 Se,
    ⟨ds.length, rfl, Nat.zero_le _, hide h1 D (.lst []), S1, [], [], xs, rfl, rfl, ext_hide hD _, fun b o e n => ?_, hr1.hide hD _, upd_same, .nil, Nat.le_refl _, rfl, hcomp⟩, ?_⟩
  · exact ⟨by show upd h1.H D _ b = _; rw [upd_ne (ne_of_none e hD)]; exact e, n⟩
  rintro i m H' ⟨rfl, hi, h2, S2, acc, accD, xs2, rfl, hB, x2, k2, hr2, hDa, ra, la, exs, hc⟩
  by_cases hlt : i < ds.length
  · refine .inr ⟨r1.1 i h2 S2 x2 hr2 hlt, fun H'' => ∃ h2 S2 acc accD xs2, h2.H = H'' ∧ h2.B = D :: h1.B ∧ Ext h1 h2 ∧ (∀ b o, h1.H b = some o → some b ∉ h1.m → h2.H b = some o ∧ some b ∉ h2.m) ∧ HeapR X.K T h2 S2 ∧
        h2.H D = some (.lst acc) ∧ RVs X.K T h2 acc accD ∧ acc.length ≤ i + 1 ∧ xs = accD ++ xs2 ∧ compL g t a (wipeE ε (own.map (·.2))) (ds.drop (i + 1)) S2 = .ok xs2 Se,
      fun H'' n => ⟨ds.length - (i + 1), by omega, rfl, hlt, n⟩, fun x H3 y => ?_⟩
    obtain ⟨h3, d, rfl, g3, hr3, hd, rv⟩ := r1.2.2 i h2 S2 x H3 x2 hr2 hlt y
    have ed : ds.drop i = d :: ds.drop (i + 1) := by
      rw [List.drop_eq_getElem_cons hlt]
      rw [List.getElem?_eq_getElem hlt] at hd
      cases hd; rfl
    rw [ed] at hc
    unfold compL at hc
    have D2 : some D ∉ h2.m := (hr2.hid D (by rw [hB]; exact List.mem_cons_self)).1
    have er3 : EnvR X.K T h3 (wipe σ (own.map (·.2))) (wipeE ε (own.map (·.2))) := ((er1.mono x2).mono g3.ext).wipe _
    cases q : put g d (wipeE ε (own.map (·.2))) with
    | none => simp only [q] at hc; cases hc
    | some ε3 =>
      simp only [q] at hc
      refine ⟨h3, S2, _, d, rfl, er3, hr3, rv, ε3, q, fun σ3 er4 off => ⟨off.wipe hown |>.trans ?_, h3, S2, ε3, rfl, er4, hr3, ?_⟩⟩
      · clear hc q fin exs
        have idem : ∀ (l : List Nat) (v : Nat), (wipe σ l) = wipe σ l := fun _ _ => rfl
        have key : ∀ own : List Nat, wipe (wipe σ own) own = wipe σ own := fun own => by
          refine List.ext_getElem? fun j => ?_
          have gen : ∀ (τ : St) (own : List Nat) (j : Nat), (L2.wipe τ own)[j]? = if j ∈ own then (if j < τ.length then some none else none) else τ[j]? := by
            intro τ own j
            induction own with
            | nil => simp [L2.wipe]
            | cons v vs ih =>
              show ((L2.wipe τ vs).set v none)[j]? = _
              by_cases hv : v = j
              · subst hv
                rw [List.getElem?_set]
                simp [wipe_length]
              · rw [List.getElem?_set_ne hv, ih]
                simp [Ne.symm hv]
          rw [gen, gen, wipe_length]
          by_cases hj : j ∈ own <;> simp [hj]
        exact key _
      · cases z : t ε3 S2 with
        | bad => simp only [z, Rs.bindN] at hc; cases hc
        | exc c fs S3 => simp only [z, Rs.bindN] at hc; cases hc
        | ok b S3 =>
          simp only [z, Rs.bindN] at hc
          intro b' h4 g4 eb hr4
          have eb' : b' = b := eb
          subst eb'
          cases b' with
          | false =>
            simp only [Bool.false_eq_true, if_false] at hc ⊢
            have gg := g3.trans g4
            obtain ⟨e5, _⟩ := gg.keep D _ hDa D2
            exact ⟨h4, S3, acc, accD, xs2, rfl, gg.B.trans hB, x2.trans gg.ext, fun b o e n => let ⟨e1, n1⟩ := k2 b o e n; gg.keep b o e1 n1, hr4, e5, ra.mono gg.ext, by omega, exs, hc⟩
          | true =>
            simp only [if_true] at hc ⊢
            refine ⟨h4, S3, ε3, rfl, er4.mono g4.ext, hr4, ?_⟩
            cases z2 : a ε3 S3 with
            | bad => simp only [z2] at hc; cases hc
            | exc c fs S4 => simp only [z2] at hc; cases hc
            | ok dy S4 =>
              simp only [z2] at hc
              intro y h5 g5 ry hr5
              have gg := (g3.trans g4).trans g5
              obtain ⟨e5, n5⟩ := gg.keep D _ hDa D2
              have D5 : D ∈ h5.B := by rw [gg.B, hB]; exact List.mem_cons_self
              cases z3 : compL g t a (wipeE ε (own.map (·.2))) (ds.drop (i + 1)) S4 with
              | bad => simp only [z3] at hc; cases hc
              | exc c fs S5 => simp only [z3] at hc; cases hc
              | ok xs3 S5 =>
                simp only [z3] at hc
                cases hc
                refine ⟨acc, e5, by omega, { h5 with H := upd h5.H D (.lst (acc ++ [y])) }, S4, acc ++ [y], accD ++ [dy], xs3, rfl, gg.B.trans hB, (x2.trans gg.ext).trans (ext_hidden D5 _), fun b o e n => ?_, hr5.hidden D5 _, upd_same,
                  (((ra.mono gg.ext).mono (ext_hidden D5 _)).snoc (ry.mono (ext_hidden D5 _))), by simp; omega, by rw [exs]; simp, z3⟩
                obtain ⟨e1, n1⟩ := k2 b o e n
                obtain ⟨e6, n6⟩ := gg.keep b o e1 n1
                exact ⟨by show upd h5.H D _ b = _; rw [upd_ne (ne_of_none e hD)]; exact e6, n6⟩
  · have ei : i = ds.length := by omega
    subst ei
    rw [List.drop_length] at hc
    unfold compL at hc
    cases hc
    rw [List.append_nil] at exs
    subst exs
    refine .inl ⟨r1.2.1 _ h2 _ x2 hr2 (Nat.le_refl _), ?_⟩
    have D2 : some D ∉ h2.m := (hr2.hid D (by rw [hB]; exact List.mem_cons_self)).1
    exact fin h2 D acc hB x2 k2 hr2 hD hDa ra
theorem i_compN (hc : X.calm = true) (hN : X.N.Nodup) (hi : II X T W tg iter it) (ok : BlkOk X.N X.env.scope scope own)
    (hg : ∀ (s : Shared) (H : Hp) (C : Addr) (cl : List (Str × Addr)) (fp : List Addr), GI (X.blk s H scope (compEnvC scope cl C X.env) fp) T tg g) (ht : ∀ (s : Shared) (H : Hp) (C : Addr) (cl : List (Str × Addr)) (fp : List Addr), QI (X.blk s H scope (compEnvC scope cl C X.env) fp) T wNo ifs t)
    (he : ∀ (s : Shared) (H : Hp) (C : Addr) (cl : List (Str × Addr)) (fp : List Addr), EI (X.blk s H scope (compEnvC scope cl C X.env) fp) T wNo elt a) (hown : ∀ j ∈ slotsT g, j ∈ own.map (·.2) := by decide) (hs : ∀ x, foldedSetIterable iter X.env x = pure x := by intro _; rfl) :
    EI X T W (.ListComp elt [⟨tg, iter, ifs, 0⟩] scope pos) (eCompNew (own.map (·.2)) it g t a) := by
  refine wkE (pe_lc (g := tgD X.K T g) (tt := tG X.K T wNo REq t) (te := tG X.K T wNo (RV X.K T) a) hc hN hi ok hg ht he hs) fun σ H Q ⟨h, S, ε, e, er, hr, p⟩ => ⟨h, S, ε, e, er, hr, (Post.bind p).imp fun J H1 ⟨h1, S1, ds, e1, g1, r1, hr1, p1⟩ => ?_⟩
  subst e1
  split at p1
  · rename_i hl
    refine compH_core r1 hr1 (er.mono g1.ext) hl hown ?_
    cases z : compL g t a (wipeE ε (own.map (·.2))) ds S1 with
    | bad => rw [z] at p1; exact p1.elim
    | exc c fs S3 => rw [z] at p1; exact p1.elim
    | ok xs S3 =>
      rw [z] at p1
      refine ⟨xs, S3, rfl, fun h2 D acc hB x2 k2 hr2 hD eD ra => ?_⟩
      obtain ⟨xt, ht⟩ := adopt hB (fun z => (hr1.hid D z).2 hD) hr2 eD ra
      refine p1 (.ref D) { m := h2.m ++ [some D], B := h1.B, H := h2.H } ⟨rfl, fun n o e => ?_, fun b o e n => ?_⟩ (.ref (o := some D) ?_ fun b e => by cases e; rfl) ht
      · rcases x2.slot n o e with z | z
        · exact .inl ((List.getElem?_append_left (List.getElem?_eq_some_iff.mp z).1).trans z)
        · exact .inr ((List.getElem?_append_left (List.getElem?_eq_some_iff.mp z).1).trans z)
      · obtain ⟨e2, n2⟩ := k2 b o e n
        refine ⟨e2, fun z => ?_⟩
        rcases List.mem_append.mp (show some b ∈ h2.m ++ [some D] from z) with z | z
        · exact n2 z
        · simp at z; rw [z, hD] at e; cases e
      · show (h2.m ++ [some D])[S3.length]? = some (some D)
        rw [← hr2.len]; simp
  · exact p1.elim
end
end G

namespace G
open PySem PySem.Spec PyProof.Rows L2
theorem hu64 {A : Around} {k : Nat} (h : RoomG k A) : A.units + 64 < cLine := h.units
theorem hu70 {A : Around} {k : Nat} (h : RoomG k A) : A.units + 70 < cLine := by have := h.un; omega
theorem hu70m {A : Around} {k : Nat} {a : Option Value} (h : RoomG k A) : (A.mark a).units + 70 < cLine := by have := h.un; show A.units + 70 < cLine; omega
theorem hu64m {A : Around} {k : Nat} {a : Option Value} (h : RoomG k A) : (A.mark a).units + 64 < cLine := h.units
theorem hu65m {A : Around} {k : Nat} {a : Option Value} (h : RoomG k A) : (A.mark a).units + 65 < cLine := by have := h.un; show A.units + 65 < cLine; omega
theorem hu65 {A : Around} {k : Nat} (h : RoomG k A) : A.units + 65 < cLine := by have := h.un; omega
theorem FnG.none {P : Program} {w : World} {K : PySem.W.Frag} {mg : Str → Option Value} {base : Heap} {T : Tab} {k : Nat} {f : Addr} {fd : FuncData} {ps : List Str} : FnG P w K mg base k f fd ps (spI K T (fun _ _ => .bad)) :=
  ⟨fun _ _ _ _ ⟨_, _, _, _, _, _, p⟩ => p.elim, fun _ _ _ _ _ _ _ _ _ _ _ _ _ ⟨_, _, _, _, _, _, p⟩ => p.elim⟩
end G
namespace G
open PySem PySem.Spec PyProof.Rows L2
theorem exm_of {K : PySem.W.Frag} {C S : Addr} {b : Bool} (h1 : PySem.W.subIn K (.ref S) (.type "BaseException") = some true) (h2 : PySem.W.isClsIn K S = true) (h3 : PySem.W.typeIn K (.ref S) = some (.type "type")) (h4 : PySem.W.subIn K (.ref C) (.ref S) = some b) :
    PySem.W.exmOne K (.ref C) (.ref S) = some b := by
  unfold PySem.W.exmOne
  rw [h1, if_pos (by decide)]
  have h2' : (PySem.W.clsIn K S).isSome = true := h2
  show (if ((PySem.W.clsIn K S).isSome && PySem.W.typeIn K (.ref S) == some (.type "type")) = true then PySem.W.subIn K (.ref C) (.ref S) else none) = some b
  rw [h2', h3, if_pos (by rfl), h4]
end G

/-! the law's own call, by a promise of FnG -/
namespace G
open PySem PySem.Spec PyProof.Rows L2
section
variable {P : Program} {w : World} {K : PySem.W.Frag} {mg mb : Str → Option Value} {k : Nat} {fa a : Addr} {fd : FuncData} {x : Str} {sp : Sp} {s₁ : Shared} {vs : List Value} {ns : List Int}
/-- from an abstract heap that tracks nothing but the script -/
theorem call_core {H : Hp} (KX : K.In s₁.heap) (hns : s₁.heap.Ns mainGlobals mg) (hb : s₁.heap.Ns builtinsNs mb) (hbb : ∀ x : Str, x ≠ "__name__" → mb x = bootBuiltins x) (hlim : s₁.heap.NoLimit) (hg : s₁.gens = #[])
    (ha : s₁.heap.get? a = some { cls := .type "list", data := .seq vs.toArray }) (hr : RoomG k callerA)
    (F : ∀ base : Heap, K.In base → base.Ns mainGlobals mg → FnG P w K mg base k fa fd [x] sp) (hbind : ∀ (s : Shared) (u : Value), BindsTo s fd ⟨[u], []⟩ [(x, u)])
    (hsp : sp [.ref a] H (fun v _ => v = .bl true) fun _ _ _ => False) (hO : Only H) (hok : HOk P w H s₁.heap) (hA : ∀ b, H b ≠ none → b = a) (hK : H a ≠ none → K.lookup a = none) :
    codeAny (model P w) callerA (.call (.ref fa) ⟨[.ref a], []⟩) (fun r s' => r = .ok (.ret (.bool true)) ∧ OldK s₁.heap s'.heap ∧ s'.os = s₁.os ∧ AllBare s'.gens) s₁ := by
  -- what is tracked is the script alone
  have out : ∀ b, b ≠ a → H b = none := fun b hb => Classical.byContradiction fun z => hb (hA b z)
  have dict : ∀ {b : Addr} {o : Obj} {es : Array DictEntry} {ep : Nat}, s₁.heap.get? b = some o → o.data = .dict es ep → H b = none := fun {b o es ep} e d => out b fun z => by
    rw [z, ha] at e
    cases e
    cases d
  have names : ∀ {b : Addr} {m : Str → Option Value}, s₁.heap.Ns b m → (hidT s₁.heap H).Ns b m := fun ⟨o, es, ep, e, d, r⟩ => ⟨o, es, ep, hidT_get e (dict e d), d, r⟩
  have hKb : K.In (hidT s₁.heap H) := fun b o e => hidT_get (KX b o e) (Classical.byContradiction fun q => by
    have z := hA b q
    rw [z] at q e
    rw [hK q] at e
    cases e)
  obtain ⟨mc, l1, l2⟩ := hlim
  have e0 : Env0 P w K mg (hidT s₁.heap H) callerA [] s₁ H :=
    ⟨rfl, ⟨hKb, names hns, ⟨mb, names hb, hbb⟩, ⟨mc, names l1, l2⟩⟩, fun b o e => of_hidT e, Nat.le_of_eq (hidT_size _ _), trivial, (fun b z => nomatch (show b ∈ ([] : List Addr) from z)), hok, .of_eq hg⟩
  refine codeAny_mono ((F _ hKb (names hns)).run callerA [] s₁ H ⟨[.ref a], []⟩ [.ref a] [.ref a] _ _ hr e0 (hbind s₁ (.ref a)) (.cons rfl .nil) hsp) fun r s' q => ?_
  cases r with
  | error e =>
    obtain ⟨_, _, _, _, _, _, _, _, _, _, _, _, z⟩ := q
    exact z.elim
  | ok fl =>
    cases fl with
    | next => exact q.elim
    | brk => exact q.elim
    | cont => exact q.elim
    | ret u =>
      obtain ⟨v, H', os, bare, un, hok', rv, qv⟩ := q
      have qv' : v = .bl true := qv
      rw [qv'] at rv
      have eu : u = Value.bool true := rv
      rw [eu]
      refine ⟨rfl, OldK.of_keep fun b o e => ?_, os, bare⟩
      rcases hO b with z | ⟨ob, xs, z⟩
      · exact un.keep b o e z (fun q => nomatch (show b ∈ ([] : List Addr) from q)) (fun q => nomatch (show b ∈ ([] : List Addr) from q))
      · obtain ⟨e1, _⟩ := hok b _ z
        rw [e] at e1
        cases e1
        exact (hok' b _ (un.frzs b _ _ z)).1
theorem law_callG (KX : K.In s₁.heap) (hns : s₁.heap.Ns mainGlobals mg) (hb : s₁.heap.Ns builtinsNs mb) (hbb : ∀ x : Str, x ≠ "__name__" → mb x = bootBuiltins x) (hlim : s₁.heap.NoLimit) (hg : s₁.gens = #[])
    (ha : s₁.heap.get? a = some { cls := .type "list", data := .seq vs.toArray }) (hi : IntsAre vs ns) (hl : ns.length ≤ sizeLine) (hr : RoomG k callerA)
    (F : ∀ base : Heap, K.In base → base.Ns mainGlobals mg → FnG P w K mg base k fa fd [x] sp) (hbind : ∀ (s : Shared) (u : Value), BindsTo s fd ⟨[u], []⟩ [(x, u)])
    (hsp : ∀ H : Hp, Only H → SqL K H a (ns.map V.int) → sp [.ref a] H (fun v _ => v = .bl true) fun _ _ _ => False) :
    codeAny (model P w) callerA (.call (.ref fa) ⟨[.ref a], []⟩) (fun r s' => r = .ok (.ret (.bool true)) ∧ OldK s₁.heap s'.heap ∧ s'.os = s₁.os ∧ AllBare s'.gens) s₁ := by
  have rv := vals_ints hi
  cases hk : K.lookup a with
  | some o =>
    have e := KX a o hk
    rw [ha] at e
    cases e
    have O : Only (fun _ => none) := fun _ => .inl rfl
    exact call_core KX hns hb hbb hlim hg ha hr F hbind (hsp _ O (.inr ⟨_, vs.toArray, _, hk, rfl, rfl, rfl, by rw [List.size_toArray, hi.length]; exact hl, by simpa using rv⟩)) O (fun b u z => nomatch z) (fun b z => absurd rfl z) fun z => absurd rfl z
  | none =>
    let o : HO := .frz { cls := .type "list", data := .seq vs.toArray } (.lst (ns.map V.int))
    let H : Hp := fun b => if b = a then some o else none
    have at_ : H a = some o := if_pos rfl
    have off : ∀ b, b ≠ a → H b = none := fun b z => if_neg z
    have O : Only H := fun b => (Classical.em (b = a)).elim (fun z => .inr ⟨_, _, if_pos z⟩) fun z => .inl (off b z)
    refine call_core KX hns hb hbb hlim hg ha hr F hbind (hsp H O (.inl (.inr ⟨_, at_⟩))) O (fun b u z => ?_) (fun b z => Classical.byContradiction fun q => z (off b q)) fun _ => hk
    by_cases q : b = a
    · subst q
      rw [at_] at z
      cases z
      exact ⟨ha, by rw [List.length_map]; exact hl, vs, _, rv, ha⟩
    · rw [off b q] at z
      cases z
end
theorem walk_ofG {l : PySem.W.OpenLaw} {n k : Nat} {q : Program} {loose : List Str} {XP : (Str → Option Value) → Heap → Prop} {YP : World → Heap → Prop} {d : DefRec} {K : Params → PySem.W.Frag} {sp : World → Sp} {x : Str}
    (hn : l.most = some n) (hn2 : n ≤ sizeLine) (hdf : d.params.defaults = []) (hr : RoomG k callerA) (hY : ∀ (w : World) (h : Heap), YP w h → (K w.params).In h)
    (F : ∀ (w : World) (mg : Str → Option Value) (fa : Addr) (h : Heap), (K w.params).In h → h.Ns mainGlobals mg → mg d.name = some (.ref fa) →
      ∃ fd : FuncData, (∀ (s : Shared) (u : Value), BindsTo s fd ⟨[u], []⟩ [(x, u)]) ∧ ∀ base : Heap, (K w.params).In base → base.Ns mainGlobals mg → FnG l.prog w (K w.params) mg base k fa fd [x] (sp w))
    (hsp : ∀ (w : World) (H : Hp) (a : Addr) (ns : List Int), ns.length ≤ n → Only H → SqL (K w.params) H a (ns.map V.int) → sp w [.ref a] H (fun v _ => v = .bl true) fun _ _ _ => False) :
    PySem.W.WalkO q loose XP YP l.row.toRowW d [] (fun f vs => PySem.call f vs) :=
  Att.attach_call hn hdf fun w s₀ s₁ mg mb fa o pm cd doc a vs ns G Y ho hd hcd hmg hobj hints hlen hg => by
    have KX := hY w _ Y
    obtain ⟨fd, hb, hF⟩ := F w mg fa _ KX G.T.g hmg
    exact law_callG KX G.T.g G.T.b G.T.builtins G.T.nolimit hg hobj hints (Nat.le_trans hlen hn2) hr hF hb fun H hO hS => hsp w H a ns hlen hO hS
/-! ## repr -/
theorem raise_any {M : Model} {Γ : PySem.Ctx} {α β : Type} {e : Value} {Q1 : α → Pos → Shared → Prop} {Q2 : β → Pos → Shared → Prop} {E : Value → Pos → Shared → Prop} {p : Pos} {s : Shared} (h : Sem.wp M Γ (raiseNew e : Sem α) Q1 E p s) : Sem.wp M Γ (raiseNew e : Sem β) Q2 E p s := by
  unfold raiseNew at h ⊢
  rw [Sem.wp_bind'] at h ⊢
  refine Sem.wp_mono M Γ _ (fun b p1 s1 h1 => ?_) (fun _ _ _ x => x) _ _ h
  dsimp only at h1 ⊢
  cases e with
  | ref a =>
    cases b with
    | none => exact h1
    | some x =>
      dsimp only at h1 ⊢
      by_cases c : (x != Value.ref a) = true
      · rw [if_pos c] at h1 ⊢
        rw [Sem.wp_bind'] at h1 ⊢
        refine Sem.wp_mono M Γ _ (fun b p2 s2 h2 => ?_) (fun _ _ _ x => x) _ _ h1
        rw [Sem.wp_bind'] at h2 ⊢
        exact Sem.wp_mono M Γ _ (fun b p3 s3 h3 => h3) (fun _ _ _ x => x) _ _ h2
      · rw [if_neg c] at h1 ⊢
        exact h1
  | _ => exact h1
theorem repr_of_obj {M : Model} {A : Around} {E : Value → Shared → Prop} {s : Shared} {v : Value} {Q : Fin → Shared → Prop} (h : wpAny M A (pyReprObj v) (fun r s' => Q (.done (.ret r)) s') E s) : wpAny M A (Builtin.«repr» ⟨[v], []⟩) Q E s := fun Γ p hΓ => by
  have h' := h Γ p hΓ
  have e : Builtin.«repr» ⟨[v], []⟩ = (do
    cRoomFor "repr" [v]
    if (← specialOf v "__repr__").isNone then unsupported "internal:no-__repr__"
    let some r ← callSpecialIfBound? v "__repr__" | unsupported "repr:special-get-raises"
    if ← isInstance r (.type "str") then ret r
    else rule "repr.not-str"; raiseError "TypeError" s!"__repr__ returned non-string (type {← typeNameOf r})") := rfl
  rw [e]
  unfold pyReprObj at h'
  rw [Sem.wp_bind'] at h' ⊢
  refine Sem.wp_mono M Γ _ (fun a p1 s1 h1 => ?_) (fun _ _ _ x => x) _ _ h'
  rw [Sem.wp_bind'] at h1 ⊢
  refine Sem.wp_mono M Γ _ (fun a p2 s2 h2 => ?_) (fun _ _ _ x => x) _ _ h1
  dsimp only at h2 ⊢
  have unsup : ∀ {α β : Type} (why : String) (Q1 : α → Pos → Shared → Prop) (Q2 : β → Pos → Shared → Prop) (E1 E2 : Value → Pos → Shared → Prop) (p : Pos) (s : Shared), Sem.wp M Γ (unsupported why : Sem α) Q1 E1 p s → Sem.wp M Γ (unsupported why : Sem β) Q2 E2 p s := by
    intro α β why Q1 Q2 E1 E2 p s hh
    exact hh
  have tail : ∀ p s, Sem.wp M Γ (do
      let __do_lift ← callSpecialIfBound? v (Str.ofString "__repr__")
      match __do_lift with
        | some r => do
          let __do_lift ← isInstance r (Value.type "str")
          if __do_lift = true then pure r
            else raiseError "TypeError" s!"__repr__ returned non-string (type {← typeNameOf r})"
        | none => unsupported "repr:special-get-raises") (fun r _ s' => Q (Fin.done (Flow.ret r)) s') (fun e _ s' => E e s') p s →
      Sem.wp M Γ (do
      let __do_lift ← callSpecialIfBound? v (Str.ofString "__repr__")
      match __do_lift with
        | some r => do
          let __do_lift ← isInstance r (Value.type "str")
          if __do_lift = true then ret r
            else do
              rule "repr.not-str"
              raiseError "TypeError" s!"__repr__ returned non-string (type {← typeNameOf r})"
        | _ => unsupported "repr:special-get-raises") (fun r _ s' => Q r s') (fun e _ s' => E e s') p s := by
    intro p s hh
    rw [Sem.wp_bind'] at hh ⊢
    refine Sem.wp_mono M Γ _ (fun a p1 s1 h1 => ?_) (fun _ _ _ x => x) _ _ hh
    cases a with
    | none => exact h1
    | some r =>
      dsimp only at h1 ⊢
      rw [Sem.wp_bind'] at h1 ⊢
      refine Sem.wp_mono M Γ _ (fun b p2 s2 h2 => ?_) (fun _ _ _ x => x) _ _ h1
      cases b with
      | true => exact h2
      | false =>
        simp only [Bool.false_eq_true, if_false] at h2 ⊢
        rw [Sem.wp_bind']
        simp only [Sem.wp_cmd_rule] at h2 ⊢
        rw [Sem.wp_bind'] at h2 ⊢
        refine Sem.wp_mono M Γ _ (fun b p3 s3 h3 => ?_) (fun _ _ _ x => x) _ _ h2
        unfold raiseErrorMade at h3 ⊢
        repeat (first | exact raise_any h3 | (rw [Sem.wp_bind'] at h3 ⊢; refine Sem.wp_mono M Γ _ (fun b p3 s3 h3 => ?_) (fun _ _ _ x => x) _ _ h3))
  cases a with
  | none => exact h2
  | some f => exact tail _ _ h2
section
variable {prog : Program} {w : World} {A : Around} {E : Value → Shared → Prop} {s : Shared}
/-- the text object of data -/
theorem reprObj_top : ∀ {v : Value} {d : PyData} {as : List Addr}, Reads s.heap v d as → d.showable = true → d.hasDict = false → d.shown.length ≤ sizeLine → A.guards = some [] → A.units + (d.depth + 2) < cLine →
    ∀ {Q : Value → Shared → Prop}, (∀ h' u tk, (∀ b o, s.heap.get? b = some o → h'.get? b = some o) → Q (.str d.shown u) { s with heap := h', toks := tk }) → wpAny (model prog w) A (pyReprObj v) Q E s
  | _, _, _, .none, _, _, _, _, _, Q, hQ => pyReprObj_none (hQ s.heap _ _ fun _ _ e => e)
  | _, _, _, .bool b, _, _, _, _, _, Q, hQ => pyReprObj_bool (hQ s.heap _ _ fun _ _ e => e)
  | _, _, _, .int i t, hs, _, _, _, _, Q, hQ => pyReprObj_int (by simpa [PyData.showable] using hs) (hQ s.heap _ _ fun _ _ e => e)
  | _, _, _, .str x t, _, _, hz, _, _, Q, hQ => pyReprObj_str (hQ s.heap _ _ fun _ _ e => e) (by simpa only [PyData.shown] using hz)
  | _, _, _, .list (a := a) (vs := vs) (xs := xs) h1 h2 h3 h4, hs, hd, hz, hg, hu, Q, hQ => by
    have hz' : (listText (PyData.shownAll xs)).length ≤ sizeLine := by simpa only [PyData.shown] using hz
    obtain ⟨bs, hb, hk⟩ := ReprAllK.of_readsAll (prog := prog) (w := w) h4 (by simpa [PyData.showable] using hs) (fun hx => by simp only [PyData.hasDict] at hd; rw [hd] at hx; cases hx) (fun t ht => Nat.le_trans (listText_mem_le ht) hz')
    have r : Reads s.heap (.ref a) (.list xs) _ := .list h1 h2 h3 h4
    have hna : a ∉ bs := not_mem_of_deeper r (by simp only [PyData.depth]; omega) hb
    simp only [PyData.depth] at hu
    simp only [PyData.shown] at hQ
    obtain ⟨l⟩ := vs
    cases l with
    | nil =>
      have h4' : ReadsAll s.heap [] xs _ := h4
      cases h4'
      simp only [PyData.shownAll, listText_nil] at hQ
      exact wpAny_pyReprObj_list_empty ⟨_, h1, h2⟩ (by omega) h1 h3 (hQ s.heap _ _ fun _ _ e => e)
    | cons x l => exact wpAny_pyReprObj_listK h1 h2 h3 hna (by simpa using hk.length_eq) (fun i y e => hk.item i y (by simpa using e)) hg (fun b _ => Clear.nil b) (by omega) (fun _ _ e => e) (fun h' u tk hk' => hQ h' u tk hk') hz'
  | _, _, _, .tuple (a := a) (xs := xs) h1 h2 h3 h4, hs, hd, hz, hg, hu, Q, hQ => by
    have hz' : (tupleText (PyData.shownAll xs)).length ≤ sizeLine := by simpa only [PyData.shown] using hz
    obtain ⟨bs, hb, hk⟩ := ReprAllK.of_readsAll (prog := prog) (w := w) h4 (by simpa [PyData.showable] using hs) (fun hx => by simp only [PyData.hasDict] at hd; rw [hd] at hx; cases hx) (fun t ht => Nat.le_trans (tupleText_mem_le ht) hz')
    have r : Reads s.heap (.ref a) (.tuple xs) _ := .tuple h1 h2 h3 h4
    have hna : a ∉ bs := not_mem_of_deeper r (by simp only [PyData.depth]; omega) hb
    simp only [PyData.depth] at hu
    simp only [PyData.shown] at hQ
    exact wpAny_pyReprObj_tupleK h1 h2 h3 hna hk hg (fun b _ => Clear.nil b) (by omega) (fun _ _ e => e) (fun h' u tk hk' => hQ h' u tk hk') hz'
  | _, _, _, .dict _ _ _ _ _, _, hd, _, _, _, _, _ => by simp [PyData.hasDict] at hd
/-- repr(v), v data of the heap -/
theorem call_reprD {v : Value} {d : PyData} {as : List Addr} {Q : Value → Shared → Prop} (r : Reads s.heap v d as) (hs : d.showable = true) (hd : d.hasDict = false) (hz : d.shown.length ≤ sizeLine) (hg : A.guards = some []) (hu : A.units + (d.depth + 3) < cLine)
    (hQ : ∀ h' u tk, (∀ b o, s.heap.get? b = some o → h'.get? b = some o) → Q (.str d.shown u) { s with heap := h', toks := tk }) : wpAny (model prog w) A (call (.builtin "repr") [v]) Q E s := by
  refine Calls.call_function_entry PySem.F.kind_repr PySem.F.plain_repr PySem.F.entry_repr (PySem.F.args_repr1 _) ?_
  exact repr_of_obj (reprObj_top (A := A.in1) r hs hd hz hg (by show A.units + 1 + (d.depth + 2) < cLine; omega) fun h' u tk k => ⟨_, rfl, hQ h' u tk k⟩)
end
mutual
theorem lay_noDict : ∀ (d : PyData), d.canLay0 = true → d.hasDict = false
  | .none, _ => rfl
  | .bool _, _ => rfl
  | .int _, _ => rfl
  | .str _, _ => rfl
  | .list xs, h => by simp only [PyData.hasDict]; exact lays_noDict xs (by simpa [PyData.canLay0] using h)
  | .tuple xs, h => by simp only [PyData.hasDict]; exact lays_noDict xs (by simpa [PyData.canLay0] using h)
  | .dict _, h => by simp [PyData.canLay0] at h
theorem lays_noDict : ∀ (ds : List PyData), PyData.canLayAll0 ds = true → PyData.hasDictAll ds = false
  | [], _ => rfl
  | d :: ds, h => by
    simp only [PyData.canLayAll0, Bool.and_eq_true] at h
    simp only [PyData.hasDictAll, lay_noDict d h.1, lays_noDict ds h.2, Bool.or_false]
end
/-- what repr makes of data -/
noncomputable def reprD (x : Da) : Option Str := match toPy x with
  | some p => if p.showable = true ∧ p.shown.length ≤ sizeLine then some p.shown else none
  | none => none
noncomputable def dRepr (xs : List Da) (S : Sto) : Option (Da × Sto) := match xs with
  | [x] => if shp 64 (drf S x) = true then (reprD (drf S x)).map fun t => (.str t, S) else none
  | _ => none
theorem o_repr {X : Cx} {T : Tab} (hg : X.A.guards = some []) (hu : X.A.units + 70 < cLine) : CallR X (.builtin "repr") (rDN X.K T dRepr) := by
  intro pins s σ H xs us Q I r ⟨h, S, ds, e, hr, rv, p⟩
  subst e
  unfold dRepr at p
  split at p
  · rename_i d
    split at p
    · rename_i hs
      obtain ⟨x, rfl, rx⟩ := rv.one
      obtain ⟨u, rfl, ru⟩ := vals1 r
      obtain ⟨pd, e1, hc, hd⟩ := toPy_shp _ _ hs
      unfold reprD at p
      rw [e1] at p
      dsimp only at p
      split at p
      · rename_i hh
        obtain ⟨as, rd⟩ := Dp.reads I _ _ _ ((rx.drf hr).dp e1) ru
        refine call_reprD rd hh.1 (lay_noDict _ hc) hh.2 hg (by omega) fun h' u' tk k => ?_
        exact ⟨.str pd.shown, _, I.kept (t' := tk) k, ⟨u', rfl⟩, PostO.ret p (.str _) hr⟩
      · exact p.elim
    · exact p.elim
  · exact p.elim
end G

namespace G
open PySem PySem.Spec PyProof.Rows L2

/-! ## sorted(list of data) -/
def tup1 : PyData → Bool
  | .tuple (_ :: _) => true
  | _ => false
def notTup : PyData → Bool
  | .none => false
  | .tuple _ => false
  | _ => true
def srtB (ps : List PyData) : Bool := (ps.all fun a => ps.all fun b => PySem.W.alike a b) && (ps.all tup1 || ps.all notTup)
def pyD (d : Da) : PyData := (toPy d).getD .none
/-- the order of data -/
def leD (x y : Da) : Bool := PySem.W.dataLe false pyD x y
def srtL (ds : List Da) : Option (List Da) := if shps 60 ds = true ∧ srtB (ds.map pyD) = true ∧ ds.length ≤ 100000 then some (ds.mergeSort leD) else none
def dSorted (xs : List Da) (S : Sto) : Option (Da × Sto) := match xs with
  | [x] => ((listOf x S).bind srtL).map fun ds => (.lst ds, S)
  | _ => none
theorem srtB_ok {ps : List PyData} (h : srtB ps = true) : PySem.W.AllAlike ps ∧ PySem.W.Sortable ps := by
  simp only [srtB, Bool.and_eq_true, List.all_eq_true, Bool.or_eq_true] at h
  refine ⟨fun d hd d' hd' => h.1 d hd d' hd', ?_⟩
  rcases h.2 with h2 | h2
  · refine .inl fun d hd => ?_
    have := h2 d hd
    cases d with
    | tuple l => cases l with
      | nil => cases this
      | cons x r => exact ⟨x, r, rfl⟩
    | _ => cases this
  · refine .inr fun d hd => ?_
    have := h2 d hd
    cases d <;> first | (cases this; done) | exact ⟨fun z => (nomatch z), fun xs z => (nomatch z)⟩
theorem vals_each {K : PySem.W.Frag} {T : Tab} {h : Hv} {β : Type} {R : Value → Da → Prop} : ∀ {xs : List V} {us : List Value} {ds : List Da}, Vals xs us → RVs K T h xs ds → (∀ x u d, RelV x u → RV K T h x d → d ∈ ds → R u d) → PySem.W.EachIs R us ds
  | _, _, _, .nil, .nil, _ => .nil
  | _, _, _, .cons r rs, .cons q qs, f => .cons (f _ _ _ r q List.mem_cons_self) (vals_each (β := β) rs qs fun x u d a b c => f x u d a b (List.mem_cons_of_mem _ c))
theorem each_vals {K : PySem.W.Frag} {T : Tab} {h : Hv} : ∀ {us : List Value} {ds : List Da}, PySem.W.EachIs (fun u d => ∃ x, RelV x u ∧ RV K T h x d) us ds → ∃ xs, Vals xs us ∧ RVs K T h xs ds
  | _, _, .nil => ⟨[], .nil, .nil⟩
  | _, _, .cons ⟨x, a, b⟩ t => by
    obtain ⟨xs, c, d⟩ := each_vals t
    exact ⟨x :: xs, .cons a c, .cons b d⟩
theorem shps_mem : ∀ {n : Nat} {ds : List Da}, shps n ds = true → ∀ d ∈ ds, shp n d = true
  | n, d :: ds, h, e, he => by
    simp only [shps, Bool.and_eq_true] at h
    rcases List.mem_cons.mp he with z | z
    · subst z; exact h.1
    · exact shps_mem h.2 e z
theorem each_map {α β γ : Type} {R : α → γ → Prop} (f : β → γ) : ∀ {as : List α} {bs : List β}, PySem.W.EachIs (fun a b => R a (f b)) as bs → PySem.W.EachIs R as (bs.map f)
  | _, _, .nil => .nil
  | _, _, .cons h t => .cons h (each_map f t)
theorem o_sorted {X : Cx} {T : Tab} (hu : X.A.units + 70 < cLine) : CallR X (.builtin "sorted") (rDN X.K T dSorted) := by
  intro pins s σ H xs us Q I r ⟨h, S, ds, e, hr, rv, p⟩
  subst e
  unfold dSorted at p
  split at p
  · rename_i x
    cases q : (listOf x S).bind srtL with
    | none => rw [q] at p; exact p.elim
    | some es' =>
      rw [q] at p
      obtain ⟨es, e1, e2⟩ := bindS q
      obtain ⟨v, rfl, rx⟩ := rv.one
      obtain ⟨l, ys, rfl, ry, hs⟩ := list_of rx hr e1
      obtain ⟨u, rfl, ru⟩ := vals1 r
      obtain rfl : u = Value.ref l := ru
      unfold srtL at e2
      split at e2
      · rename_i hh
        obtain ⟨h1, h2, h3⟩ := hh
        simp only [Option.some.injEq] at e2
        subst e2
        obtain ⟨al, so⟩ := srtB_ok h2
        obtain ⟨its, rv2, hl, hz⟩ := I.list hs
        have len : its.length = es.length := by rw [← rv2.length, ry.length]
        have ep : ∀ d ∈ es, ∃ pd, toPy d = some pd ∧ pyD d = pd ∧ pd.depth ≤ 60 := fun d hd => by
          obtain ⟨pd, a, b, c⟩ := toPy_shp 60 d (shps_mem h1 d hd)
          exact ⟨pd, a, by simp [pyD, a], c⟩
        have each : PySem.W.EachIs (fun u d => ∃ as, Reads s.heap u d as) its (es.map pyD) := each_map pyD (vals_each (β := Unit) rv2 ry fun x u d a b c => by
          obtain ⟨pd, e3, e4, _⟩ := ep d c
          rw [e4]
          obtain ⟨as, rd⟩ := Dp.reads I _ _ _ (b.dp e3) a
          exact ⟨as, rd⟩)
        have each2 : PySem.W.EachIs (fun u d => ∃ as, Reads (PySem.W.sortingHeap (PySem.W.copyHeap s.heap its) (s.heap.objs.size + 1) its) u d as) its (es.map pyD) :=
          each.mono fun u d ⟨as, rd⟩ => ⟨as, PyProof.Rows.Reads.keeps (fun b o e => PySem.W.sorting_copy_old e) rd⟩
        have hlen : its.length ≤ sizeLine := by rw [len, sizeLine_eq]; omega
        refine PySem.W.sorted_vals hl.isList (PySem.W.SortsAt.data (s := { s with heap := PySem.W.sortingHeap (PySem.W.copyHeap s.heap its) (s.heap.objs.size + 1) its }) each2 al so fun d hd => ?_) hlen ?_
        · obtain ⟨d', hd', rfl⟩ := List.mem_map.mp hd
          obtain ⟨pd, _, e4, e5⟩ := ep d' hd'
          rw [e4]
          show X.A.units + 1 + 1 + pd.depth < cLine
          omega
        · have ko : PySem.W.KeyedOut false (es.map pyD) its (PySem.W.sortVals (PySem.W.dataKind (PySem.W.sortingHeap (PySem.W.copyHeap s.heap its) (s.heap.objs.size + 1) its) (es.map pyD)) false its its) := ⟨_, its, al, rfl, each2⟩
          have out := PySem.W.keyedOut_each (R := fun u d => ∃ x, RelV x u ∧ RV X.K T h x d) pyD ko (vals_each (β := Unit) rv2 ry fun x u d a b c => ⟨x, a, b⟩)
          obtain ⟨zs, vz, rz⟩ := each_vals out
          obtain ⟨n, hn⟩ := sortedAll_at s.heap its (PySem.W.sortVals (PySem.W.dataKind (PySem.W.sortingHeap (PySem.W.copyHeap s.heap its) (s.heap.objs.size + 1) its) (es.map pyD)) false its its).toArray
          have hp0 : h.H (s.heap.objs.size + 1) = none := I.hok.fresh (Nat.le_succ _)
          have g := grow_new (h := h) hp0 (.lst zs)
          have zlen : zs.length ≤ sizeLine := by rw [rz.length, List.length_mergeSort, ← len]; exact hlen
          refine ⟨.ref _, upd h.H (s.heap.objs.size + 1) (.lst zs), I.laid (t' := s.toks) (fun b o e => sortedAll_old e) (Nat.le_succ _) ⟨zlen, _, n, vz, hn⟩, rfl, ?_⟩
          exact p (.ref _) _ g (.lst upd_same (hr.fresh hp0) (rz.mono g.ext)) (hr.new hp0 _)
      · cases e2
  · exact p.elim
end G

namespace G
open PySem PySem.Spec PyProof.Rows L2
open PySem.Calls

/-! ## set(list of ints) -/
section
variable {Pg : Program} {wd : World} {Ar : Around} {Er : Value → Shared → Prop} {sh : Shared}
/-- a built-in class called: its __new__, then its __init__, both by what they do here -/
theorem call_ty_wp {T nid iid : String} {as : List Value} {Q Q1 : Value → Shared → Prop} (ft : TypeCalled T nid iid) (hct : checkTypeCall T ⟨as, []⟩ = pure ())
    (hn : codeAny (model Pg wd) Ar.in1 (.call (.builtin nid) ⟨.type T :: as, []⟩) (wants Q1 Er) sh)
    (hi : ∀ ob t, Q1 ob t → t.TypeIs ob T ∧ codeAny (model Pg wd) Ar.in1 (.call (.builtin iid) ⟨ob :: as, []⟩) (wants (fun r t3 => r = .none ∧ Q ob t3) Er) t) :
    wpAny (model Pg wd) Ar (call (.type T) as) Q Er sh := by
  have ⟨c, tl, mr⟩ := ft.mro
  have md := ft.made; have sb := ft.sub
  refine wpAny_call (codeAny_of_tree (show wpAny _ _ (callAny (.type T) _) _ _ _ from wpAny_pure ⟨Code.quiet_builtin _ (by decide +kernel), codeAny_builtin F.entry_type_call ?_⟩))
  rw [Around.under_plain (weight_type_call_type T as []) (units_type_call_type T as [])]
  have n1 := ft.notType; have n2 := ft.canCreate
  repeat (any_goals (first | assumption | wp_step))
  refine codeAny_mono hn fun r1 t1 k1 => ?_
  match r1, k1 with
  | .ok (.ret ob), k1 =>
    have ⟨ty, z⟩ := hi _ _ k1
    have il := ft.init.lookup
    have ib := ft.init.bind ob
    repeat (any_goals (first | assumption | wp_step))
    refine codeAny_mono z fun r2 t2 k2 => ?_
    match r2, k2 with
    | .ok (.ret _), ⟨rfl, q⟩ => repeat (any_goals (first | assumption | wp_step))
    | .error _, q => exact q
  | .error _, k1 => exact k1
abbrev set0O (wd : World) : Obj := { cls := .type "set", dict := none, data := .set #[] 0 (.fresh 0 0 (!wd.params.followText "set-order")) }
theorem set_of_list {l : Addr} {its : Array Value} (ns : List Int) {Q : Value → Shared → Prop} (hd : Ar.handled = none) (il : sh.heap.IsList l its) (ii : IntsAre its.toList ns) (few : ns.length + 1 < scanBound)
    (k : ∀ (hp : Heap) (tk c : Nat), SetR wd hp sh.heap.objs.size (fun j => decide (j ∈ ns)) c → c ≤ ns.length → (∀ b o, sh.heap.get? b = some o → hp.get? b = some o) → Q (.ref sh.heap.objs.size) { sh with heap := hp, toks := tk }) :
    wpAny (model Pg wd) Ar (call (.type "set") [.ref l]) Q Er sh := by
  have sz : its.size = ns.length := Array.length_toList.symm.trans (IntsAre.length ii)
  refine call_ty_wp F.called_set (F.typeCall_set_1 (.ref l)) (Q1 := fun ob t => ob = .ref sh.heap.objs.size ∧ t = { sh with heap := sh.heap.push (set0O wd) }) ?_ ?_
  · exact code_set_led1 (.ref l) ⟨rfl, rfl⟩
  · rintro _ _ ⟨rfl, rfl⟩
    have new : (sh.heap.push (set0O wd)).get? sh.heap.objs.size = some (set0O wd) := Heap.get?_push_size _ rfl
    refine ⟨⟨_, new, rfl⟩, codeAny_call_builtin F.called_set.init.plain F.entry_set_init (check_set_init_1 ⟨_, new, rfl⟩ ?_)⟩
    obtain ⟨⟨ocls, odict, odata, oslots⟩, at_, c1, nl, c2⟩ := il
    simp only at c1 c2
    subst c1 c2
    have at1 : (sh.heap.push (set0O wd)).IsList l its := ⟨_, Heap.get?_push_of_some _ at_, rfl, nl, rfl⟩
    have f1 := F.sub_list_set
    have f2 := F.sub_list_frozenset
    have f3 : (Value.type "list" == Value.type "dict") = false := by decide
    have at2 : (sh.heap.push (set0O wd)).get? l = some { cls := .type "list", dict := odict, data := .seq its nl, slots := oslots } := Heap.get?_push_of_some _ at_
    unfold Builtin.«set.__init__» noKeywords Builtin.Frozenset.updateFrom
    generalize pi : pyIter = it
    wp_walk
    subst pi
    refine wpAny_pyIter_list at1 (wpAny_bind (wpAny_runValue ?_))
    have lt : l < sh.heap.objs.size := Heap.lt_size at_
    have hd3 : Ar.in1.in1.in1.handled = none := by simp [hd]
    have s1 : (sh.heap.push (set0O wd)).objs.size = sh.heap.objs.size + 1 := Heap.size_push ..
    refine set_update_ints ((Walks.list hd3 _ l (by rw [s1]; exact Nat.ne_of_lt (Nat.lt_succ_of_lt lt)) its).toS) sh.heap.objs.size (by rw [s1]; exact List.not_mem_cons_of_ne_of_not_mem (Nat.ne_of_lt (Nat.lt_succ_self _)) (List.not_mem_cons_of_ne_of_not_mem (Nat.ne_of_gt lt) List.not_mem_nil)) ns sz few (fun i v hv => ?_) (its.size - 0) 0 _ (by omega) (Nat.zero_le _) ⟨⟨_, Heap.get?_push_size _ rfl, rfl, rfl⟩, at1.push _⟩ ⟨0, Nat.le_refl 0, setR_new_at (Heap.get?_push_of_some _ new)⟩ fun t c m hc hS => ?_
    · have lt2 : i < ns.length := by rw [← sz]; exact (Array.getElem?_eq_some_iff.mp hv).1
      obtain ⟨tk, e⟩ := IntsAre.int_at ii i v (by rw [Array.getElem?_toList]; exact hv)
      exact ⟨ns[i], tk, by simp [lt2], by rw [e, List.getD_eq_getElem?_getD, List.getElem?_eq_getElem lt2]; rfl⟩
    · obtain ⟨hp, g2, d2, tk, os2⟩ := t
      have e1 : g2 = sh.gens := m.gens
      have e2 : d2 = sh.drawn := m.drawn
      have e3 : os2 = sh.os := m.os
      subst e1 e2 e3
      refine wpAny_pure (wpAny_pure ⟨rfl, k hp tk c hS (by rw [← sz]; exact hc) fun b o e => ?_⟩)
      have b0 : b < sh.heap.objs.size := Heap.lt_size e
      exact m.heap b o (by rw [s1]; exact List.not_mem_cons_of_ne_of_not_mem (Nat.ne_of_lt b0) (List.not_mem_cons_of_ne_of_not_mem (Nat.ne_of_lt (Nat.lt_succ_of_lt b0)) List.not_mem_nil)) (Heap.get?_push_of_some _ (Heap.get?_push_of_some _ e))
end
end G

namespace G
open PySem PySem.Spec PyProof.Rows L2

/-! ## sorted(set(xs)), ints or pairs of small ints -/
section
variable {α : Type}
/-- a new member among sorted ones -/
def insU (lt : α → α → Bool) (x : α) : List α → List α
  | [] => [x]
  | y :: l => if lt x y = true then x :: y :: l else if lt y x = true then y :: insU lt x l else y :: l
def usrt (lt : α → α → Bool) : List α → List α
  | [] => []
  | x :: l => insU lt x (usrt lt l)
structure Lin (lt : α → α → Bool) : Prop where
  ir : ∀ x, lt x x = false
  tr : ∀ x y z, lt x y = true → lt y z = true → lt x z = true
  tri : ∀ x y, lt x y = false → lt y x = false → x = y
variable {lt : α → α → Bool}
theorem insU_mem (O : Lin lt) {x z : α} : ∀ {l : List α}, z ∈ insU lt x l ↔ z = x ∨ z ∈ l
  | [] => by simp [insU]
  | y :: l => by
    unfold insU
    by_cases h1 : lt x y = true
    · rw [if_pos h1]; simp
    · rw [if_neg h1]
      by_cases h2 : lt y x = true
      · rw [if_pos h2, List.mem_cons, insU_mem O, List.mem_cons]
        constructor
        · rintro (a | a | a) <;> simp [a]
        · rintro (a | a | a) <;> simp [a]
      · rw [if_neg h2]
        have e := O.tri x y (by simpa using h1) (by simpa using h2)
        subst e
        simp
theorem insU_srt (O : Lin lt) {x : α} : ∀ {l : List α}, l.Pairwise (fun a b => lt a b = true) → (insU lt x l).Pairwise (fun a b => lt a b = true)
  | [], _ => by simp [insU]
  | y :: l, h => by
    unfold insU
    have ⟨h3, h4⟩ := List.pairwise_cons.mp h
    by_cases h1 : lt x y = true
    · rw [if_pos h1]
      refine List.pairwise_cons.mpr ⟨fun z hz => ?_, h⟩
      rcases List.mem_cons.mp hz with e | e
      · subst e; exact h1
      · exact O.tr _ _ _ h1 (h3 z e)
    · rw [if_neg h1]
      by_cases h2 : lt y x = true
      · rw [if_pos h2]
        refine List.pairwise_cons.mpr ⟨fun z hz => ?_, insU_srt O h4⟩
        rcases (insU_mem O).mp hz with e | e
        · subst e; exact h2
        · exact h3 z e
      · rw [if_neg h2]; exact h
theorem usrt_mem (O : Lin lt) {z : α} : ∀ {l : List α}, z ∈ usrt lt l ↔ z ∈ l
  | [] => by simp [usrt]
  | x :: l => by rw [usrt, insU_mem O, usrt_mem O, List.mem_cons]
theorem usrt_srt (O : Lin lt) : ∀ {l : List α}, (usrt lt l).Pairwise (fun a b => lt a b = true)
  | [] => by simp [usrt]
  | x :: l => insU_srt O (usrt_srt O)
/-- strictly sorted lists of the same members are one -/
theorem srt_uniq (O : Lin lt) : ∀ {l m : List α}, l.Pairwise (fun a b => lt a b = true) → m.Pairwise (fun a b => lt a b = true) → (∀ z, z ∈ l ↔ z ∈ m) → l = m
  | [], [], _, _, _ => rfl
  | [], y :: m, _, _, h => absurd ((h y).mpr List.mem_cons_self) List.not_mem_nil
  | x :: l, [], _, _, h => absurd ((h x).mp List.mem_cons_self) List.not_mem_nil
  | x :: l, y :: m, hl, hm, h => by
    have ⟨h1, h2⟩ := List.pairwise_cons.mp hl
    have ⟨h3, h4⟩ := List.pairwise_cons.mp hm
    have e : x = y := by
      rcases List.mem_cons.mp ((h x).mp List.mem_cons_self) with e | e
      · exact e
      · rcases List.mem_cons.mp ((h y).mpr List.mem_cons_self) with e2 | e2
        · exact e2.symm
        · have a := O.tr _ _ _ (h1 y e2) (h3 x e)
          rw [O.ir] at a; cases a
    subst e
    rw [srt_uniq O h2 h4 fun z => ⟨fun hz => ?_, fun hz => ?_⟩]
    · rcases List.mem_cons.mp ((h z).mp (List.mem_cons_of_mem _ hz)) with e | e
      · subst e; have := h1 z hz; rw [O.ir] at this; cases this
      · exact e
    · rcases List.mem_cons.mp ((h z).mpr (List.mem_cons_of_mem _ hz)) with e | e
      · subst e; have := h3 z hz; rw [O.ir] at this; cases this
      · exact e
end
def ltI (a b : Int) : Bool := decide (a < b)
def ltP (a b : Int × Int) : Bool := decide (a.1 < b.1 ∨ (a.1 = b.1 ∧ a.2 < b.2))
theorem lin_I : Lin ltI := ⟨fun x => by simp [ltI], fun x y z h1 h2 => by simp [ltI] at *; omega, fun x y h1 h2 => by simp [ltI] at *; omega⟩
theorem lin_P : Lin ltP := ⟨fun x => by simp [ltP], fun x y z h1 h2 => by simp [ltP] at *; omega, fun x y h1 h2 => by
  obtain ⟨a, b⟩ := x; obtain ⟨c, d⟩ := y; simp [ltP] at *; omega⟩
def pairsOf : List Da → Option (List (Int × Int))
  | [] => some []
  | .tup [.int a, .int b] :: ds => (pairsOf ds).map ((a, b) :: ·)
  | _ :: _ => none
def smallP (p : Int × Int) : Bool := decide (0 ≤ p.1 ∧ p.1 < 64 ∧ 0 ≤ p.2 ∧ p.2 < 64)
def daP (p : Int × Int) : Da := .tup [.int p.1, .int p.2]
def srtSet (es : List Da) : Option (List Da) := if es.length < 64 then
    match intsOf es with
    | some ns => some ((usrt ltI ns).map Da.int)
    | none => match pairsOf es with
      | some ps => if ps.all smallP = true then some ((usrt ltP ps).map daP) else none
      | none => none
  else none
def dSrtSet (xs : List Da) (S : Sto) : Option (Da × Sto) := match xs with
  | [x] => ((listOf x S).bind srtSet).map fun ds => (.lst ds, S)
  | _ => none
/-! the set -/
def rSetL (K : PySem.W.Frag) (w : World) : List V → Hp → VK → Prop := fun xs H Q => ∃ (l : Addr) (ns : List Int), xs = [.ref l] ∧ SqL K H l (ns.map V.int) ∧ ns.length < 64 ∧ ∀ p c, H p = none → c ≤ ns.length → Q (.ref p) (upd H p (SetO w p (fun j => decide (j ∈ ns)) c))
theorem cr_setL {X : Cx} (hc : X.calm = true) : CallR X (.type "set") (rSetL X.K X.w) := by
  intro pins s σ H xs us Q I r ⟨l, ns, e, hs, few, q⟩
  subst e
  rw [Vals.ref1 r]
  obtain ⟨its, rv, pl, hz⟩ := I.list hs
  have ii : IntsAre its.toArray.toList ns := by simpa using rv.ints
  have hn : H s.heap.objs.size = none := I.hok.fresh (Nat.le_refl _)
  exact set_of_list ns (I.ok.hd hc) pl.isList ii (by unfold scanBound; omega) fun hp tk c R hcl k => ⟨.ref _, upd H s.heap.objs.size (SetO X.w s.heap.objs.size (fun j => decide (j ∈ ns)) c), I.laid (t' := tk) k (Nat.le_refl _) (setO_new R), rfl, q _ c hn hcl⟩
theorem CallR.or {X : Cx} {f : Value} {r1 r2 : List V → Hp → VK → Prop} (a : CallR X f r1) (b : CallR X f r2) : CallR X f (fun xs H Q => r1 xs H Q ∨ r2 xs H Q) := fun pins s σ H xs us Q I r q => q.elim (a pins s σ H xs us Q I r) (b pins s σ H xs us Q I r)
section
variable {K : PySem.W.Frag} {T : Tab} {h : Hv} {S : Sto}
theorem pairs_of : ∀ {ds : List Da} {xs : List V} {ps : List (Int × Int)}, RVs K T h xs ds → pairsOf ds = some ps → ∃ ks : List (Addr × List Int), xs = ks.map (fun p => V.ref p.1) ∧ ks.map (·.2) = ps.map (fun p => [p.1, p.2]) ∧ (∀ p ∈ ks, SqT K h.H p.1 (p.2.map V.int)) ∧ (∀ p ∈ ks, ∃ q ∈ ps, p.2 = [q.1, q.2] ∧ RV K T h (.ref p.1) (daP q))
  | [], _, ps, .nil, e => by simp only [pairsOf, Option.some.injEq] at e; subst e; exact ⟨[], rfl, rfl, fun _ z => (nomatch z), fun _ z => (nomatch z)⟩
  | d :: ds, _, ps, .cons r1 r, e => by
    unfold pairsOf at e
    split at e
    · cases ‹_ :: _ = []›
    · rename_i a b ds' z
      cases z
      cases q : pairsOf ds with
      | none => rw [q] at e; cases e
      | some qs =>
        rw [q] at e
        simp only [Option.map_some, Option.some.injEq] at e
        subst e
        obtain ⟨ks, e1, e2, e3, e4⟩ := pairs_of r q
        have r1' := r1
        cases r1 with
        | tup s rs =>
          rename_i t xs'
          have := RVs.ints (ns := [a, b]) rs
          subst this
          refine ⟨(t, [a, b]) :: ks, by rw [e1]; rfl, by simp [e2], fun p hp => ?_, fun p hp => ?_⟩
          · rcases List.mem_cons.mp hp with z | z
            · subst z; exact s.sq
            · exact e3 p z
          · rcases List.mem_cons.mp hp with z | z
            · subst z; exact ⟨(a, b), List.mem_cons_self, rfl, r1'⟩
            · obtain ⟨q, h1, h2, h3⟩ := e4 p z; exact ⟨q, List.mem_cons_of_mem _ h1, h2, h3⟩
    · cases e
end
theorem i_srtSet {X : Cx} {T : Tab} {W : WX} {a : Expr} {fs : Es} {p p2 q pos : Pos} (hc : X.calm = true) (hu : X.A.units + 64 < cLine) (hg : Gl X "sorted") (hm : X.mg "sorted" = none) (hg2 : Gl X "set") (hm2 : X.mg "set" = none) (ha : AI X T W [a] fs)
    (he2 : starEach [a] X.env = (false, eval a X.env) :: starEach [] X.env := by rfl) (hpl2 : (backTo q (starEach [] X.env)).any (·.1) = false := by rfl)
    (he : starEach [.Call (.Name "set" p2) [a] [] q] X.env = (false, eval (.Call (.Name "set" p2) [a] [] q) X.env) :: starEach [] X.env := by rfl) (hpl : (backTo pos (starEach [] X.env)).any (·.1) = false := by rfl) :
    EI X T W (.Call (.Name "sorted" p) [.Call (.Name "set" p2) [a] [] q] [] pos) (eOpN dSrtSet fs) := by
  refine wkE (pe_callB (CallR.or (cr_sortedSet hc) (cr_sortedT hc)) hg hm (by decide +kernel) (pa_cons (pe_callTy (CallR.or (cr_setL hc) (cr_setOfT hc hu)) hg2 hm2 PyProof.Rows.boot_set ha (by decide) (by decide) he2 hpl2) pa_nil he) (by decide) (by decide) he hpl) fun σ H Q ⟨h, S, ε, e, er, hr, p⟩ => ⟨h, S, ε, e, er, hr, (Post.bind p).imp fun vs H1 ⟨h1, S1, ds, e1, g1, r1, hr1, p1⟩ => ?_⟩
  subst e1
  have p2 := Post.of p1
  unfold dSrtSet at p2
  split at p2
  rotate_left
  · exact p2.elim
  rename_i x
  obtain ⟨v, rfl, rx⟩ := r1.one
  cases q : (listOf x S1).bind srtSet with
  | none => rw [q] at p2; exact p2.elim
  | some rs =>
    rw [q] at p2
    obtain ⟨es, e2, e3⟩ := bindS q
    obtain ⟨l, ys, rfl, ry, hs⟩ := list_of rx hr1 e2
    unfold srtSet at e3
    split at e3
    rotate_left
    · cases e3
    rename_i hlen
    split at e3
    · rename_i ns e4
      cases e3
      have e5 := ints_of ry e4
      subst e5
      have nl : ns.length = es.length := by rw [← ry.length, List.length_map]
      refine .inl ⟨l, ns, rfl, hs, by rw [nl]; exact hlen, fun b c hb hcl => .inl ⟨b, _, c, rfl, upd_same, by omega, fun ms b2 s1 s2 s3 hb2 => ?_⟩⟩
      have g2 := grow_new (h := h1) hb (SetO X.w b (fun j => decide (j ∈ ns)) c)
      have g3 := grow_new (h := { h1 with H := upd h1.H b (SetO X.w b (fun j => decide (j ∈ ns)) c) }) hb2 (.lst (ms.map V.int))
      have em : ms = usrt ltI ns := srt_uniq lin_I (s1.imp fun z => by simpa [ltI] using z) (usrt_srt lin_I) fun z => by rw [usrt_mem lin_I, s2]; simp
      have hr2 := hr1.new hb (SetO X.w b (fun j => decide (j ∈ ns)) c)
      exact p2 (.ref b2) _ (g2.trans g3) (.lst upd_same (hr2.fresh hb2) (by rw [em]; exact .of_ints _)) (hr2.new hb2 _)
    · split at e3
      · rename_i ps e4
        split at e3
        · rename_i sm
          cases e3
          obtain ⟨ks, k1, k2, k3, k4⟩ := pairs_of ry e4
          subst k1
          have kl : ks.length < 64 := by have := ry.length; rw [List.length_map] at this; omega
          refine .inr ⟨l, ks, rfl, hs, k3, kl, fun b L hb l1 l2 => .inr ⟨b, L, 2, 64, rfl, upd_same, fun p hp => ?_, by decide, fun p hp => ?_, fun L' b2 pm nd _ pw hb2 => ?_⟩⟩
          · exact (k3 p (l1 p hp)).ext (L2.Ext.upd hb)
          · obtain ⟨q, h1, h2, _⟩ := k4 p (l1 p hp)
            have := List.all_eq_true.mp sm q h1
            simp only [smallP, decide_eq_true_eq] at this
            rw [h2]
            refine ⟨rfl, fun m hm => ?_⟩
            simp only [List.mem_cons, List.not_mem_nil, or_false] at hm
            rcases hm with rfl | rfl <;> omega
          · have inK : ∀ q ∈ L', q ∈ ks := fun q hq => l1 q (pm.mem_iff.mp hq)
            have g2 := grow_new (h := h1) hb (SetTO X.prog X.w b L)
            have hr2 := hr1.new hb (SetTO X.prog X.w b L)
            have g3 := grow_new (h := { h1 with H := upd h1.H b (SetTO X.prog X.w b L) }) hb2 (.lst (L'.map fun q => V.ref q.1))
            have two : ∀ q ∈ L', ∃ r ∈ ps, q.2 = [r.1, r.2] ∧ r = (q.2.getD 0 0, q.2.getD 1 0) ∧ RV X.K T h1 (.ref q.1) (daP r) ∧ smallP r = true := fun q hq => by
              obtain ⟨r, h1, h2, h3⟩ := k4 q (inK q hq)
              exact ⟨r, h1, h2, by rw [h2]; rfl, h3, List.all_eq_true.mp sm r h1⟩
            have srt : (L'.map fun q => (q.2.getD 0 0, q.2.getD 1 0)).Pairwise (fun a b => ltP a b = true) := by
              rw [List.pairwise_map]
              have nd2 : L'.Pairwise (fun q r => q.2 ≠ r.2) := List.pairwise_map.mp nd
              refine List.Pairwise.imp_of_mem (fun {q r} hq hr z => ?_) (pw.and nd2)
              obtain ⟨u, _, u2, u3, _, u4⟩ := two q hq
              obtain ⟨v, _, v2, v3, _, v4⟩ := two r hr
              rw [← u3, ← v3]
              rw [u2, v2] at z
              simp only [smallP, decide_eq_true_eq] at u4 v4
              have := pair_lt z.1 z.2 ⟨u4.1, u4.2.1⟩ ⟨u4.2.2.1, u4.2.2.2⟩ ⟨v4.1, v4.2.1⟩ ⟨v4.2.2.1, v4.2.2.2⟩
              simpa [ltP] using this
            have em : L'.map (fun q => (q.2.getD 0 0, q.2.getD 1 0)) = usrt ltP ps := srt_uniq lin_P srt (usrt_srt lin_P) fun z => by
              rw [usrt_mem lin_P, List.mem_map]
              constructor
              · rintro ⟨q, hq, rfl⟩
                obtain ⟨u, u1, _, u3, _⟩ := two q hq
                rw [← u3]; exact u1
              · intro hz
                have : [z.1, z.2] ∈ ks.map (·.2) := by rw [k2]; exact List.mem_map.mpr ⟨z, hz, rfl⟩
                obtain ⟨w, hw, hw2⟩ := List.mem_map.mp this
                have := l2 w hw
                obtain ⟨y, hy, hy2⟩ := List.mem_map.mp this
                refine ⟨y, pm.mem_iff.mpr hy, ?_⟩
                have e : y.2 = [z.1, z.2] := hy2.trans hw2
                rw [e]; rfl
            have rv : ∀ M : List (Addr × List Int), (∀ q ∈ M, q ∈ L') → RVs X.K T h1 (M.map fun q => V.ref q.1) ((M.map fun q => (q.2.getD 0 0, q.2.getD 1 0)).map daP) := fun M => by
              induction M with
              | nil => exact fun _ => .nil
              | cons q M ih =>
                intro hM
                obtain ⟨u, _, _, u3, u4, _⟩ := two q (hM q List.mem_cons_self)
                refine .cons ?_ (ih fun r hr => hM r (List.mem_cons_of_mem _ hr))
                show RV X.K T h1 (.ref q.1) (daP (q.2.getD 0 0, q.2.getD 1 0))
                rw [← u3]; exact u4
            have rl := rv L' fun _ z => z
            rw [em] at rl
            exact p2 (.ref b2) _ (g2.trans g3) (.lst upd_same (hr2.fresh hb2) (rl.mono (g2.trans g3).ext)) (hr2.new hb2 _)
        · cases e3
      · cases e3
end G

namespace PySem
theorem enumNewB {v : Value} {ob : Obj} {P : Heap → Prop} (B : Begins v ob P) : Meets (Builtin.«enumerate.__new__» ⟨[.type "enumerate", v], []⟩) (fun _ R t => P t.heap ∧
    R (.ok (.ret (.ref (t.heap.push ob).objs.size))) { t with heap := (t.heap.push ob).push { cls := .type "enumerate", data := .fields #[.none, .bool false, .ref t.heap.objs.size, rawInt 0, .none, .none] } }) :=
  .of_wp fun pr w A R t ⟨p1, p2⟩ => by
    obtain ⟨hp, g, d, tk, os⟩ := t
    have sb := sub_enumerate
    have st : ∀ {A2 : Around} {E2 : Value → Shared → Prop} {Q2 : Value → Shared → Prop}, Q2 (.ref hp.objs.size) ⟨hp.push ob, g, d, tk, os⟩ → wpAny (model pr w) A2 (pyIter v) Q2 E2 ⟨hp, g, d, tk, os⟩ := fun q => B.iter pr w _ _ ⟨hp, g, d, tk, os⟩ _ p1 q
    wp_walk using st
    refine wpAny_stack_any fun _ => wpAny_pure ?_
    split
    · rename_i c _ _ _ _ _
      cases (c == Value.type "enumerate") <;> (wp_walk using st; exact ⟨_, rfl, p2⟩)
    · wp_walk using st; exact ⟨_, rfl, p2⟩
theorem enumTup {prog : Program} {w : World} {A : Around} {E : Value → Shared → Prop} {s : Shared} {t : Addr} {its : Array Value} {Q : Value → Shared → Prop} (ht : s.heap.IsTuple t its)
    (h : ∀ h2, IsEnum h2 (s.heap.objs.size + 1) s.heap.objs.size 0 .none → h2.IsTupleIter s.heap.objs.size t 0 → (∀ b o, s.heap.get? b = some o → h2.get? b = some o) → Q (.ref (s.heap.objs.size + 1)) { s with heap := h2 }) :
    wpAny (model prog w) A (call (.type "enumerate") [.ref t]) Q E s := by
  have B := begins_tuple t its
  have sz : (s.heap.push { cls := .type "tuple_iterator", data := .fields #[.ref t, .int 0 0] }).objs.size = s.heap.objs.size + 1 := Heap.size_push ..
  refine callType_new F.called_enumerate (by decide) (F.typeCall_enumerate_1 _) (F.newCall_enumerate_1 _) (fun ob => F.args_object_init_2 ob _) F.entry_enumerate_new (enumNewB B) ⟨ht, ?_⟩
  show _ ∧ _
  rw [sz]
  have e1 := Heap.get?_push_size (s.heap.push { cls := .type "tuple_iterator", data := .fields #[.ref t, .int 0 0] }) (o := { cls := .type "enumerate", data := .fields #[.none, .bool false, .ref s.heap.objs.size, rawInt 0, .none, .none] }) rfl
  rw [sz] at e1
  exact ⟨⟨_, e1, rfl⟩, h _ e1 ⟨_, Heap.get?_push_of_some _ (Heap.get?_push_size _ rfl), rfl, rfl⟩ fun b o x => Heap.get?_push_of_some _ (Heap.get?_push_of_some _ x)⟩
end PySem
namespace G
open PySem PySem.Spec PyProof.Rows L2

/-! ## enumerate over a value -/
def Iet (K : PySem.W.Frag) (a : Addr) : It :=
  ⟨fun i H => ∃ (xs : List V) (x : V), SqT K H a xs ∧ xs[i]? = some x, fun i H v H' => ∃ T x, v = .ref T ∧ H T = none ∧ H' = upd H T (.tup [.int (i : Nat), x]) ∧ ∀ xs, SqT K H a xs → xs[i]? = some x, fun i H => ∃ xs : List V, SqT K H a xs ∧ xs.length ≤ i⟩
theorem turn_enumT {P : Program} {w : World} {K : PySem.W.Frag} {elts : List Expr} {kk : Nat} {tpos : Pos} (a e it : Addr) :
    Turn P w K (.Tuple elts kk tpos) (Iet K a) [e, it] e (fun i h => (∃ old, IsEnum h e it ((i : Nat) : Int) old) ∧ h.IsTupleIter it a i ∧ e ≠ it ∧ a ≠ e ∧ a ≠ it) where
  mem := List.mem_cons_self
  obj := fun i h ⟨⟨old, he⟩, ⟨o, ho, hc, hd⟩, _⟩ b hb => by
    rcases List.mem_cons.mp hb with z | z
    · rw [z]; exact ⟨_, he, fun v q => (nomatch q)⟩
    · rw [List.mem_singleton.mp z]; exact ⟨o, ho, fun v q => by rw [hd] at q; cases q⟩
  keep := fun i h h' ⟨⟨old, he⟩, hi, n⟩ k => ⟨⟨old, k e List.mem_cons_self _ he⟩, hi.at fun o q => k it (List.mem_cons_of_mem _ List.mem_cons_self) o q, n⟩
  item := by
    rintro X rfl rfl rfl hc i pins s σ H E I hf ⟨⟨old, he⟩, hit, hne, ae, ai⟩ ⟨xs, x, hq, hx⟩
    obtain ⟨its, rv, p, hz⟩ := I.tuple hq
    obtain ⟨u, hu, ru⟩ := rv.get hx
    have l1 : e < s.heap.objs.size := Heap.lt_size he
    have l2 : it < s.heap.objs.size := by obtain ⟨_, q, _⟩ := hit; exact Heap.lt_size q
    have D := Draws.tuple (prog := X.prog) (w := X.w) (A := X.A.in1) (by simpa using I.ok.hd hc) it a ai its.toArray
    have lt : i < its.toArray.size := by have := (List.getElem?_eq_some_iff.mp hu).1; simpa using this
    refine wpAny_pyNext_enum_itemD D he ⟨hit, p⟩ lt hne (by simp [hne, Ne.symm ae]) fun y h1 tk py ho st hT hsz hk => ?_
    obtain rfl : u = y := by
      have : its[i]? = some y := by simpa using py
      rw [hu] at this; exact Option.some.inj this
    refine ⟨_, rfl, wpAny_letOwnedTupleGo_enum (s := { s with heap := h1, toks := tk + 1 }) ho fun h2 he2 sb => ?_⟩
    have t2 : h2.get? s.heap.objs.size = some { cls := .type "tuple", data := .seq #[.int i tk, u] } := (sb.2 _ (Nat.ne_of_gt l1)).trans hT
    have ok2 : ObjOk X.prog X.w (upd H s.heap.objs.size (.tup [.int (i : Nat), x])) h2 s.heap.objs.size (.tup [.int (i : Nat), x]) := ⟨by rw [sizeLine_eq]; show 2 ≤ 16777216; decide, [.int i tk, u], .cons ⟨_, rfl⟩ (.cons ru .nil), ⟨_, t2, rfl, _, rfl⟩⟩
    have J : Inv X pins σ (upd H s.heap.objs.size (.tup [.int (i : Nat), x])) { s with heap := h2, toks := tk + 1 } :=
      I.turnedNew (ch := [e, it]) (fun b ob hb q => (sb.2 b (fun z => hb (by simp [z]))).trans (hk b ob (fun z => hb (by simp [z])) (fun z => hb (by simp [z])) q)) hf (Nat.le_refl _) ok2
    refine ⟨.ref s.heap.objs.size, _, J, rfl, ⟨_, x, rfl, I.hok.fresh (Nat.le_refl _), rfl, fun ys hy => ?_⟩, ⟨⟨u, by rw [show ((i + 1 : Nat) : Int) = (i : Int) + 1 by omega]; exact he2⟩, st.1.at fun o q => (sb.2 it (Ne.symm hne)).trans q, hne, ae, ai⟩, fun b hb => ?_⟩
    · rw [I.tuple_inj hy hq]; exact hx
    · have lb : b < s.heap.objs.size := by
        rcases List.mem_cons.mp hb with z | z
        · rw [z]; exact l1
        · rw [List.mem_singleton.mp z]; exact l2
      rw [upd_ne (Nat.ne_of_lt lb)]; exact (hf b hb).1
  done := by
    rintro X rfl rfl rfl hc i pins s σ H E I hf ⟨⟨old, he⟩, hit, hne, ae, ai⟩ ⟨xs, hq, hx⟩
    obtain ⟨its, rv, p, hz⟩ := I.tuple hq
    obtain ⟨f0, f1, f2, f3, f4, f5⟩ := hf it (by simp)
    have hd : X.A.in1.handled = none := by simpa using I.ok.hd hc
    have no : its.toArray[i]? = none := by have := rv.length; simp; omega
    have D : Draws X.prog X.w X.A.in1 it [it, a] i (fun _ _ => False) (fun j h => j = i ∧ h.IsTupleIter it a j ∧ h.IsTuple a its.toArray) :=
      { live := fun _ _ st => let ⟨o, ho, _⟩ := st.2.1; ⟨o, ho⟩
        frame := fun _ _ _ st hk => ⟨st.1, st.2.1.at fun o e => hk it (by simp) o e, st.2.2.at fun o e => hk a (by simp) o e⟩
        item := fun j t Q E hj st _ => absurd st.1 (Nat.ne_of_lt hj)
        done := fun t Q E st hE => wpAny_nextOf_tuple_end hd st.2.1 st.2.2 no hE }
    exact wpAny_pyNext_enum_endD D he ⟨rfl, hit, p⟩ fun h' eb => ⟨rfl, I.turned (t' := s.toks) (fun b o hb q => eb b o hb q) f0 f1 f3 f4 f5⟩
  self := fun A i s Q E ⟨⟨_, he⟩, _⟩ h => wpAny_pyIter_enum he h
theorem pi_enumT {X : Cx} {e : Expr} {ta : TA} {p pos tpos : Pos} {elts : List Expr} {kk : Nat} (hg : Gl X "enumerate") (hm : X.mg "enumerate" = none) (ha : PA X [e] ta) (hs : starEach [e] X.env = [(false, eval e X.env)] := by rfl) :
    PI X (.Tuple elts kk tpos) (.Call (.Name "enumerate" p) [e] [] pos) (fun σ H R => ta σ H fun vs H1 => ∃ a xs, vs = [.ref a] ∧ SqT X.K H1 a xs ∧ R (Iet X.K a) H1) := by
  refine ⟨fun pins s σ H R I h => Call_ (ld_blt I hg hm boot_enumerate (PyProof.Rows.callWith_type1 (thn (ha.run pos pins s σ H _ I h) fun us s1 ⟨vs, H1, I1, r1, a, xs, ex, hq, q⟩ => ?_) hs rfl))⟩
  subst ex
  obtain rfl := Vals.ref1 r1
  obtain ⟨its, rv, p', hz⟩ := I1.tuple hq
  have la : a < s1.heap.objs.size := by obtain ⟨o, ho, _⟩ := p'; exact Heap.lt_size ho
  refine enumTup p' fun h' he hit hk => wpAny_pyIter_enum he ?_
  have I2 : Inv X pins σ H1 { s1 with heap := h' } := I1.kept (t' := s1.toks) hk
  refine ⟨s1.heap.objs.size + 1, [s1.heap.objs.size + 1, s1.heap.objs.size], _, _, H1, rfl, I2, turn_enumT a (s1.heap.objs.size + 1) s1.heap.objs.size, ⟨⟨.none, he⟩, hit, Nat.succ_ne_self _, Nat.ne_of_lt (Nat.lt_succ_of_lt la), Nat.ne_of_lt la⟩, fun b hb => ?_, q⟩
  have hle : s1.heap.objs.size ≤ b := by
    rcases List.mem_cons.mp hb with z | z
    · rw [z]; exact Nat.le_succ _
    · rw [List.mem_singleton.mp z]; exact Nat.le_refl _
  exact I1.fpOk hle (I1.hok.fresh hle)
def enumL (ds : List Da) : List Da := (List.range ds.length).map fun i => .tup [.int (i : Nat), ds.getD i .non]
def iEnum (a : Es) : Ie := fun ε S => (a ε S).bind fun xs S => match xs with
  | [.lst ds] => .ok (enumL ds) S
  | [.tup ds] => .ok (enumL ds) S
  | [.scr ns] => .ok (enumL (ns.map Da.int)) S
  | _ => .bad
section
variable {K : PySem.W.Frag} {T : Tab} {h : Hv}
theorem enum_one {h2 : Hv} {S : Sto} {ds : List Da} {xs : List V} {i : Nat} {Tp : Addr} {x : V} (r : RVs K T h2 xs ds) (hr : HeapR K T h2 S) (hi : i < (enumL ds).length) (hT : h2.H Tp = none) (hx : xs[i]? = some x) :
    ∃ h3 d, h3.H = upd h2.H Tp (.tup [.int (i : Nat), x]) ∧ Grow h2 h3 ∧ HeapR K T h3 S ∧ (enumL ds)[i]? = some d ∧ RV K T h3 (.ref Tp) d := by
  obtain ⟨d, hd, rd⟩ := r.get' hx
  have g := grow_new (h := h2) hT (.tup [.int (i : Nat), x])
  refine ⟨{ h2 with H := upd h2.H Tp (.tup [.int (i : Nat), x]) }, .tup [.int (i : Nat), d], rfl, g, hr.new hT _, ?_, .tup (.inl ⟨.inl upd_same, hr.fresh hT⟩) (.cons (.int _) (.cons (rd.mono g.ext) .nil))⟩
  have : i < ds.length := by simpa [enumL] using hi
  have e2 : ds[i] = d := by rw [List.getElem?_eq_getElem this] at hd; exact Option.some.inj hd
  simp [enumL, this, e2]
theorem itr_enumL {a : Addr} {xs : List V} {ds : List Da} (s : SL K h a xs) (r : RVs K T h xs ds) : ItR K T h (Ite K a) (enumL ds) := by
  have len : (enumL ds).length = xs.length := by rw [r.length]; simp [enumL]
  refine ⟨fun i h2 S g hr hi => ?_, fun i h2 S g hr hi => ⟨xs, (s.mono g).sq, by rw [← len]; exact hi⟩, fun i h2 S x H' g hr hi y => ?_⟩
  · rw [len] at hi; exact ⟨xs, xs[i], (s.mono g).sq, by simp [hi]⟩
  · obtain ⟨Tp, z, rfl, hT, rfl, hz⟩ := y
    exact enum_one (r.mono g) hr hi hT (hz xs (s.mono g).sq)
theorem itr_enumT {a : Addr} {xs : List V} {ds : List Da} (s : ST K h a xs) (r : RVs K T h xs ds) : ItR K T h (Iet K a) (enumL ds) := by
  have len : (enumL ds).length = xs.length := by rw [r.length]; simp [enumL]
  refine ⟨fun i h2 S g hr hi => ?_, fun i h2 S g hr hi => ⟨xs, (s.mono g).sq, by rw [← len]; exact hi⟩, fun i h2 S x H' g hr hi y => ?_⟩
  · rw [len] at hi; exact ⟨xs, xs[i], (s.mono g).sq, by simp [hi]⟩
  · obtain ⟨Tp, z, rfl, hT, rfl, hz⟩ := y
    exact enum_one (r.mono g) hr hi hT (hz xs (s.mono g).sq)
end
section
variable {X : Cx} {T : Tab} {W : WX} {e : Expr} {elts : List Expr} {kk : Nat} {pos p tpos : Pos} {fs : Es}
theorem it_enum (hg : Gl X "enumerate") (hm : X.mg "enumerate" = none) (ha : AI X T W [e] fs) (hs : starEach [e] X.env = [(false, eval e X.env)] := by rfl) : II X T W (.Tuple elts kk tpos) (.Call (.Name "enumerate" p) [e] [] pos) (iEnum fs) := by
  refine wkI (PIor (pi_enum hg hm ha hs) (pi_enumT hg hm ha hs)) fun σ H R ⟨h, S, ε, e0, er, hr, p⟩ => ?_
  cases q : fs ε S with
  | bad => simp only [iEnum, q] at p; exact p.elim
  | exc c gs S1 => simp only [iEnum, q] at p; exact .inl ⟨h, S, ε, e0, er, hr, by rw [q]; exact p⟩
  | ok xs S1 =>
    simp only [iEnum, q, Rs.bind] at p
    split at p
    · refine .inl ⟨h, S, ε, e0, er, hr, ?_⟩
      rw [q]
      intro vs h1 g1 r1 hr1
      obtain ⟨v, rfl, rv⟩ := r1.one
      cases rv with | lst e1 f1 rs => exact ⟨_, _, rfl, SqL.of e1, p _ h1 g1 (itr_enumL (.inl ⟨.inl e1, f1⟩) rs) hr1⟩
    · refine .inr ⟨h, S, ε, e0, er, hr, ?_⟩
      rw [q]
      intro vs h1 g1 r1 hr1
      obtain ⟨v, rfl, rv⟩ := r1.one
      cases rv with | tup e1 rs => exact ⟨_, _, rfl, e1.sq, p _ h1 g1 (itr_enumT e1 rs) hr1⟩
    · refine .inl ⟨h, S, ε, e0, er, hr, ?_⟩
      rw [q]
      intro vs h1 g1 r1 hr1
      obtain ⟨v, rfl, rv⟩ := r1.one
      cases rv with | scr e1 => exact ⟨_, _, rfl, e1.sq, p _ h1 g1 (itr_enumL e1 (.of_ints _)) hr1⟩
    · exact p.elim
end
end G

namespace G
open PySem PySem.Spec PyProof.Rows L2

/-! ## == and != by an own __eq__ -/
theorem RoomG.in1 {k : Nat} {A : Around} (r : RoomG (k + 1) A) : RoomG k A.in1 := ⟨r.r.in1, by have := r.g; simpa using this⟩
/-- what is asked of the class -/
structure NeC (K : PySem.W.Frag) (C f : Addr) : Prop where
  cls : ∃ nm q N bs sn sub ab col dd k0 k1 k2 k3 k5 nid, K.lookup C = some (excClassObj nm q C N bs [.type "object"] true sn sub ab col dd k0 k1 k2 k3 k5 nid) ∧ PySem.W.nsOkIn K N = true ∧ PySem.W.nsIn K N "__eq__" = some (some (.ref f)) ∧ PySem.W.nsIn K N "__ne__" = some none
theorem ns_some_of {K : PySem.W.Frag} {h : Heap} {N : Addr} {m : Str → Option Value} {n : Str} {v : Value} (X : K.In h) : h.Ns N m → PySem.W.nsIn K N n = some (some v) → m n = some v := by
  rintro ⟨o, es, ep, ho, hd, _, hf⟩ e
  unfold PySem.W.nsIn at e
  split at e
  case h_1 q =>
    have z := X _ _ q
    rw [ho] at z; cases z; cases hd
    split at e
    case h_1 en he =>
      cases e
      rw [← hf]; unfold nsFind findBy
      rw [← Array.find?_toList, he]; rfl
    case h_2 => split at e <;> cases e
  case h_2 => cases e
theorem own_eq_ne {K : PySem.W.Frag} {h : Heap} {x C f : Addr} {o : Obj} (X : K.In h) (N : NeC K C f) (hf : PySem.W.isFn K (.ref f) = true) (hx : h.get? x = some o) (hc : o.cls = .ref C) : h.OwnEqNoNe x C f "object" [.type "object"] := by
  obtain ⟨nm, q, Na, bs, sn, sub, ab, col, dd, k0, k1, k2, k3, k5, nid, lC, ok, e1, e2⟩ := N.cls
  have ns := Heap.Ns.of_isNs (PySem.W.isNs_of_in X ok)
  have tf : ∃ of, h.get? f = some of ∧ of.cls = .type "function" := by
    have t : PySem.W.typeIn K (.ref f) = some (.type "function") := beq_iff_eq.mp hf
    unfold PySem.W.typeIn at t
    obtain ⟨of, a, b⟩ := Option.map_eq_some_iff.mp t
    exact ⟨of, X _ _ a, b⟩
  obtain ⟨of, f1, f2⟩ := tf
  have some_of : h.nsMap Na "__eq__" = some (.ref f) := ns_some_of X ns e1
  exact ⟨o, of, nm, q, Na, bs, true, sn, sub, ab, col, dd, k0, k1, k2, k3, k5, nid, h.nsMap Na, _, hx, hc, X _ _ lC, ns, some_of, f1, f2, F.cmp_object.mro, F.cmp_object.eq.lookup, PySem.W.ns_none_of X ns e2⟩
/-- a class with its own __eq__ -/
structure EqI (P : Program) (w : World) (K : PySem.W.Frag) (mg : Str → Option Value) (base : Heap) (T : Tab) (k c : Nat) (F : FnD) : Prop where
  ex : ∃ (f : Addr) (fd : FuncData) (ps : List Str), FnG P w K mg base k f fd ps (spI K T F) ∧ Meth K (T.cls c) "__eq__" f ∧ Binds K fd ps [] ∧ NeC K (T.cls c) f
theorem EqI.mono {P : Program} {w : World} {K : PySem.W.Frag} {mg : Str → Option Value} {base : Heap} {T : Tab} {j k c : Nat} {F : FnD} (D : EqI P w K mg base T j c F) (h : j ≤ k) : EqI P w K mg base T k c F := by
  obtain ⟨f, fd, ps, h1, h2⟩ := D.ex
  exact ⟨f, fd, ps, h1.mono h, h2⟩
def isIns (c : Nat) (x : Da) (S : Sto) : Bool := match insOf x S with
  | some (c', _) => c' == c
  | none => false
def eqRes (r : Rs Da) (neg : Bool) : Option (Da × Sto) := match r with
  | .ok (.bl b) S => some (.bl (if neg then !b else b), S)
  | _ => none
def dEqO (c : Nat) (F : FnD) (x y : Da) (S : Sto) : Option (Da × Sto) := if isIns c x S = true ∧ (isIns c y S = true ∨ (kindD y S).isSome = true) then eqRes (F [x, y] S) false else none
def dNeO (c : Nat) (F : FnD) (x y : Da) (S : Sto) : Option (Da × Sto) := if isIns c x S = true ∧ isIns c y S = true then eqRes (F [x, y] S) true else none
section
variable {X : Cx} {T : Tab} {k c : Nat} {F : FnD}
theorem ins_at {h : Hv} {S : Sto} {x : V} {d : Da} (r : RV X.K T h x d) (hr : HeapR X.K T h S) (e : isIns c d S = true) : ∃ a dx vs, x = .ref a ∧ h.H a = some (.ins (T.cls c) dx vs) := by
  unfold isIns at e
  split at e
  · rename_i c' fs q
    obtain rfl := beq_iff_eq.mp e
    obtain ⟨a, dx, vs, e1, e2, _⟩ := ins_of r hr q
    exact ⟨a, dx, vs, e1, e2⟩
  · cases e
/-- the call of __eq__, somewhere below -/
theorem run_eqO {A : Around} {pins : List (Addr × Obj)} {σ : St} {s : Shared} {f : Addr} {fd : FuncData} {ps : List Str} {h : Hv} {S : Sto} {x y : V} {u v : Value} {dx dy : Da} {neg : Bool} {Q : VK} {E : Value → Shared → Prop} (F0 : FnG X.prog X.w X.K X.mg X.base k f fd ps (spI X.K T.base F)) (hA : RoomG k A) (hfr : A.frames = X.A.frames) (hb : Binds X.K fd ps [])
    (I : Inv X pins σ h.H s) (rx : RelV x u) (ry : RelV y v) (hr : HeapR X.K T h S) (r1 : RV X.K T h x dx) (r2 : RV X.K T h y dy) (p : PostO X.K T h (eqRes (F [dx, dy] S) neg) Q) :
    wpAny (model X.prog X.w) A (call (.ref f) [u, v]) (fun w t => ∃ b, w = .bool b ∧ EP X pins σ Q (.bool (if neg then !b else b)) t) E s := by
  have sp : spI X.K T.base F [x, y] h.H (fun z H' => ∃ b, z = .bl b ∧ Q (.bl (if neg then !b else b)) H') (fun _ _ _ => False) := by
    refine ⟨h, S, [dx, dy], rfl, hr.retab (T := T) (T' := T.base) rfl rfl, .cons (r1.retab (T := T) (T' := T.base) rfl rfl) (.cons (r2.retab (T := T) (T' := T.base) rfl rfl) .nil), ?_⟩
    cases q : F [dx, dy] S with
    | bad => rw [q] at p; exact p.elim
    | exc c fs S1 => rw [q] at p; exact p.elim
    | ok d S1 =>
      rw [q] at p
      cases d with
      | bl b => intro z h' g rz hz; cases rz; exact ⟨b, rfl, p _ h' g (.bl _) (hz.retab (T := T.base) (T' := T) rfl rfl)⟩
      | _ => exact p.elim
  have e0 : Env0 X.prog X.w X.K X.mg X.base A X.stack s h.H := by
    have e := I.env0
    exact ⟨hfr.trans e.frames, e.mod, e.bs, e.bsz, e.funs, e.frf, e.hok, e.bare⟩
  have rv : Vals [x, y] [u, v] := .cons rx (.cons ry .nil)
  have hl := F0.len _ _ _ _ sp
  have bb := hb s [u, v] I.kIn (by rw [List.append_nil]; exact hl)
  rw [List.append_nil] at bb
  refine wpAny_call (codeAny_mono (F0.run A X.stack s h.H ⟨[u, v], []⟩ [u, v] [x, y] _ _ hA e0 bb rv sp) fun r t hq => ?_)
  cases r with
  | error e => obtain ⟨_, _, _, _, _, _, _, _, _, _, _, _, z⟩ := hq; exact z.elim
  | ok fl =>
    cases fl with
    | ret w =>
      obtain ⟨z, H', I', rz, b, ez, q⟩ := I.after hq
      subst ez
      cases rz
      exact ⟨b, rfl, .bl _, H', I', rfl, q⟩
    | next => exact False.elim hq
    | brk => exact False.elim hq
    | cont => exact False.elim hq
theorem o_eqO (D : EqI X.prog X.w X.K X.mg X.base T.base k c F) (hr : RoomG k X.A) : OpR X (compareOp .Eq) (rD2 X.K T (dEqO c F)) := by
  intro pins s σ H x y u v Q I rx ry ⟨h, S, dx, dy, e, hh, r1, r2, p⟩
  subst e
  unfold dEqO at p
  split at p
  rotate_left
  · exact p.elim
  rename_i hc
  obtain ⟨f, fd, ps, F0, M, hb, N⟩ := D.ex
  obtain ⟨a, ax, vs, rfl, ha⟩ := ins_at r1 hh hc.1
  obtain rfl : u = Value.ref a := rx
  obtain ⟨mA, J, _⟩ := ins_get I.hok ha
  obtain ⟨od, J, _⟩ := J.look
  obtain ⟨m, hF⟩ := I.fr
  have main : ∀ tb, PySem.W.Looks (model X.prog X.w) s.heap (typeOf v) tb → PySem.W.notFirst X.K (T.cls c) tb = true → wpAny (model X.prog X.w) X.A (richCompare .Eq (.ref a) v) (EP X pins σ Q) X.xe s := fun tb hty hn =>
    PySem.W.cmp_K (op := .Eq) (tb := tb) hr.r.units0 hF I.ok.mod.kin J hty hn M.at_ M.fn (wpAny_mono (run_eqO (neg := false) F0 hr rfl hb I (x := .ref a) (u := .ref a) rfl ry hh r1 r2 p) (fun w t ⟨b, e, q⟩ => by subst e; exact q) fun _ _ z => z)
  rcases hc.2 with h2 | h2
  · obtain ⟨b, bx, ws, rfl, hb'⟩ := ins_at r2 hh h2
    obtain rfl : v = Value.ref b := ry
    obtain ⟨mB, J', _⟩ := ins_get I.hok hb'
    obtain ⟨od', J', _⟩ := J'.look
    exact main (.ref (T.cls c)) J'.type (by simp [PySem.W.notFirst])
  · obtain ⟨bt, hbt⟩ := Option.isSome_iff_exists.mp h2
    obtain ⟨Pz, KX, hP, _⟩ := kit_of I ry (kind_of r2 hh hbt)
    exact main (.type bt.name) (KX.ty _ _ I.kIn hP) (by
      unfold PySem.W.notFirst PySem.W.subIn
      cases bt <;> rfl)
theorem o_neO (D : EqI X.prog X.w X.K X.mg X.base T.base k c F) (hr : RoomG (k + 1) X.A) : OpR X (compareOp .NotEq) (rD2 X.K T (dNeO c F)) := by
  intro pins s σ H x y u v Q I rx ry ⟨h, S, dx, dy, e, hh, r1, r2, p⟩
  subst e
  unfold dNeO at p
  split at p
  rotate_left
  · exact p.elim
  rename_i hc
  obtain ⟨f, fd, ps, F0, M, hb, N⟩ := D.ex
  obtain ⟨a, ax, vs, rfl, ha⟩ := ins_at r1 hh hc.1
  obtain rfl : u = Value.ref a := rx
  obtain ⟨b, bx, ws, rfl, hb'⟩ := ins_at r2 hh hc.2
  obtain rfl : v = Value.ref b := ry
  obtain ⟨mA, J, _⟩ := ins_get I.hok ha
  obtain ⟨mB, J', _⟩ := ins_get I.hok hb'
  obtain ⟨od, J, _⟩ := J.look
  obtain ⟨od', J', _⟩ := J'.look
  obtain ⟨h, g, d, t, os⟩ := s
  refine compareOp_ne_ownEq PySem.F.cmp_object (own_eq_ne I.kIn N M.fn J.1 J.2) J'.1 J'.2 (by have := hr.r.un; omega) (wpAny_mono (run_eqO (neg := true) F0 hr.in1 rfl hb I (x := .ref a) (u := .ref a) (y := .ref b) (v := .ref b) rfl rfl hh r1 r2 p) (fun w t q => q) fun _ _ z => z)
end
/-! ## isinstance(x, C), C a class of the text -/
structure IsC (K : PySem.W.Frag) (T : Tab) (cs : List Nat) : Prop where
  cls : ∀ c ∈ cs, (PySem.W.clsIn K (T.cls c)).isSome = true ∧ PySem.W.typeIn K (.ref (T.cls c)) = some (.type "type") ∧ Cls K (T.cls c) ∧ PySem.W.findIn K (.ref (T.cls c)) "__class__" = some (some (.builtin "object.__class__")) ∧ PySem.W.mroIn K (T.cls c) (.type "object") = some true
  sp : PySem.W.specialIn K (.builtin "object.__class__") "__get__" = some (some (.builtin "getset_descriptor.__get__"))
  tk : PySem.W.takesIn K (.builtin "object.__class__") = some true
  sub : ∀ c ∈ cs, ∀ c' ∈ cs, c ≠ c' → (T.cls c ≠ T.cls c' ∧ PySem.W.subIn K (.ref (T.cls c)) (.ref (T.cls c')) = some false)
def dIsC (cs : List Nat) (xs : List Da) (S : Sto) : Option (Da × Sto) := match xs with
  | [x, .cls c] => if c ∈ cs then (match insOf x S with
    | some (c', _) => if c' = c then some (.bl true, S) else if c' ∈ cs then some (.bl false, S) else none
    | none => (kindD x S).map fun _ => (.bl false, S)) else none
  | _ => none
theorem o_isC {X : Cx} {T : Tab} {cs : List Nat} (C : IsC X.K T cs) : CallR X (.builtin "isinstance") (rDN X.K T (dIsC cs)) := by
  refine CallR.imp call_isi fun xs H Q ⟨h, S, ds, e, hr, r, p⟩ => ?_
  subst e
  unfold dIsC at p
  split at p
  · rename_i x c
    obtain ⟨v, w, rfl, r1, r2⟩ := r.two
    cases r2
    split at p
    · rename_i hc
      obtain ⟨k1, k2, _⟩ := C.cls c hc
      split at p
      · rename_i c' fs q
        obtain ⟨a, dx, vs, rfl, ha, _⟩ := ins_of r1 hr q
        split at p
        · rename_i e
          subst e
          obtain ⟨_, _, k3, k4, k5⟩ := C.cls c' hc
          exact ⟨_, _, .ref (T.cls c'), _, true, rfl, .own _, .base (.ins ha k3 k4 C.sp C.tk k5), by simp [PySem.W.kitOne], p.ret (.bl _) hr⟩
        · rename_i ne
          split at p
          · rename_i hc'
            obtain ⟨n1, n2⟩ := C.sub c' hc' c hc ne
            obtain ⟨_, _, k3, k4, k5⟩ := C.cls c' hc'
            exact ⟨_, _, .ref (T.cls c'), _, false, rfl, .own _, .base (.ins ha k3 k4 C.sp C.tk k5), by simp [PySem.W.kitOne, PySem.W.kitCls, k1, k2, n1, n2], p.ret (.bl _) hr⟩
          · exact p.elim
      · cases q : kindD x S with
        | none => rw [q] at p; exact p.elim
        | some bt =>
          rw [q] at p
          refine ⟨_, _, _, _, false, rfl, .own _, kind_of r1 hr q, ?_, p.ret (.bl _) hr⟩
          unfold PySem.W.kitOne PySem.W.kitCls PySem.W.subIn
          simp only [k1, k2]
          cases bt <;> rfl
    · exact p.elim
  · exact p.elim
end G

namespace G
open PySem PySem.Spec PyProof.Rows L2

/-! ## len(x) by an own __len__ -/
structure SpC (K : PySem.W.Frag) (C f : Addr) (n : Str) : Prop where
  cls : ∃ nm q N bs sn sub ab col dd k0 k1 k2 k3 k5 nid, K.lookup C = some (excClassObj nm q C N bs [.type "object"] true sn sub ab col dd k0 k1 k2 k3 k5 nid) ∧ PySem.W.nsOkIn K N = true ∧ PySem.W.nsIn K N n = some (some (.ref f))
theorem own_sp {K : PySem.W.Frag} {h : Heap} {x C f : Addr} {o : Obj} {n : Str} {r : Option Value} (X : K.In h) (N : SpC K C f n) (hf : PySem.W.isFn K (.ref f) = true) (hr : typeLookup (.type "object") n = pure r) (hx : h.get? x = some o) (hc : o.cls = .ref C) : h.OwnSpecial x C f "object" n := by
  obtain ⟨nm, q, Na, bs, sn, sub, ab, col, dd, k0, k1, k2, k3, k5, nid, lC, ok, e1⟩ := N.cls
  have ns := Heap.Ns.of_isNs (PySem.W.isNs_of_in X ok)
  have t : PySem.W.typeIn K (.ref f) = some (.type "function") := beq_iff_eq.mp hf
  unfold PySem.W.typeIn at t
  obtain ⟨of, f1, f2⟩ := Option.map_eq_some_iff.mp t
  exact ⟨o, of, nm, q, Na, bs, _, true, sn, sub, ab, col, dd, k0, k1, k2, k3, k5, nid, h.nsMap Na, r, hx, hc, X _ _ lC, ns, ns_some_of X ns e1, X _ _ f1, f2, PySem.F.cmp_object.mro, hr⟩
theorem obj_nolen : typeLookup (.type "object") "__len__" = pure none := by rw [typeLookup_type, builtinLookup_eq_fast]; kernel_rfl
structure LenI (P : Program) (w : World) (K : PySem.W.Frag) (mg : Str → Option Value) (base : Heap) (T : Tab) (k c : Nat) (F : FnD) : Prop where
  ex : ∃ (f : Addr) (fd : FuncData) (ps : List Str), FnG P w K mg base k f fd ps (spI K T F) ∧ Meth K (T.cls c) "__len__" f ∧ Binds K fd ps [] ∧ SpC K (T.cls c) f "__len__"
theorem LenI.mono {P : Program} {w : World} {K : PySem.W.Frag} {mg : Str → Option Value} {base : Heap} {T : Tab} {j k c : Nat} {F : FnD} (D : LenI P w K mg base T j c F) (h : j ≤ k) : LenI P w K mg base T k c F := by
  obtain ⟨f, fd, ps, h1, h2⟩ := D.ex
  exact ⟨f, fd, ps, h1.mono h, h2⟩
def lenRes (r : Rs Da) : Option (Da × Sto) := match r with
  | .ok (.int n) S => if 0 ≤ n ∧ n < 1000000 then some (.int n, S) else none
  | _ => none
def dLenO (c : Nat) (F : FnD) (xs : List Da) (S : Sto) : Option (Da × Sto) := match xs with
  | [x] => if isIns c x S = true then lenRes (F [x] S) else none
  | _ => none
theorem o_lenO {X : Cx} {T : Tab} {k c : Nat} {F : FnD} (D : LenI X.prog X.w X.K X.mg X.base T.base k c F) (hr : RoomG (k + 1) X.A) : CallR X (.builtin "len") (rDN X.K T (dLenO c F)) := by
  intro pins s σ H xs us Q I r ⟨h, S, ds, e, hh, rv, p⟩
  subst e
  unfold dLenO at p
  split at p
  rotate_left
  · exact p.elim
  rename_i dx
  split at p
  rotate_left
  · exact p.elim
  rename_i hc
  obtain ⟨x, rfl, rx⟩ := rv.one
  obtain ⟨f, fd, ps, F0, M, hb, N⟩ := D.ex
  obtain ⟨a, ax, vs, rfl, ha⟩ := ins_at rx hh hc
  rw [Vals.ref1 r]
  obtain ⟨mA, J, _⟩ := ins_get I.hok ha
  obtain ⟨od, J, _⟩ := J.look
  have sp : spI X.K T.base F [.ref a] h.H (fun z H' => ∃ n : Int, z = .int n ∧ (0 ≤ n ∧ n < 1000000) ∧ Q (.int n) H') (fun _ _ _ => False) := by
    refine ⟨h, S, [dx], rfl, hh.retab (T := T) (T' := T.base) rfl rfl, .cons (rx.retab (T := T) (T' := T.base) rfl rfl) .nil, ?_⟩
    cases q : F [dx] S with
    | bad => rw [q] at p; exact p.elim
    | exc c fs S1 => rw [q] at p; exact p.elim
    | ok d S1 =>
      rw [q] at p
      cases d with
      | int n =>
        unfold lenRes at p
        dsimp only at p
        split at p
        · rename_i hn
          intro z h' g rz hz; cases rz; exact ⟨n, rfl, hn, p _ h' g (.int _) (hz.retab (T := T.base) (T' := T) rfl rfl)⟩
        · exact p.elim
      | _ => exact p.elim
  have e0 : Env0 X.prog X.w X.K X.mg X.base X.A.in1 X.stack s h.H := by
    have e := I.env0
    exact ⟨e.frames, e.mod, e.bs, e.bsz, e.funs, e.frf, e.hok, e.bare⟩
  have rv : Vals [V.ref a] [Value.ref a] := .cons rfl .nil
  have hl := F0.len _ _ _ _ sp
  have bb := hb s [.ref a] I.kIn (by rw [List.append_nil]; exact hl)
  rw [List.append_nil] at bb
  have call := wpAny_call (E := X.xe) (codeAny_mono (F0.run X.A.in1 X.stack s h.H ⟨[.ref a], []⟩ [.ref a] [.ref a] _ _ hr.in1 e0 bb rv sp) fun r t hq => (show wants (fun r s' => ∃ (n : Int) (u : Tok), r = .int n u ∧ 0 ≤ n ∧ n < 2 ^ 63 ∧ EP X pins σ Q (.int n s'.toks) { s' with toks := s'.toks + 1 }) X.xe r t from by
    cases r with
    | error e => obtain ⟨_, _, _, _, _, _, _, _, _, _, _, _, z⟩ := hq; exact z.elim
    | ok fl =>
      cases fl with
      | ret w =>
        obtain ⟨z, H', I', rz, n, ez, hn, q⟩ := I.after hq
        subst ez
        obtain ⟨u, rfl⟩ := rz
        exact ⟨n, u, rfl, hn.1, by omega, .int n, H', I'.tok _, ⟨_, rfl⟩, q⟩
      | next => exact False.elim hq
      | brk => exact False.elim hq
      | cont => exact False.elim hq))
  obtain ⟨hp, g, d, t, os⟩ := s
  exact len_own (own_sp I.kIn N M.fn obj_nolen J.1 J.2) call
end G

namespace G
open PySem PySem.Spec PyProof.Rows L2

theorem IsC.base {K : PySem.W.Frag} {T : Tab} {cs : List Nat} (C : IsC K T cs) : IsC K T.base cs := ⟨C.cls, C.sp, C.tk, C.sub⟩
/-! ## range(i, j, c) -/
def iRange3 (a : Es) : Ie := fun ε S => (a ε S).bind fun xs S => match xs with
  | [.int i, .int j, .int c] => if c ≠ 0 ∧ c.natAbs < 1073741824 ∧ Builtin.Range.small i j c = true ∧ 0 ≤ Builtin.Range.rangeSize i j c then .ok ((List.range (Builtin.Range.rangeSize i j c).toNat).map fun k => Da.int (i + (k : Nat) * c)) S else .bad
  | _ => .bad
theorem itr_rng3 {K : PySem.W.Frag} {T : Tab} {h : Hv} (lo c : Int) (n : Nat) : ItR K T h (Itc lo c n) ((List.range n).map fun i => Da.int (lo + (i : Nat) * c)) := by
  refine ⟨fun i h2 S g hr hi => (show i < n by simpa using hi), fun i h2 S g hr hi => (show n ≤ i by simpa using hi), fun i h2 S x H' g hr hi y => ?_⟩
  · obtain ⟨e3, y⟩ := y
    subst e3; subst y
    have hi' : i < n := by simpa using hi
    exact ⟨h2, .int (lo + i * c), rfl, Grow.refl h2, hr, by simp [hi'], .int _⟩
theorem it_range3 {X : Cx} {T : Tab} {W : WX} {tg a b c : Expr} {pos p : Pos} {fs : Es} (hg : Gl X "range") (hm : X.mg "range" = none) (ha : AI X T W [a, b, c] fs)
    (hs : starEach [a, b, c] X.env = (false, eval a X.env) :: starEach [b, c] X.env := by rfl) (hpl : (backTo pos (starEach [b, c] X.env)).any (·.1) = false := by rfl) : II X T W tg (.Call (.Name "range" p) [a, b, c] [] pos) (iRange3 fs) :=
  wkI (pi_range3 hg hm ha hs hpl) fun σ H R ⟨h, S, ε, e, er, hr, p⟩ => ⟨h, S, ε, e, er, hr, by
    unfold iRange3 at p
    refine (Post.bind p).imp fun vs H1 ⟨h1, S1, ds, e1, g1, r1, hr1, p1⟩ => ?_
    split at p1
    · rename_i i j c
      cases r1 with | cons q1 q2 =>
      cases q2 with | cons q2 q3 =>
      cases q3 with | cons q3 q4 =>
      cases q4; cases q3; cases q2; cases q1
      split at p1
      · rename_i hj
        subst e1
        exact ⟨i, j, c, _, rfl, ⟨hj.1, hj.2.1, hj.2.2.1, (Int.toNat_of_nonneg hj.2.2.2).symm⟩, Post.ret p1 (itr_rng3 (K := X.K) (T := T) (h := h1) i c _) hr1⟩
      · exact p1.elim
    · exact p1.elim⟩
def dIAdd (x y : Da) (S : Sto) : Option (Da × Sto) := match x, y with
  | .int i, .int j => some (.int (i + j), S)
  | _, _ => none
def dISub (x y : Da) (S : Sto) : Option (Da × Sto) := match x, y with
  | .int i, .int j => some (.int (i - j), S)
  | _, _ => none
theorem o_iadd {X : Cx} {T : Tab} : OpR X (inplaceOp .Add) (rD2 X.K T dIAdd) := by
  refine OpR.imp ip_add fun x y H Q ⟨h, S, dx, dy, e, hr, r1, r2, p⟩ => ?_
  subst e
  unfold dIAdd at p
  split at p
  · cases r1; cases r2; exact ⟨_, _, rfl, rfl, p.ret (.int _) hr⟩
  · exact p.elim
theorem o_isub {X : Cx} {T : Tab} : OpR X (inplaceOp .Sub) (rD2 X.K T dISub) := by
  refine OpR.imp ip_sub fun x y H Q ⟨h, S, dx, dy, e, hr, r1, r2, p⟩ => ?_
  subst e
  unfold dISub at p
  split at p
  · cases r1; cases r2; exact ⟨_, _, rfl, rfl, p.ret (.int _) hr⟩
  · exact p.elim
/-! ## a def that is handed about -/
theorem FnAt.of {P : Program} {w : World} {K : PySem.W.Frag} {mg : Str → Option Value} {base : Heap} {T : Tab} {k n : Nat} {x : Str} {F : FnD} (D : DefI P w K mg base T k x F) (e : mg x = some (.ref (T.fnA n))) : FnAt P w K mg base T k n F := by
  obtain ⟨f, fd, ps, h1, h2, h3, h4⟩ := D.ex
  rw [e] at h2
  cases h2
  exact ⟨fd, ps, h1, h3, h4⟩
end G

namespace G
open PySem PySem.Spec PyProof.Rows L2

/-! ## min(list of data), str(int) -/
def ltD (x y : Da) : Bool := PySem.W.dataLt (pyD x) (pyD y)
def minDa (x : Da) (xs : List Da) : Da := xs.foldl (fun a y => if ltD y a then y else a) x
def maxDa (x : Da) (xs : List Da) : Da := xs.foldl (fun a y => if ltD a y then y else a) x
def notNone : PyData → Bool
  | .none => false
  | _ => true
def alkB (ps : List PyData) : Bool := (ps.all fun a => ps.all fun b => PySem.W.alike a b) && ps.all notNone
theorem alkB_ok {ps : List PyData} (h : alkB ps = true) : PySem.W.AlikeAll ps := by
  simp only [alkB, Bool.and_eq_true, List.all_eq_true] at h
  refine ⟨fun x hx y hy => h.1 x hx y hy, fun x hx e => ?_⟩
  have := h.2 x hx
  rw [e] at this
  cases this
def bestL (f : Da → List Da → Da) (ds : List Da) : Option Da := match ds with
  | [] => none
  | d :: r => if shps 60 (d :: r) = true ∧ alkB ((d :: r).map pyD) = true then some (f d r) else none
def dMinD (xs : List Da) (S : Sto) : Option (Da × Sto) := match xs with
  | [x] => ((listOf x S).bind (bestL minDa)).map fun d => (d, S)
  | _ => none
def dMaxD (xs : List Da) (S : Sto) : Option (Da × Sto) := match xs with
  | [x] => ((listOf x S).bind (bestL maxDa)).map fun d => (d, S)
  | _ => none
theorem depthAll_le {n : Nat} : ∀ {xs : List PyData}, (∀ x ∈ xs, x.depth ≤ n) → PyData.depthAll xs ≤ n
  | [], _ => Nat.zero_le _
  | x :: xs, h => by
    have a := h x List.mem_cons_self
    have b := depthAll_le (xs := xs) fun y hy => h y (List.mem_cons_of_mem _ hy)
    simp only [PyData.depthAll]
    omega
theorem readsAll_of {h : Heap} : ∀ {us : List Value} {ds : List PyData}, PySem.W.EachIs (fun u d => ∃ as, Reads h u d as) us ds → ∃ as, ReadsAll h us ds as
  | _, _, .nil => ⟨_, .nil⟩
  | _, _, .cons ⟨as, a⟩ t => by
    obtain ⟨bs, b⟩ := readsAll_of t
    exact ⟨_, .cons a b⟩
theorem vals_get {K : PySem.W.Frag} {T : Tab} {h : Hv} : ∀ {xs : List V} {us : List Value} {ds : List Da}, Vals xs us → RVs K T h xs ds → ∀ (i : Nat) (u : Value), us[i]? = some u → ∃ x d, ds[i]? = some d ∧ RelV x u ∧ RV K T h x d
  | _, _, _, .nil, .nil, _, _, e => by simp at e
  | _, _, _, .cons r rs, .cons q qs, 0, u, e => by
    simp only [List.getElem?_cons_zero, Option.some.injEq] at e
    subst e
    exact ⟨_, _, rfl, r, q⟩
  | _, _, _, .cons r rs, .cons q qs, i + 1, u, e => vals_get rs qs i u e
theorem getD_map {α β : Type} (f : α → β) (l : List α) (i : Nat) (x : α) : (l.map f).getD i (f x) = f (l.getD i x) := by
  simp only [List.getD_eq_getElem?_getD, List.getElem?_map]
  cases l[i]? <;> rfl
theorem pyD_non : pyD .non = PyData.none := rfl
section
variable {X : Cx} {T : Tab} {pins : List (Addr × Obj)} {σ : St} {s : Shared} {h : Hv} {S : Sto} {l : Addr} {ys : List V} {es : List Da}
/-- what stands in a list of alike data -/
theorem data_list (hu : X.A.units + 70 < cLine) (I : Inv X pins σ h.H s) (hs : SqL X.K h.H l ys) (ry : RVs X.K T h ys es) (h1 : shps 60 es = true) :
    ∃ (its : List Value) (as : List Addr), Vals ys its ∧ s.heap.IsList l its.toArray ∧ ReadsAll s.heap its (es.map pyD) as ∧ PyData.depthAll (es.map pyD) ≤ 60 := by
  obtain ⟨its, rv2, hl, hz⟩ := I.list hs
  have ep : ∀ d ∈ es, ∃ pd, toPy d = some pd ∧ pyD d = pd ∧ pd.depth ≤ 60 := fun d hd => by
    obtain ⟨pd, a, b, c⟩ := toPy_shp 60 d (shps_mem h1 d hd)
    exact ⟨pd, a, by simp [pyD, a], c⟩
  obtain ⟨as, ra⟩ := readsAll_of (each_map pyD (vals_each (β := Unit) (R := fun u d => ∃ as, Reads s.heap u (pyD d) as) rv2 ry fun x u d a b m => by
    obtain ⟨pd, e3, e4, _⟩ := ep d m
    rw [e4]
    obtain ⟨as, rd⟩ := Dp.reads I _ _ _ (b.dp e3) a
    exact ⟨as, rd⟩))
  refine ⟨its, as, rv2, hl.isList, ra, depthAll_le fun p hp => ?_⟩
  obtain ⟨d, hd, rfl⟩ := List.mem_map.mp hp
  obtain ⟨pd, _, e4, e5⟩ := ep d hd
  rw [e4]; exact e5
end
theorem vals_len {xs : List V} {us : List Value} (r : Vals xs us) : xs.length = us.length := r.length
theorem best_get {K : PySem.W.Frag} {T : Tab} {h : Hv} {xs : List V} {us : List Value} {d : Da} {ds : List Da} (f : Da → Da → Bool) (r : Vals xs us) (q : RVs K T h xs (d :: ds)) {v : Value} (e : us.toArray[argBest (fun i j => f ((d :: ds).getD i .non) ((d :: ds).getD j .non)) ds.length]? = some v) :
    ∃ x, RelV x v ∧ RV K T h x (ds.foldl (fun a y => if f y a then y else a) d) := by
  obtain ⟨a1, a2⟩ := PySem.W.argBest_fold f .non d ds ds.length (Nat.le_refl _)
  rw [List.take_length] at a2
  rw [List.getElem?_toArray] at e
  obtain ⟨x, d', e1, rx, qx⟩ := vals_get r q _ _ e
  rw [List.getD_eq_getElem?_getD, e1, Option.getD_some] at a2
  rw [a2] at qx
  exact ⟨x, rx, qx⟩
theorem o_minD {X : Cx} {T : Tab} (hc : X.calm = true) (hu : X.A.units + 70 < cLine) : CallR X (.builtin "min") (rDN X.K T dMinD) := by
  intro pins s σ H xs us Q I r ⟨h, S, ds, e, hr, rv, p⟩
  subst e
  unfold dMinD at p
  split at p
  · rename_i x
    cases q : (listOf x S).bind (bestL minDa) with
    | none => rw [q] at p; exact p.elim
    | some d' =>
      rw [q] at p
      obtain ⟨es, e1, e2⟩ := bindS q
      obtain ⟨v, rfl, rx⟩ := rv.one
      obtain ⟨l, ys, rfl, ry, hs⟩ := list_of rx hr e1
      obtain ⟨u, rfl, ru⟩ := vals1 r
      obtain rfl : u = Value.ref l := ru
      cases es with
      | nil => cases e2
      | cons d es =>
        unfold bestL at e2
        dsimp only at e2
        split at e2
        · rename_i hh
          simp only [Option.some.injEq] at e2
          subst e2
          obtain ⟨its, as, rv2, hl, ra, dp⟩ := data_list hu I hs ry hh.1
          have al := alkB_ok hh.2
          have hd := I.ok.hd hc
          have n : its.toArray.size = es.length + 1 := by
            have a := rv2.length
            have b := ry.length
            rw [List.size_toArray, ← a, b]; rfl
          refine PySem.call_min_walkH (PySem.W.iter_listW (A := X.A.in1) hd hl fun s₂ e W st hfp hw hk => ?_)
          refine ⟨_, _, _, _, _, _, _, s.heap, _, rfl, W, st, hfp, by omega, hw, hk, PySem.W.cmpIn_lt (A := X.A.in1) ra al (by show X.A.units + 1 + _ < _; omega), fun v s' hP m => ?_⟩
          obtain ⟨h', tk, rfl, hk'⟩ := PySem.W.moved_old e rfl m
          have fe : (fun i j => PySem.W.dataLt (((d :: es).map pyD).getD i PyData.none) (((d :: es).map pyD).getD j PyData.none)) = fun i j => ltD ((d :: es).getD i .non) ((d :: es).getD j .non) := by
            funext i j
            rw [← pyD_non, getD_map, getD_map]
            rfl
          rw [fe, show its.toArray.size - 1 = es.length by omega] at hP
          obtain ⟨x', rx', qx'⟩ := best_get ltD rv2 ry hP
          exact ⟨x', h.H, I.kept hk', rx', p x' h (Grow.refl h) qx' hr⟩
        · cases e2
  · exact p.elim
theorem o_maxD {X : Cx} {T : Tab} (hc : X.calm = true) (hu : X.A.units + 70 < cLine) : CallR X (.builtin "max") (rDN X.K T dMaxD) := by
  intro pins s σ H xs us Q I r ⟨h, S, ds, e, hr, rv, p⟩
  subst e
  unfold dMaxD at p
  split at p
  · rename_i x
    cases q : (listOf x S).bind (bestL maxDa) with
    | none => rw [q] at p; exact p.elim
    | some d' =>
      rw [q] at p
      obtain ⟨es, e1, e2⟩ := bindS q
      obtain ⟨v, rfl, rx⟩ := rv.one
      obtain ⟨l, ys, rfl, ry, hs⟩ := list_of rx hr e1
      obtain ⟨u, rfl, ru⟩ := vals1 r
      obtain rfl : u = Value.ref l := ru
      cases es with
      | nil => cases e2
      | cons d es =>
        unfold bestL at e2
        dsimp only at e2
        split at e2
        · rename_i hh
          simp only [Option.some.injEq] at e2
          subst e2
          obtain ⟨its, as, rv2, hl, ra, dp⟩ := data_list hu I hs ry hh.1
          have al := alkB_ok hh.2
          have hd := I.ok.hd hc
          have n : its.toArray.size = es.length + 1 := by
            have a := rv2.length
            have b := ry.length
            rw [List.size_toArray, ← a, b]; rfl
          refine PySem.call_max_walkH (PySem.W.iter_listW (A := X.A.in1) hd hl fun s₂ e W st hfp hw hk => ?_)
          refine ⟨_, _, _, _, _, _, _, s.heap, _, rfl, W, st, hfp, by omega, hw, hk, PySem.W.cmpIn_gt (A := X.A.in1) ra al (by show X.A.units + 1 + _ < _; omega), fun v s' hP m => ?_⟩
          obtain ⟨h', tk, rfl, hk'⟩ := PySem.W.moved_old e rfl m
          have fe : (fun i j => PySem.W.dataLt (((d :: es).map pyD).getD j PyData.none) (((d :: es).map pyD).getD i PyData.none)) = fun i j => (fun a b => ltD b a) ((d :: es).getD i .non) ((d :: es).getD j .non) := by
            funext i j
            rw [← pyD_non, getD_map, getD_map]
            rfl
          rw [fe, show its.toArray.size - 1 = es.length by omega] at hP
          obtain ⟨x', rx', qx'⟩ := best_get (fun a b => ltD b a) rv2 ry hP
          exact ⟨x', h.H, I.kept hk', rx', p x' h (Grow.refl h) qx' hr⟩
        · cases e2
  · exact p.elim
/-- str(x) of a whole number or a text -/
noncomputable def dStr (xs : List Da) (S : Sto) : Option (Da × Sto) := match xs with
  | [.int i] => if cdec (i.natAbs.log2 < 1920) = true then some (.str (Str.ofString (toString i)), S) else none
  | _ => none
theorem o_str {X : Cx} {T : Tab} : CallR X (.type "str") (rDN X.K T dStr) := by
  refine CallR.imp call_str_int fun xs H Q ⟨h, S, ds, e, hr, r, p⟩ => ?_
  subst e
  unfold dStr at p
  split at p
  · obtain ⟨v, rfl, rv⟩ := r.one
    cases rv
    split at p
    · rename_i hi
      exact ⟨_, rfl, cdec_to hi, p.ret (.str _) hr⟩
    · exact p.elim
  · exact p.elim
end G

namespace PySem.CompOut
open PySem PySem.Spec PyProof.Rows L2

/-! ## a comprehension whose element may raise -/
/-- the context of such a block: what a call lets out is known -/
def outB (X : Cx) (W : WX) (σ : L2.St) (Y : Cx) (u : Value) (s' : Shared) : Prop :=
  ∃ (pins : List (Addr × Obj)) (τ : L2.St) (H : Hp) (s : Shared), Inv Y pins τ H s ∧ CX X.prog X.w X.stack H s (fun cls d H => W cls d σ H) u s'
abbrev bkX (X : Cx) (W : WX) (σ : L2.St) (s : Shared) (H : Hp) (scope : Scope) (cenv : Env) (fp : List Addr) : Cx := { X.blk s H scope cenv fp with xe := outB X W σ (X.blk s H scope cenv fp) }
theorem inv_xe {X : Cx} {f : Value → Shared → Prop} {pins : List (Addr × Obj)} {σ : L2.St} {H : Hp} {s : Shared} (I : Inv X pins σ H s) : Inv { X with xe := f } pins σ H s :=
  ⟨⟨I.ok.mod, I.ok.kind, I.ok.glob, I.ok.blt, I.ok.above, I.ok.inj, I.ok.has, I.ok.cab, I.ok.hd, I.ok.frames, I.ok.stk, I.ok.exf, I.ok.bs, I.ok.bsz, I.ok.noex, I.ok.exfs, I.ok.funs, I.ok.frf⟩, I.os, I.bare, I.base, I.loc, I.cell, I.free, I.freeC, I.pin, I.hok, I.len⟩
/-- flying, as the block tells it -/
theorem flies {B B2 : Heap} {l : List Env} {a L : Addr} {Z Z2 : Obj → Prop} {h : Heap} (f : HandSPX.FlyingZ B l a Z h) (k : Sky B2 l a Z2 L h) : HandSPX.FlyingZ B2 l a Z2 h := by
  obtain ⟨_, _, _, oe, vs, T, oT, ts, p1, p2, p3, p4, p5, p6, p7, p8, p9⟩ := f
  rcases k with ⟨_, _, _, ov, ws, q1, q2, q3, q4⟩ | k | ⟨_, _, _, ov, ws, T2, oT2, ts2, q1, q2, q3, q4, q5, q6, q7, q8, q9⟩
  · rw [p1] at q1; cases q1
    rw [p3] at q3; cases q3
    rw [p4] at q4; cases q4
  · exact k
  · rw [p1] at q1; cases q1
    rw [p3] at q3; cases q3
    rw [p4] at q4; cases q4
    rw [p7] at q7; cases q7
    rw [p8] at q8; cases q8
    rw [p9] at q9; cases q9
theorem frames_sub {h B B2 : Heap} (s : ∀ b, B.get? b = none → B2.get? b = none) : ∀ {l : List Env}, h.FunFrames B l → h.FunFrames B2 l
  | [], _ => trivial
  | _ :: _, ⟨a, ⟨L, o, e1, e2, e3, e4⟩, r⟩ => ⟨a, ⟨L, o, e1, s _ e2, e3, e4⟩, frames_sub s r⟩
theorem note_same {ce env : Env} (h : ce.frame = env.frame) (u : Value) : noteFrame u ce = noteFrame u env := by
  unfold noteFrame PySem.frameOf
  rw [h]
theorem passes_out {X : Cx} {W : WX} {pins : List (Addr × Obj)} {σ : L2.St} {s3 : Shared} {H3 : Hp} {scope : Scope} {ce : Env} {fp : List Addr} {E : Value → Shared → Prop} {u : Value} {s' : Shared}
    (hs : X.stack = X.env :: X.outer) (hf : X.env.frame = some X.env.locals) (tk : Takes X W) (I3 : Inv X pins σ H3 s3) (hfp : ∀ b ∈ fp, FpOk X pins H3 b) (hce : ce.frame = X.env.frame) (hL : ce.locals = s3.heap.objs.size)
    (x : outB X W σ (X.blk s3 H3 scope ce fp) u s') : wpAny (model X.prog X.w) X.A (noteFrame u ce) (fun _ s2 => CompFails (model X.prog X.w) X.A X.xe ce u s2) E s' := by
  obtain ⟨pn, τ, H9, s9, I9, c⟩ := x
  have fl0 : ∃ (a : Addr) (B : Heap) (cls : Value) (d : Option Addr), u = .ref a ∧ HandSPX.FlyingZ B X.stack a (Zc cls d) s'.heap := by
    obtain ⟨a, B, _, cls, d, e, fl, _⟩ := c
    exact ⟨a, B, cls, d, e, fl⟩
  obtain ⟨a0, B0, cls0, d0, e0, fl0⟩ := fl0
  obtain ⟨a, B, sI, pI, τI, H, cls, d, rfl, II, nb, up, sky, na, os, ag, w⟩ := XE.of_call (X := X.blk s3 H3 scope ce fp) (W := fun cls d _ H => W cls d σ H) I9 (fun _ _ _ h => h) c
  have ea : a = a0 := by cases e0; rfl
  subst ea
  have fly := flies fl0 sky
  -- back in the def's context, the block's names away
  have I7 : Inv X pins σ H sI := I3.call' (ch := fp) II.os II.base II.hok II.bare fun b hb => ⟨(hfp b hb).2.2.2.1, (hfp b hb).2.1, (hfp b hb).2.2.2.2.1, (hfp b hb).2.2.2.2.2⟩
  have nC : H ce.locals = none := II.free
  obtain ⟨m, nsC, _⟩ := II.loc
  have nsC : sI.heap.Ns ce.locals m := nsC
  obtain ⟨oC, esC, epC, gC, dC, rC⟩ := nsC
  have hC : FpOk X pins H ce.locals := I3.fpOk (by rw [hL]; exact Nat.le_refl _) nC
  obtain ⟨G2, g1, g2⟩ := restrict sI.heap fun b => !decide (b = ce.locals)
  have gk : ∀ b o, b ≠ ce.locals → sI.heap.get? b = some o → G2.get? b = some o := fun b o hb e => by rw [g1 b (by simp [hb])]; exact e
  have gn : ∀ b o, G2.get? b = some o → b ≠ ce.locals ∧ sI.heap.get? b = some o := fun b o e => by
    by_cases z : b = ce.locals
    · rw [g2 b (by simp [z])] at e; cases e
    · exact ⟨z, by rw [← g1 b (by simp [z])]; exact e⟩
  have I8 : Inv X pins σ H { sI with heap := G2, toks := sI.toks } := I7.turned (it := ce.locals) gk nC hC.2.1 hC.2.2.2.1 hC.2.2.2.2.1 hC.2.2.2.2.2
  obtain ⟨B2, b1, b2⟩ := restrict B fun b => !decide (b = ce.locals)
  have bn : ∀ b o, B2.get? b = some o → b ≠ ce.locals ∧ B.get? b = some o := fun b o e => by
    by_cases z : b = ce.locals
    · rw [b2 b (by simp [z])] at e; cases e
    · exact ⟨z, by rw [← b1 b (by simp [z])]; exact e⟩
  have b0 : ∀ b, B.get? b = none → B2.get? b = none := fun b e => by
    cases q : B2.get? b with
    | none => rfl
    | some o => rw [(bn b o q).2] at e; cases e
  obtain ⟨f1, f2, f3, oe, vs, T, oT, ts, p1, p2, p3, p4, p5, p6, p7, p8, p9⟩ := fly
  have fly2 : HandSPX.FlyingZ B2 (X.env :: X.outer) a (Zc cls d) s'.heap := by
    have f3' : s'.heap.FunFrames B2 X.stack := frames_sub b0 f3
    rw [hs] at f3'
    exact ⟨fun b o e => f1 b o (bn b o e).2, b0 _ f2, f3', oe, vs, T, oT, ts, p1, p2, p3, p4, b0 _ p5, p6, p7, p8, p9⟩
  have hfr : X.A.frames = some (X.env :: X.outer) := by rw [I3.ok.frames, hs]
  rw [note_same hce]
  refine HandSPX.looks_onZ Zc.steady hfr hf fly2 fun h1 held up1 => ?_
  -- the names stand yet
  obtain ⟨sl1, e1⟩ := up _ _ gC (by rw [dC]; intro ws z; cases z)
  obtain ⟨sl2, e2⟩ := up1 _ _ e1 (by show ∀ ws, oC.data ≠ _; rw [dC]; intro ws z; cases z)
  refine ⟨m, ⟨_, esC, epC, e2, dC, rC⟩, fun h' m' _ sb => ?_⟩
  obtain ⟨k1, k2, k3, oe, vs, T, oT, ts, p1, p2, p3, p4, p5, p6, p7, p8, p9⟩ := held
  have ne : ∀ {b : Addr} {o : Obj} {ws : Array Value}, h1.get? b = some o → o.data = .fields ws → b ≠ ce.locals := fun {b o ws} e1 e3 z => by
    subst z
    rw [e2] at e1; cases e1
    rw [show oC.data = .fields ws from e3] at dC; cases dC
  have keep' : ∀ b o, b ≠ ce.locals → h1.get? b = some o → h'.get? b = some o := fun b o hb e => (sb.2 b hb).trans e
  have held2 : HandSPX.HeldZ B2 (X.env :: X.outer) a (Zc cls d) X.env.locals h' := by
    refine ⟨fun b o e => keep' b o (bn b o e).1 (k1 b o e), k2, ?_, oe, vs, T, oT, ts, keep' _ _ (ne p1 p3) p1, p2, p3, p4, p5, p6, keep' _ _ (ne p7 p8) p7, p8, p9⟩
    have lc : ∀ b ∈ frs X.stack, b ≠ ce.locals := fun b hb z => by
      have := I3.stkSub b hb
      rcases List.mem_cons.mp this with q | q
      · exact hC.2.1 (by rw [← z, q])
      · exact hC.2.2.1 (by rw [← z]; exact q)
    rw [hs] at lc
    have go : ∀ l : List Env, (∀ b ∈ frs l, b ≠ ce.locals) → h1.FunFrames B2 l → h'.FunFrames B2 l := fun l => by
      induction l with
      | nil => intro _ _; trivial
      | cons v l ih =>
        rintro hl ⟨x1, ⟨L, o, x2, x3, x4, x5⟩, x6⟩
        have hv : frs (v :: l) = L :: frs l := by unfold frs; rw [List.filterMap_cons, x2]
        rw [hv] at hl
        exact ⟨x1, ⟨L, o, x2, x3, keep' _ _ (hl L List.mem_cons_self) x4, x5⟩, ih (fun b hb => hl b (List.mem_cons_of_mem _ hb)) x6⟩
    exact go _ lc k3
  -- and on
  obtain ⟨k1, k2, k3, k4⟩ := held2
  have k4' := k4
  obtain ⟨oe, vs, T, oT, ts, p1, p2, p3, p4, p5, p6, p7, p8, p9⟩ := k4'
  unfold passOn
  refine wpAny_bind (wpAny_field p1 p3 p4 ?_)
  rw [if_neg (show ¬ (Value.ref T == Value.none) = true from by simp)]
  refine wpAny_bind (HandSPX.setFlight_anyZ (fr := ce.frame) k1 k3 k4 fun h2 j1 j2 j3 up2 => ?_)
  refine wpAny_throw (tk _ _ ⟨a, B2, { sI with heap := G2, toks := sI.toks }, pins, σ, H, cls, d, rfl, I8, fun b o e hb => ?_, ?_, .inr (.inr ?_), na, os, ag, w⟩)
  · obtain ⟨z1, z2⟩ := gn b o e
    rw [b1 b (by simp [z1])]
    exact nb b o z2 hb
  · intro b o e hn
    obtain ⟨z1, z2⟩ := gn b o e
    obtain ⟨s1, y1⟩ := up b o z2 hn
    obtain ⟨s2, y2⟩ := up1 b _ y1 hn
    obtain ⟨s3, y3⟩ := up2 b _ (keep' _ _ z1 y2) hn
    exact ⟨s3, y3⟩
  · rw [hs]
    refine ⟨j1, k2, j2, ?_⟩
    rw [hce, hf] at j3
    exact j3
section
variable {X : Cx}
/-- [elt for tg in iter if ..], its element may raise -/
theorem pe_compX {W : WX} {σ : L2.St} {pins : List (Addr × Obj)} {s : Shared} {H : Hp} {Q : VK} {elt tg iter : Expr} {ifs : List Expr} {scope : Scope} {own : List (Str × Nat)} {pos : Pos} {wi : TI} {g : TG} {tt : TT} {te : TE}
    (hc : X.calm = true) (hst : X.stack = X.env :: X.outer) (hfr : X.env.frame = some X.env.locals) (tk : Takes X W) (hN : X.N.Nodup) (I : Inv X pins σ H s) (hi : PI X tg iter wi) (ok : BlkOk X.N X.env.scope scope own)
    (hg : ∀ (s : Shared) (H : Hp) (C : Addr) (cl : List (Str × Addr)) (fp : List Addr), PG (bkX X W σ s H scope (compEnvC scope cl C X.env) fp) tg g) (ht : ∀ (s : Shared) (H : Hp) (C : Addr) (cl : List (Str × Addr)) (fp : List Addr), PTs (X.blk s H scope (compEnvC scope cl C X.env) fp) ifs tt)
    (he : ∀ (s : Shared) (H : Hp) (C : Addr) (cl : List (Str × Addr)) (fp : List Addr), PE (bkX X W σ s H scope (compEnvC scope cl C X.env) fp) elt te) (hz : ∀ x, foldedSetIterable iter X.env x = pure x)
    (h : tLc wi g tt te (own.map (·.2)) σ H Q) : wpAny (model X.prog X.w) X.A (eval (.ListComp elt [⟨tg, iter, ifs, 0⟩] scope pos) X.env) (fun u s' => ∃ v H', Inv X pins σ H' s' ∧ RelV v u ∧ Q v H') X.xe s := by
  have free1 : ∀ y ∈ scope.names, y.2 = .free → ∃ c, X.env.cells.lookup y.1 = some c := fun y hy e => by
    rcases ok.free y hy e with q | q
    · exact I.ok.has _ (.inl q)
    · exact I.ok.has _ (.inr q)
  rw [eval_ListComp]
  refine comprehension_at rfl hz (closure_ok free1) ok.kind (fun y hy e => by rw [ok.uniq y hy, e]) (thn (hi.run pins s σ H _ I h) fun xv s1 hx => thn hx fun itv s2 h2 => ?_)
  obtain ⟨it, fp, tn, J, H2, rfl, I2, T, t2, f2, q⟩ := h2
  refine wpAny_newObj_type (newEnv_comp ?_) (by show 0 ≤ sizeLine; decide)
  have dn : H2 s2.heap.objs.size = none := I2.hok.fresh (Nat.le_refl _)
  obtain ⟨V, ⟨m0, v0⟩, turn⟩ := q _ dn
  generalize eD : s2.heap.objs.size = D at dn v0 turn ⊢
  generalize e3 : ({ s2 with heap := s2.heap.push { cls := .type "list", data := .seq ([] : List Value).toArray } } : Shared) = s3
  have h3 : s3.heap = s2.heap.push { cls := .type "list", data := .seq ([] : List Value).toArray } := by rw [← e3]
  have I3 : Inv X pins σ (upd H2 D (.lst [])) s3 := by
    rw [← e3]
    exact I2.laid (t' := s2.toks) (fun b o e => Heap.get?_push_of_some _ e) (by rw [eD]; exact Nat.le_refl _) ⟨Nat.zero_le _, [], 0, .nil, by rw [← eD]; exact Heap.get?_push_size _ rfl⟩
  generalize eH : upd H2 D (.lst []) = H3 at I3 v0
  have small : ∀ b ∈ fp, b < D := fun b hb => by
    obtain ⟨o, e, _⟩ := T.obj _ _ t2 b hb
    rw [← eD]; exact Heap.lt_size e
  have f3 : ∀ b ∈ fp, FpOk X pins H3 b ∧ b < s3.heap.objs.size := fun b hb => by
    have lt := small b hb
    refine ⟨⟨?_, (f2 b hb).2⟩, by rw [h3, Heap.size_push, eD]; exact Nat.lt_succ_of_lt lt⟩
    rw [← eH, upd_ne (Nat.ne_of_lt lt)]
    exact (f2 b hb).1
  have t3 : tn 0 s3.heap := T.keep _ _ _ t2 fun b _ o e => by rw [h3]; exact Heap.get?_push_of_some _ e
  have I4 := block_start I3 ok hN f3
  generalize ec : compEnvC scope (cellsFrom (s3.heap.objs.size + 1) scope.names (cloFrom X.env.cells scope.names [])) s3.heap.objs.size X.env = ce at I4
  have pg := hg s3 H3 s3.heap.objs.size (cellsFrom (s3.heap.objs.size + 1) scope.names (cloFrom X.env.cells scope.names [])) fp
  have pt := ht s3 H3 s3.heap.objs.size (cellsFrom (s3.heap.objs.size + 1) scope.names (cloFrom X.env.cells scope.names [])) fp
  have pe := he s3 H3 s3.heap.objs.size (cellsFrom (s3.heap.objs.size + 1) scope.names (cloFrom X.env.cells scope.names [])) fp
  rw [ec] at pg pt pe
  show codeAny _ _ (.compStart _ 0 (.ref it) (.ref D) (compEnvC scope (cellsFrom (s3.heap.objs.size + 1) scope.names (cloFrom X.env.cells scope.names [])) s3.heap.objs.size X.env)) (compEnds _ _ X.xe none _ (.ref D) (compEnvC scope (cellsFrom (s3.heap.objs.size + 1) scope.names (cloFrom X.env.cells scope.names [])) s3.heap.objs.size X.env)) { s3 with heap := pushCells (s3.heap.push { cls := .type "dict", data := .dict #[] }) scope.names }
  rw [ec]
  have cL : ce.locals = s3.heap.objs.size := by rw [← ec]; rfl
  have cF : ce.frame = X.env.frame := by rw [← ec]; rfl
  generalize e4 : ({ s3 with heap := pushCells (s3.heap.push { cls := .type "dict", data := .dict #[] }) scope.names } : Shared) = s4 at I4 ⊢
  have t4 : tn 0 s4.heap := T.keep _ _ _ t3 fun b _ o e => by rw [← e4]; exact pushCells_keeps _ _ _ _ (Heap.get?_push_of_some _ e)
  have nf : ∀ b ∈ fp, H3 b = none := fun b hb => (f3 b hb).1.1
  have fps : ∀ {τ : L2.St} {H' : Hp} {s' : Shared}, Inv (X.blk s3 H3 scope ce fp) [] τ H' s' → (∀ b ∈ fp, H' b = none) → ∀ b ∈ fp, FpOk (X.blk s3 H3 scope ce fp) [] H' b := fun {τ H' s'} J hn b hb =>
    ⟨hn b hb, (J.ok.exf b hb).1, J.ok.exfs b hb, .inl hb, fun x c e => (J.ok.exf b hb).2 x c e, fun p hp => by simp at hp⟩
  have out : ∀ {u : Value} {s' : Shared} {E : Value → Shared → Prop}, outB X W σ (X.blk s3 H3 scope ce fp) u s' → wpAny (model X.prog X.w) X.A (noteFrame u ce) (fun _ z => CompFails (model X.prog X.w) X.A X.xe ce u z) E s' := fun {u s' E} x =>
    passes_out hst hfr tk I3 (fun b hb => (f3 b hb).1) cF cL x
  refine codeAny_compStart_list ?lp (T.self X.A 0 _ _ _ t4 ?lp)
  refine compLoop_any (fun k z => ∃ i G, Inv (X.blk s3 H3 scope ce fp) [] (wipe σ (own.map (·.2))) G z ∧ tn i z.heap ∧ (∀ b ∈ fp, G b = none) ∧ V i k G) ?_ m0 ⟨0, H3, I4, t4, nf, v0⟩
  rintro k s5 ⟨i, G5, I5, t5, n5, v5⟩
  rcases turn i k G5 v5 with ⟨stop, done⟩ | ⟨go, Nx, hNx, step⟩
  · refine thnF (T.done (X.blk s3 H3 scope ce fp) rfl rfl rfl hc i [] s5 _ G5 (fun _ _ => False) I5 (fps I5 n5) t5 stop) fun r s6 ⟨hr, I6⟩ => ?_
    subst hr
    have I7 : Inv X pins σ G5 s6 := I3.call' (ch := fp) I6.os I6.base I6.hok I6.bare fun b hb => ⟨(f3 b hb).1.2.2.2.1, (f3 b hb).1.2.1, (f3 b hb).1.2.2.2.2.1, (f3 b hb).1.2.2.2.2.2⟩
    have nC : G5 ce.locals = none := I6.free
    have fC : FpOk X pins G5 ce.locals := I3.fpOk (by rw [cL]; exact Nat.le_refl _) nC
    obtain ⟨m, hn, _⟩ := I6.loc
    exact ⟨m, hn, fun h' sb => ⟨.ref D, G5, I7.turned (t' := s6.toks) (fun b o hb e => (sb.2 b hb).trans e) fC.1 fC.2.1 fC.2.2.2.1 fC.2.2.2.2.1 fC.2.2.2.2.2, rfl, done⟩⟩
  · refine thnF (T.item (X.blk s3 H3 scope ce fp) rfl rfl rfl hc i [] s5 _ G5 (fun _ _ => False) I5 (fps I5 n5) t5 go) fun r s6 ⟨u, hr, h6⟩ => ?_
    subst hr
    refine thnF h6 fun _ s7 ⟨x, G7, I7, r7, y7, t7, n7⟩ => ?_
    have I8 := I7.pinned (fps I7 n7) (T.obj _ _ t7)
    have fin : ∀ {τ : L2.St} {s' : Shared} {G : Hp}, wipe τ (own.map (·.2)) = wipe σ (own.map (·.2)) → Inv (X.blk s3 H3 scope ce fp) ([] ++ pinsAt fp s7.heap) τ G s' → Nx G → ∃ m, m < k ∧ ∃ i G, Inv (X.blk s3 H3 scope ce fp) [] (wipe σ (own.map (·.2))) G s' ∧ tn i s'.heap ∧ (∀ b ∈ fp, G b = none) ∧ V i m G := fun {τ s' G} hw J nx => by
      obtain ⟨m', hm, w'⟩ := hNx G nx
      have pin' : ∀ b ∈ fp, ∀ o, s7.heap.get? b = some o → s'.heap.get? b = some o ∧ G b = none := fun b hb o e =>
        let z := J.pin (b, o) (List.mem_append_right _ (List.mem_append_right _ (mem_pinsAt hb e)))
        ⟨z.1, z.2.1⟩
      refine ⟨m', hm, i + 1, G, (J.unpinned (pins := [])).weak (by rw [← hw, wipe_length]) (fun j v e => ?_), T.keep _ _ _ t7 fun b hb o e => (pin' b hb o e).1, fun b hb => ?_, w'⟩
      · rw [← hw] at e
        exact (wipe_some e).1
      · obtain ⟨o, e, _⟩ := T.obj _ _ t7 b hb
        exact (pin' b hb o e).2
    refine wpAny_mono (pg.run _ s7 _ G7 x u _ (inv_xe I8) r7 (step x G7 y7)) (fun _ s8 ⟨τ, G8, I8, hw, q8⟩ => ?_) fun e s' x => out x
    refine thnF (pt.run _ s8 τ G8 _ (inv_xe (f := fun _ _ => False) I8) q8) fun b s9 ⟨G9, I9, q9⟩ => ?_
    cases b with
    | false =>
      simp only [Bool.false_eq_true, if_false] at q9 ⊢
      exact fin hw I9 q9
    | true =>
      simp only [if_true] at q9 ⊢
      refine wpAny_mono (pe.run _ s9 τ G9 _ (inv_xe I9) q9) (fun z s10 ⟨yv, G10, I10, r10, acc, hD, hz, nx⟩ => ?_) fun e s' x => out x
      exact app_ok (X := X.blk s3 H3 scope ce fp) (inv_xe (f := fun _ _ => False) I10) hD hz r10 fun s11 I11 => fin hw I11 nx
end
end PySem.CompOut

namespace G
open PySem PySem.Spec PyProof.Rows L2 PySem.CompOut

/-! ## a comprehension whose element may raise, on data -/
def compLX (g : Tg) (t : TeE) (a : E) (ε : Env) : List Da → Sto → Rs (List Da)
  | [], S => .ok [] S
  | d :: ds, S => match put g d ε with
    | none => .bad
    | some ε1 => (t ε1 S).bindN fun c S => if c then (a ε1 S).bind fun x S => (compLX g t a ε ds S).bind fun xs S => .ok (x :: xs) S else compLX g t a ε ds S
def eCompX (own : List Nat) (it : Ie) (g : Tg) (t : TeE) (a : E) : E := fun ε S => (it ε S).bind fun ds S => if ds.length ≤ sizeLine then (compLX g t a (wipeE ε own) ds S).bind fun xs S => .ok (.lst xs) S else .bad
/-- what stands before a rest -/
def pre (acc : List Da) (r : Rs (List Da)) : Rs (List Da) := match r with
  | .ok xs S => .ok (acc ++ xs) S
  | .exc c fs S => .exc c fs S
  | .bad => .bad
theorem pre_nil (r : Rs (List Da)) : pre [] r = r := by cases r <;> rfl
theorem pre_cons {acc : List Da} {d : Da} {r : Rs (List Da)} : pre acc (r.bind fun xs S => .ok (d :: xs) S) = pre (acc ++ [d]) r := by
  cases r with
  | ok xs S => show Rs.ok _ _ = Rs.ok _ _; simp
  | _ => rfl
/-- what is asked of the whole -/
def Whole (X : Cx) (T : Tab) (W : WX) (σ : St) (h1 : Hv) (Q : VK) (r : Rs (List Da)) : Prop := match r with
  | .ok xs S => ∀ (h2 : Hv) (D : Addr) (acc : List V), Grow h1 h2 → HeapR X.K T h2 S → h1.H D = none → h2.H D = some (.lst acc) → h2.free D → RVs X.K T h2 acc xs → Q (.ref D) h2.H
  | .exc c fs S => ∀ (h2 : Hv) (cls : Value) (dd : Option Addr), Grow h1 h2 → XR X.K T h2 cls dd c fs → HeapR X.K T h2 S → W cls dd σ h2.H
  | .bad => False
theorem wipe_get (τ : St) : ∀ (own : List Nat) (j : Nat), (L2.wipe τ own)[j]? = if j ∈ own then (if j < τ.length then some none else none) else τ[j]?
  | [], j => by simp [L2.wipe]
  | v :: vs, j => by
    show ((L2.wipe τ vs).set v none)[j]? = _
    by_cases hv : v = j
    · subst hv
      rw [List.getElem?_set]
      simp [wipe_length]
    · rw [List.getElem?_set_ne hv, wipe_get τ vs j]
      simp [Ne.symm hv]
theorem wipe_twice (σ : St) (own : List Nat) : wipe (wipe σ own) own = wipe σ own := by
  refine List.ext_getElem? fun j => ?_
  rw [wipe_get, wipe_get, wipe_length]
  by_cases hj : j ∈ own <;> simp [hj]
section
variable {X : Cx} {T : Tab} {W : WX} {tg iter elt : Expr} {ifs : List Expr} {pos : Pos} {it : Ie} {g : Tg} {t : TeE} {a : E} {scope : Scope} {own : List (Str × Nat)}
theorem compX_core {h1 : Hv} {σ : St} {ε : Env} {J : It} {ds : List Da} {S1 : Sto} {Q : VK} (r1 : ItR X.K T h1 J ds) (hr1 : HeapR X.K T h1 S1) (er1 : EnvR X.K T h1 σ ε) (hl : ds.length ≤ sizeLine)
    (hown : ∀ j ∈ slotsT g, j ∈ own.map (·.2)) (p : Whole X T W σ h1 Q (compLX g t a (wipeE ε (own.map (·.2))) ds S1)) :
    ∀ D, h1.H D = none → ∃ W' : Nat → Nat → Hp → Prop, (∃ m, W' 0 m (upd h1.H D (.lst []))) ∧ ∀ i m H, W' i m H →
      (J.stop i H ∧ Q (.ref D) H) ∨ (J.go i H ∧ ∃ Nx : Hp → Prop, (∀ H', Nx H' → ∃ m', m' < m ∧ W' (i + 1) m' H') ∧ ∀ x H', J.yld i H x H' → tgD X.K T g x (wipe σ (own.map (·.2))) H' fun σ2 H2 => wipe σ2 (own.map (·.2)) = wipe σ (own.map (·.2)) ∧ tG X.K T wNo REq t σ2 H2 fun b H3 =>
        if b = true then tG X.K T (fun cls d _ H => W cls d σ H) (RV X.K T) a σ2 H3 fun y H4 => ∃ acc, H4 D = some (.lst acc) ∧ acc.length < sizeLine ∧ Nx (upd H4 D (.lst (acc ++ [y]))) else Nx H3) := by
  intro D hD
  generalize hR : compLX g t a (wipeE ε (own.map (·.2))) ds S1 = R0 at p
  refine ⟨fun i m H' => m = ds.length - i ∧ i ≤ ds.length ∧ ∃ h2 S2 acc accD, h2.H = H' ∧ h2.B = D :: h1.B ∧ Ext h1 h2 ∧ (∀ b o, h1.H b = some o → some b ∉ h1.m → h2.H b = some o ∧ some b ∉ h2.m) ∧ HeapR X.K T h2 S2 ∧
      h2.H D = some (.lst acc) ∧ RVs X.K T h2 acc accD ∧ acc.length ≤ i ∧ R0 = pre accD (compLX g t a (wipeE ε (own.map (·.2))) (ds.drop i) S2),
    ⟨ds.length, rfl, Nat.zero_le _, hide h1 D (.lst []), S1, [], [], rfl, rfl, ext_hide hD _, fun b o e n => ?_, hr1.hide hD _, upd_same, .nil, Nat.le_refl _, by rw [pre_nil]; exact hR.symm⟩, ?_⟩
  · exact ⟨by show upd h1.H D _ b = _; rw [upd_ne (ne_of_none e hD)]; exact e, n⟩
  rintro i m H' ⟨rfl, hi, h2, S2, acc, accD, rfl, hB, x2, k2, hr2, hDa, ra, la, hc⟩
  -- seen from the def
  have back : ∀ {h : Hv} {S : Sto}, Grow h2 h → HeapR X.K T h S → Grow h1 { h with B := h1.B } ∧ HeapR X.K T { h with B := h1.B } S ∧ Ext h { h with B := h1.B } := fun {h S} gg hr => by
    have hB' : h.B = D :: h1.B := gg.B.trans hB
    exact ⟨⟨rfl, (x2.trans gg.ext).slot, fun b o e n => let ⟨e1, n1⟩ := k2 b o e n; gg.keep b o e1 n1⟩, hr.shown hB', ext_show hB'⟩
  by_cases hlt : i < ds.length
  · refine .inr ⟨r1.1 i h2 S2 x2 hr2 hlt, fun H'' => ∃ h2 S2 acc accD, h2.H = H'' ∧ h2.B = D :: h1.B ∧ Ext h1 h2 ∧ (∀ b o, h1.H b = some o → some b ∉ h1.m → h2.H b = some o ∧ some b ∉ h2.m) ∧ HeapR X.K T h2 S2 ∧
        h2.H D = some (.lst acc) ∧ RVs X.K T h2 acc accD ∧ acc.length ≤ i + 1 ∧ R0 = pre accD (compLX g t a (wipeE ε (own.map (·.2))) (ds.drop (i + 1)) S2),
      fun H'' n => ⟨ds.length - (i + 1), by omega, rfl, hlt, n⟩, fun x H3 y => ?_⟩
    obtain ⟨h3, d, rfl, g3, hr3, hd, rv⟩ := r1.2.2 i h2 S2 x H3 x2 hr2 hlt y
    have ed : ds.drop i = d :: ds.drop (i + 1) := by
      rw [List.drop_eq_getElem_cons hlt]
      rw [List.getElem?_eq_getElem hlt] at hd
      cases hd; rfl
    rw [ed] at hc
    unfold compLX at hc
    have D2 : some D ∉ h2.m := (hr2.hid D (by rw [hB]; exact List.mem_cons_self)).1
    have er3 : EnvR X.K T h3 (wipe σ (own.map (·.2))) (wipeE ε (own.map (·.2))) := ((er1.mono x2).mono g3.ext).wipe _
    cases q : put g d (wipeE ε (own.map (·.2))) with
    | none => simp only [q] at hc; rw [hc] at p; exact p.elim
    | some ε3 =>
      simp only [q] at hc
      refine ⟨h3, S2, _, d, rfl, er3, hr3, rv, ε3, q, fun σ3 er4 off => ⟨(off.wipe hown).trans (wipe_twice _ _), h3, S2, ε3, rfl, er4, hr3, ?_⟩⟩
      cases z : t ε3 S2 with
      | bad => simp only [z, Rs.bindN] at hc; rw [hc] at p; exact p.elim
      | exc c fs S3 => simp only [z, Rs.bindN] at hc; rw [hc] at p; exact p.elim
      | ok b S3 =>
        simp only [z, Rs.bindN] at hc
        intro b' h4 g4 eb hr4
        have eb' : b' = b := eb
        subst eb'
        cases b' with
        | false =>
          simp only [Bool.false_eq_true, if_false] at hc ⊢
          have gg := g3.trans g4
          obtain ⟨e5, _⟩ := gg.keep D _ hDa D2
          exact ⟨h4, S3, acc, accD, rfl, gg.B.trans hB, x2.trans gg.ext, fun b o e n => let ⟨e1, n1⟩ := k2 b o e n; gg.keep b o e1 n1, hr4, e5, ra.mono gg.ext, by omega, hc⟩
        | true =>
          simp only [if_true] at hc ⊢
          refine ⟨h4, S3, ε3, rfl, er4.mono g4.ext, hr4, ?_⟩
          cases z2 : a ε3 S3 with
          | bad => simp only [z2, Rs.bind] at hc; rw [hc] at p; exact p.elim
          | exc c fs S4 =>
            simp only [z2, Rs.bind] at hc
            rw [hc] at p
            intro cls dd h5 g5 xr hr5
            obtain ⟨b1, b2, b3⟩ := back ((g3.trans g4).trans g5) hr5
            exact p { h5 with B := h1.B } cls dd b1 (xr.mono b3) b2
          | ok dy S4 =>
            simp only [z2, Rs.bind] at hc
            intro y h5 g5 ry hr5
            have gg := (g3.trans g4).trans g5
            obtain ⟨e5, n5⟩ := gg.keep D _ hDa D2
            have D5 : D ∈ h5.B := by rw [gg.B, hB]; exact List.mem_cons_self
            refine ⟨acc, e5, by omega, { h5 with H := upd h5.H D (.lst (acc ++ [y])) }, S4, acc ++ [y], accD ++ [dy], rfl, gg.B.trans hB, (x2.trans gg.ext).trans (ext_hidden D5 _), fun b o e n => ?_, hr5.hidden D5 _, upd_same,
              (((ra.mono gg.ext).mono (ext_hidden D5 _)).snoc (ry.mono (ext_hidden D5 _))), by simp; omega, ?_⟩
            · obtain ⟨e1, n1⟩ := k2 b o e n
              obtain ⟨e6, n6⟩ := gg.keep b o e1 n1
              exact ⟨by show upd h5.H D _ b = _; rw [upd_ne (ne_of_none e hD)]; exact e6, n6⟩
            · rw [← pre_cons]
              rw [hc]
              rfl
  · have ei : i = ds.length := by omega
    subst ei
    rw [List.drop_length] at hc
    unfold compLX at hc
    have hc : R0 = .ok (accD ++ []) S2 := hc
    rw [List.append_nil] at hc
    rw [hc] at p
    refine .inl ⟨r1.2.1 _ h2 _ x2 hr2 (Nat.le_refl _), ?_⟩
    have D2 : some D ∉ h2.m := (hr2.hid D (by rw [hB]; exact List.mem_cons_self)).1
    obtain ⟨b1, b2, b3⟩ := back (Grow.refl h2) hr2
    exact p { h2 with B := h1.B } D acc b1 b2 hD hDa ⟨D2, fun z => (hr1.hid D z).2 hD⟩ (ra.mono b3)
theorem i_compX (hst : X.stack = X.env :: X.outer) (hfr : X.env.frame = some X.env.locals) (tk : Takes X W) (hc : X.calm = true) (hN : X.N.Nodup) (hi : II X T W tg iter it) (ok : BlkOk X.N X.env.scope scope own)
    (hg : ∀ (σ : St) (s : Shared) (H : Hp) (C : Addr) (cl : List (Str × Addr)) (fp : List Addr), GI (bkX X W σ s H scope (compEnvC scope cl C X.env) fp) T tg g) (ht : ∀ (s : Shared) (H : Hp) (C : Addr) (cl : List (Str × Addr)) (fp : List Addr), QI (X.blk s H scope (compEnvC scope cl C X.env) fp) T wNo ifs t)
    (he : ∀ (σ : St) (s : Shared) (H : Hp) (C : Addr) (cl : List (Str × Addr)) (fp : List Addr), EI (bkX X W σ s H scope (compEnvC scope cl C X.env) fp) T (fun cls d _ H => W cls d σ H) elt a) (hown : ∀ j ∈ slotsT g, j ∈ own.map (·.2) := by decide) (hs : ∀ x, foldedSetIterable iter X.env x = pure x := by intro _; rfl) :
    EI X T W (.ListComp elt [⟨tg, iter, ifs, 0⟩] scope pos) (eCompX (own.map (·.2)) it g t a) := by
  refine ⟨fun pins s σ H Q I ⟨h, S, ε, e, er, hr, p⟩ => ?_⟩
  refine pe_compX (W := W) (σ := σ) (g := tgD X.K T g) (tt := tG X.K T wNo REq t) (te := tG X.K T (fun cls d _ H => W cls d σ H) (RV X.K T) a) hc hst hfr tk hN I hi ok (hg σ) ht (he σ) hs ?_
  refine ⟨h, S, ε, e, er, hr, (Post.bind p).imp fun J H1 ⟨h1, S1, ds, e1, g1, r1, hr1, p1⟩ => ?_⟩
  subst e1
  split at p1
  · rename_i hl
    refine compX_core r1 hr1 (er.mono g1.ext) hl hown ?_
    cases z : compLX g t a (wipeE ε (own.map (·.2))) ds S1 with
    | bad => rw [z] at p1; exact p1.elim
    | exc c fs S3 =>
      rw [z] at p1
      exact fun h2 cls dd g2 xr hr2 => p1 cls dd h2 g2 xr hr2
    | ok xs S3 =>
      rw [z] at p1
      exact fun h2 D acc g2 hr2 _ eD fD ra => p1 (.ref D) h2 g2 (.lst eD fD ra) hr2
  · exact p1.elim
/-- what a block lets out -/
theorem passB {σ0 : St} {s : Shared} {H : Hp} {cenv : PySem.Env} {fp : List Addr} (σ : St) : PassesAt (CX X.prog X.w) (bkX X W σ0 s H scope cenv fp) σ (WE (fun cls d _ H => W cls d σ0 H) σ) :=
  fun pins H s e s' I c => ⟨pins, σ, H, s, inv_xe (f := fun _ _ => False) I, c⟩
end
section
variable {X : Cx} {T : Tab} {W : WX} {o e : Expr} {es : List Expr} {fo : E} {fs : Es} {m : Str} {apos pos : Pos} {c k : Nat} {F : FnD}
theorem i_methP {pl : Sem Bool} (D : MetI X.prog X.w X.K X.mg X.base T.base k c m F) (hroom : RoomG k X.A) (ps : ∀ σ, PassesAt (CX X.prog X.w) X σ (WE W σ)) (ho : EI X T W o fo) (ha : AI X T W (e :: es) fs)
    (hst : starEach (e :: es) X.env = (false, eval e X.env) :: starEach es X.env := by rfl) (hpl : (backTo pos (starEach es X.env)).any (·.1) = false := by rfl)
    (ht : eval (.Call (.Attribute o m apos) (e :: es) [] pos) X.env = (do
      let ov ← eval o X.env
      standAt apos.atName
      let (f, first) ← holding [ov] (getMethod ov m pl)
      callWith pos f first (backTo pos (starEach (e :: es) X.env)) (backToKw pos (keywordEach [] X.env))) := by rfl) : EI X T W (.Call (.Attribute o m apos) (e :: es) [] pos) (eMeth c m F fo fs) := by
  obtain ⟨f, fd, ps0, F0, hm, hb⟩ := D.ex
  have hcl : Cls X.K (T.cls c) := D.cl
  have hm' : Meth X.K (T.cls c) m f := hm
  refine ⟨fun pins s σ H Q I ⟨h, S, ε, e0, er, hr, p⟩ => ?_⟩
  refine PySem.W.methodCall_KW (pl := pl) (thn (ho.run pins s σ H _ I ⟨h, S, ε, e0, er, hr, Post.bind p⟩) fun u s1 ⟨x, H1, I1, rx, h1, S1, d1, e1, g1, r1, hr1, p1⟩ => ?_) ht
  split at p1
  · rename_i c' gs q
    split at p1
    · rename_i hh
      obtain ⟨rfl, l⟩ := hh
      obtain ⟨a, dx, vs, rfl, ea, ln⟩ := meth_at r1 hr1 q l
      subst e1
      obtain rfl : u = Value.ref a := rx
      refine getmeth_ok I1 ea hcl hm' ln ?_
      refine PySem.W.callWith_K (first := [.ref a]) (h₀ := X.base) I1.ok.mod.kin hm'.kp (thn (ha.run pos pins s1 σ h1.H _ I1 ⟨h1, S1, ε, rfl, er.mono g1, hr1, Post.bind p1⟩) fun us s2 ⟨vs, H2, I2, rv, h2, S2, ds, e2, g2, r2, hr2, p2⟩ => ⟨I2.kIn, ?_⟩) hst hpl
      exact run_fnG (us := .ref a :: us) (vs := .ref a :: vs) F0 hroom hb (ps σ) I2 (.cons rfl rv) ⟨h2, S2, d1 :: ds, e2, hr2.retab (T := T) (T' := T.base) rfl rfl, .cons ((r1.mono g2.ext).retab (T := T) (T' := T.base) rfl rfl) (r2.retab (T := T) (T' := T.base) rfl rfl), Post.toF p2⟩
    · exact p1.elim
  · exact p1.elim
end
end G

namespace G
open PySem PySem.Spec PySem.Calls PyProof.Rows L2

/-! ## sorted(rows): rows that begin with two whole numbers, no two rows with the same -/
def leadP : PyData → Option (Int × Int)
  | .tuple (.int a :: .int b :: _) => some (a, b)
  | _ => none
def restP : PyData → List PyData
  | .tuple (.int _ :: .int _ :: r) => r
  | _ => []
def leadB (ps : List PyData) : Bool := (ps.all fun d => (leadP d).isSome && PySem.W.alikeAll (restP d) (restP d)) && decide ((ps.map leadP).Nodup)
theorem leadP_of {d : PyData} {k : Int × Int} (h : leadP d = some k) : d = .tuple (.int k.1 :: .int k.2 :: restP d) := by
  unfold leadP at h
  split at h
  · cases h; rfl
  · cases h
def ltLead (x y : Int × Int) : Bool := decide (x.1 < y.1) || (decide (x.1 = y.1) && decide (x.2 < y.2))
@[reducible] def pairOrd : PyProof.Rows.KeyOrd where
  α := Int × Int
  blt := ltLead
  irrefl a := by simp [ltLead]
  trans a b c h1 h2 := by simp [ltLead] at *; omega
  negTrans a b c h := by simp [ltLead] at *; omega
  total a b h1 h2 := by
    simp [ltLead] at h1 h2
    exact Prod.ext (by omega) (by omega)
noncomputable def leadKind (h : Heap) (ds : List PyData) : PyProof.Rows.KeyKind where
  toKeyOrd := pairOrd
  keyOf v := open Classical in if q : ∃ d, d ∈ ds ∧ ∃ as, Reads h v d as then leadP q.choose else none
  dflt := (0, 0)
theorem nodup_one {α β : Type} {f : α → β} : ∀ {l : List α}, (l.map f).Nodup → ∀ {a b : α}, a ∈ l → b ∈ l → f a = f b → a = b
  | [], _, _, _, ha, _, _ => nomatch ha
  | x :: l, h, a, b, ha, hb, e => by
    rw [List.map_cons, List.nodup_cons] at h
    rcases List.mem_cons.mp ha with p | p <;> rcases List.mem_cons.mp hb with q | q
    · rw [p, q]
    · exact absurd (List.mem_map.mpr ⟨b, q, by rw [← e, p]⟩) h.1
    · exact absurd (List.mem_map.mpr ⟨a, p, by rw [e, q]⟩) h.1
    · exact nodup_one h.2 p q e
/-- a value that reads as such a row reads so in one way -/
theorem lead_same {h : Heap} {v : Value} {d e : PyData} {as bs : List Addr} (r : Reads h v d as) (q : Reads h v e bs) {k l : Int × Int} (hd : leadP d = some k) (he : leadP e = some l) : k = l := by
  obtain ⟨k1, k2⟩ := k
  obtain ⟨l1, l2⟩ := l
  have ed : d = .tuple (.int k1 :: .int k2 :: restP d) := leadP_of hd
  have ee : e = .tuple (.int l1 :: .int l2 :: restP e) := leadP_of he
  rw [ed] at r
  rw [ee] at q
  generalize restP d = rd at r
  generalize restP e = re at q
  cases r with
  | @tuple a o xs n _ _ h1 h2 h3 h4 =>
    cases q with
    | @tuple a' o' xs' n' _ _ k1 k2 k3 k4 =>
      rw [h1] at k1
      cases k1
      rw [h3] at k3
      cases k3
      generalize xs.toList = us at h4 k4
      cases h4 with
      | cons r1 r2 =>
        cases k4 with
        | cons q1 q2 =>
          cases r1 with
          | int i t =>
            cases q1 with
            | int j u =>
              cases r2 with
              | cons r3 r4 =>
                cases q2 with
                | cons q3 q4 =>
                  cases r3 with
                  | int i t =>
                    cases q3 with
                    | int j u => rfl
section
variable {prog : Program} {w : World} {A : Around} {s : Shared} {ds : List PyData}
theorem lead_key {v : Value} {d : PyData} {as : List Addr} (hs : ∀ d ∈ ds, ∃ k, leadP d = some k) (hd : d ∈ ds) (r : Reads s.heap v d as) : (leadKind s.heap ds).keyOf v = leadP d := by
  have q : ∃ d, d ∈ ds ∧ ∃ as, Reads s.heap v d as := ⟨d, hd, as, r⟩
  have e : (leadKind s.heap ds).keyOf v = leadP q.choose := by
    show (open Classical in if q : ∃ d, d ∈ ds ∧ ∃ as, Reads s.heap v d as then leadP q.choose else none) = _
    rw [dif_pos q]
  obtain ⟨h1, as', h2⟩ := q.choose_spec
  obtain ⟨k, hk⟩ := hs _ h1
  obtain ⟨l, hl⟩ := hs _ hd
  rw [e, hk, hl, lead_same h2 r hk hl]
theorem lead_inv {v : Value} {k : Int × Int} (e : (leadKind s.heap ds).keyOf v = some k) : ∃ d as, d ∈ ds ∧ Reads s.heap v d as ∧ leadP d = some k := by
  by_cases q : ∃ d, d ∈ ds ∧ ∃ as, Reads s.heap v d as
  · have e' : (leadKind s.heap ds).keyOf v = leadP q.choose := by
      show (open Classical in if q : ∃ d, d ∈ ds ∧ ∃ as, Reads s.heap v d as then leadP q.choose else none) = _
      rw [dif_pos q]
    obtain ⟨h1, as', h2⟩ := q.choose_spec
    exact ⟨_, as', h1, h2, by rw [← e', e]⟩
  · have e' : (leadKind s.heap ds).keyOf v = none := by
      show (open Classical in if q : ∃ d, d ∈ ds ∧ ∃ as, Reads s.heap v d as then leadP q.choose else none) = _
      rw [dif_neg q]
      rfl
    rw [e'] at e; cases e
theorem sortsLead {vs : List Value} (e : PySem.W.EachIs (fun v d => ∃ as, Reads s.heap v d as) vs ds) (hb : leadB ds = true) (hu : ∀ d, d ∈ ds → A.units + d.depth < cLine) : PySem.W.SortsAt prog w A s (leadKind s.heap ds) vs := by
  unfold leadB at hb
  simp only [Bool.and_eq_true, List.all_eq_true, decide_eq_true_eq] at hb
  obtain ⟨hb1, hnd⟩ := hb
  have hs : ∀ d ∈ ds, ∃ k, leadP d = some k := fun d hd => Option.isSome_iff_exists.mp (hb1 d hd).1
  refine ⟨fun v hv => ?_, tuples' true, ?_, fun h2 E Q hq => ?_⟩
  · obtain ⟨d, hd, as, r⟩ := e.left v hv
    obtain ⟨k, hk⟩ := hs d hd
    exact ⟨k, (lead_key hs hd r).trans hk⟩
  · intro E x y a b Q ha hb2 hq
    obtain ⟨d, as, hd, ra, e1⟩ := lead_inv ha
    obtain ⟨d', bs, hd', rb, e2⟩ := lead_inv hb2
    have room : A.units + min d.depth d'.depth < cLine := Nat.lt_of_le_of_lt (Nat.add_le_add_left (Nat.min_le_left _ _) _) (hu d hd)
    have same : a = b → d = d' := fun z => nodup_one hnd hd hd' (by rw [e1, e2, z])
    have self := (hb1 d hd).2
    have hq : Q (ltLead a b) s := hq
    have ed := leadP_of e1
    have ed' := leadP_of e2
    rw [ed] at ra
    rw [ed'] at rb
    have roomd : A.units + min (PyData.tuple (.int a.1 :: .int a.2 :: restP d)).depth (PyData.tuple (.int b.1 :: .int b.2 :: restP d')).depth < cLine := by rw [← ed, ← ed']; exact room
    cases ra with
    | @tuple l o xs n _ _ h1 h2 h3 h4 =>
      cases rb with
      | @tuple l' o' xs' n' _ _ k1 k2 k3 k4 =>
        have n1 : xs.size = (restP d).length + 2 := by simpa using PySem.SeqAt.ReadsAll.length _ _ _ h4
        have n2 : xs'.size = (restP d').length + 2 := by simpa using PySem.SeqAt.ReadsAll.length _ _ _ k4
        refine PySem.W.kat_lt h1 h3 k1 k3 ?_
        rw [n1, n2]
        generalize xs.toList = us at h4
        generalize xs'.toList = ws at k4
        have inr := PySem.SeqAt.room_in roomd
        cases h4 with
        | cons r1 r2 =>
          cases k4 with
          | cons q1 q2 =>
            rw [List.zip_cons_cons]
            have u0 : A.units + min (PyData.int a.1).depth (PyData.int b.1).depth < cLine := by
              show A.units + min 0 0 < cLine
              omega
            have u1 : A.units + min (PyData.int a.2).depth (PyData.int b.2).depth < cLine := by
              show A.units + min 0 0 < cLine
              omega
            refine PySem.W.kat_cons (PySem.W.eqAt_alike (.int a.1) (.int b.1) A s _ _ _ _ r1 q1 rfl u0 prog w _ _ ?_)
            by_cases z1 : a.1 = b.1
            · have ev : PyData.eqv (.int a.1) (.int b.1) = true := by rw [z1]; simp [PyData.eqv]
              rw [ev]
              refine PySem.W.kat_yes ?_
              cases r2 with
              | cons r3 r4 =>
                cases q2 with
                | cons q3 q4 =>
                  rw [List.zip_cons_cons]
                  refine PySem.W.kat_cons (PySem.W.eqAt_alike (.int a.2) (.int b.2) A s _ _ _ _ r3 q3 rfl u1 prog w _ _ ?_)
                  by_cases z2 : a.2 = b.2
                  · have ev : PyData.eqv (.int a.2) (.int b.2) = true := by rw [z2]; simp [PyData.eqv]
                    rw [ev]
                    refine PySem.W.kat_yes ?_
                    have zz : d = d' := same (Prod.ext z1 z2)
                    subst zz
                    have lf : ltLead a b = false := by rw [Prod.ext z1 z2]; simp [ltLead]
                    rw [lf] at hq
                    have ur : A.units + min (PyData.depthAll (restP d)) (PyData.depthAll (restP d)) < cLine := by
                      have := hu d hd
                      rw [ed] at this
                      simp only [PyData.depth, PyData.depthAll] at this
                      omega
                    exact PySem.W.katLex_alike (restP d) (restP d) _ _ _ _ _ r4 q4 self ur (fun _ hi => absurd hi (by omega)) (by simp) (by rw [PyProof.Rows.lex_irrefl]; exact hq)
                  · have ev : PyData.eqv (.int a.2) (.int b.2) = false := by simp [PyData.eqv, z2]
                    rw [ev]
                    refine PySem.W.kat_no (PySem.W.oneLt_alike (fun _ t z => by cases z) r3 q3 rfl (fun z => by cases z) u1 ?_)
                    have : PySem.W.dataLt (.int a.2) (.int b.2) = ltLead a b := by
                      rw [PySem.W.dataLt_int]; simp [ltLead, z1]
                    rw [this]
                    exact hq
            · have ev : PyData.eqv (.int a.1) (.int b.1) = false := by simp [PyData.eqv, z1]
              rw [ev]
              refine PySem.W.kat_no (PySem.W.oneLt_alike (fun _ t z => by cases z) r1 q1 rfl (fun z => by cases z) u0 ?_)
              have : PySem.W.dataLt (.int a.1) (.int b.1) = ltLead a b := by
                rw [PySem.W.dataLt_int]; simp [ltLead, z1]
              rw [this]
              exact hq
  · obtain ⟨fs, t1, t2, t3⟩ := PySem.W.each_katTups e fun d hd => by
      obtain ⟨k, hk⟩ := hs d hd
      exact ⟨_, _, leadP_of hk⟩
    refine PySem.W.kat_kind (T := .type "int") t1 (by omega) (fun f hf => ?_) (beq_self_eq_true _) hq
    obtain ⟨x, r, as, m1, m2⟩ := t3 f hf
    obtain ⟨k, hk⟩ := hs _ m1
    have ex := (List.cons.inj (PyData.tuple.inj (leadP_of hk))).1
    rw [ex] at m2
    exact PySem.W.looks_reads m2
end
def leadD (d : Da) : Int × Int := (leadP (pyD d)).getD (0, 0)
def pairLe (x y : Da) : Bool := !ltLead (leadD y) (leadD x)
def srtLd (ds : List Da) : Option (List Da) := if shps 60 ds = true ∧ leadB (ds.map pyD) = true ∧ ds.length ≤ 100000 then some (ds.mergeSort pairLe) else none
def dSortL (xs : List Da) (S : Sto) : Option (Da × Sto) := match xs with
  | [x] => ((listOf x S).bind srtLd).map fun ds => (.lst ds, S)
  | _ => none
theorem o_sortL {X : Cx} {T : Tab} (hu : X.A.units + 70 < cLine) : CallR X (.builtin "sorted") (rDN X.K T dSortL) := by
  intro pins s σ H xs us Q I r ⟨h, S, ds, e, hr, rv, p⟩
  subst e
  unfold dSortL at p
  split at p
  · rename_i x
    cases q : (listOf x S).bind srtLd with
    | none => rw [q] at p; exact p.elim
    | some es' =>
      rw [q] at p
      obtain ⟨es, e1, e2⟩ := bindS q
      obtain ⟨v, rfl, rx⟩ := rv.one
      obtain ⟨l, ys, rfl, ry, hs⟩ := list_of rx hr e1
      obtain ⟨u, rfl, ru⟩ := vals1 r
      obtain rfl : u = Value.ref l := ru
      unfold srtLd at e2
      split at e2
      · rename_i hh
        obtain ⟨h1, h2, h3⟩ := hh
        simp only [Option.some.injEq] at e2
        subst e2
        obtain ⟨its, rv2, hl, hz⟩ := I.list hs
        have len : its.length = es.length := by rw [← rv2.length, ry.length]
        have ep : ∀ d ∈ es, ∃ pd, toPy d = some pd ∧ pyD d = pd ∧ pd.depth ≤ 60 := fun d hd => by
          obtain ⟨pd, a, b, c⟩ := toPy_shp 60 d (shps_mem h1 d hd)
          exact ⟨pd, a, by simp [pyD, a], c⟩
        have some1 : ∀ d ∈ es.map pyD, ∃ k, leadP d = some k := fun d hd => by
          have hb := h2
          unfold leadB at hb
          simp only [Bool.and_eq_true, List.all_eq_true, decide_eq_true_eq] at hb
          exact Option.isSome_iff_exists.mp (hb.1 d hd).1
        have red : PySem.W.EachIs (fun u d => (∃ as, Reads s.heap u (pyD d) as) ∧ d ∈ es) its es := vals_each (β := Unit) rv2 ry fun x u d a b c => by
          obtain ⟨pd, e3, e4, _⟩ := ep d c
          rw [e4]
          obtain ⟨as, rd⟩ := Dp.reads I _ _ _ (b.dp e3) a
          exact ⟨⟨as, rd⟩, c⟩
        have red2 := red.mono fun u d (z : (∃ as, Reads s.heap u (pyD d) as) ∧ d ∈ es) => (show (∃ as, Reads (PySem.W.sortingHeap (PySem.W.copyHeap s.heap its) (s.heap.objs.size + 1) its) u (pyD d) as) ∧ d ∈ es from ⟨let ⟨as, rd⟩ := z.1; ⟨as, PyProof.Rows.Reads.keeps (fun b o e => PySem.W.sorting_copy_old e) rd⟩, z.2⟩)
        have each2 := each_map (R := fun u p => ∃ as, Reads (PySem.W.sortingHeap (PySem.W.copyHeap s.heap its) (s.heap.objs.size + 1) its) u p as) pyD (red2.mono fun u d z => z.1)
        have hlen : its.length ≤ sizeLine := by rw [len, sizeLine_eq]; omega
        refine PySem.W.sorted_vals hl.isList (sortsLead (s := { s with heap := PySem.W.sortingHeap (PySem.W.copyHeap s.heap its) (s.heap.objs.size + 1) its }) each2 h2 fun d hd => ?_) hlen ?_
        · obtain ⟨d', hd', rfl⟩ := List.mem_map.mp hd
          obtain ⟨pd, _, e4, e5⟩ := ep d' hd'
          rw [e4]
          show X.A.units + 1 + 1 + pd.depth < cLine
          omega
        · have keys : PySem.W.EachIs (fun v b => (leadKind (PySem.W.sortingHeap (PySem.W.copyHeap s.heap its) (s.heap.objs.size + 1) its) (es.map pyD)).keyOf v = some (leadD b)) its es := red2.mono fun u d z => by
            obtain ⟨⟨as, rd⟩, hd⟩ := z
            have hm : pyD d ∈ es.map pyD := List.mem_map.mpr ⟨d, hd, rfl⟩
            obtain ⟨k, hk⟩ := some1 _ hm
            have a := lead_key (s := { s with heap := PySem.W.sortingHeap (PySem.W.copyHeap s.heap its) (s.heap.objs.size + 1) its }) some1 hm rd
            refine a.trans ?_
            unfold leadD
            rw [hk]; rfl
          have out := PySem.W.sortVals_each (κ := leadKind (PySem.W.sortingHeap (PySem.W.copyHeap s.heap its) (s.heap.objs.size + 1) its) (es.map pyD)) (rev := false) (fun d : Da => leadD d) (vals_each (β := Unit) (R := fun u d => ∃ x, RelV x u ∧ RV X.K T h x d) rv2 ry fun x u d a b c => ⟨x, a, b⟩) keys
          obtain ⟨zs, vz, rz⟩ := each_vals out
          obtain ⟨n, hn⟩ := sortedAll_at s.heap its (PySem.W.sortVals (leadKind (PySem.W.sortingHeap (PySem.W.copyHeap s.heap its) (s.heap.objs.size + 1) its) (es.map pyD)) false its its).toArray
          have hp0 : h.H (s.heap.objs.size + 1) = none := I.hok.fresh (Nat.le_succ _)
          have g := grow_new (h := h) hp0 (.lst zs)
          have zlen : zs.length ≤ sizeLine := by rw [rz.length, List.length_mergeSort, ← len]; exact hlen
          refine ⟨.ref _, upd h.H (s.heap.objs.size + 1) (.lst zs), I.laid (t' := s.toks) (fun b o e => sortedAll_old e) (Nat.le_succ _) ⟨zlen, _, n, vz, hn⟩, rfl, ?_⟩
          exact p (.ref _) _ g (.lst upd_same (hr.fresh hp0) (rz.mono g.ext)) (hr.new hp0 _)
      · cases e2
  · exact p.elim
end G

namespace G
open PySem PySem.Spec PyProof.Rows L2
/-! ## < of alike data -/
def okLt (x y : Da) : Bool := shp 60 x && (shp 60 y && (PySem.W.alike (pyD x) (pyD y) && notNone (pyD x)))
def dLtD (x y : Da) (S : Sto) : Option (Da × Sto) := if okLt x y = true then some (.bl (ltD x y), S) else none
def dLeD (x y : Da) (S : Sto) : Option (Da × Sto) := if okLt x y = true then some (.bl (!ltD y x), S) else none
section
variable {X : Cx} {T : Tab}
theorem lt_core {pins : List (Addr × Obj)} {σ : St} {s : Shared} {h : Hv} {x y : V} {v u : Value} {dx dy : Da} (hu : X.A.units + 70 < cLine) (I : Inv X pins σ h.H s) (rx : RelV x v) (ry : RelV y u) (qx : RV X.K T h x dx) (qy : RV X.K T h y dy) (ok : okLt dx dy = true) :
    ∃ as bs, Reads s.heap v (pyD dx) as ∧ Reads s.heap u (pyD dy) bs ∧ PySem.W.alike (pyD dx) (pyD dy) = true ∧ pyD dx ≠ .none ∧ X.A.units + min (pyD dx).depth (pyD dy).depth < cLine := by
  simp only [okLt, Bool.and_eq_true] at ok
  obtain ⟨o1, o2, o3, o4⟩ := ok
  obtain ⟨px, a, b, c⟩ := toPy_shp 60 dx o1
  obtain ⟨py, a2, b2, c2⟩ := toPy_shp 60 dy o2
  have ex : pyD dx = px := by simp [pyD, a]
  have ey : pyD dy = py := by simp [pyD, a2]
  rw [ex, ey] at o3
  rw [ex] at o4
  rw [ex, ey]
  obtain ⟨as, r1⟩ := Dp.reads I _ _ _ (qx.dp a) rx
  obtain ⟨bs, r2⟩ := Dp.reads I _ _ _ (qy.dp a2) ry
  exact ⟨as, bs, r1, r2, o3, fun z => (by rw [z] at o4; cases o4), (by omega)⟩
theorem o_ltD (hu : X.A.units + 70 < cLine) : OpR X (compareOp .Lt) (rD2 X.K T dLtD) := by
  intro pins s σ H x y v u Q I rx ry ⟨h, S, dx, dy, e, hr, qx, qy, p⟩
  subst e
  unfold dLtD at p
  split at p
  · rename_i ok
    obtain ⟨as, bs, r1, r2, al, nn, du⟩ := lt_core hu I rx ry qx qy ok
    exact PySem.W.lt_data r1 r2 al nn du ⟨.bl _, h.H, I, rfl, p.ret (.bl _) hr⟩
  · exact p.elim
theorem o_leD (hu : X.A.units + 70 < cLine) : OpR X (compareOp .LtE) (rD2 X.K T dLeD) := by
  intro pins s σ H x y v u Q I rx ry ⟨h, S, dx, dy, e, hr, qx, qy, p⟩
  subst e
  unfold dLeD at p
  split at p
  · rename_i ok
    obtain ⟨as, bs, r1, r2, al, nn, du⟩ := lt_core hu I rx ry qx qy ok
    exact PySem.W.le_data r1 r2 al nn du ⟨.bl _, h.H, I, rfl, p.ret (.bl _) hr⟩
  · exact p.elim
end
end G
namespace G
open PySem PySem.Spec PyProof.Rows L2
/-! ## sorted(set(t)), t a tuple of ints -/
def tupOf : Da → Option (List Da)
  | .tup ds => some ds
  | _ => none
def srtSetI (es : List Da) : Option (List Da) := if es.length < 64 then (intsOf es).map fun ns => (usrt ltI ns).map Da.int else none
def dSrtSetT (xs : List Da) (S : Sto) : Option (Da × Sto) := match xs with
  | [x] => ((tupOf x).bind srtSetI).map fun ds => (.lst ds, S)
  | _ => none
def rSetTup (K : PySem.W.Frag) (w : World) : List V → Hp → VK → Prop := fun xs H Q => ∃ (l : Addr) (ns : List Int), xs = [.ref l] ∧ SqT K H l (ns.map V.int) ∧ ns.length < 64 ∧ ∀ p c, H p = none → c ≤ ns.length → Q (.ref p) (upd H p (SetO w p (fun j => decide (j ∈ ns)) c))
theorem cr_setTup {X : Cx} (hc : X.calm = true) : CallR X (.type "set") (rSetTup X.K X.w) := by
  intro pins s σ H xs us Q I r ⟨l, ns, e, hs, few, q⟩
  subst e
  rw [Vals.ref1 r]
  obtain ⟨its, rv, ⟨o, ho, h1, n, h2⟩, hz⟩ := I.tuple hs
  have ii : IntsAre its.toArray.toList ns := by simpa using rv.ints
  have hn : H s.heap.objs.size = none := I.hok.fresh (Nat.le_refl _)
  exact call_set_tupI ns (I.ok.hd hc) ⟨o, ho, h1, n, h2⟩ ii (by unfold scanBound; omega) fun hp tk c R hcl k => ⟨.ref _, upd H s.heap.objs.size (SetO X.w s.heap.objs.size (fun j => decide (j ∈ ns)) c), I.laid (t' := tk) k (Nat.le_refl _) (setO_new R), rfl, q _ c hn hcl⟩
theorem i_srtSetT {X : Cx} {T : Tab} {W : WX} {a : Expr} {fs : Es} {p p2 q pos : Pos} (hc : X.calm = true) (hg : Gl X "sorted") (hm : X.mg "sorted" = none) (hg2 : Gl X "set") (hm2 : X.mg "set" = none) (ha : AI X T W [a] fs)
    (he2 : starEach [a] X.env = (false, eval a X.env) :: starEach [] X.env := by rfl) (hpl2 : (backTo q (starEach [] X.env)).any (·.1) = false := by rfl)
    (he : starEach [.Call (.Name "set" p2) [a] [] q] X.env = (false, eval (.Call (.Name "set" p2) [a] [] q) X.env) :: starEach [] X.env := by rfl) (hpl : (backTo pos (starEach [] X.env)).any (·.1) = false := by rfl) :
    EI X T W (.Call (.Name "sorted" p) [.Call (.Name "set" p2) [a] [] q] [] pos) (eOpN dSrtSetT fs) := by
  refine wkE (pe_callB (cr_sortedSet hc) hg hm (by decide +kernel) (pa_cons (pe_callTy (cr_setTup hc) hg2 hm2 PyProof.Rows.boot_set ha (by decide) (by decide) he2 hpl2) pa_nil he) (by decide) (by decide) he hpl) fun σ H Q ⟨h, S, ε, e, er, hr, p⟩ => ⟨h, S, ε, e, er, hr, (Post.bind p).imp fun vs H1 ⟨h1, S1, ds, e1, g1, r1, hr1, p1⟩ => ?_⟩
  subst e1
  have p2 := Post.of p1
  unfold dSrtSetT at p2
  split at p2
  rotate_left
  · exact p2.elim
  rename_i x
  obtain ⟨v, rfl, rx⟩ := r1.one
  cases q : (tupOf x).bind srtSetI with
  | none => rw [q] at p2; exact p2.elim
  | some rs =>
    rw [q] at p2
    obtain ⟨es, e2, e3⟩ := bindS q
    unfold tupOf at e2
    split at e2
    rotate_left
    · cases e2
    cases e2
    unfold srtSetI at e3
    split at e3
    rotate_left
    · cases e3
    rename_i hlen
    cases e4 : intsOf es with
    | none => rw [e4] at e3; cases e3
    | some ns =>
      rw [e4] at e3
      cases e3
      cases rx with
      | tup s ry =>
        have e5 := ints_of ry e4
        subst e5
        have nl : ns.length = es.length := by rw [← ry.length, List.length_map]
        refine ⟨_, ns, rfl, s.sq, by rw [nl]; exact hlen, fun b c hb hcl => ⟨b, _, c, rfl, upd_same, by omega, fun ms b2 s1 s2 s3 hb2 => ?_⟩⟩
        have g2 := grow_new (h := h1) hb (SetO X.w b (fun j => decide (j ∈ ns)) c)
        have g3 := grow_new (h := { h1 with H := upd h1.H b (SetO X.w b (fun j => decide (j ∈ ns)) c) }) hb2 (.lst (ms.map V.int))
        have em : ms = usrt ltI ns := srt_uniq lin_I (s1.imp fun z => by simpa [ltI] using z) (usrt_srt lin_I) fun z => by rw [usrt_mem lin_I, s2]; simp
        have hr2 := hr1.new hb (SetO X.w b (fun j => decide (j ∈ ns)) c)
        exact p2 (.ref b2) _ (g2.trans g3) (.lst upd_same (hr2.fresh hb2) (by rw [em]; exact .of_ints _)) (hr2.new hb2 _)
end G

namespace Qk21
open PySem PySem.Spec PyProof.Rows L2 G
def top (i : Nat) : Stmt := PySem.Challenge.pw_gentleweb_k21_whole_visits.main.body.getD i (.Pass ⟨0, 0, 0, 0⟩)
abbrev s__law_taken : Stmt := top 24
abbrev N__law_taken : List Str := ["row", "many", "cell", "found"]
theorem sc__law_taken : FnScope N__law_taken ["row", "many"] (defScope s__law_taken) := ⟨rfl, rfl, rfl, by decide +kernel, rfl, by decide +kernel, by decide +kernel⟩
abbrev s__law_pick : Stmt := top 25
abbrev N__law_pick : List Str := ["row", "kinds"]
theorem sc__law_pick : FnScope N__law_pick ["row", "kinds"] (defScope s__law_pick) := ⟨rfl, rfl, rfl, by decide +kernel, rfl, by decide +kernel, by decide +kernel⟩
abbrev s__law_name : Stmt := top 28
abbrev N__law_name : List Str := ["row", "signs", "size", "found", "k"]
theorem sc__law_name : FnScope N__law_name ["row"] (defScope s__law_name) := ⟨rfl, rfl, rfl, by decide +kernel, rfl, by decide +kernel, by decide +kernel⟩
abbrev s__law_names : Stmt := top 29
abbrev N__law_names : List Str := ["row", "many", "found", "k", "name", "spare", "turn", "one"]
theorem sc__law_names : FnScope N__law_names ["row", "many"] (defScope s__law_names) := ⟨rfl, rfl, rfl, by decide +kernel, rfl, by decide +kernel, by decide +kernel⟩
abbrev s_is_row : Stmt := top 11
abbrev N_is_row : List Str := ["value"]
theorem sc_is_row : FnScope N_is_row ["value"] (defScope s_is_row) := ⟨rfl, rfl, rfl, by decide +kernel, rfl, by decide +kernel, by decide +kernel⟩
abbrev s_is_name : Stmt := top 12
abbrev N_is_name : List Str := ["value", "sign"]
theorem sc_is_name : FnScope N_is_name ["value"] (defScope s_is_name) := ⟨rfl, rfl, rfl, by decide +kernel, rfl, by decide +kernel, by decide +kernel⟩
abbrev s_is_whole : Stmt := top 9
abbrev N_is_whole : List Str := ["value"]
theorem sc_is_whole : FnScope N_is_whole ["value"] (defScope s_is_whole) := ⟨rfl, rfl, rfl, by decide +kernel, rfl, by decide +kernel, by decide +kernel⟩
abbrev s_is_number : Stmt := top 10
abbrev N_is_number : List Str := ["value", "least", "most"]
theorem sc_is_number : FnScope N_is_number ["value", "least", "most"] (defScope s_is_number) := ⟨rfl, rfl, rfl, by decide +kernel, rfl, by decide +kernel, by decide +kernel⟩
abbrev s_is_span : Stmt := top 19
abbrev N_is_span : List Str := ["value"]
theorem sc_is_span : FnScope N_is_span ["value"] (defScope s_is_span) := ⟨rfl, rfl, rfl, by decide +kernel, rfl, by decide +kernel, by decide +kernel⟩
abbrev s_frozen : Stmt := top 13
abbrev N_frozen : List Str := ["value", "part"]
theorem sc_frozen : FnScope N_frozen ["value"] (defScope s_frozen) := ⟨rfl, rfl, rfl, by decide +kernel, rfl, by decide +kernel, by decide +kernel⟩
abbrev s_want_row : Stmt := top 15
abbrev N_want_row : List Str := ["value", "is_item", "most", "index", "item"]
theorem sc_want_row : FnScope N_want_row ["value", "is_item", "most"] (defScope s_want_row) := ⟨rfl, rfl, rfl, by decide +kernel, rfl, by decide +kernel, by decide +kernel⟩
abbrev s_Needs___init__ : Stmt := inClass (top 20) 0
abbrev N_Needs___init__ : List Str := ["self", "spans"]
theorem sc_Needs___init__ : FnScope N_Needs___init__ ["self", "spans"] (defScope s_Needs___init__) := ⟨rfl, rfl, rfl, by decide +kernel, rfl, by decide +kernel, by decide +kernel⟩
abbrev s__law_mixed : Stmt := top 27
abbrev N__law_mixed : List Str := ["row", "value"]
theorem sc__law_mixed : FnScope N__law_mixed ["row", "value"] (defScope s__law_mixed) := ⟨rfl, rfl, rfl, by decide +kernel, rfl, by decide +kernel, by decide +kernel⟩
abbrev s__law_alike : Stmt := top 26
abbrev N__law_alike : List Str := ["found", "due", "k"]
theorem sc__law_alike : FnScope N__law_alike ["found", "due"] (defScope s__law_alike) := ⟨rfl, rfl, rfl, by decide +kernel, rfl, by decide +kernel, by decide +kernel⟩
abbrev s_Needs___eq__ : Stmt := inClass (top 20) 1
abbrev N_Needs___eq__ : List Str := ["self", "other"]
theorem sc_Needs___eq__ : FnScope N_Needs___eq__ ["self", "other"] (defScope s_Needs___eq__) := ⟨rfl, rfl, rfl, by decide +kernel, rfl, by decide +kernel, by decide +kernel⟩
abbrev s_Needs_visits : Stmt := inClass (top 20) 2
abbrev N_Needs_visits : List Str := ["self", "found", "last", "first", "span"]
theorem sc_Needs_visits : FnScope N_Needs_visits ["self"] (defScope s_Needs_visits) := ⟨rfl, rfl, rfl, by decide +kernel, rfl, by decide +kernel, by decide +kernel⟩
abbrev s_Needs_paper : Stmt := inClass (top 20) 3
abbrev N_Needs_paper : List Str := ["self", "found", "here", "last", "first", "at", "span"]
theorem sc_Needs_paper : FnScope N_Needs_paper ["self"] (defScope s_Needs_paper) := ⟨rfl, rfl, rfl, by decide +kernel, rfl, by decide +kernel, by decide +kernel⟩
abbrev s_Needs_is_served : Stmt := inClass (top 20) 4
abbrev N_Needs_is_served : List Str := ["self", "ticks", "span", "tick"]
theorem sc_Needs_is_served : FnScope N_Needs_is_served ["self", "ticks"] (defScope s_Needs_is_served) := ⟨rfl, rfl, rfl, by decide +kernel, rfl, by decide +kernel, by decide +kernel⟩
abbrev s_meet : Stmt := top 21
abbrev N_meet : List Str := ["one", "other"]
theorem sc_meet : FnScope N_meet ["one", "other"] (defScope s_meet) := ⟨rfl, rfl, rfl, by decide +kernel, rfl, by decide +kernel, by decide +kernel⟩
abbrev s_Needs_is_paper : Stmt := inClass (top 20) 5
abbrev N_Needs_is_paper : List Str := ["self", "value", "place", "at", "other"]
theorem sc_Needs_is_paper : FnScope N_Needs_is_paper ["self", "value"] (defScope s_Needs_is_paper) := ⟨rfl, rfl, rfl, by decide +kernel, rfl, by decide +kernel, by decide +kernel⟩
abbrev s_Needs_unserved : Stmt := inClass (top 20) 6
abbrev N_Needs_unserved : List Str := ["self", "ticks", "found", "at", "span", "tick"]
theorem sc_Needs_unserved : FnScope N_Needs_unserved ["self", "ticks"] (defScope s_Needs_unserved) := ⟨rfl, rfl, rfl, by decide +kernel, rfl, by decide +kernel, by decide +kernel⟩
abbrev s__law_pairs : Stmt := top 31
abbrev N__law_pairs : List Str := ["firsts", "seconds", "found", "one", "two"]
theorem sc__law_pairs : FnScope N__law_pairs ["firsts", "seconds"] (defScope s__law_pairs) := ⟨rfl, rfl, rfl, by decide +kernel, rfl, by decide +kernel, by decide +kernel⟩
abbrev s__law_rows : Stmt := top 32
abbrev N__law_rows : List Str := ["many", "top", "rows", "k", "longer", "one", "tick"]
theorem sc__law_rows : FnScope N__law_rows ["many", "top"] (defScope s__law_rows) := ⟨rfl, rfl, rfl, by decide +kernel, rfl, by decide +kernel, by decide +kernel⟩
abbrev s__law_good : Stmt := top 33
abbrev N__law_good : List Str := ["spans", "ticks", "one", "tick"]
theorem sc__law_good : FnScope N__law_good ["spans", "ticks"] (defScope s__law_good) := ⟨rfl, rfl, rfl, by decide +kernel, rfl, by decide +kernel, by decide +kernel⟩
abbrev s__law_truth : Stmt := top 30
abbrev N__law_truth : List Str := ["found", "due"]
theorem sc__law_truth : FnScope N__law_truth ["found", "due"] (defScope s__law_truth) := ⟨rfl, rfl, rfl, by decide +kernel, rfl, by decide +kernel, by decide +kernel⟩
abbrev s_Needs_late_by : Stmt := inClass (top 20) 12
abbrev N_Needs_late_by : List Str := ["self", "ticks", "found", "name", "first", "last", "good", "tick"]
theorem sc_Needs_late_by : FnScope N_Needs_late_by ["self", "ticks"] (defScope s_Needs_late_by) := ⟨rfl, rfl, rfl, by decide +kernel, rfl, by decide +kernel, by decide +kernel⟩
abbrev s_Needs_served_by : Stmt := inClass (top 20) 7
abbrev N_Needs_served_by : List Str := ["self", "tick", "at", "span"]
theorem sc_Needs_served_by : FnScope N_Needs_served_by ["self", "tick"] (defScope s_Needs_served_by) := ⟨rfl, rfl, rfl, by decide +kernel, rfl, by decide +kernel, by decide +kernel⟩
abbrev s_Needs_tries : Stmt := inClass (top 20) 9
abbrev N_Needs_tries : List Str := ["self", "row", "left", "wait", "begin", "last", "first", "at"]
theorem sc_Needs_tries : FnScope N_Needs_tries ["self", "row", "left", "wait"] (defScope s_Needs_tries) := ⟨rfl, rfl, rfl, by decide +kernel, rfl, by decide +kernel, by decide +kernel⟩
abbrev s_Needs_gentle : Stmt := inClass (top 20) 8
abbrev N_Needs_gentle : List Str := ["self", "wait", "best", "rows", "longer", "row", "left", "tick"]
theorem sc_Needs_gentle : FnScope N_Needs_gentle ["self", "wait"] (defScope s_Needs_gentle) := ⟨rfl, rfl, rfl, by decide +kernel, rfl, by decide +kernel, by decide +kernel⟩
abbrev s_Needs_without : Stmt := inClass (top 20) 11
abbrev N_Needs_without : List Str := ["self", "at"]
theorem sc_Needs_without : FnScope N_Needs_without ["self", "at"] (defScope s_Needs_without) := ⟨rfl, rfl, rfl, by decide +kernel, rfl, by decide +kernel, by decide +kernel⟩
abbrev s_Needs_needed : Stmt := inClass (top 20) 10
abbrev N_Needs_needed : List Str := ["self", "many", "at"]
theorem sc_Needs_needed : FnScope N_Needs_needed ["self"] (defScope s_Needs_needed) := ⟨rfl, rfl, rfl, by decide +kernel, rfl, by decide +kernel, by decide +kernel⟩
abbrev s_want_number : Stmt := top 14
abbrev N_want_number : List Str := ["value", "least", "most"]
theorem sc_want_number : FnScope N_want_number ["value", "least", "most"] (defScope s_want_number) := ⟨rfl, rfl, rfl, by decide +kernel, rfl, by decide +kernel, by decide +kernel⟩
abbrev s_spans_of : Stmt := top 22
abbrev N_spans_of : List Str := ["changes", "patience", "end", "found", "index", "change"]
theorem sc_spans_of : FnScope N_spans_of ["changes", "patience", "end"] (defScope s_spans_of) := ⟨rfl, rfl, rfl, by decide +kernel, rfl, by decide +kernel, by decide +kernel⟩
abbrev s__law_rest : Stmt := top 34
abbrev N__law_rest : List Str := ["row", "made", "spans", "visits", "names", "wait", "size", "needed", "k", "due", "turn", "bad", "gentle", "fewest", "rest", "changes", "patience", "end", "value", "told", "e", "name", "tick", "ticks", "j", "one"]
theorem sc__law_rest : FnScope N__law_rest ["row", "made", "spans", "visits", "names"] (defScope s__law_rest) := ⟨rfl, rfl, rfl, by decide +kernel, rfl, by decide +kernel, by decide +kernel⟩
abbrev s_law : Stmt := top 35
abbrev N_law : List Str := ["script", "row", "k", "spans", "turn", "tick", "names", "first", "made", "many", "visits", "paper", "a", "b", "ticks", "left", "late", "some", "fine", "name", "last", "good", "one"]
theorem sc_law : FnScope N_law ["script"] (defScope s_law) := ⟨rfl, rfl, rfl, by decide +kernel, rfl, by decide +kernel, by decide +kernel⟩
structure Txt (P : Program) (K : PySem.W.Frag) (mg : Str → Option Value) (T : Tab) : Prop where
  mg_all : mg "all" = none
  mg_any : mg "any" = none
  mg_bool : mg "bool" = none
  mg_enumerate : mg "enumerate" = none
  mg_int : mg "int" = none
  mg_isinstance : mg "isinstance" = none
  mg_len : mg "len" = none
  mg_list : mg "list" = none
  mg_max : mg "max" = none
  mg_min : mg "min" = none
  mg_range : mg "range" = none
  mg_set : mg "set" = none
  mg_sorted : mg "sorted" = none
  mg_str : mg "str" = none
  mg_tuple : mg "tuple" = none
  con_FIGURES : ∃ t, mg "FIGURES" = some (.str "0123456789" t)
  con_LAST_TICK : ∃ t, mg "LAST_TICK" = some (.int (9999) t)
  con_LETTERS : ∃ t, mg "LETTERS" = some (.str "abcdefghijklmnopqrstuvwxyz" t)
  con_LONGEST_NAME : ∃ t, mg "LONGEST_NAME" = some (.int (12) t)
  con_MOST_SPANS : ∃ t, mg "MOST_SPANS" = some (.int (30) t)
  fun__law_taken : ∃ f fd, Fun K "_law_taken" "_law_taken" s__law_taken f fd ∧ mg "_law_taken" = some (.ref f) ∧ Binds K fd ["row", "many"] []
  fun__law_pick : ∃ f fd, Fun K "_law_pick" "_law_pick" s__law_pick f fd ∧ mg "_law_pick" = some (.ref f) ∧ Binds K fd ["row", "kinds"] []
  fun__law_name : ∃ f fd, Fun K "_law_name" "_law_name" s__law_name f fd ∧ mg "_law_name" = some (.ref f) ∧ Binds K fd ["row"] []
  fun__law_names : ∃ f fd, Fun K "_law_names" "_law_names" s__law_names f fd ∧ mg "_law_names" = some (.ref f) ∧ Binds K fd ["row", "many"] []
  fun_is_row : ∃ f fd, Fun K "is_row" "is_row" s_is_row f fd ∧ mg "is_row" = some (.ref f) ∧ Binds K fd ["value"] []
  fun_is_name : ∃ f fd, Fun K "is_name" "is_name" s_is_name f fd ∧ mg "is_name" = some (.ref f) ∧ Binds K fd ["value"] []
  fun_is_whole : ∃ f fd, Fun K "is_whole" "is_whole" s_is_whole f fd ∧ mg "is_whole" = some (.ref f) ∧ Binds K fd ["value"] []
  fun_is_number : ∃ f fd, Fun K "is_number" "is_number" s_is_number f fd ∧ mg "is_number" = some (.ref f) ∧ Binds K fd ["value", "least", "most"] []
  fun_is_span : ∃ f fd, Fun K "is_span" "is_span" s_is_span f fd ∧ mg "is_span" = some (.ref f) ∧ Binds K fd ["value"] []
  fun_frozen : ∃ f fd, Fun K "frozen" "frozen" s_frozen f fd ∧ mg "frozen" = some (.ref f) ∧ Binds K fd ["value"] []
  fun_want_row : ∃ f fd, Fun K "want_row" "want_row" s_want_row f fd ∧ mg "want_row" = some (.ref f) ∧ Binds K fd ["value", "is_item", "most"] []
  met_Needs___init__ : ∃ f fd, Fun K "__init__" "Needs.__init__" s_Needs___init__ f fd ∧ Mk K (T.cls 4) f ∧ Binds K fd ["self", "spans"] []
  fun__law_mixed : ∃ f fd, Fun K "_law_mixed" "_law_mixed" s__law_mixed f fd ∧ mg "_law_mixed" = some (.ref f) ∧ Binds K fd ["row", "value"] []
  fun__law_alike : ∃ f fd, Fun K "_law_alike" "_law_alike" s__law_alike f fd ∧ mg "_law_alike" = some (.ref f) ∧ Binds K fd ["found", "due"] []
  met_Needs___eq__ : ∃ f fd, Fun K "__eq__" "Needs.__eq__" s_Needs___eq__ f fd ∧ Meth K (T.cls 4) "__eq__" f ∧ Binds K fd ["self", "other"] [] ∧ NeC K (T.cls 4) f
  met_Needs_visits : ∃ f fd, Fun K "visits" "Needs.visits" s_Needs_visits f fd ∧ Meth K (T.cls 4) "visits" f ∧ Binds K fd ["self"] []
  met_Needs_paper : ∃ f fd, Fun K "paper" "Needs.paper" s_Needs_paper f fd ∧ Meth K (T.cls 4) "paper" f ∧ Binds K fd ["self"] []
  met_Needs_is_served : ∃ f fd, Fun K "is_served" "Needs.is_served" s_Needs_is_served f fd ∧ Meth K (T.cls 4) "is_served" f ∧ Binds K fd ["self", "ticks"] []
  fun_meet : ∃ f fd, Fun K "meet" "meet" s_meet f fd ∧ mg "meet" = some (.ref f) ∧ Binds K fd ["one", "other"] []
  met_Needs_is_paper : ∃ f fd, Fun K "is_paper" "Needs.is_paper" s_Needs_is_paper f fd ∧ Meth K (T.cls 4) "is_paper" f ∧ Binds K fd ["self", "value"] []
  met_Needs_unserved : ∃ f fd, Fun K "unserved" "Needs.unserved" s_Needs_unserved f fd ∧ Meth K (T.cls 4) "unserved" f ∧ Binds K fd ["self", "ticks"] []
  fun__law_pairs : ∃ f fd, Fun K "_law_pairs" "_law_pairs" s__law_pairs f fd ∧ mg "_law_pairs" = some (.ref f) ∧ Binds K fd ["firsts", "seconds"] []
  fun__law_rows : ∃ f fd, Fun K "_law_rows" "_law_rows" s__law_rows f fd ∧ mg "_law_rows" = some (.ref f) ∧ Binds K fd ["many", "top"] []
  fun__law_good : ∃ f fd, Fun K "_law_good" "_law_good" s__law_good f fd ∧ mg "_law_good" = some (.ref f) ∧ Binds K fd ["spans", "ticks"] []
  fun__law_truth : ∃ f fd, Fun K "_law_truth" "_law_truth" s__law_truth f fd ∧ mg "_law_truth" = some (.ref f) ∧ Binds K fd ["found", "due"] []
  met_Needs_late_by : ∃ f fd, Fun K "late_by" "Needs.late_by" s_Needs_late_by f fd ∧ Meth K (T.cls 4) "late_by" f ∧ Binds K fd ["self", "ticks"] []
  met_Needs_served_by : ∃ f fd, Fun K "served_by" "Needs.served_by" s_Needs_served_by f fd ∧ Meth K (T.cls 4) "served_by" f ∧ Binds K fd ["self", "tick"] []
  met_Needs_tries : ∃ f fd, Fun K "tries" "Needs.tries" s_Needs_tries f fd ∧ Meth K (T.cls 4) "tries" f ∧ Binds K fd ["self", "row", "left", "wait"] []
  met_Needs_gentle : ∃ f fd, Fun K "gentle" "Needs.gentle" s_Needs_gentle f fd ∧ Meth K (T.cls 4) "gentle" f ∧ Binds K fd ["self", "wait"] []
  met_Needs_without : ∃ f fd, Fun K "without" "Needs.without" s_Needs_without f fd ∧ Meth K (T.cls 4) "without" f ∧ Binds K fd ["self", "at"] []
  met_Needs_needed : ∃ f fd, Fun K "needed" "Needs.needed" s_Needs_needed f fd ∧ Meth K (T.cls 4) "needed" f ∧ Binds K fd ["self"] []
  fun_want_number : ∃ f fd, Fun K "want_number" "want_number" s_want_number f fd ∧ mg "want_number" = some (.ref f) ∧ Binds K fd ["value", "least", "most"] []
  fun_spans_of : ∃ f fd, Fun K "spans_of" "spans_of" s_spans_of f fd ∧ mg "spans_of" = some (.ref f) ∧ Binds K fd ["changes", "patience", "end"] []
  fun__law_rest : ∃ f fd, Fun K "_law_rest" "_law_rest" s__law_rest f fd ∧ mg "_law_rest" = some (.ref f) ∧ Binds K fd ["row", "made", "spans", "visits", "names"] []
  fun_law : ∃ f fd, Fun K "law" "law" s_law f fd ∧ mg "law" = some (.ref f) ∧ Binds K fd ["script"] []
  cl_Needs : Cls K (T.cls 4)
  mgc_Needs : mg "Needs" = some (.ref (T.cls 4))
  na_Needs_spans : NoAttr K (T.cls 4) "spans"
  isC : IsC K T [4]
  fv_is_span : mg "is_span" = some (.ref (T.fnA 0))
  x_BadItem : mg "BadItem" = some (.ref (T.cls 2)) ∧ PySem.GX.XTxt P K mg (T.cls 2) (T.fnA 102) "index"
  xf_BadItem : XfC K (T.cls 2)
  xn_BadItem_index : PySem.W.findIn K (.ref (T.cls 2)) "index" = some none
  x_BadNumber : mg "BadNumber" = some (.ref (T.cls 1)) ∧ PySem.GX.XTxt P K mg (T.cls 1) (T.fnA 101) "value"
  xf_BadNumber : XfC K (T.cls 1)
  xn_BadNumber_value : PySem.W.findIn K (.ref (T.cls 1)) "value" = some none
  x_TooMany : mg "TooMany" = some (.ref (T.cls 3)) ∧ PySem.GX.XTxt P K mg (T.cls 3) (T.fnA 103) "limit"
  xf_TooMany : XfC K (T.cls 3)
  xn_TooMany_limit : PySem.W.findIn K (.ref (T.cls 3)) "limit" = some none
  exm_BadItem : ∀ p ∈ ([(1, false), (2, true), (3, false)] : List (Nat × Bool)), PySem.W.exmOne K (.ref (T.cls p.1)) (.ref (T.cls 2)) = some p.2
  exm_BadNumber : ∀ p ∈ ([(1, true), (2, false), (3, false)] : List (Nat × Bool)), PySem.W.exmOne K (.ref (T.cls p.1)) (.ref (T.cls 1)) = some p.2
  exm_TooMany : ∀ p ∈ ([(1, false), (2, false), (3, true)] : List (Nat × Bool)), PySem.W.exmOne K (.ref (T.cls p.1)) (.ref (T.cls 3)) = some p.2
theorem fn_index : PySem.GX.FName "index" := ⟨fun _ _ _ _ _ _ _ _ _ _ _ _ _ _ _ _ _ _ _ _ _ _ e hl => by subst e; exact PySem.GX.he_of hl rfl, by decide +kernel, by decide +kernel, by decide +kernel, by decide +kernel, by decide +kernel, fun _ _ _ _ _ _ => rfl, fun _ _ _ _ _ _ _ _ _ _ _ _ _ _ _ _ _ _ _ _ _ _ => BindsTo.of_eq (by first | rfl | with_unfolding_all rfl)⟩
theorem fn_limit : PySem.GX.FName "limit" := ⟨fun _ _ _ _ _ _ _ _ _ _ _ _ _ _ _ _ _ _ _ _ _ _ e hl => by subst e; exact PySem.GX.he_of hl rfl, by decide +kernel, by decide +kernel, by decide +kernel, by decide +kernel, by decide +kernel, fun _ _ _ _ _ _ => rfl, fun _ _ _ _ _ _ _ _ _ _ _ _ _ _ _ _ _ _ _ _ _ _ => BindsTo.of_eq (by first | rfl | with_unfolding_all rfl)⟩
theorem fn_value : PySem.GX.FName "value" := ⟨fun _ _ _ _ _ _ _ _ _ _ _ _ _ _ _ _ _ _ _ _ _ _ e hl => by subst e; exact PySem.GX.he_of hl rfl, by decide +kernel, by decide +kernel, by decide +kernel, by decide +kernel, by decide +kernel, fun _ _ _ _ _ _ => rfl, fun _ _ _ _ _ _ _ _ _ _ _ _ _ _ _ _ _ _ _ _ _ _ => BindsTo.of_eq (by first | rfl | with_unfolding_all rfl)⟩
section
variable {P : Program} {w : World} {K : PySem.W.Frag} {mg : Str → Option Value} {base : Heap} {T : Tab}
noncomputable def b__law_taken_1_1 : Sm := sSet 3 (eOp2 dMod (eOpN dInt (esCons (eOp2 dIx (eVar 0) (eC (.int 3))) esNil)) (eVar 1))
noncomputable def b__law_taken_1_2 : Sm := sSetIx (eVar 0) (eC (.int 3)) (eOp2 dDiv (eOp2 dIx (eVar 0) (eC (.int 3))) (eVar 1))
noncomputable def b__law_taken_1_3 : Sm := sRet (eVar 3)
noncomputable def b__law_taken_1 : Sm := sIf (tBl (eOp2 dGt (eOp2 dIx (eVar 0) (eC (.int 3))) (eC (.int 0)))) (sSeq b__law_taken_1_1 (sSeq b__law_taken_1_2 b__law_taken_1_3)) sNop
noncomputable def b__law_taken_2 : Sm := sSetIx (eVar 0) (eC (.int 1)) (eOp2 dAdd (eOp2 dIx (eVar 0) (eC (.int 1))) (eC (.int 1)))
noncomputable def b__law_taken_3_1 : Sm := sSetIx (eVar 0) (eC (.int 2)) (eOp2 dMod (eOpN dInt (esCons (eOp2 dAdd (eOp2 dMul (eOp2 dIx (eVar 0) (eC (.int 2))) (eC (.int 48271))) (eC (.int 11))) esNil)) (eC (.int 2147483647)))
noncomputable def b__law_taken_3_2 : Sm := sRet (eOp2 dMod (eOpN dInt (esCons (eOp2 dDiv (eOp2 dIx (eVar 0) (eC (.int 2))) (eC (.int 7))) esNil)) (eVar 1))
noncomputable def b__law_taken_3 : Sm := sIf (tBl (eOp2 dGt (eOp2 dIx (eVar 0) (eC (.int 1))) (eOpN dLen (esCons (eOp2 dIx (eVar 0) (eC (.int 0))) esNil)))) (sSeq b__law_taken_3_1 b__law_taken_3_2) sNop
noncomputable def b__law_taken_4 : Sm := sSet 2 (eOp2 dIx (eOp2 dIx (eVar 0) (eC (.int 0))) (eOp2 dSub (eOp2 dIx (eVar 0) (eC (.int 1))) (eC (.int 1))))
noncomputable def b__law_taken_5 : Sm := sSetIx (eVar 0) (eC (.int 2)) (eOp2 dMod (eOpN dInt (esCons (eOp2 dAdd (eOp2 dAdd (eOp2 dMul (eOp2 dIx (eVar 0) (eC (.int 2))) (eC (.int 48271))) (eVar 2)) (eC (.int 11))) esNil)) (eC (.int 2147483647)))
noncomputable def b__law_taken_6_1 : Sm := sSetIx (eVar 0) (eC (.int 3)) (eOp2 dDiv (eVar 2) (eVar 1))
noncomputable def b__law_taken_6 : Sm := sIf (tBl (eOp2 dGe (eVar 2) (eOp2 dPow (eC (.int 10)) (eC (.int 18))))) b__law_taken_6_1 sNop
noncomputable def b__law_taken_7 : Sm := sRet (eOp2 dMod (eOpN dInt (esCons (eVar 2) esNil)) (eVar 1))
noncomputable def b__law_taken : Sm :=
  (sSeq b__law_taken_1 (sSeq b__law_taken_2 (sSeq b__law_taken_3 (sSeq b__law_taken_4 (sSeq b__law_taken_5 (sSeq b__law_taken_6 b__law_taken_7))))))
theorem b__law_taken_eq : b__law_taken = (sSeq (sIf (tBl (eOp2 dGt (eOp2 dIx (eVar 0) (eC (.int 3))) (eC (.int 0)))) (sSeq (sSet 3 (eOp2 dMod (eOpN dInt (esCons (eOp2 dIx (eVar 0) (eC (.int 3))) esNil)) (eVar 1))) (sSeq (sSetIx (eVar 0) (eC (.int 3)) (eOp2 dDiv (eOp2 dIx (eVar 0) (eC (.int 3))) (eVar 1))) (sRet (eVar 3)))) sNop) (sSeq (sSetIx (eVar 0) (eC (.int 1)) (eOp2 dAdd (eOp2 dIx (eVar 0) (eC (.int 1))) (eC (.int 1)))) (sSeq (sIf (tBl (eOp2 dGt (eOp2 dIx (eVar 0) (eC (.int 1))) (eOpN dLen (esCons (eOp2 dIx (eVar 0) (eC (.int 0))) esNil)))) (sSeq (sSetIx (eVar 0) (eC (.int 2)) (eOp2 dMod (eOpN dInt (esCons (eOp2 dAdd (eOp2 dMul (eOp2 dIx (eVar 0) (eC (.int 2))) (eC (.int 48271))) (eC (.int 11))) esNil)) (eC (.int 2147483647)))) (sRet (eOp2 dMod (eOpN dInt (esCons (eOp2 dDiv (eOp2 dIx (eVar 0) (eC (.int 2))) (eC (.int 7))) esNil)) (eVar 1)))) sNop) (sSeq (sSet 2 (eOp2 dIx (eOp2 dIx (eVar 0) (eC (.int 0))) (eOp2 dSub (eOp2 dIx (eVar 0) (eC (.int 1))) (eC (.int 1))))) (sSeq (sSetIx (eVar 0) (eC (.int 2)) (eOp2 dMod (eOpN dInt (esCons (eOp2 dAdd (eOp2 dAdd (eOp2 dMul (eOp2 dIx (eVar 0) (eC (.int 2))) (eC (.int 48271))) (eVar 2)) (eC (.int 11))) esNil)) (eC (.int 2147483647)))) (sSeq (sIf (tBl (eOp2 dGe (eVar 2) (eOp2 dPow (eC (.int 10)) (eC (.int 18))))) (sSetIx (eVar 0) (eC (.int 3)) (eOp2 dDiv (eVar 2) (eVar 1))) sNop) (sRet (eOp2 dMod (eOpN dInt (esCons (eVar 2) esNil)) (eVar 1))))))))) := rfl
noncomputable def d__law_taken : FnD := runFn 2 4 b__law_taken
theorem D__law_taken (Tx : Txt P K mg T) : DefI P w K mg base T.base 1 "_law_taken" d__law_taken := by
  obtain ⟨f, fd, F, hm, hb⟩ := Tx.fun__law_taken
  exact ⟨f, fd, _, FnG.scope (fnU_i (k := 0) (m := 4) (b := b__law_taken) F sc__law_taken rfl rfl fun cdv A outer s H E hroom tk =>
      (s_cons (s_if (i_tcmp o_gt (i_ix o_ix (iv 0) i_int (fun _ _ => rfl)) i_int rfl) (s_cons (s_set (i := 3) sc__law_taken.nd rfl (by first | exact Or.inl rfl | exact Or.inr rfl) (i_bin o_mod (i_callTy o_int rfl Tx.mg_int (by decide +kernel) (a_cons (i_ix o_ix (iv 0) i_int (fun _ _ => rfl)) a_nil)) (iv 1)))
      (s_cons (s_setIx (iv 0) i_int (i_bin o_div (i_ix o_ix (iv 0) i_int (fun _ _ => rfl)) (iv 1)))
      (s_one (s_ret (iv 3))))) s_nil)
      (s_cons (s_setIx (iv 0) i_int (i_bin o_add (i_ix o_ix (iv 0) i_int (fun _ _ => rfl)) i_int))
      (s_cons (s_if (i_tcmp o_gt (i_ix o_ix (iv 0) i_int (fun _ _ => rfl)) (i_callB o_len rfl Tx.mg_len (by decide +kernel) (a_cons (i_ix o_ix (iv 0) i_int (fun _ _ => rfl)) a_nil)) rfl) (s_cons (s_setIx (iv 0) i_int (i_bin o_mod (i_callTy o_int rfl Tx.mg_int (by decide +kernel) (a_cons (i_bin o_add (i_bin o_mul (i_ix o_ix (iv 0) i_int (fun _ _ => rfl)) i_int) i_int) a_nil)) i_int))
      (s_one (s_ret (i_bin o_mod (i_callTy o_int rfl Tx.mg_int (by decide +kernel) (a_cons (i_bin o_div (i_ix o_ix (iv 0) i_int (fun _ _ => rfl)) i_int) a_nil)) (iv 1))))) s_nil)
      (s_cons (s_set (i := 2) sc__law_taken.nd rfl (by first | exact Or.inl rfl | exact Or.inr rfl) (i_ix o_ix (i_ix o_ix (iv 0) i_int (fun _ _ => rfl)) (i_bin o_sub (i_ix o_ix (iv 0) i_int (fun _ _ => rfl)) i_int) (fun _ _ => rfl)))
      (s_cons (s_setIx (iv 0) i_int (i_bin o_mod (i_callTy o_int rfl Tx.mg_int (by decide +kernel) (a_cons (i_bin o_add (i_bin o_add (i_bin o_mul (i_ix o_ix (iv 0) i_int (fun _ _ => rfl)) i_int) (iv 2)) i_int) a_nil)) i_int))
      (s_cons (s_if (i_tcmp o_ge (iv 2) (i_bin o_pow i_int i_int) rfl) (s_one (s_setIx (iv 0) i_int (i_bin o_div (iv 2) (iv 1)))) s_nil)
      (s_one (s_ret (i_bin o_mod (i_callTy o_int rfl Tx.mg_int (by decide +kernel) (a_cons (iv 2) a_nil)) (iv 1))))))))))), hm, F.kp, hb⟩
noncomputable def b__law_pick_1 : Sm := sRet (eOp2 dIx (eVar 1) (eCall d__law_taken (esCons (eVar 0) (esCons (eOpN dLen (esCons (eVar 1) esNil)) esNil))))
noncomputable def b__law_pick : Sm :=
  b__law_pick_1
theorem b__law_pick_eq : b__law_pick = (sRet (eOp2 dIx (eVar 1) (eCall d__law_taken (esCons (eVar 0) (esCons (eOpN dLen (esCons (eVar 1) esNil)) esNil))))) := rfl
noncomputable def d__law_pick : FnD := runFn 2 2 b__law_pick
theorem D__law_pick (Tx : Txt P K mg T) : DefI P w K mg base T.base 2 "_law_pick" d__law_pick := by
  obtain ⟨f, fd, F, hm, hb⟩ := Tx.fun__law_pick
  have H__law_taken : DefI P w K mg base T.base 1 "_law_taken" d__law_taken := D__law_taken Tx
  exact ⟨f, fd, _, FnG.scope (fnU_i (k := 1) (m := 2) (b := b__law_pick) F sc__law_pick rfl rfl fun cdv A outer s H E hroom tk =>
      (s_one (s_ret (i_ix o_ix (iv 1) (i_call H__law_taken (hroom.mono (by decide)) tk rfl (a_cons (iv 0) (a_cons (i_callB o_len rfl Tx.mg_len (by decide +kernel) (a_cons (iv 1) a_nil)) a_nil))) (fun _ _ => rfl))))), hm, F.kp, hb⟩
noncomputable def b__law_name_1 : Sm := sSet 1 (eC (.str "abcdefghijklmnopqrstuvwxyz0123456789"))
noncomputable def b__law_name_2 : Sm := sSet 2 (eCall d__law_pick (esCons (eVar 0) (esCons (eOpN dLst (esCons (eC (.int 1)) (esCons (eC (.int 1)) (esCons (eC (.int 2)) (esCons (eC (.int 3)) (esCons (eC (.int 5)) (esCons (eC (.int 12)) esNil))))))) esNil)))
noncomputable def b__law_name_3 : Sm := sSet 3 (eOp2 dIx (eVar 1) (eCall d__law_taken (esCons (eVar 0) (esCons (eC (.int 26)) esNil))))
noncomputable def b__law_name_4_1 : Sm := sSet 3 (eOp2 dAdd (eVar 3) (eOp2 dIx (eVar 1) (eCall d__law_taken (esCons (eVar 0) (esCons (eC (.int 36)) esNil)))))
noncomputable def b__law_name_4 : Sm := sFor (iRange1 (esCons (eOp2 dSub (eVar 2) (eC (.int 1))) esNil)) (.name 4) b__law_name_4_1
noncomputable def b__law_name_5 : Sm := sRet (eVar 3)
noncomputable def b__law_name : Sm :=
  (sSeq b__law_name_1 (sSeq b__law_name_2 (sSeq b__law_name_3 (sSeq b__law_name_4 b__law_name_5))))
theorem b__law_name_eq : b__law_name = (sSeq (sSet 1 (eC (.str "abcdefghijklmnopqrstuvwxyz0123456789"))) (sSeq (sSet 2 (eCall d__law_pick (esCons (eVar 0) (esCons (eOpN dLst (esCons (eC (.int 1)) (esCons (eC (.int 1)) (esCons (eC (.int 2)) (esCons (eC (.int 3)) (esCons (eC (.int 5)) (esCons (eC (.int 12)) esNil))))))) esNil)))) (sSeq (sSet 3 (eOp2 dIx (eVar 1) (eCall d__law_taken (esCons (eVar 0) (esCons (eC (.int 26)) esNil))))) (sSeq (sFor (iRange1 (esCons (eOp2 dSub (eVar 2) (eC (.int 1))) esNil)) (.name 4) (sSet 3 (eOp2 dAdd (eVar 3) (eOp2 dIx (eVar 1) (eCall d__law_taken (esCons (eVar 0) (esCons (eC (.int 36)) esNil))))))) (sRet (eVar 3)))))) := rfl
noncomputable def d__law_name : FnD := runFn 1 5 b__law_name
theorem D__law_name (Tx : Txt P K mg T) : DefI P w K mg base T.base 3 "_law_name" d__law_name := by
  obtain ⟨f, fd, F, hm, hb⟩ := Tx.fun__law_name
  have H__law_pick : DefI P w K mg base T.base 2 "_law_pick" d__law_pick := D__law_pick Tx
  have H__law_taken : DefI P w K mg base T.base 1 "_law_taken" d__law_taken := D__law_taken Tx
  exact ⟨f, fd, _, FnG.scope (fnU_i (k := 2) (m := 5) (b := b__law_name) F sc__law_name rfl rfl fun cdv A outer s H E hroom tk =>
      (s_cons (s_set (i := 1) sc__law_name.nd rfl (by first | exact Or.inl rfl | exact Or.inr rfl) i_str)
      (s_cons (s_set (i := 2) sc__law_name.nd rfl (by first | exact Or.inl rfl | exact Or.inr rfl) (i_call H__law_pick (hroom.mono (by decide)) tk rfl (a_cons (iv 0) (a_cons (i_lst (a_cons i_int (a_cons i_int (a_cons i_int (a_cons i_int (a_cons i_int (a_cons i_int a_nil))))))) a_nil))))
      (s_cons (s_set (i := 3) sc__law_name.nd rfl (by first | exact Or.inl rfl | exact Or.inr rfl) (i_ix o_ix (iv 1) (i_call H__law_taken (hroom.mono (by decide)) tk rfl (a_cons (iv 0) (a_cons i_int a_nil))) (fun _ _ => rfl)))
      (s_cons (s_for (passes_of rfl) rfl (it_range1 rfl Tx.mg_range (a_cons (i_bin o_sub (iv 2) i_int) a_nil)) (g_name sc__law_name.nd (i := 4) rfl (by first | exact Or.inl rfl | exact Or.inr rfl)) (s_one (s_set (i := 3) sc__law_name.nd rfl (by first | exact Or.inl rfl | exact Or.inr rfl) (i_bin o_add (iv 3) (i_ix o_ix (iv 1) (i_call H__law_taken (hroom.mono (by decide)) tk rfl (a_cons (iv 0) (a_cons i_int a_nil))) (fun _ _ => rfl))))))
      (s_one (s_ret (iv 3)))))))), hm, F.kp, hb⟩
noncomputable def b__law_names_1 : Sm := sSet 2 (eOpN dNew esNil)
noncomputable def b__law_names_2_1 : Sm := sSet 4 (eCall d__law_name (esCons (eVar 0) esNil))
noncomputable def b__law_names_2_2 : Sm := sSet 5 (eOp2 dAdd (eOpN dLst (esCons (eVar 4) esNil)) (eComp [6] (iRange1 (esCons (eC (.int 100)) esNil)) (.name 6) tYesD (eOp2 dAdd (eSl (eVar 4) eoNone (eoSome (eC (.int 9)))) (eOpN dStr (esCons (eVar 6) esNil)))))
noncomputable def b__law_names_2_3 : Sm := sExpr (eBM isLst dAppend (eVar 2) (esCons (eOp2 dIx (eComp [7] (iVal (eVar 5)) (.name 7) (tBl (eOp2 dNotIn (eVar 7) (eVar 2))) (eVar 7)) (eC (.int 0))) esNil))
noncomputable def b__law_names_2 : Sm := sFor (iRange1 (esCons (eVar 1) esNil)) (.name 3) (sSeq b__law_names_2_1 (sSeq b__law_names_2_2 b__law_names_2_3))
noncomputable def b__law_names_3 : Sm := sRet (eFrz (eVar 2))
noncomputable def b__law_names : Sm :=
  (sSeq b__law_names_1 (sSeq b__law_names_2 b__law_names_3))
theorem b__law_names_eq : b__law_names = (sSeq (sSet 2 (eOpN dNew esNil)) (sSeq (sFor (iRange1 (esCons (eVar 1) esNil)) (.name 3) (sSeq (sSet 4 (eCall d__law_name (esCons (eVar 0) esNil))) (sSeq (sSet 5 (eOp2 dAdd (eOpN dLst (esCons (eVar 4) esNil)) (eComp [6] (iRange1 (esCons (eC (.int 100)) esNil)) (.name 6) tYesD (eOp2 dAdd (eSl (eVar 4) eoNone (eoSome (eC (.int 9)))) (eOpN dStr (esCons (eVar 6) esNil)))))) (sExpr (eBM isLst dAppend (eVar 2) (esCons (eOp2 dIx (eComp [7] (iVal (eVar 5)) (.name 7) (tBl (eOp2 dNotIn (eVar 7) (eVar 2))) (eVar 7)) (eC (.int 0))) esNil)))))) (sRet (eFrz (eVar 2))))) := rfl
noncomputable def d__law_names : FnD := runFn 2 8 b__law_names
theorem D__law_names (Tx : Txt P K mg T) : DefI P w K mg base T.base 4 "_law_names" d__law_names := by
  obtain ⟨f, fd, F, hm, hb⟩ := Tx.fun__law_names
  have H__law_name : DefI P w K mg base T.base 3 "_law_name" d__law_name := D__law_name Tx
  exact ⟨f, fd, _, FnG.scope (fnU_i (k := 3) (m := 8) (b := b__law_names) F sc__law_names rfl rfl fun cdv A outer s H E hroom tk =>
      (s_cons (s_set (i := 2) sc__law_names.nd rfl (by first | exact Or.inl rfl | exact Or.inr rfl) (i_new a_nil))
      (s_cons (s_for (passes_of rfl) rfl (it_range1 rfl Tx.mg_range (a_cons (iv 1) a_nil)) (g_name sc__law_names.nd (i := 3) rfl (by first | exact Or.inl rfl | exact Or.inr rfl)) (s_cons (s_set (i := 4) sc__law_names.nd rfl (by first | exact Or.inl rfl | exact Or.inr rfl) (i_call H__law_name (hroom.mono (by decide)) tk rfl (a_cons (iv 0) a_nil)))
      (s_cons (s_set (i := 5) sc__law_names.nd rfl (by first | exact Or.inl rfl | exact Or.inr rfl) (i_bin o_add (i_lst (a_cons (iv 4) a_nil)) (i_comp (own := [("turn", 6)]) rfl sc__law_names.nd (it_range1 rfl Tx.mg_range (a_cons i_int a_nil)) (blkOk_by (by kernel_rfl)) (fun _ _ _ _ _ => (g_name sc__law_names.nd (i := 6) rfl (by first | exact Or.inl rfl | exact Or.inr rfl))) (fun _ _ _ _ _ => q_nil) (fun _ _ _ _ _ => (i_bin o_add (i_slice (iv 4) oi_none (oi_some i_int)) (i_callTy o_str rfl Tx.mg_str (by decide +kernel) (a_cons (iv 6) a_nil)))))))
      (s_one (s_expr (i_lm PySem.F.slot_list_append PySem.F.type_list_append m_append (iv 2) (a_cons (i_ix o_ix (i_comp (own := [("one", 7)]) rfl sc__law_names.nd (it_val (iv 5)) (blkOk_by (by kernel_rfl)) (fun _ _ _ _ _ => (g_name sc__law_names.nd (i := 7) rfl (by first | exact Or.inl rfl | exact Or.inr rfl))) (fun _ _ _ _ _ => q_one (i_tcmp (o_notin (hu65 hroom)) (iv 7) (iv 2) rfl)) (fun _ _ _ _ _ => (iv 7))) i_int (fun _ _ => rfl)) a_nil)))))))
      (s_one (s_ret (i_frz (iv 2))))))), hm, F.kp, hb⟩
noncomputable def b_is_row_1 : Sm := sRet (eIsT (eVar 0) (esCons (eC (.ty .list)) (esCons (eC (.ty .tuple)) esNil)))
noncomputable def b_is_row : Sm :=
  b_is_row_1
theorem b_is_row_eq : b_is_row = (sRet (eIsT (eVar 0) (esCons (eC (.ty .list)) (esCons (eC (.ty .tuple)) esNil)))) := rfl
noncomputable def d_is_row : FnD := runFn 1 1 b_is_row
theorem D_is_row (Tx : Txt P K mg T) : DefI P w K mg base T.base 1 "is_row" d_is_row := by
  obtain ⟨f, fd, F, hm, hb⟩ := Tx.fun_is_row
  exact ⟨f, fd, _, FnG.scope (fnU_i (k := 0) (m := 1) (b := b_is_row) F sc_is_row rfl rfl fun cdv A outer s H E hroom tk =>
      (s_one (s_ret (i_isT (iv 0) (a_cons (i_bty .list rfl Tx.mg_list (by decide +kernel)) (a_cons (i_bty .tuple rfl Tx.mg_tuple (by decide +kernel)) a_nil)) rfl Tx.mg_isinstance)))), hm, F.kp, hb⟩
noncomputable def b_is_name_1_1 : Sm := sRet (eC (.bl false))
noncomputable def b_is_name_1 : Sm := sIf (tOr (tNot (tOf (eOpN dIsi (esCons (eVar 0) (esCons (eC (.ty .str)) esNil))))) (tOr (tNot (tBl (eChain dLe dLe (eC (.int 1)) (eOpN dLen (esCons (eVar 0) esNil)) (eC (.int (12)))))) ((tBl (eOp2 dNotIn (eOp2 dIx (eVar 0) (eC (.int 0))) (eC (.str "abcdefghijklmnopqrstuvwxyz"))))))) b_is_name_1_1 sNop
noncomputable def b_is_name_2 : Sm := sRet (eOpN dAll (esCons (eComp [1] (iVal (eVar 0)) (.name 1) tYesD (eOr (eOp2 dIn (eVar 1) (eC (.str "abcdefghijklmnopqrstuvwxyz"))) ((eOp2 dIn (eVar 1) (eC (.str "0123456789")))))) esNil))
noncomputable def b_is_name : Sm :=
  (sSeq b_is_name_1 b_is_name_2)
theorem b_is_name_eq : b_is_name = (sSeq (sIf (tOr (tNot (tOf (eOpN dIsi (esCons (eVar 0) (esCons (eC (.ty .str)) esNil))))) (tOr (tNot (tBl (eChain dLe dLe (eC (.int 1)) (eOpN dLen (esCons (eVar 0) esNil)) (eC (.int (12)))))) ((tBl (eOp2 dNotIn (eOp2 dIx (eVar 0) (eC (.int 0))) (eC (.str "abcdefghijklmnopqrstuvwxyz"))))))) (sRet (eC (.bl false))) sNop) (sRet (eOpN dAll (esCons (eComp [1] (iVal (eVar 0)) (.name 1) tYesD (eOr (eOp2 dIn (eVar 1) (eC (.str "abcdefghijklmnopqrstuvwxyz"))) ((eOp2 dIn (eVar 1) (eC (.str "0123456789")))))) esNil)))) := rfl
noncomputable def d_is_name : FnD := runFn 1 2 b_is_name
theorem D_is_name (Tx : Txt P K mg T) : DefI P w K mg base T.base 1 "is_name" d_is_name := by
  obtain ⟨f, fd, F, hm, hb⟩ := Tx.fun_is_name
  exact ⟨f, fd, _, FnG.scope (fnU_i (k := 0) (m := 2) (b := b_is_name) F sc_is_name rfl rfl fun cdv A outer s H E hroom tk =>
      (s_cons (s_if (i_w (i_tor (i_tnot (i_truth (i_callB o_isi rfl Tx.mg_isinstance PyProof.Rows.boot_isinstance (a_cons (iv 0) (a_cons (i_bty .str rfl Tx.mg_str (by decide +kernel)) a_nil))))) (i_tor (i_tnot (t_chain o_le o_le i_int (i_callB o_len rfl Tx.mg_len (by decide +kernel) (a_cons (iv 0) a_nil)) (i_gint rfl Tx.con_LONGEST_NAME))) (i_or1 (i_tcmp (o_notin (hu65 hroom)) (i_ix o_ix (iv 0) i_int (fun _ _ => rfl)) (i_gstr rfl Tx.con_LETTERS) rfl))))) (s_one (s_ret i_bl)) s_nil)
      (s_one (s_ret (i_callB (o_all rfl) rfl Tx.mg_all (by decide +kernel) (a_cons (i_comp (own := [("sign", 1)]) rfl sc_is_name.nd (it_val (iv 0)) (blkOk_by (by kernel_rfl)) (fun _ _ _ _ _ => (g_name sc_is_name.nd (i := 1) rfl (by first | exact Or.inl rfl | exact Or.inr rfl))) (fun _ _ _ _ _ => q_nil) (fun _ _ _ _ _ => (i_or (i_cmp (o_in (hu65 hroom)) (iv 1) (i_gstr rfl Tx.con_LETTERS) rfl) (i_one (i_cmp (o_in (hu65 hroom)) (iv 1) (i_gstr rfl Tx.con_FIGURES) rfl))))) a_nil)))))), hm, F.kp, hb⟩
noncomputable def b_is_whole_1 : Sm := sRet (eAnd (eOpN dIsi (esCons (eVar 0) (esCons (eC (.ty .int)) esNil))) ((eNot (eOpN dIsi (esCons (eVar 0) (esCons (eC (.ty .bool)) esNil))))))
noncomputable def b_is_whole : Sm :=
  b_is_whole_1
theorem b_is_whole_eq : b_is_whole = (sRet (eAnd (eOpN dIsi (esCons (eVar 0) (esCons (eC (.ty .int)) esNil))) ((eNot (eOpN dIsi (esCons (eVar 0) (esCons (eC (.ty .bool)) esNil))))))) := rfl
noncomputable def d_is_whole : FnD := runFn 1 1 b_is_whole
theorem D_is_whole (Tx : Txt P K mg T) : DefI P w K mg base T.base 1 "is_whole" d_is_whole := by
  obtain ⟨f, fd, F, hm, hb⟩ := Tx.fun_is_whole
  exact ⟨f, fd, _, FnG.scope (fnU_i (k := 0) (m := 1) (b := b_is_whole) F sc_is_whole rfl rfl fun cdv A outer s H E hroom tk =>
      (s_one (s_ret (i_and (i_callB o_isi rfl Tx.mg_isinstance PyProof.Rows.boot_isinstance (a_cons (iv 0) (a_cons (i_bty .int rfl Tx.mg_int (by decide +kernel)) a_nil))) (i_one (i_not (i_callB o_isi rfl Tx.mg_isinstance PyProof.Rows.boot_isinstance (a_cons (iv 0) (a_cons (i_bty .bool rfl Tx.mg_bool (by decide +kernel)) a_nil))))))))), hm, F.kp, hb⟩
noncomputable def b_is_number_1 : Sm := sRet (eAnd (eCall d_is_whole (esCons (eVar 0) esNil)) ((eChain dLe dLe (eVar 1) (eVar 0) (eVar 2))))
noncomputable def b_is_number : Sm :=
  b_is_number_1
theorem b_is_number_eq : b_is_number = (sRet (eAnd (eCall d_is_whole (esCons (eVar 0) esNil)) ((eChain dLe dLe (eVar 1) (eVar 0) (eVar 2))))) := rfl
noncomputable def d_is_number : FnD := runFn 3 3 b_is_number
theorem D_is_number (Tx : Txt P K mg T) : DefI P w K mg base T.base 2 "is_number" d_is_number := by
  obtain ⟨f, fd, F, hm, hb⟩ := Tx.fun_is_number
  have H_is_whole : DefI P w K mg base T.base 1 "is_whole" d_is_whole := D_is_whole Tx
  exact ⟨f, fd, _, FnG.scope (fnU_i (k := 1) (m := 3) (b := b_is_number) F sc_is_number rfl rfl fun cdv A outer s H E hroom tk =>
      (s_one (s_ret (i_and (i_call H_is_whole (hroom.mono (by decide)) tk rfl (a_cons (iv 0) a_nil)) (i_one (i_chain o_le o_le (iv 1) (iv 0) (iv 2))))))), hm, F.kp, hb⟩
noncomputable def b_is_span_1_1 : Sm := sRet (eC (.bl false))
noncomputable def b_is_span_1 : Sm := sIf (tOr (tNot (tOf (eCall d_is_row (esCons (eVar 0) esNil)))) (tOr (tBl (eOp2 dNe (eOpN dLen (esCons (eVar 0) esNil)) (eC (.int 3)))) (tOr (tNot (tOf (eCall d_is_name (esCons (eOp2 dIx (eVar 0) (eC (.int 0))) esNil)))) ((tNot (tOf (eCall d_is_number (esCons (eOp2 dIx (eVar 0) (eC (.int 1))) (esCons (eC (.int 0)) (esCons (eC (.int (9999))) esNil)))))))))) b_is_span_1_1 sNop
noncomputable def b_is_span_2 : Sm := sRet (eCall d_is_number (esCons (eOp2 dIx (eVar 0) (eC (.int 2))) (esCons (eOp2 dIx (eVar 0) (eC (.int 1))) (esCons (eC (.int (9999))) esNil))))
noncomputable def b_is_span : Sm :=
  (sSeq b_is_span_1 b_is_span_2)
theorem b_is_span_eq : b_is_span = (sSeq (sIf (tOr (tNot (tOf (eCall d_is_row (esCons (eVar 0) esNil)))) (tOr (tBl (eOp2 dNe (eOpN dLen (esCons (eVar 0) esNil)) (eC (.int 3)))) (tOr (tNot (tOf (eCall d_is_name (esCons (eOp2 dIx (eVar 0) (eC (.int 0))) esNil)))) ((tNot (tOf (eCall d_is_number (esCons (eOp2 dIx (eVar 0) (eC (.int 1))) (esCons (eC (.int 0)) (esCons (eC (.int (9999))) esNil)))))))))) (sRet (eC (.bl false))) sNop) (sRet (eCall d_is_number (esCons (eOp2 dIx (eVar 0) (eC (.int 2))) (esCons (eOp2 dIx (eVar 0) (eC (.int 1))) (esCons (eC (.int (9999))) esNil)))))) := rfl
noncomputable def d_is_span : FnD := runFn 1 1 b_is_span
theorem D_is_span (Tx : Txt P K mg T) : DefI P w K mg base T.base 3 "is_span" d_is_span := by
  obtain ⟨f, fd, F, hm, hb⟩ := Tx.fun_is_span
  have H_is_name : DefI P w K mg base T.base 1 "is_name" d_is_name := D_is_name Tx
  have H_is_number : DefI P w K mg base T.base 2 "is_number" d_is_number := D_is_number Tx
  have H_is_row : DefI P w K mg base T.base 1 "is_row" d_is_row := D_is_row Tx
  exact ⟨f, fd, _, FnG.scope (fnU_i (k := 2) (m := 1) (b := b_is_span) F sc_is_span rfl rfl fun cdv A outer s H E hroom tk =>
      (s_cons (s_if (i_w (i_tor (i_tnot (i_truth (i_call H_is_row (hroom.mono (by decide)) tk rfl (a_cons (iv 0) a_nil)))) (i_tor (i_tcmp (o_ne (hu64 hroom)) (i_callB o_len rfl Tx.mg_len (by decide +kernel) (a_cons (iv 0) a_nil)) i_int rfl) (i_tor (i_tnot (i_truth (i_call H_is_name (hroom.mono (by decide)) tk rfl (a_cons (i_ix o_ix (iv 0) i_int (fun _ _ => rfl)) a_nil)))) (i_or1 (i_tnot (i_truth (i_call H_is_number (hroom.mono (by decide)) tk rfl (a_cons (i_ix o_ix (iv 0) i_int (fun _ _ => rfl)) (a_cons i_int (a_cons (i_gint rfl Tx.con_LAST_TICK) a_nil))))))))))) (s_one (s_ret i_bl)) s_nil)
      (s_one (s_ret (i_call H_is_number (hroom.mono (by decide)) tk rfl (a_cons (i_ix o_ix (iv 0) i_int (fun _ _ => rfl)) (a_cons (i_ix o_ix (iv 0) i_int (fun _ _ => rfl)) (a_cons (i_gint rfl Tx.con_LAST_TICK) a_nil)))))))), hm, F.kp, hb⟩
noncomputable def b_frozen_1_1 (self : FnD) : Sm := sRet (eOpN dTupleOf (esCons (eComp [1] (iVal (eVar 0)) (.name 1) tYesD (eCall self (esCons (eVar 1) esNil))) esNil))
noncomputable def b_frozen_1 (self : FnD) : Sm := sIf (tOf (eIsT (eVar 0) (esCons (eC (.ty .list)) (esCons (eC (.ty .tuple)) esNil)))) (b_frozen_1_1 self) sNop
noncomputable def b_frozen_2 (self : FnD) : Sm := sRet (eVar 0)
noncomputable def b_frozen (self : FnD) : Sm :=
  (sSeq (b_frozen_1 self) (b_frozen_2 self))
theorem b_frozen_eq (self : FnD) : b_frozen self = (sSeq (sIf (tOf (eIsT (eVar 0) (esCons (eC (.ty .list)) (esCons (eC (.ty .tuple)) esNil)))) (sRet (eOpN dTupleOf (esCons (eComp [1] (iVal (eVar 0)) (.name 1) tYesD (eCall self (esCons (eVar 1) esNil))) esNil))) sNop) (sRet (eVar 0))) := rfl
noncomputable def d_frozen : Nat → FnD
  | 0 => fun _ _ => .bad
  | n + 1 => runFn 1 2 (b_frozen (d_frozen n))
theorem D_frozen0 (Tx : Txt P K mg T) : ∀ n, DefI P w K mg base T.base (1 + n) "frozen" (d_frozen n)
  | 0 => by
    obtain ⟨f, fd, F, hm, hb⟩ := Tx.fun_frozen
    exact ⟨f, fd, _, FnG.none, hm, F.kp, hb⟩
  | n + 1 => by
    obtain ⟨f, fd, F, hm, hb⟩ := Tx.fun_frozen
    have D_self : DefI P w K mg base T.base (1 + n) "frozen" (d_frozen n) := D_frozen0 Tx n
    exact ⟨f, fd, _, FnG.scope (fnU_i (k := 1 + n) (m := 2) (b := b_frozen (d_frozen n)) F sc_frozen rfl rfl fun cdv A outer s H E hroom tk =>
      (s_cons (s_if (i_truth (i_isT (iv 0) (a_cons (i_bty .list rfl Tx.mg_list (by decide +kernel)) (a_cons (i_bty .tuple rfl Tx.mg_tuple (by decide +kernel)) a_nil)) rfl Tx.mg_isinstance)) (s_one (s_ret (i_callTy o_tuple rfl Tx.mg_tuple (by decide +kernel) (a_cons (i_comp (own := [("part", 1)]) rfl sc_frozen.nd (it_val (iv 0)) (blkOk_by (by kernel_rfl)) (fun _ _ _ _ _ => (g_name sc_frozen.nd (i := 1) rfl (by first | exact Or.inl rfl | exact Or.inr rfl))) (fun _ _ _ _ _ => q_nil) (fun _ _ _ _ _ => (i_call D_self (hroom.mono (by omega)) takes0 rfl (a_cons (iv 1) a_nil)))) a_nil)))) s_nil)
      (s_one (s_ret (iv 0))))), hm, F.kp, hb⟩
theorem D_frozen (Tx : Txt P K mg T) : DefI P w K mg base T.base 13 "frozen" (d_frozen 12) := D_frozen0 Tx 12
noncomputable def tbl_want_row : List (Nat × FnD) := [(0, d_is_span)]
noncomputable def b_want_row_1_1 : Sm := sRaise 2 "index" (esCons (eC .non) esNil)
noncomputable def b_want_row_1 : Sm := sIf (tNot (tOf (eCall d_is_row (esCons (eVar 0) esNil)))) b_want_row_1_1 sNop
noncomputable def b_want_row_2_1_1 : Sm := sRaise 2 "index" (esCons (eVar 3) esNil)
noncomputable def b_want_row_2_1 : Sm := sIf (tNot (tOf (eCallL 1 tbl_want_row (esCons (eVar 4) esNil)))) b_want_row_2_1_1 sNop
noncomputable def b_want_row_2 : Sm := sFor (iEnum (esCons (eVar 0) esNil)) (.tup [(.name 3), (.name 4)]) b_want_row_2_1
noncomputable def b_want_row_3_1 : Sm := sRaise 3 "limit" (esCons (eVar 2) esNil)
noncomputable def b_want_row_3 : Sm := sIf (tBl (eOp2 dGt (eOpN dLen (esCons (eVar 0) esNil)) (eVar 2))) b_want_row_3_1 sNop
noncomputable def b_want_row_4 : Sm := sRet (eCall (d_frozen 12) (esCons (eVar 0) esNil))
noncomputable def b_want_row : Sm :=
  (sSeq b_want_row_1 (sSeq b_want_row_2 (sSeq b_want_row_3 b_want_row_4)))
theorem b_want_row_eq : b_want_row = (sSeq (sIf (tNot (tOf (eCall d_is_row (esCons (eVar 0) esNil)))) (sRaise 2 "index" (esCons (eC .non) esNil)) sNop) (sSeq (sFor (iEnum (esCons (eVar 0) esNil)) (.tup [(.name 3), (.name 4)]) (sIf (tNot (tOf (eCallL 1 tbl_want_row (esCons (eVar 4) esNil)))) (sRaise 2 "index" (esCons (eVar 3) esNil)) sNop)) (sSeq (sIf (tBl (eOp2 dGt (eOpN dLen (esCons (eVar 0) esNil)) (eVar 2))) (sRaise 3 "limit" (esCons (eVar 2) esNil)) sNop) (sRet (eCall (d_frozen 12) (esCons (eVar 0) esNil)))))) := rfl
noncomputable def d_want_row : FnD := runFn 3 5 b_want_row
theorem D_want_row (Tx : Txt P K mg T) : DefI P w K mg base T.base 14 "want_row" d_want_row := by
  obtain ⟨f, fd, F, hm, hb⟩ := Tx.fun_want_row
  have HT : ∀ z ∈ tbl_want_row, FnAt P w K mg base T.base 3 z.1 z.2 := by
    simp only [tbl_want_row, List.mem_cons, List.not_mem_nil, or_false]
    rintro z rfl
    · exact (FnAt.of (D_is_span Tx) Tx.fv_is_span).mono (by decide)
  have H_frozen : DefI P w K mg base T.base 13 "frozen" (d_frozen 12) := D_frozen Tx
  have H_is_row : DefI P w K mg base T.base 1 "is_row" d_is_row := D_is_row Tx
  have H_is_span : DefI P w K mg base T.base 3 "is_span" d_is_span := D_is_span Tx
  exact ⟨f, fd, _, FnG.scope (fnU_i (k := 13) (m := 5) (b := b_want_row) F sc_want_row rfl rfl fun cdv A outer s H E hroom tk =>
      (s_cons (s_if (i_tnot (i_truth (i_call H_is_row (hroom.mono (by decide)) tk rfl (a_cons (iv 0) a_nil)))) (s_one (s_raise (c := 2) rfl Tx.x_BadItem.2 fn_index Tx.x_BadItem.1 hroom.r rfl tk (a_cons i_non a_nil) rfl)) s_nil)
      (s_cons (s_for (passes_of rfl) rfl (it_enum rfl Tx.mg_enumerate (a_cons (iv 0) a_nil)) (g_tup (ts := [(.name 3), (.name 4)]) rfl (g_cons (g_name sc_want_row.nd (i := 3) rfl (by first | exact Or.inl rfl | exact Or.inr rfl)) (g_cons (g_name sc_want_row.nd (i := 4) rfl (by first | exact Or.inl rfl | exact Or.inr rfl)) g_nil))) (s_one (s_if (i_tnot (i_truth (i_callL (tbl := tbl_want_row) (i := 1) HT (hroom.mono (by decide)) tk rfl (by first | exact Or.inl rfl | exact Or.inr (Or.inl rfl) | exact Or.inr (Or.inr rfl)) (a_cons (iv 4) a_nil)))) (s_one (s_raise (c := 2) rfl Tx.x_BadItem.2 fn_index Tx.x_BadItem.1 hroom.r rfl tk (a_cons (iv 3) a_nil) rfl)) s_nil)))
      (s_cons (s_if (i_tcmp o_gt (i_callB o_len rfl Tx.mg_len (by decide +kernel) (a_cons (iv 0) a_nil)) (iv 2) rfl) (s_one (s_raise (c := 3) rfl Tx.x_TooMany.2 fn_limit Tx.x_TooMany.1 hroom.r rfl tk (a_cons (iv 2) a_nil) rfl)) s_nil)
      (s_one (s_ret (i_call H_frozen (hroom.mono (by decide)) tk rfl (a_cons (iv 0) a_nil)))))))), hm, F.kp, hb⟩
noncomputable def b_Needs___init___1 : Sm := sFldSet [4] "spans" (eVar 0) (eCall d_want_row (esCons (eVar 1) (esCons (eC (.fn 0)) (esCons (eC (.int (30))) esNil))))
noncomputable def b_Needs___init__ : Sm :=
  b_Needs___init___1
theorem b_Needs___init___eq : b_Needs___init__ = (sFldSet [4] "spans" (eVar 0) (eCall d_want_row (esCons (eVar 1) (esCons (eC (.fn 0)) (esCons (eC (.int (30))) esNil))))) := rfl
noncomputable def d_Needs___init__ : FnD := runU 2 2 b_Needs___init__
theorem D_Needs___init__ (Tx : Txt P K mg T) : MakI P w K mg base T.base 15 "Needs" 4 d_Needs___init__ := by
  obtain ⟨f, fd, F, hm, hb⟩ := Tx.met_Needs___init__
  have H_want_row : DefI P w K mg base T.base 14 "want_row" d_want_row := D_want_row Tx
  exact ⟨Tx.mgc_Needs, f, fd, _, fnU_i (k := 14) (m := 2) (b := b_Needs___init__) F sc_Needs___init__ rfl rfl fun cdv A outer s H E hroom tk =>
      (s_one (s_fldSet (cs := [4]) (by simp only [List.mem_cons, List.not_mem_nil, or_false]; rintro c rfl; exact ⟨Tx.cl_Needs, Tx.na_Needs_spans⟩) (iv 0) (i_call H_want_row (hroom.mono (by decide)) tk rfl (a_cons (iv 1) (a_cons (i_glob (v := .ref (T.fnA 0)) rfl Tx.fv_is_span rfl (fun _ => .fn 0)) (a_cons (i_gint rfl Tx.con_MOST_SPANS) a_nil)))))), hm, hb⟩
noncomputable def b__law_mixed_1_1 : Sm := sRet (eOpN dListOf (esCons (eVar 1) esNil))
noncomputable def b__law_mixed_1 : Sm := sIf (tBl (eOp2 dEq (eCall d__law_taken (esCons (eVar 0) (esCons (eC (.int 2)) esNil))) (eC (.int 0)))) b__law_mixed_1_1 sNop
noncomputable def b__law_mixed_2 : Sm := sRet (eOpN dTupleOf (esCons (eVar 1) esNil))
noncomputable def b__law_mixed : Sm :=
  (sSeq b__law_mixed_1 b__law_mixed_2)
theorem b__law_mixed_eq : b__law_mixed = (sSeq (sIf (tBl (eOp2 dEq (eCall d__law_taken (esCons (eVar 0) (esCons (eC (.int 2)) esNil))) (eC (.int 0)))) (sRet (eOpN dListOf (esCons (eVar 1) esNil))) sNop) (sRet (eOpN dTupleOf (esCons (eVar 1) esNil)))) := rfl
noncomputable def d__law_mixed : FnD := runFn 2 2 b__law_mixed
theorem D__law_mixed (Tx : Txt P K mg T) : DefI P w K mg base T.base 2 "_law_mixed" d__law_mixed := by
  obtain ⟨f, fd, F, hm, hb⟩ := Tx.fun__law_mixed
  have H__law_taken : DefI P w K mg base T.base 1 "_law_taken" d__law_taken := D__law_taken Tx
  exact ⟨f, fd, _, FnG.scope (fnU_i (k := 1) (m := 2) (b := b__law_mixed) F sc__law_mixed rfl rfl fun cdv A outer s H E hroom tk =>
      (s_cons (s_if (i_tcmp (o_eq (hu64 hroom)) (i_call H__law_taken (hroom.mono (by decide)) tk rfl (a_cons (iv 0) (a_cons i_int a_nil))) i_int rfl) (s_one (s_ret (i_callTy o_list rfl Tx.mg_list (by decide +kernel) (a_cons (iv 1) a_nil)))) s_nil)
      (s_one (s_ret (i_callTy o_tuple rfl Tx.mg_tuple (by decide +kernel) (a_cons (iv 1) a_nil)))))), hm, F.kp, hb⟩
noncomputable def b__law_alike_1_1_1 (self : FnD) : Sm := sRet (eC (.bl false))
noncomputable def b__law_alike_1_1 (self : FnD) : Sm := sIf (tOr (tNot (tOf (eIsT (eVar 0) (esCons (eC (.ty .tuple)) (esCons (eC (.ty .list)) esNil))))) ((tBl (eOp2 dNe (eOpN dIsi (esCons (eVar 0) (esCons (eC (.ty .list)) esNil))) (eOpN dIsi (esCons (eVar 1) (esCons (eC (.ty .list)) esNil))))))) (b__law_alike_1_1_1 self) sNop
noncomputable def b__law_alike_1_2_1 (self : FnD) : Sm := sRet (eC (.bl false))
noncomputable def b__law_alike_1_2 (self : FnD) : Sm := sIf (tBl (eOp2 dNe (eOpN dLen (esCons (eVar 0) esNil)) (eOpN dLen (esCons (eVar 1) esNil)))) (b__law_alike_1_2_1 self) sNop
noncomputable def b__law_alike_1_3 (self : FnD) : Sm := sRet (eOp2 dEq (eComp [2] (iRange1 (esCons (eOpN dLen (esCons (eVar 1) esNil)) esNil)) (.name 2) (tNot (tOf (eCall self (esCons (eOp2 dIx (eVar 0) (eVar 2)) (esCons (eOp2 dIx (eVar 1) (eVar 2)) esNil))))) (eVar 2)) (eOpN dLst esNil))
noncomputable def b__law_alike_1 (self : FnD) : Sm := sIf (tOf (eIsT (eVar 1) (esCons (eC (.ty .tuple)) (esCons (eC (.ty .list)) esNil)))) (sSeq (b__law_alike_1_1 self) (sSeq (b__law_alike_1_2 self) (b__law_alike_1_3 self))) sNop
noncomputable def b__law_alike_2_1 (self : FnD) : Sm := sRet (eAnd (eOp2 dEq (eVar 0) (eVar 1)) ((eOp2 dEq (eOpN dIsi (esCons (eVar 0) (esCons (eC (.ty .str)) esNil))) (eOpN dIsi (esCons (eVar 1) (esCons (eC (.ty .str)) esNil))))))
noncomputable def b__law_alike_2 (self : FnD) : Sm := sIf (tOr (tBl (eOp2 dIs (eVar 1) (eC .non))) ((tOf (eOpN dIsi (esCons (eVar 1) (esCons (eC (.ty .str)) esNil)))))) (b__law_alike_2_1 self) sNop
noncomputable def b__law_alike_3 (self : FnD) : Sm := sRet (eAnd (eOpN dIsi (esCons (eVar 0) (esCons (eC (.ty .int)) esNil))) (eAnd (eOp2 dEq (eOpN dIsi (esCons (eVar 0) (esCons (eC (.ty .bool)) esNil))) (eOpN dIsi (esCons (eVar 1) (esCons (eC (.ty .bool)) esNil)))) ((eOp2 dEq (eVar 0) (eVar 1)))))
noncomputable def b__law_alike (self : FnD) : Sm :=
  (sSeq (b__law_alike_1 self) (sSeq (b__law_alike_2 self) (b__law_alike_3 self)))
theorem b__law_alike_eq (self : FnD) : b__law_alike self = (sSeq (sIf (tOf (eIsT (eVar 1) (esCons (eC (.ty .tuple)) (esCons (eC (.ty .list)) esNil)))) (sSeq (sIf (tOr (tNot (tOf (eIsT (eVar 0) (esCons (eC (.ty .tuple)) (esCons (eC (.ty .list)) esNil))))) ((tBl (eOp2 dNe (eOpN dIsi (esCons (eVar 0) (esCons (eC (.ty .list)) esNil))) (eOpN dIsi (esCons (eVar 1) (esCons (eC (.ty .list)) esNil))))))) (sRet (eC (.bl false))) sNop) (sSeq (sIf (tBl (eOp2 dNe (eOpN dLen (esCons (eVar 0) esNil)) (eOpN dLen (esCons (eVar 1) esNil)))) (sRet (eC (.bl false))) sNop) (sRet (eOp2 dEq (eComp [2] (iRange1 (esCons (eOpN dLen (esCons (eVar 1) esNil)) esNil)) (.name 2) (tNot (tOf (eCall self (esCons (eOp2 dIx (eVar 0) (eVar 2)) (esCons (eOp2 dIx (eVar 1) (eVar 2)) esNil))))) (eVar 2)) (eOpN dLst esNil))))) sNop) (sSeq (sIf (tOr (tBl (eOp2 dIs (eVar 1) (eC .non))) ((tOf (eOpN dIsi (esCons (eVar 1) (esCons (eC (.ty .str)) esNil)))))) (sRet (eAnd (eOp2 dEq (eVar 0) (eVar 1)) ((eOp2 dEq (eOpN dIsi (esCons (eVar 0) (esCons (eC (.ty .str)) esNil))) (eOpN dIsi (esCons (eVar 1) (esCons (eC (.ty .str)) esNil))))))) sNop) (sRet (eAnd (eOpN dIsi (esCons (eVar 0) (esCons (eC (.ty .int)) esNil))) (eAnd (eOp2 dEq (eOpN dIsi (esCons (eVar 0) (esCons (eC (.ty .bool)) esNil))) (eOpN dIsi (esCons (eVar 1) (esCons (eC (.ty .bool)) esNil)))) ((eOp2 dEq (eVar 0) (eVar 1)))))))) := rfl
noncomputable def d__law_alike : Nat → FnD
  | 0 => fun _ _ => .bad
  | n + 1 => runFn 2 3 (b__law_alike (d__law_alike n))
theorem D__law_alike0 (Tx : Txt P K mg T) : ∀ n, DefI P w K mg base T.base (1 + n) "_law_alike" (d__law_alike n)
  | 0 => by
    obtain ⟨f, fd, F, hm, hb⟩ := Tx.fun__law_alike
    exact ⟨f, fd, _, FnG.none, hm, F.kp, hb⟩
  | n + 1 => by
    obtain ⟨f, fd, F, hm, hb⟩ := Tx.fun__law_alike
    have D_self : DefI P w K mg base T.base (1 + n) "_law_alike" (d__law_alike n) := D__law_alike0 Tx n
    exact ⟨f, fd, _, FnG.scope (fnU_i (k := 1 + n) (m := 3) (b := b__law_alike (d__law_alike n)) F sc__law_alike rfl rfl fun cdv A outer s H E hroom tk =>
      (s_cons (s_if (i_truth (i_isT (iv 1) (a_cons (i_bty .tuple rfl Tx.mg_tuple (by decide +kernel)) (a_cons (i_bty .list rfl Tx.mg_list (by decide +kernel)) a_nil)) rfl Tx.mg_isinstance)) (s_cons (s_if (i_w (i_tor (i_tnot (i_truth (i_isT (iv 0) (a_cons (i_bty .tuple rfl Tx.mg_tuple (by decide +kernel)) (a_cons (i_bty .list rfl Tx.mg_list (by decide +kernel)) a_nil)) rfl Tx.mg_isinstance))) (i_or1 (i_tcmp (o_ne (hu64 hroom)) (i_callB o_isi rfl Tx.mg_isinstance PyProof.Rows.boot_isinstance (a_cons (iv 0) (a_cons (i_bty .list rfl Tx.mg_list (by decide +kernel)) a_nil))) (i_callB o_isi rfl Tx.mg_isinstance PyProof.Rows.boot_isinstance (a_cons (iv 1) (a_cons (i_bty .list rfl Tx.mg_list (by decide +kernel)) a_nil))) rfl)))) (s_one (s_ret i_bl)) s_nil)
      (s_cons (s_if (i_tcmp (o_ne (hu64 hroom)) (i_callB o_len rfl Tx.mg_len (by decide +kernel) (a_cons (iv 0) a_nil)) (i_callB o_len rfl Tx.mg_len (by decide +kernel) (a_cons (iv 1) a_nil)) rfl) (s_one (s_ret i_bl)) s_nil)
      (s_one (s_ret (i_cmp (o_eq (hu64 hroom)) (i_comp (own := [("k", 2)]) rfl sc__law_alike.nd (it_range1 rfl Tx.mg_range (a_cons (i_callB o_len rfl Tx.mg_len (by decide +kernel) (a_cons (iv 1) a_nil)) a_nil)) (blkOk_by (by kernel_rfl)) (fun _ _ _ _ _ => (g_name sc__law_alike.nd (i := 2) rfl (by first | exact Or.inl rfl | exact Or.inr rfl))) (fun _ _ _ _ _ => q_one (i_tnot (i_truth (i_call D_self (hroom.mono (by omega)) takes0 rfl (a_cons (i_ix o_ix (iv 0) (iv 2) (fun _ _ => rfl)) (a_cons (i_ix o_ix (iv 1) (iv 2) (fun _ _ => rfl)) a_nil)))))) (fun _ _ _ _ _ => (iv 2))) (i_lst a_nil) rfl))))) s_nil)
      (s_cons (s_if (i_w (i_tor (i_tcmp o_is (iv 1) i_non rfl) (i_or1 (i_truth (i_callB o_isi rfl Tx.mg_isinstance PyProof.Rows.boot_isinstance (a_cons (iv 1) (a_cons (i_bty .str rfl Tx.mg_str (by decide +kernel)) a_nil))))))) (s_one (s_ret (i_and (i_cmp (o_eq (hu64 hroom)) (iv 0) (iv 1) rfl) (i_one (i_cmp (o_eq (hu64 hroom)) (i_callB o_isi rfl Tx.mg_isinstance PyProof.Rows.boot_isinstance (a_cons (iv 0) (a_cons (i_bty .str rfl Tx.mg_str (by decide +kernel)) a_nil))) (i_callB o_isi rfl Tx.mg_isinstance PyProof.Rows.boot_isinstance (a_cons (iv 1) (a_cons (i_bty .str rfl Tx.mg_str (by decide +kernel)) a_nil))) rfl))))) s_nil)
      (s_one (s_ret (i_and (i_callB o_isi rfl Tx.mg_isinstance PyProof.Rows.boot_isinstance (a_cons (iv 0) (a_cons (i_bty .int rfl Tx.mg_int (by decide +kernel)) a_nil))) (i_and (i_cmp (o_eq (hu64 hroom)) (i_callB o_isi rfl Tx.mg_isinstance PyProof.Rows.boot_isinstance (a_cons (iv 0) (a_cons (i_bty .bool rfl Tx.mg_bool (by decide +kernel)) a_nil))) (i_callB o_isi rfl Tx.mg_isinstance PyProof.Rows.boot_isinstance (a_cons (iv 1) (a_cons (i_bty .bool rfl Tx.mg_bool (by decide +kernel)) a_nil))) rfl) (i_one (i_cmp (o_eq (hu64 hroom)) (iv 0) (iv 1) rfl))))))))), hm, F.kp, hb⟩
theorem D__law_alike (Tx : Txt P K mg T) : DefI P w K mg base T.base 13 "_law_alike" (d__law_alike 12) := D__law_alike0 Tx 12
noncomputable def b_Needs___eq___1 : Sm := sRet (eAnd (eOpN (dIsC [4]) (esCons (eVar 1) (esCons (eC (.cls 4)) esNil))) ((eOp2 dEq (eFld [4] "spans" (eVar 0)) (eFld [4] "spans" (eVar 1)))))
noncomputable def b_Needs___eq__ : Sm :=
  b_Needs___eq___1
theorem b_Needs___eq___eq : b_Needs___eq__ = (sRet (eAnd (eOpN (dIsC [4]) (esCons (eVar 1) (esCons (eC (.cls 4)) esNil))) ((eOp2 dEq (eFld [4] "spans" (eVar 0)) (eFld [4] "spans" (eVar 1)))))) := rfl
noncomputable def d_Needs___eq__ : FnD := runFn 2 2 b_Needs___eq__
theorem D_Needs___eq__ (Tx : Txt P K mg T) : EqI P w K mg base T.base 1 4 d_Needs___eq__ := by
  obtain ⟨f, fd, F, hm, hb, hn⟩ := Tx.met_Needs___eq__
  exact ⟨f, fd, _, FnG.scope (fnU_i (k := 0) (m := 2) (b := b_Needs___eq__) F sc_Needs___eq__ rfl rfl fun cdv A outer s H E hroom tk =>
      (s_one (s_ret (i_and (i_callB (o_isC (IsC.base Tx.isC)) rfl Tx.mg_isinstance PyProof.Rows.boot_isinstance (a_cons (iv 1) (a_cons (i_glob (v := .ref (T.cls 4)) rfl Tx.mgc_Needs rfl (fun _ => .cls 4)) a_nil))) (i_one (i_cmp (o_eq (hu64 hroom)) (i_fld (cs := [4]) (by simp only [List.mem_cons, List.not_mem_nil, or_false]; rintro c rfl; exact ⟨Tx.cl_Needs, Tx.na_Needs_spans⟩) (iv 0)) (i_fld (cs := [4]) (by simp only [List.mem_cons, List.not_mem_nil, or_false]; rintro c rfl; exact ⟨Tx.cl_Needs, Tx.na_Needs_spans⟩) (iv 1)) rfl)))))), hm, hb, hn⟩
noncomputable def b_Needs_visits_1 : Sm := sSet 1 (eOpN dNew esNil)
noncomputable def b_Needs_visits_2_1_1 : Sm := sExpr (eBM isLst dAppend (eVar 1) (esCons (eVar 2) esNil))
noncomputable def b_Needs_visits_2_1 : Sm := sIf (tOr (tBl (eOp2 dEq (eOpN dLen (esCons (eVar 1) esNil)) (eC (.int 0)))) ((tBl (eOp2 dLt (eOp2 dIx (eVar 1) (eOp1 dNeg (eC (.int 1)))) (eVar 3))))) b_Needs_visits_2_1_1 sNop
noncomputable def b_Needs_visits_2 : Sm := sFor (iVal (eOpN dSorted (esCons (eComp [4] (iVal (eFld [4] "spans" (eVar 0))) (.name 4) tYesD (eOpN dTup (esCons (eOp2 dIx (eVar 4) (eC (.int 2))) (esCons (eOp2 dIx (eVar 4) (eC (.int 1))) esNil)))) esNil))) (.tup [(.name 2), (.name 3)]) b_Needs_visits_2_1
noncomputable def b_Needs_visits_3 : Sm := sRet (eOpN dTupleOf (esCons (eVar 1) esNil))
noncomputable def b_Needs_visits : Sm :=
  (sSeq b_Needs_visits_1 (sSeq b_Needs_visits_2 b_Needs_visits_3))
theorem b_Needs_visits_eq : b_Needs_visits = (sSeq (sSet 1 (eOpN dNew esNil)) (sSeq (sFor (iVal (eOpN dSorted (esCons (eComp [4] (iVal (eFld [4] "spans" (eVar 0))) (.name 4) tYesD (eOpN dTup (esCons (eOp2 dIx (eVar 4) (eC (.int 2))) (esCons (eOp2 dIx (eVar 4) (eC (.int 1))) esNil)))) esNil))) (.tup [(.name 2), (.name 3)]) (sIf (tOr (tBl (eOp2 dEq (eOpN dLen (esCons (eVar 1) esNil)) (eC (.int 0)))) ((tBl (eOp2 dLt (eOp2 dIx (eVar 1) (eOp1 dNeg (eC (.int 1)))) (eVar 3))))) (sExpr (eBM isLst dAppend (eVar 1) (esCons (eVar 2) esNil))) sNop)) (sRet (eOpN dTupleOf (esCons (eVar 1) esNil))))) := rfl
noncomputable def d_Needs_visits : FnD := runFn 1 5 b_Needs_visits
theorem D_Needs_visits (Tx : Txt P K mg T) : MetI P w K mg base T.base 1 4 "visits" d_Needs_visits := by
  obtain ⟨f, fd, F, hm, hb⟩ := Tx.met_Needs_visits
  exact ⟨Tx.cl_Needs, f, fd, _, FnG.scope (fnU_i (k := 0) (m := 5) (b := b_Needs_visits) F sc_Needs_visits rfl rfl fun cdv A outer s H E hroom tk =>
      (s_cons (s_set (i := 1) sc_Needs_visits.nd rfl (by first | exact Or.inl rfl | exact Or.inr rfl) (i_new a_nil))
      (s_cons (s_for (passes_of rfl) rfl (it_val (i_callB (o_sorted (hu70 hroom)) rfl Tx.mg_sorted (by decide +kernel) (a_cons (i_comp (own := [("span", 4)]) rfl sc_Needs_visits.nd (it_val (i_fld (cs := [4]) (by simp only [List.mem_cons, List.not_mem_nil, or_false]; rintro c rfl; exact ⟨Tx.cl_Needs, Tx.na_Needs_spans⟩) (iv 0))) (blkOk_by (by kernel_rfl)) (fun _ _ _ _ _ => (g_name sc_Needs_visits.nd (i := 4) rfl (by first | exact Or.inl rfl | exact Or.inr rfl))) (fun _ _ _ _ _ => q_nil) (fun _ _ _ _ _ => (i_tup (a_cons (i_ix o_ix (iv 4) i_int (fun _ _ => rfl)) (a_cons (i_ix o_ix (iv 4) i_int (fun _ _ => rfl)) a_nil))))) a_nil))) (g_tup (ts := [(.name 2), (.name 3)]) rfl (g_cons (g_name sc_Needs_visits.nd (i := 2) rfl (by first | exact Or.inl rfl | exact Or.inr rfl)) (g_cons (g_name sc_Needs_visits.nd (i := 3) rfl (by first | exact Or.inl rfl | exact Or.inr rfl)) g_nil))) (s_one (s_if (i_w (i_tor (i_tcmp (o_eq (hu64 hroom)) (i_callB o_len rfl Tx.mg_len (by decide +kernel) (a_cons (iv 1) a_nil)) i_int rfl) (i_or1 (i_tcmp o_lt (i_ix o_ix (iv 1) (i_un o_neg i_int) (fun _ _ => rfl)) (iv 3) rfl)))) (s_one (s_expr (i_lm PySem.F.slot_list_append PySem.F.type_list_append m_append (iv 1) (a_cons (iv 2) a_nil)))) s_nil)))
      (s_one (s_ret (i_callTy o_tuple rfl Tx.mg_tuple (by decide +kernel) (a_cons (iv 1) a_nil))))))), hm, hb⟩
noncomputable def b_Needs_paper_1 : Sm := sPar 1 2 (esCons (eOpN dNew esNil) (esCons (eOp1 dNeg (eC (.int 1))) esNil))
noncomputable def b_Needs_paper_2_1_1 : Sm := sExpr (eBM isLst dAppend (eVar 1) (esCons (eVar 5) esNil))
noncomputable def b_Needs_paper_2_1_2 : Sm := sSet 2 (eVar 3)
noncomputable def b_Needs_paper_2_1 : Sm := sIf (tBl (eOp2 dGt (eVar 4) (eVar 2))) (sSeq b_Needs_paper_2_1_1 b_Needs_paper_2_1_2) sNop
noncomputable def b_Needs_paper_2 : Sm := sFor (iVal (eOpN dSorted (esCons (eComp [5, 6] (iEnum (esCons (eFld [4] "spans" (eVar 0)) esNil)) (.tup [(.name 5), (.name 6)]) tYesD (eOpN dTup (esCons (eOp2 dIx (eVar 6) (eC (.int 2))) (esCons (eOp2 dIx (eVar 6) (eC (.int 1))) (esCons (eVar 5) esNil))))) esNil))) (.tup [(.name 3), (.name 4), (.name 5)]) b_Needs_paper_2_1
noncomputable def b_Needs_paper_3 : Sm := sRet (eOpN dTupleOf (esCons (eVar 1) esNil))
noncomputable def b_Needs_paper : Sm :=
  (sSeq b_Needs_paper_1 (sSeq b_Needs_paper_2 b_Needs_paper_3))
theorem b_Needs_paper_eq : b_Needs_paper = (sSeq (sPar 1 2 (esCons (eOpN dNew esNil) (esCons (eOp1 dNeg (eC (.int 1))) esNil))) (sSeq (sFor (iVal (eOpN dSorted (esCons (eComp [5, 6] (iEnum (esCons (eFld [4] "spans" (eVar 0)) esNil)) (.tup [(.name 5), (.name 6)]) tYesD (eOpN dTup (esCons (eOp2 dIx (eVar 6) (eC (.int 2))) (esCons (eOp2 dIx (eVar 6) (eC (.int 1))) (esCons (eVar 5) esNil))))) esNil))) (.tup [(.name 3), (.name 4), (.name 5)]) (sIf (tBl (eOp2 dGt (eVar 4) (eVar 2))) (sSeq (sExpr (eBM isLst dAppend (eVar 1) (esCons (eVar 5) esNil))) (sSet 2 (eVar 3))) sNop)) (sRet (eOpN dTupleOf (esCons (eVar 1) esNil))))) := rfl
noncomputable def d_Needs_paper : FnD := runFn 1 7 b_Needs_paper
theorem D_Needs_paper (Tx : Txt P K mg T) : MetI P w K mg base T.base 1 4 "paper" d_Needs_paper := by
  obtain ⟨f, fd, F, hm, hb⟩ := Tx.met_Needs_paper
  exact ⟨Tx.cl_Needs, f, fd, _, FnG.scope (fnU_i (k := 0) (m := 7) (b := b_Needs_paper) F sc_Needs_paper rfl rfl fun cdv A outer s H E hroom tk =>
      (s_cons (s_par (i := 1) (j := 2) rfl sc_Needs_paper.nd rfl rfl (by decide) rfl rfl (a_cons (i_new a_nil) (a_cons (i_un o_neg i_int) a_nil)) rfl)
      (s_cons (s_for (passes_of rfl) rfl (it_val (i_callB (o_sorted (hu70 hroom)) rfl Tx.mg_sorted (by decide +kernel) (a_cons (i_comp (own := [("at", 5), ("span", 6)]) rfl sc_Needs_paper.nd (it_enum rfl Tx.mg_enumerate (a_cons (i_fld (cs := [4]) (by simp only [List.mem_cons, List.not_mem_nil, or_false]; rintro c rfl; exact ⟨Tx.cl_Needs, Tx.na_Needs_spans⟩) (iv 0)) a_nil)) (blkOk_by (by kernel_rfl)) (fun _ _ _ _ _ => (g_tup (ts := [(.name 5), (.name 6)]) rfl (g_cons (g_name sc_Needs_paper.nd (i := 5) rfl (by first | exact Or.inl rfl | exact Or.inr rfl)) (g_cons (g_name sc_Needs_paper.nd (i := 6) rfl (by first | exact Or.inl rfl | exact Or.inr rfl)) g_nil)))) (fun _ _ _ _ _ => q_nil) (fun _ _ _ _ _ => (i_tup (a_cons (i_ix o_ix (iv 6) i_int (fun _ _ => rfl)) (a_cons (i_ix o_ix (iv 6) i_int (fun _ _ => rfl)) (a_cons (iv 5) a_nil)))))) a_nil))) (g_tup (ts := [(.name 3), (.name 4), (.name 5)]) rfl (g_cons (g_name sc_Needs_paper.nd (i := 3) rfl (by first | exact Or.inl rfl | exact Or.inr rfl)) (g_cons (g_name sc_Needs_paper.nd (i := 4) rfl (by first | exact Or.inl rfl | exact Or.inr rfl)) (g_cons (g_name sc_Needs_paper.nd (i := 5) rfl (by first | exact Or.inl rfl | exact Or.inr rfl)) g_nil)))) (s_one (s_if (i_tcmp o_gt (iv 4) (iv 2) rfl) (s_cons (s_expr (i_lm PySem.F.slot_list_append PySem.F.type_list_append m_append (iv 1) (a_cons (iv 5) a_nil)))
      (s_one (s_set (i := 2) sc_Needs_paper.nd rfl (by first | exact Or.inl rfl | exact Or.inr rfl) (iv 3)))) s_nil)))
      (s_one (s_ret (i_callTy o_tuple rfl Tx.mg_tuple (by decide +kernel) (a_cons (iv 1) a_nil))))))), hm, hb⟩
noncomputable def b_Needs_is_served_1 : Sm := sRet (eOpN dAll (esCons (eComp [2] (iVal (eFld [4] "spans" (eVar 0))) (.name 2) tYesD (eOpN dAny (esCons (eComp [3] (iVal (eVar 1)) (.name 3) tYesD (eChain dLe dLe (eOp2 dIx (eVar 2) (eC (.int 1))) (eVar 3) (eOp2 dIx (eVar 2) (eC (.int 2))))) esNil))) esNil))
noncomputable def b_Needs_is_served : Sm :=
  b_Needs_is_served_1
theorem b_Needs_is_served_eq : b_Needs_is_served = (sRet (eOpN dAll (esCons (eComp [2] (iVal (eFld [4] "spans" (eVar 0))) (.name 2) tYesD (eOpN dAny (esCons (eComp [3] (iVal (eVar 1)) (.name 3) tYesD (eChain dLe dLe (eOp2 dIx (eVar 2) (eC (.int 1))) (eVar 3) (eOp2 dIx (eVar 2) (eC (.int 2))))) esNil))) esNil))) := rfl
noncomputable def d_Needs_is_served : FnD := runFn 2 4 b_Needs_is_served
theorem D_Needs_is_served (Tx : Txt P K mg T) : MetI P w K mg base T.base 1 4 "is_served" d_Needs_is_served := by
  obtain ⟨f, fd, F, hm, hb⟩ := Tx.met_Needs_is_served
  exact ⟨Tx.cl_Needs, f, fd, _, FnG.scope (fnU_i (k := 0) (m := 4) (b := b_Needs_is_served) F sc_Needs_is_served rfl rfl fun cdv A outer s H E hroom tk =>
      (s_one (s_ret (i_callB (o_all rfl) rfl Tx.mg_all (by decide +kernel) (a_cons (i_comp (own := [("span", 2)]) rfl sc_Needs_is_served.nd (it_val (i_fld (cs := [4]) (by simp only [List.mem_cons, List.not_mem_nil, or_false]; rintro c rfl; exact ⟨Tx.cl_Needs, Tx.na_Needs_spans⟩) (iv 0))) (blkOk_by (by kernel_rfl)) (fun _ _ _ _ _ => (g_name sc_Needs_is_served.nd (i := 2) rfl (by first | exact Or.inl rfl | exact Or.inr rfl))) (fun _ _ _ _ _ => q_nil) (fun _ _ _ _ _ => (i_callB (o_any rfl) rfl Tx.mg_any (by decide +kernel) (a_cons (i_comp (own := [("tick", 3)]) rfl sc_Needs_is_served.nd (it_val (iv 1)) (blkOk_by (by kernel_rfl)) (fun _ _ _ _ _ => (g_name sc_Needs_is_served.nd (i := 3) rfl (by first | exact Or.inl rfl | exact Or.inr rfl))) (fun _ _ _ _ _ => q_nil) (fun _ _ _ _ _ => (i_chain o_le o_le (i_ix o_ix (iv 2) i_int (fun _ _ => rfl)) (iv 3) (i_ix o_ix (iv 2) i_int (fun _ _ => rfl))))) a_nil)))) a_nil))))), hm, hb⟩
noncomputable def b_meet_1 : Sm := sRet (eAnd (eOp2 dLe (eOp2 dIx (eVar 0) (eC (.int 1))) (eOp2 dIx (eVar 1) (eC (.int 2)))) ((eOp2 dLe (eOp2 dIx (eVar 1) (eC (.int 1))) (eOp2 dIx (eVar 0) (eC (.int 2))))))
noncomputable def b_meet : Sm :=
  b_meet_1
theorem b_meet_eq : b_meet = (sRet (eAnd (eOp2 dLe (eOp2 dIx (eVar 0) (eC (.int 1))) (eOp2 dIx (eVar 1) (eC (.int 2)))) ((eOp2 dLe (eOp2 dIx (eVar 1) (eC (.int 1))) (eOp2 dIx (eVar 0) (eC (.int 2))))))) := rfl
noncomputable def d_meet : FnD := runFn 2 2 b_meet
theorem D_meet (Tx : Txt P K mg T) : DefI P w K mg base T.base 1 "meet" d_meet := by
  obtain ⟨f, fd, F, hm, hb⟩ := Tx.fun_meet
  exact ⟨f, fd, _, FnG.scope (fnU_i (k := 0) (m := 2) (b := b_meet) F sc_meet rfl rfl fun cdv A outer s H E hroom tk =>
      (s_one (s_ret (i_and (i_cmp o_le (i_ix o_ix (iv 0) i_int (fun _ _ => rfl)) (i_ix o_ix (iv 1) i_int (fun _ _ => rfl)) rfl) (i_one (i_cmp o_le (i_ix o_ix (iv 1) i_int (fun _ _ => rfl)) (i_ix o_ix (iv 0) i_int (fun _ _ => rfl)) rfl)))))), hm, F.kp, hb⟩
noncomputable def b_Needs_is_paper_1_1 : Sm := sRet (eC (.bl false))
noncomputable def b_Needs_is_paper_1 : Sm := sIf (tOr (tNot (tOf (eCall d_is_row (esCons (eVar 1) esNil)))) ((tNot (tOf (eOpN dAll (esCons (eComp [3] (iVal (eVar 1)) (.name 3) tYesD (eCall d_is_number (esCons (eVar 3) (esCons (eC (.int 0)) (esCons (eOp2 dSub (eOpN dLen (esCons (eFld [4] "spans" (eVar 0)) esNil)) (eC (.int 1))) esNil))))) esNil)))))) b_Needs_is_paper_1_1 sNop
noncomputable def b_Needs_is_paper_2_1_1 : Sm := sRet (eC (.bl false))
noncomputable def b_Needs_is_paper_2_1 : Sm := sIf (tOf (eOpN dAny (esCons (eComp [4] (iVal (eSl (eVar 1) eoNone (eoSome (eVar 2)))) (.name 4) tYesD (eCall d_meet (esCons (eOp2 dIx (eFld [4] "spans" (eVar 0)) (eVar 3)) (esCons (eOp2 dIx (eFld [4] "spans" (eVar 0)) (eVar 4)) esNil)))) esNil))) b_Needs_is_paper_2_1_1 sNop
noncomputable def b_Needs_is_paper_2 : Sm := sFor (iEnum (esCons (eVar 1) esNil)) (.tup [(.name 2), (.name 3)]) b_Needs_is_paper_2_1
noncomputable def b_Needs_is_paper_3 : Sm := sRet (eC (.bl true))
noncomputable def b_Needs_is_paper : Sm :=
  (sSeq b_Needs_is_paper_1 (sSeq b_Needs_is_paper_2 b_Needs_is_paper_3))
theorem b_Needs_is_paper_eq : b_Needs_is_paper = (sSeq (sIf (tOr (tNot (tOf (eCall d_is_row (esCons (eVar 1) esNil)))) ((tNot (tOf (eOpN dAll (esCons (eComp [3] (iVal (eVar 1)) (.name 3) tYesD (eCall d_is_number (esCons (eVar 3) (esCons (eC (.int 0)) (esCons (eOp2 dSub (eOpN dLen (esCons (eFld [4] "spans" (eVar 0)) esNil)) (eC (.int 1))) esNil))))) esNil)))))) (sRet (eC (.bl false))) sNop) (sSeq (sFor (iEnum (esCons (eVar 1) esNil)) (.tup [(.name 2), (.name 3)]) (sIf (tOf (eOpN dAny (esCons (eComp [4] (iVal (eSl (eVar 1) eoNone (eoSome (eVar 2)))) (.name 4) tYesD (eCall d_meet (esCons (eOp2 dIx (eFld [4] "spans" (eVar 0)) (eVar 3)) (esCons (eOp2 dIx (eFld [4] "spans" (eVar 0)) (eVar 4)) esNil)))) esNil))) (sRet (eC (.bl false))) sNop)) (sRet (eC (.bl true))))) := rfl
noncomputable def d_Needs_is_paper : FnD := runFn 2 5 b_Needs_is_paper
theorem D_Needs_is_paper (Tx : Txt P K mg T) : MetI P w K mg base T.base 3 4 "is_paper" d_Needs_is_paper := by
  obtain ⟨f, fd, F, hm, hb⟩ := Tx.met_Needs_is_paper
  have H_is_number : DefI P w K mg base T.base 2 "is_number" d_is_number := D_is_number Tx
  have H_is_row : DefI P w K mg base T.base 1 "is_row" d_is_row := D_is_row Tx
  have H_meet : DefI P w K mg base T.base 1 "meet" d_meet := D_meet Tx
  exact ⟨Tx.cl_Needs, f, fd, _, FnG.scope (fnU_i (k := 2) (m := 5) (b := b_Needs_is_paper) F sc_Needs_is_paper rfl rfl fun cdv A outer s H E hroom tk =>
      (s_cons (s_if (i_w (i_tor (i_tnot (i_truth (i_call H_is_row (hroom.mono (by decide)) tk rfl (a_cons (iv 1) a_nil)))) (i_or1 (i_tnot (i_truth (i_callB (o_all rfl) rfl Tx.mg_all (by decide +kernel) (a_cons (i_comp (own := [("at", 3)]) rfl sc_Needs_is_paper.nd (it_val (iv 1)) (blkOk_by (by kernel_rfl)) (fun _ _ _ _ _ => (g_name sc_Needs_is_paper.nd (i := 3) rfl (by first | exact Or.inl rfl | exact Or.inr rfl))) (fun _ _ _ _ _ => q_nil) (fun _ _ _ _ _ => (i_call H_is_number (hroom.mono (by decide)) takes0 rfl (a_cons (iv 3) (a_cons i_int (a_cons (i_bin o_sub (i_callB o_len rfl Tx.mg_len (by decide +kernel) (a_cons (i_fld (cs := [4]) (by simp only [List.mem_cons, List.not_mem_nil, or_false]; rintro c rfl; exact ⟨Tx.cl_Needs, Tx.na_Needs_spans⟩) (iv 0)) a_nil)) i_int) a_nil)))))) a_nil))))))) (s_one (s_ret i_bl)) s_nil)
      (s_cons (s_for (passes_of rfl) rfl (it_enum rfl Tx.mg_enumerate (a_cons (iv 1) a_nil)) (g_tup (ts := [(.name 2), (.name 3)]) rfl (g_cons (g_name sc_Needs_is_paper.nd (i := 2) rfl (by first | exact Or.inl rfl | exact Or.inr rfl)) (g_cons (g_name sc_Needs_is_paper.nd (i := 3) rfl (by first | exact Or.inl rfl | exact Or.inr rfl)) g_nil))) (s_one (s_if (i_truth (i_callB (o_any rfl) rfl Tx.mg_any (by decide +kernel) (a_cons (i_comp (own := [("other", 4)]) rfl sc_Needs_is_paper.nd (it_val (i_slice (iv 1) oi_none (oi_some (iv 2)))) (blkOk_by (by kernel_rfl)) (fun _ _ _ _ _ => (g_name sc_Needs_is_paper.nd (i := 4) rfl (by first | exact Or.inl rfl | exact Or.inr rfl))) (fun _ _ _ _ _ => q_nil) (fun _ _ _ _ _ => (i_call H_meet (hroom.mono (by decide)) takes0 rfl (a_cons (i_ix o_ix (i_fld (cs := [4]) (by simp only [List.mem_cons, List.not_mem_nil, or_false]; rintro c rfl; exact ⟨Tx.cl_Needs, Tx.na_Needs_spans⟩) (iv 0)) (iv 3) (fun _ _ => rfl)) (a_cons (i_ix o_ix (i_fld (cs := [4]) (by simp only [List.mem_cons, List.not_mem_nil, or_false]; rintro c rfl; exact ⟨Tx.cl_Needs, Tx.na_Needs_spans⟩) (iv 0)) (iv 4) (fun _ _ => rfl)) a_nil))))) a_nil))) (s_one (s_ret i_bl)) s_nil)))
      (s_one (s_ret i_bl))))), hm, hb⟩
noncomputable def b_Needs_unserved_1 : Sm := sSet 2 (eOpN dNew esNil)
noncomputable def b_Needs_unserved_2_1_1 : Sm := sExpr (eBM isLst dAppend (eVar 2) (esCons (eVar 3) esNil))
noncomputable def b_Needs_unserved_2_1 : Sm := sIf (tNot (tOf (eOpN dAny (esCons (eComp [5] (iVal (eVar 1)) (.name 5) tYesD (eChain dLe dLe (eOp2 dIx (eVar 4) (eC (.int 1))) (eVar 5) (eOp2 dIx (eVar 4) (eC (.int 2))))) esNil)))) b_Needs_unserved_2_1_1 sNop
noncomputable def b_Needs_unserved_2 : Sm := sFor (iEnum (esCons (eFld [4] "spans" (eVar 0)) esNil)) (.tup [(.name 3), (.name 4)]) b_Needs_unserved_2_1
noncomputable def b_Needs_unserved_3 : Sm := sRet (eOpN dTupleOf (esCons (eVar 2) esNil))
noncomputable def b_Needs_unserved : Sm :=
  (sSeq b_Needs_unserved_1 (sSeq b_Needs_unserved_2 b_Needs_unserved_3))
theorem b_Needs_unserved_eq : b_Needs_unserved = (sSeq (sSet 2 (eOpN dNew esNil)) (sSeq (sFor (iEnum (esCons (eFld [4] "spans" (eVar 0)) esNil)) (.tup [(.name 3), (.name 4)]) (sIf (tNot (tOf (eOpN dAny (esCons (eComp [5] (iVal (eVar 1)) (.name 5) tYesD (eChain dLe dLe (eOp2 dIx (eVar 4) (eC (.int 1))) (eVar 5) (eOp2 dIx (eVar 4) (eC (.int 2))))) esNil)))) (sExpr (eBM isLst dAppend (eVar 2) (esCons (eVar 3) esNil))) sNop)) (sRet (eOpN dTupleOf (esCons (eVar 2) esNil))))) := rfl
noncomputable def d_Needs_unserved : FnD := runFn 2 6 b_Needs_unserved
theorem D_Needs_unserved (Tx : Txt P K mg T) : MetI P w K mg base T.base 1 4 "unserved" d_Needs_unserved := by
  obtain ⟨f, fd, F, hm, hb⟩ := Tx.met_Needs_unserved
  exact ⟨Tx.cl_Needs, f, fd, _, FnG.scope (fnU_i (k := 0) (m := 6) (b := b_Needs_unserved) F sc_Needs_unserved rfl rfl fun cdv A outer s H E hroom tk =>
      (s_cons (s_set (i := 2) sc_Needs_unserved.nd rfl (by first | exact Or.inl rfl | exact Or.inr rfl) (i_new a_nil))
      (s_cons (s_for (passes_of rfl) rfl (it_enum rfl Tx.mg_enumerate (a_cons (i_fld (cs := [4]) (by simp only [List.mem_cons, List.not_mem_nil, or_false]; rintro c rfl; exact ⟨Tx.cl_Needs, Tx.na_Needs_spans⟩) (iv 0)) a_nil)) (g_tup (ts := [(.name 3), (.name 4)]) rfl (g_cons (g_name sc_Needs_unserved.nd (i := 3) rfl (by first | exact Or.inl rfl | exact Or.inr rfl)) (g_cons (g_name sc_Needs_unserved.nd (i := 4) rfl (by first | exact Or.inl rfl | exact Or.inr rfl)) g_nil))) (s_one (s_if (i_tnot (i_truth (i_callB (o_any rfl) rfl Tx.mg_any (by decide +kernel) (a_cons (i_comp (own := [("tick", 5)]) rfl sc_Needs_unserved.nd (it_val (iv 1)) (blkOk_by (by kernel_rfl)) (fun _ _ _ _ _ => (g_name sc_Needs_unserved.nd (i := 5) rfl (by first | exact Or.inl rfl | exact Or.inr rfl))) (fun _ _ _ _ _ => q_nil) (fun _ _ _ _ _ => (i_chain o_le o_le (i_ix o_ix (iv 4) i_int (fun _ _ => rfl)) (iv 5) (i_ix o_ix (iv 4) i_int (fun _ _ => rfl))))) a_nil)))) (s_one (s_expr (i_lm PySem.F.slot_list_append PySem.F.type_list_append m_append (iv 2) (a_cons (iv 3) a_nil)))) s_nil)))
      (s_one (s_ret (i_callTy o_tuple rfl Tx.mg_tuple (by decide +kernel) (a_cons (iv 2) a_nil))))))), hm, hb⟩
noncomputable def b__law_pairs_1 : Sm := sSet 2 (eOpN dLst esNil)
noncomputable def b__law_pairs_2_1 : Sm := sSet 2 (eOp2 dAdd (eVar 2) (eComp [4] (iRange1 (esCons (eVar 1) esNil)) (.name 4) tYesD (eOpN dTup (esCons (eVar 3) (esCons (eVar 4) esNil)))))
noncomputable def b__law_pairs_2 : Sm := sFor (iRange1 (esCons (eVar 0) esNil)) (.name 3) b__law_pairs_2_1
noncomputable def b__law_pairs_3 : Sm := sRet (eVar 2)
noncomputable def b__law_pairs : Sm :=
  (sSeq b__law_pairs_1 (sSeq b__law_pairs_2 b__law_pairs_3))
theorem b__law_pairs_eq : b__law_pairs = (sSeq (sSet 2 (eOpN dLst esNil)) (sSeq (sFor (iRange1 (esCons (eVar 0) esNil)) (.name 3) (sSet 2 (eOp2 dAdd (eVar 2) (eComp [4] (iRange1 (esCons (eVar 1) esNil)) (.name 4) tYesD (eOpN dTup (esCons (eVar 3) (esCons (eVar 4) esNil))))))) (sRet (eVar 2)))) := rfl
noncomputable def d__law_pairs : FnD := runFn 2 5 b__law_pairs
theorem D__law_pairs (Tx : Txt P K mg T) : DefI P w K mg base T.base 1 "_law_pairs" d__law_pairs := by
  obtain ⟨f, fd, F, hm, hb⟩ := Tx.fun__law_pairs
  exact ⟨f, fd, _, FnG.scope (fnU_i (k := 0) (m := 5) (b := b__law_pairs) F sc__law_pairs rfl rfl fun cdv A outer s H E hroom tk =>
      (s_cons (s_set (i := 2) sc__law_pairs.nd rfl (by first | exact Or.inl rfl | exact Or.inr rfl) (i_lst a_nil))
      (s_cons (s_for (passes_of rfl) rfl (it_range1 rfl Tx.mg_range (a_cons (iv 0) a_nil)) (g_name sc__law_pairs.nd (i := 3) rfl (by first | exact Or.inl rfl | exact Or.inr rfl)) (s_one (s_set (i := 2) sc__law_pairs.nd rfl (by first | exact Or.inl rfl | exact Or.inr rfl) (i_bin o_add (iv 2) (i_comp (own := [("two", 4)]) rfl sc__law_pairs.nd (it_range1 rfl Tx.mg_range (a_cons (iv 1) a_nil)) (blkOk_by (by kernel_rfl)) (fun _ _ _ _ _ => (g_name sc__law_pairs.nd (i := 4) rfl (by first | exact Or.inl rfl | exact Or.inr rfl))) (fun _ _ _ _ _ => q_nil) (fun _ _ _ _ _ => (i_tup (a_cons (iv 3) (a_cons (iv 4) a_nil)))))))))
      (s_one (s_ret (iv 2)))))), hm, F.kp, hb⟩
noncomputable def b__law_rows_1 : Sm := sSet 2 (eOpN dLst (esCons (eOpN dTup esNil) esNil))
noncomputable def b__law_rows_2_1 : Sm := sSet 4 (eOpN dLst esNil)
noncomputable def b__law_rows_2_2_1 : Sm := sSet 4 (eOp2 dAdd (eVar 4) (eComp [6] (iRange2 (esCons (eOp2 dAdd (eOp2 dIx (eOp2 dAdd (eOpN dTup (esCons (eOp1 dNeg (eC (.int 1))) esNil)) (eVar 5)) (eOp1 dNeg (eC (.int 1)))) (eC (.int 1))) (esCons (eOp2 dAdd (eVar 1) (eC (.int 1))) esNil))) (.name 6) tYesD (eOp2 dAdd (eVar 5) (eOpN dTup (esCons (eVar 6) esNil)))))
noncomputable def b__law_rows_2_2 : Sm := sFor (iVal (eVar 2)) (.name 5) b__law_rows_2_2_1
noncomputable def b__law_rows_2_3 : Sm := sSet 2 (eVar 4)
noncomputable def b__law_rows_2 : Sm := sFor (iRange1 (esCons (eVar 0) esNil)) (.name 3) (sSeq b__law_rows_2_1 (sSeq b__law_rows_2_2 b__law_rows_2_3))
noncomputable def b__law_rows_3 : Sm := sRet (eVar 2)
noncomputable def b__law_rows : Sm :=
  (sSeq b__law_rows_1 (sSeq b__law_rows_2 b__law_rows_3))
theorem b__law_rows_eq : b__law_rows = (sSeq (sSet 2 (eOpN dLst (esCons (eOpN dTup esNil) esNil))) (sSeq (sFor (iRange1 (esCons (eVar 0) esNil)) (.name 3) (sSeq (sSet 4 (eOpN dLst esNil)) (sSeq (sFor (iVal (eVar 2)) (.name 5) (sSet 4 (eOp2 dAdd (eVar 4) (eComp [6] (iRange2 (esCons (eOp2 dAdd (eOp2 dIx (eOp2 dAdd (eOpN dTup (esCons (eOp1 dNeg (eC (.int 1))) esNil)) (eVar 5)) (eOp1 dNeg (eC (.int 1)))) (eC (.int 1))) (esCons (eOp2 dAdd (eVar 1) (eC (.int 1))) esNil))) (.name 6) tYesD (eOp2 dAdd (eVar 5) (eOpN dTup (esCons (eVar 6) esNil))))))) (sSet 2 (eVar 4))))) (sRet (eVar 2)))) := rfl
noncomputable def d__law_rows : FnD := runFn 2 7 b__law_rows
theorem D__law_rows (Tx : Txt P K mg T) : DefI P w K mg base T.base 1 "_law_rows" d__law_rows := by
  obtain ⟨f, fd, F, hm, hb⟩ := Tx.fun__law_rows
  exact ⟨f, fd, _, FnG.scope (fnU_i (k := 0) (m := 7) (b := b__law_rows) F sc__law_rows rfl rfl fun cdv A outer s H E hroom tk =>
      (s_cons (s_set (i := 2) sc__law_rows.nd rfl (by first | exact Or.inl rfl | exact Or.inr rfl) (i_lst (a_cons (i_tup a_nil) a_nil)))
      (s_cons (s_for (passes_of rfl) rfl (it_range1 rfl Tx.mg_range (a_cons (iv 0) a_nil)) (g_name sc__law_rows.nd (i := 3) rfl (by first | exact Or.inl rfl | exact Or.inr rfl)) (s_cons (s_set (i := 4) sc__law_rows.nd rfl (by first | exact Or.inl rfl | exact Or.inr rfl) (i_lst a_nil))
      (s_cons (s_for (passes_of rfl) rfl (it_val (iv 2)) (g_name sc__law_rows.nd (i := 5) rfl (by first | exact Or.inl rfl | exact Or.inr rfl)) (s_one (s_set (i := 4) sc__law_rows.nd rfl (by first | exact Or.inl rfl | exact Or.inr rfl) (i_bin o_add (iv 4) (i_comp (own := [("tick", 6)]) rfl sc__law_rows.nd (it_range2 rfl Tx.mg_range (a_cons (i_bin o_add (i_ix o_ix (i_bin o_add (i_tup (a_cons (i_un o_neg i_int) a_nil)) (iv 5)) (i_un o_neg i_int) (fun _ _ => rfl)) i_int) (a_cons (i_bin o_add (iv 1) i_int) a_nil))) (blkOk_by (by kernel_rfl)) (fun _ _ _ _ _ => (g_name sc__law_rows.nd (i := 6) rfl (by first | exact Or.inl rfl | exact Or.inr rfl))) (fun _ _ _ _ _ => q_nil) (fun _ _ _ _ _ => (i_bin o_add (iv 5) (i_tup (a_cons (iv 6) a_nil)))))))))
      (s_one (s_set (i := 2) sc__law_rows.nd rfl (by first | exact Or.inl rfl | exact Or.inr rfl) (iv 4))))))
      (s_one (s_ret (iv 2)))))), hm, F.kp, hb⟩
noncomputable def b__law_good_1 : Sm := sRet (eOp2 dEq (eComp [2] (iVal (eVar 0)) (.name 2) (tBl (eOp2 dEq (eComp [3] (iVal (eVar 1)) (.name 3) (tBl (eChain dLe dLe (eOp2 dIx (eVar 2) (eC (.int 1))) (eVar 3) (eOp2 dIx (eVar 2) (eC (.int 2))))) (eVar 3)) (eOpN dLst esNil))) (eVar 2)) (eOpN dLst esNil))
noncomputable def b__law_good : Sm :=
  b__law_good_1
theorem b__law_good_eq : b__law_good = (sRet (eOp2 dEq (eComp [2] (iVal (eVar 0)) (.name 2) (tBl (eOp2 dEq (eComp [3] (iVal (eVar 1)) (.name 3) (tBl (eChain dLe dLe (eOp2 dIx (eVar 2) (eC (.int 1))) (eVar 3) (eOp2 dIx (eVar 2) (eC (.int 2))))) (eVar 3)) (eOpN dLst esNil))) (eVar 2)) (eOpN dLst esNil))) := rfl
noncomputable def d__law_good : FnD := runFn 2 4 b__law_good
theorem D__law_good (Tx : Txt P K mg T) : DefI P w K mg base T.base 1 "_law_good" d__law_good := by
  obtain ⟨f, fd, F, hm, hb⟩ := Tx.fun__law_good
  exact ⟨f, fd, _, FnG.scope (fnU_i (k := 0) (m := 4) (b := b__law_good) F sc__law_good rfl rfl fun cdv A outer s H E hroom tk =>
      (s_one (s_ret (i_cmp (o_eq (hu64 hroom)) (i_comp (own := [("one", 2)]) rfl sc__law_good.nd (it_val (iv 0)) (blkOk_by (by kernel_rfl)) (fun _ _ _ _ _ => (g_name sc__law_good.nd (i := 2) rfl (by first | exact Or.inl rfl | exact Or.inr rfl))) (fun _ _ _ _ _ => q_one (i_tcmp (o_eq (hu64 hroom)) (i_comp (own := [("tick", 3)]) rfl sc__law_good.nd (it_val (iv 1)) (blkOk_by (by kernel_rfl)) (fun _ _ _ _ _ => (g_name sc__law_good.nd (i := 3) rfl (by first | exact Or.inl rfl | exact Or.inr rfl))) (fun _ _ _ _ _ => q_one (t_chain o_le o_le (i_ix o_ix (iv 2) i_int (fun _ _ => rfl)) (iv 3) (i_ix o_ix (iv 2) i_int (fun _ _ => rfl)))) (fun _ _ _ _ _ => (iv 3))) (i_lst a_nil) rfl)) (fun _ _ _ _ _ => (iv 2))) (i_lst a_nil) rfl)))), hm, F.kp, hb⟩
noncomputable def b__law_truth_1 : Sm := sRet (eAnd (eOpN dIsi (esCons (eVar 0) (esCons (eC (.ty .bool)) esNil))) ((eOp2 dEq (eVar 0) (eVar 1))))
noncomputable def b__law_truth : Sm :=
  b__law_truth_1
theorem b__law_truth_eq : b__law_truth = (sRet (eAnd (eOpN dIsi (esCons (eVar 0) (esCons (eC (.ty .bool)) esNil))) ((eOp2 dEq (eVar 0) (eVar 1))))) := rfl
noncomputable def d__law_truth : FnD := runFn 2 2 b__law_truth
theorem D__law_truth (Tx : Txt P K mg T) : DefI P w K mg base T.base 1 "_law_truth" d__law_truth := by
  obtain ⟨f, fd, F, hm, hb⟩ := Tx.fun__law_truth
  exact ⟨f, fd, _, FnG.scope (fnU_i (k := 0) (m := 2) (b := b__law_truth) F sc__law_truth rfl rfl fun cdv A outer s H E hroom tk =>
      (s_one (s_ret (i_and (i_callB o_isi rfl Tx.mg_isinstance PyProof.Rows.boot_isinstance (a_cons (iv 0) (a_cons (i_bty .bool rfl Tx.mg_bool (by decide +kernel)) a_nil))) (i_one (i_cmp (o_eq (hu64 hroom)) (iv 0) (iv 1) rfl)))))), hm, F.kp, hb⟩
noncomputable def b_Needs_late_by_1 : Sm := sSet 2 (eOpN dNew esNil)
noncomputable def b_Needs_late_by_2_1 : Sm := sSet 6 (eComp [7] (iVal (eVar 1)) (.name 7) (tBl (eChain dLe dLe (eVar 4) (eVar 7) (eVar 5))) (eOp2 dSub (eVar 7) (eVar 4)))
noncomputable def b_Needs_late_by_2_2 : Sm := sExpr (eBM isLst dAppend (eVar 2) (esCons (eOpN dTup (esCons (eVar 3) (esCons (eIf (tBl (eOp2 dGt (eOpN dLen (esCons (eVar 6) esNil)) (eC (.int 0)))) (eOpN dMinL (esCons (eVar 6) esNil)) (eC .non)) esNil))) esNil))
noncomputable def b_Needs_late_by_2 : Sm := sFor (iVal (eFld [4] "spans" (eVar 0))) (.tup [(.name 3), (.name 4), (.name 5)]) (sSeq b_Needs_late_by_2_1 b_Needs_late_by_2_2)
noncomputable def b_Needs_late_by_3 : Sm := sRet (eOpN dTupleOf (esCons (eVar 2) esNil))
noncomputable def b_Needs_late_by : Sm :=
  (sSeq b_Needs_late_by_1 (sSeq b_Needs_late_by_2 b_Needs_late_by_3))
theorem b_Needs_late_by_eq : b_Needs_late_by = (sSeq (sSet 2 (eOpN dNew esNil)) (sSeq (sFor (iVal (eFld [4] "spans" (eVar 0))) (.tup [(.name 3), (.name 4), (.name 5)]) (sSeq (sSet 6 (eComp [7] (iVal (eVar 1)) (.name 7) (tBl (eChain dLe dLe (eVar 4) (eVar 7) (eVar 5))) (eOp2 dSub (eVar 7) (eVar 4)))) (sExpr (eBM isLst dAppend (eVar 2) (esCons (eOpN dTup (esCons (eVar 3) (esCons (eIf (tBl (eOp2 dGt (eOpN dLen (esCons (eVar 6) esNil)) (eC (.int 0)))) (eOpN dMinL (esCons (eVar 6) esNil)) (eC .non)) esNil))) esNil))))) (sRet (eOpN dTupleOf (esCons (eVar 2) esNil))))) := rfl
noncomputable def d_Needs_late_by : FnD := runFn 2 8 b_Needs_late_by
theorem D_Needs_late_by (Tx : Txt P K mg T) : MetI P w K mg base T.base 1 4 "late_by" d_Needs_late_by := by
  obtain ⟨f, fd, F, hm, hb⟩ := Tx.met_Needs_late_by
  exact ⟨Tx.cl_Needs, f, fd, _, FnG.scope (fnU_i (k := 0) (m := 8) (b := b_Needs_late_by) F sc_Needs_late_by rfl rfl fun cdv A outer s H E hroom tk =>
      (s_cons (s_set (i := 2) sc_Needs_late_by.nd rfl (by first | exact Or.inl rfl | exact Or.inr rfl) (i_new a_nil))
      (s_cons (s_for (passes_of rfl) rfl (it_val (i_fld (cs := [4]) (by simp only [List.mem_cons, List.not_mem_nil, or_false]; rintro c rfl; exact ⟨Tx.cl_Needs, Tx.na_Needs_spans⟩) (iv 0))) (g_tup (ts := [(.name 3), (.name 4), (.name 5)]) rfl (g_cons (g_name sc_Needs_late_by.nd (i := 3) rfl (by first | exact Or.inl rfl | exact Or.inr rfl)) (g_cons (g_name sc_Needs_late_by.nd (i := 4) rfl (by first | exact Or.inl rfl | exact Or.inr rfl)) (g_cons (g_name sc_Needs_late_by.nd (i := 5) rfl (by first | exact Or.inl rfl | exact Or.inr rfl)) g_nil)))) (s_cons (s_comp (i := 6) (own := [("tick", 7)]) rfl sc_Needs_late_by.nd rfl rfl rfl (it_val (iv 1)) (blkOk_by (by kernel_rfl)) (fun _ _ _ _ _ => (g_name sc_Needs_late_by.nd (i := 7) rfl (by first | exact Or.inl rfl | exact Or.inr rfl))) (fun _ _ _ _ _ => q_one (t_chain o_le o_le (iv 4) (iv 7) (iv 5))) (fun _ _ _ _ _ => (i_bin o_sub (iv 7) (iv 4))))
      (s_one (s_expr (i_lm PySem.F.slot_list_append PySem.F.type_list_append m_append (iv 2) (a_cons (i_tup (a_cons (iv 3) (a_cons (i_if (i_tcmp o_gt (i_callB o_len rfl Tx.mg_len (by decide +kernel) (a_cons (iv 6) a_nil)) i_int rfl) (i_callB (o_minL rfl) rfl Tx.mg_min (by decide +kernel) (a_cons (iv 6) a_nil)) i_non) a_nil))) a_nil))))))
      (s_one (s_ret (i_callTy o_tuple rfl Tx.mg_tuple (by decide +kernel) (a_cons (iv 2) a_nil))))))), hm, hb⟩
noncomputable def b_Needs_served_by_1 : Sm := sRet (eOpN dTupleOf (esCons (eComp [2, 3] (iEnum (esCons (eFld [4] "spans" (eVar 0)) esNil)) (.tup [(.name 2), (.name 3)]) (tBl (eChain dLe dLe (eOp2 dIx (eVar 3) (eC (.int 1))) (eVar 1) (eOp2 dIx (eVar 3) (eC (.int 2))))) (eVar 2)) esNil))
noncomputable def b_Needs_served_by : Sm :=
  b_Needs_served_by_1
theorem b_Needs_served_by_eq : b_Needs_served_by = (sRet (eOpN dTupleOf (esCons (eComp [2, 3] (iEnum (esCons (eFld [4] "spans" (eVar 0)) esNil)) (.tup [(.name 2), (.name 3)]) (tBl (eChain dLe dLe (eOp2 dIx (eVar 3) (eC (.int 1))) (eVar 1) (eOp2 dIx (eVar 3) (eC (.int 2))))) (eVar 2)) esNil))) := rfl
noncomputable def d_Needs_served_by : FnD := runFn 2 4 b_Needs_served_by
theorem D_Needs_served_by (Tx : Txt P K mg T) : MetI P w K mg base T.base 1 4 "served_by" d_Needs_served_by := by
  obtain ⟨f, fd, F, hm, hb⟩ := Tx.met_Needs_served_by
  exact ⟨Tx.cl_Needs, f, fd, _, FnG.scope (fnU_i (k := 0) (m := 4) (b := b_Needs_served_by) F sc_Needs_served_by rfl rfl fun cdv A outer s H E hroom tk =>
      (s_one (s_ret (i_callTy o_tuple rfl Tx.mg_tuple (by decide +kernel) (a_cons (i_comp (own := [("at", 2), ("span", 3)]) rfl sc_Needs_served_by.nd (it_enum rfl Tx.mg_enumerate (a_cons (i_fld (cs := [4]) (by simp only [List.mem_cons, List.not_mem_nil, or_false]; rintro c rfl; exact ⟨Tx.cl_Needs, Tx.na_Needs_spans⟩) (iv 0)) a_nil)) (blkOk_by (by kernel_rfl)) (fun _ _ _ _ _ => (g_tup (ts := [(.name 2), (.name 3)]) rfl (g_cons (g_name sc_Needs_served_by.nd (i := 2) rfl (by first | exact Or.inl rfl | exact Or.inr rfl)) (g_cons (g_name sc_Needs_served_by.nd (i := 3) rfl (by first | exact Or.inl rfl | exact Or.inr rfl)) g_nil)))) (fun _ _ _ _ _ => q_one (t_chain o_le o_le (i_ix o_ix (iv 3) i_int (fun _ _ => rfl)) (iv 1) (i_ix o_ix (iv 3) i_int (fun _ _ => rfl)))) (fun _ _ _ _ _ => (iv 2))) a_nil))))), hm, hb⟩
noncomputable def b_Needs_tries_1_1 : Sm := sRet (eOpN dTup esNil)
noncomputable def b_Needs_tries_1 : Sm := sIf (tBl (eOp2 dEq (eOpN dLen (esCons (eVar 2) esNil)) (eC (.int 0)))) b_Needs_tries_1_1 sNop
noncomputable def b_Needs_tries_2 : Sm := sAsg (.tup [(.name 5), (.name 6)]) (eOpN dMinD (esCons (eComp [7] (iVal (eVar 2)) (.name 7) tYesD (eOpN dTup (esCons (eOp2 dIx (eOp2 dIx (eFld [4] "spans" (eVar 0)) (eVar 7)) (eC (.int 2))) (esCons (eOp2 dIx (eOp2 dIx (eFld [4] "spans" (eVar 0)) (eVar 7)) (eC (.int 1))) esNil)))) esNil))
noncomputable def b_Needs_tries_3 : Sm := sSet 4 (eIf (tBl (eOp2 dGt (eOpN dLen (esCons (eVar 1) esNil)) (eC (.int 0)))) (eOpN dMax2 (esCons (eVar 6) (esCons (eOp2 dAdd (eOp2 dIx (eVar 1) (eOp1 dNeg (eC (.int 1)))) (eVar 3)) esNil))) (eVar 6))
noncomputable def b_Needs_tries_4 : Sm := sRet (eOpN dTupleOf (esCons (eRg false (eVar 4) (eOp2 dAdd (eVar 5) (eC (.int 1)))) esNil))
noncomputable def b_Needs_tries : Sm :=
  (sSeq b_Needs_tries_1 (sSeq b_Needs_tries_2 (sSeq b_Needs_tries_3 b_Needs_tries_4)))
theorem b_Needs_tries_eq : b_Needs_tries = (sSeq (sIf (tBl (eOp2 dEq (eOpN dLen (esCons (eVar 2) esNil)) (eC (.int 0)))) (sRet (eOpN dTup esNil)) sNop) (sSeq (sAsg (.tup [(.name 5), (.name 6)]) (eOpN dMinD (esCons (eComp [7] (iVal (eVar 2)) (.name 7) tYesD (eOpN dTup (esCons (eOp2 dIx (eOp2 dIx (eFld [4] "spans" (eVar 0)) (eVar 7)) (eC (.int 2))) (esCons (eOp2 dIx (eOp2 dIx (eFld [4] "spans" (eVar 0)) (eVar 7)) (eC (.int 1))) esNil)))) esNil))) (sSeq (sSet 4 (eIf (tBl (eOp2 dGt (eOpN dLen (esCons (eVar 1) esNil)) (eC (.int 0)))) (eOpN dMax2 (esCons (eVar 6) (esCons (eOp2 dAdd (eOp2 dIx (eVar 1) (eOp1 dNeg (eC (.int 1)))) (eVar 3)) esNil))) (eVar 6))) (sRet (eOpN dTupleOf (esCons (eRg false (eVar 4) (eOp2 dAdd (eVar 5) (eC (.int 1)))) esNil)))))) := rfl
noncomputable def d_Needs_tries : FnD := runFn 4 8 b_Needs_tries
theorem D_Needs_tries (Tx : Txt P K mg T) : MetI P w K mg base T.base 1 4 "tries" d_Needs_tries := by
  obtain ⟨f, fd, F, hm, hb⟩ := Tx.met_Needs_tries
  exact ⟨Tx.cl_Needs, f, fd, _, FnG.scope (fnU_i (k := 0) (m := 8) (b := b_Needs_tries) F sc_Needs_tries rfl rfl fun cdv A outer s H E hroom tk =>
      (s_cons (s_if (i_tcmp (o_eq (hu64 hroom)) (i_callB o_len rfl Tx.mg_len (by decide +kernel) (a_cons (iv 2) a_nil)) i_int rfl) (s_one (s_ret (i_tup a_nil))) s_nil)
      (s_cons (s_asg (i_callB (o_minD rfl (hu70 hroom)) rfl Tx.mg_min (by decide +kernel) (a_cons (i_comp (own := [("at", 7)]) rfl sc_Needs_tries.nd (it_val (iv 2)) (blkOk_by (by kernel_rfl)) (fun _ _ _ _ _ => (g_name sc_Needs_tries.nd (i := 7) rfl (by first | exact Or.inl rfl | exact Or.inr rfl))) (fun _ _ _ _ _ => q_nil) (fun _ _ _ _ _ => (i_tup (a_cons (i_ix o_ix (i_ix o_ix (i_fld (cs := [4]) (by simp only [List.mem_cons, List.not_mem_nil, or_false]; rintro c rfl; exact ⟨Tx.cl_Needs, Tx.na_Needs_spans⟩) (iv 0)) (iv 7) (fun _ _ => rfl)) i_int (fun _ _ => rfl)) (a_cons (i_ix o_ix (i_ix o_ix (i_fld (cs := [4]) (by simp only [List.mem_cons, List.not_mem_nil, or_false]; rintro c rfl; exact ⟨Tx.cl_Needs, Tx.na_Needs_spans⟩) (iv 0)) (iv 7) (fun _ _ => rfl)) i_int (fun _ _ => rfl)) a_nil))))) a_nil)) (g_tup (ts := [(.name 5), (.name 6)]) rfl (g_cons (g_name sc_Needs_tries.nd (i := 5) rfl (by first | exact Or.inl rfl | exact Or.inr rfl)) (g_cons (g_name sc_Needs_tries.nd (i := 6) rfl (by first | exact Or.inl rfl | exact Or.inr rfl)) g_nil))))
      (s_cons (s_set (i := 4) sc_Needs_tries.nd rfl (by first | exact Or.inl rfl | exact Or.inr rfl) (i_if (i_tcmp o_gt (i_callB o_len rfl Tx.mg_len (by decide +kernel) (a_cons (iv 1) a_nil)) i_int rfl) (i_callB (o_max2 rfl) rfl Tx.mg_max (by decide +kernel) (a_cons (iv 6) (a_cons (i_bin o_add (i_ix o_ix (iv 1) (i_un o_neg i_int) (fun _ _ => rfl)) (iv 3)) a_nil))) (iv 6)))
      (s_one (s_ret (i_callTy o_tuple rfl Tx.mg_tuple (by decide +kernel) (a_cons (i_listRg2 false rfl rfl Tx.mg_list rfl Tx.mg_range (iv 4) (i_bin o_add (iv 5) i_int)) a_nil)))))))), hm, hb⟩
noncomputable def b_Needs_gentle_1 : Sm := sSet 2 (eC .non)
noncomputable def b_Needs_gentle_2 : Sm := sSet 3 (eOpN dLst (esCons (eOpN dTup esNil) esNil))
noncomputable def b_Needs_gentle_3_1 : Sm := sSet 4 (eOpN dNew esNil)
noncomputable def b_Needs_gentle_3_2_1 : Sm := sSet 6 (eMeth 4 "unserved" d_Needs_unserved (eVar 0) (esCons (eVar 5) esNil))
noncomputable def b_Needs_gentle_3_2_2_1 : Sm := sSet 2 (eVar 5)
noncomputable def b_Needs_gentle_3_2_2 : Sm := sIf (tAnd (tBl (eOp2 dEq (eOpN dLen (esCons (eVar 6) esNil)) (eC (.int 0)))) ((tOr (tBl (eOp2 dIs (eVar 2) (eC .non))) ((tBl (eOp2 dLtD (eVar 5) (eVar 2))))))) b_Needs_gentle_3_2_2_1 sNop
noncomputable def b_Needs_gentle_3_2_3 : Sm := sExpr (eBM isLst dExtend (eVar 4) (esCons (eComp [7] (iVal (eMeth 4 "tries" d_Needs_tries (eVar 0) (esCons (eVar 5) (esCons (eVar 6) (esCons (eVar 1) esNil))))) (.name 7) tYesD (eOp2 dAdd (eVar 5) (eOpN dTup (esCons (eVar 7) esNil)))) esNil))
noncomputable def b_Needs_gentle_3_2 : Sm := sFor (iVal (eVar 3)) (.name 5) (sSeq b_Needs_gentle_3_2_1 (sSeq b_Needs_gentle_3_2_2 b_Needs_gentle_3_2_3))
noncomputable def b_Needs_gentle_3_3 : Sm := sSet 3 (eFrz (eVar 4))
noncomputable def b_Needs_gentle_3 : Sm := sWhile (tAnd (tBl (eOp2 dGt (eOpN dLen (esCons (eVar 3) esNil)) (eC (.int 0)))) ((tBl (eOp2 dIs (eVar 2) (eC .non))))) (sSeq b_Needs_gentle_3_1 (sSeq b_Needs_gentle_3_2 b_Needs_gentle_3_3))
noncomputable def b_Needs_gentle_4 : Sm := sRet (eVar 2)
noncomputable def b_Needs_gentle : Sm :=
  (sSeq b_Needs_gentle_1 (sSeq b_Needs_gentle_2 (sSeq b_Needs_gentle_3 b_Needs_gentle_4)))
theorem b_Needs_gentle_eq : b_Needs_gentle = (sSeq (sSet 2 (eC .non)) (sSeq (sSet 3 (eOpN dLst (esCons (eOpN dTup esNil) esNil))) (sSeq (sWhile (tAnd (tBl (eOp2 dGt (eOpN dLen (esCons (eVar 3) esNil)) (eC (.int 0)))) ((tBl (eOp2 dIs (eVar 2) (eC .non))))) (sSeq (sSet 4 (eOpN dNew esNil)) (sSeq (sFor (iVal (eVar 3)) (.name 5) (sSeq (sSet 6 (eMeth 4 "unserved" d_Needs_unserved (eVar 0) (esCons (eVar 5) esNil))) (sSeq (sIf (tAnd (tBl (eOp2 dEq (eOpN dLen (esCons (eVar 6) esNil)) (eC (.int 0)))) ((tOr (tBl (eOp2 dIs (eVar 2) (eC .non))) ((tBl (eOp2 dLtD (eVar 5) (eVar 2))))))) (sSet 2 (eVar 5)) sNop) (sExpr (eBM isLst dExtend (eVar 4) (esCons (eComp [7] (iVal (eMeth 4 "tries" d_Needs_tries (eVar 0) (esCons (eVar 5) (esCons (eVar 6) (esCons (eVar 1) esNil))))) (.name 7) tYesD (eOp2 dAdd (eVar 5) (eOpN dTup (esCons (eVar 7) esNil)))) esNil)))))) (sSet 3 (eFrz (eVar 4)))))) (sRet (eVar 2))))) := rfl
noncomputable def d_Needs_gentle : FnD := runFn 2 8 b_Needs_gentle
theorem D_Needs_gentle (Tx : Txt P K mg T) : MetI P w K mg base T.base 2 4 "gentle" d_Needs_gentle := by
  obtain ⟨f, fd, F, hm, hb⟩ := Tx.met_Needs_gentle
  have H_Needs_tries : MetI P w K mg base T.base 1 4 "tries" d_Needs_tries := D_Needs_tries Tx
  have H_Needs_unserved : MetI P w K mg base T.base 1 4 "unserved" d_Needs_unserved := D_Needs_unserved Tx
  exact ⟨Tx.cl_Needs, f, fd, _, FnG.scope (fnU_i (k := 1) (m := 8) (b := b_Needs_gentle) F sc_Needs_gentle rfl rfl fun cdv A outer s H E hroom tk =>
      (s_cons (s_set (i := 2) sc_Needs_gentle.nd rfl (by first | exact Or.inl rfl | exact Or.inr rfl) i_non)
      (s_cons (s_set (i := 3) sc_Needs_gentle.nd rfl (by first | exact Or.inl rfl | exact Or.inr rfl) (i_lst (a_cons (i_tup a_nil) a_nil)))
      (s_cons (s_while (passes_of rfl) (i_w (i_tand (i_tcmp o_gt (i_callB o_len rfl Tx.mg_len (by decide +kernel) (a_cons (iv 3) a_nil)) i_int rfl) (i_and1 (i_tcmp o_is (iv 2) i_non rfl)))) (s_cons (s_set (i := 4) sc_Needs_gentle.nd rfl (by first | exact Or.inl rfl | exact Or.inr rfl) (i_new a_nil))
      (s_cons (s_for (passes_of rfl) rfl (it_val (iv 3)) (g_name sc_Needs_gentle.nd (i := 5) rfl (by first | exact Or.inl rfl | exact Or.inr rfl)) (s_cons (s_set (i := 6) sc_Needs_gentle.nd rfl (by first | exact Or.inl rfl | exact Or.inr rfl) (i_meth H_Needs_unserved (hroom.mono (by decide)) tk (iv 0) (a_cons (iv 5) a_nil)))
      (s_cons (s_if (i_w (i_tand (i_tcmp (o_eq (hu64 hroom)) (i_callB o_len rfl Tx.mg_len (by decide +kernel) (a_cons (iv 6) a_nil)) i_int rfl) (i_and1 (i_w (i_tor (i_tcmp o_is (iv 2) i_non rfl) (i_or1 (i_tcmp (o_ltD (hu70 hroom)) (iv 5) (iv 2) rfl))))))) (s_one (s_set (i := 2) sc_Needs_gentle.nd rfl (by first | exact Or.inl rfl | exact Or.inr rfl) (iv 5))) s_nil)
      (s_one (s_expr (i_lm PySem.F.slot_list_extend PySem.F.type_list_extend m_extend (iv 4) (a_cons (i_comp (own := [("tick", 7)]) rfl sc_Needs_gentle.nd (it_val (i_meth H_Needs_tries (hroom.mono (by decide)) tk (iv 0) (a_cons (iv 5) (a_cons (iv 6) (a_cons (iv 1) a_nil))))) (blkOk_by (by kernel_rfl)) (fun _ _ _ _ _ => (g_name sc_Needs_gentle.nd (i := 7) rfl (by first | exact Or.inl rfl | exact Or.inr rfl))) (fun _ _ _ _ _ => q_nil) (fun _ _ _ _ _ => (i_bin o_add (iv 5) (i_tup (a_cons (iv 7) a_nil))))) a_nil)))))))
      (s_one (s_set (i := 3) sc_Needs_gentle.nd rfl (by first | exact Or.inl rfl | exact Or.inr rfl) (i_frz (iv 4)))))))
      (s_one (s_ret (iv 2))))))), hm, hb⟩
noncomputable def b_Needs_without_1 : Sm := sRet (eMakeV 4 d_Needs___init__ (esCons (eOp2 dAdd (eSl (eFld [4] "spans" (eVar 0)) eoNone (eoSome (eVar 1))) (eSl (eFld [4] "spans" (eVar 0)) (eoSome (eOp2 dAdd (eVar 1) (eC (.int 1)))) eoNone)) esNil))
noncomputable def b_Needs_without : Sm :=
  b_Needs_without_1
theorem b_Needs_without_eq : b_Needs_without = (sRet (eMakeV 4 d_Needs___init__ (esCons (eOp2 dAdd (eSl (eFld [4] "spans" (eVar 0)) eoNone (eoSome (eVar 1))) (eSl (eFld [4] "spans" (eVar 0)) (eoSome (eOp2 dAdd (eVar 1) (eC (.int 1)))) eoNone)) esNil))) := rfl
noncomputable def d_Needs_without : FnD := runFn 2 2 b_Needs_without
theorem D_Needs_without (Tx : Txt P K mg T) : MetI P w K mg base T.base 17 4 "without" d_Needs_without := by
  obtain ⟨f, fd, F, hm, hb⟩ := Tx.met_Needs_without
  have HM_Needs : MakI P w K mg base T.base 15 "Needs" 4 d_Needs___init__ := D_Needs___init__ Tx
  exact ⟨Tx.cl_Needs, f, fd, _, FnG.scope (fnU_i (k := 16) (m := 2) (b := b_Needs_without) F sc_Needs_without rfl rfl fun cdv A outer s H E hroom tk =>
      (s_one (s_ret (i_makeV HM_Needs (hroom.mono (by decide)) tk rfl (a_cons (i_bin o_add (i_slice (i_fld (cs := [4]) (by simp only [List.mem_cons, List.not_mem_nil, or_false]; rintro c rfl; exact ⟨Tx.cl_Needs, Tx.na_Needs_spans⟩) (iv 0)) oi_none (oi_some (iv 1))) (i_slice (i_fld (cs := [4]) (by simp only [List.mem_cons, List.not_mem_nil, or_false]; rintro c rfl; exact ⟨Tx.cl_Needs, Tx.na_Needs_spans⟩) (iv 0)) (oi_some (i_bin o_add (iv 1) i_int)) oi_none)) a_nil))))), hm, hb⟩
noncomputable def b_Needs_needed_1 : Sm := sSet 1 (eOpN dLen (esCons (eMeth 4 "visits" d_Needs_visits (eVar 0) esNil) esNil))
noncomputable def b_Needs_needed_2 : Sm := sRet (eOpN dTupleOf (esCons (eComp [2] (iRange1 (esCons (eOpN dLen (esCons (eFld [4] "spans" (eVar 0)) esNil)) esNil)) (.name 2) (tBl (eOp2 dLt (eOpN dLen (esCons (eMeth 4 "visits" d_Needs_visits (eMeth 4 "without" d_Needs_without (eVar 0) (esCons (eVar 2) esNil)) esNil) esNil)) (eVar 1))) (eVar 2)) esNil))
noncomputable def b_Needs_needed : Sm :=
  (sSeq b_Needs_needed_1 b_Needs_needed_2)
theorem b_Needs_needed_eq : b_Needs_needed = (sSeq (sSet 1 (eOpN dLen (esCons (eMeth 4 "visits" d_Needs_visits (eVar 0) esNil) esNil))) (sRet (eOpN dTupleOf (esCons (eComp [2] (iRange1 (esCons (eOpN dLen (esCons (eFld [4] "spans" (eVar 0)) esNil)) esNil)) (.name 2) (tBl (eOp2 dLt (eOpN dLen (esCons (eMeth 4 "visits" d_Needs_visits (eMeth 4 "without" d_Needs_without (eVar 0) (esCons (eVar 2) esNil)) esNil) esNil)) (eVar 1))) (eVar 2)) esNil)))) := rfl
noncomputable def d_Needs_needed : FnD := runFn 1 3 b_Needs_needed
theorem D_Needs_needed (Tx : Txt P K mg T) : MetI P w K mg base T.base 18 4 "needed" d_Needs_needed := by
  obtain ⟨f, fd, F, hm, hb⟩ := Tx.met_Needs_needed
  have H_Needs_visits : MetI P w K mg base T.base 1 4 "visits" d_Needs_visits := D_Needs_visits Tx
  have H_Needs_without : MetI P w K mg base T.base 17 4 "without" d_Needs_without := D_Needs_without Tx
  exact ⟨Tx.cl_Needs, f, fd, _, FnG.scope (fnU_i (k := 17) (m := 3) (b := b_Needs_needed) F sc_Needs_needed rfl rfl fun cdv A outer s H E hroom tk =>
      (s_cons (s_set (i := 1) sc_Needs_needed.nd rfl (by first | exact Or.inl rfl | exact Or.inr rfl) (i_callB o_len rfl Tx.mg_len (by decide +kernel) (a_cons (i_meth0 H_Needs_visits (hroom.mono (by decide)) tk (iv 0)) a_nil)))
      (s_one (s_ret (i_callTy o_tuple rfl Tx.mg_tuple (by decide +kernel) (a_cons (i_comp (own := [("at", 2)]) rfl sc_Needs_needed.nd (it_range1 rfl Tx.mg_range (a_cons (i_callB o_len rfl Tx.mg_len (by decide +kernel) (a_cons (i_fld (cs := [4]) (by simp only [List.mem_cons, List.not_mem_nil, or_false]; rintro c rfl; exact ⟨Tx.cl_Needs, Tx.na_Needs_spans⟩) (iv 0)) a_nil)) a_nil)) (blkOk_by (by kernel_rfl)) (fun _ _ _ _ _ => (g_name sc_Needs_needed.nd (i := 2) rfl (by first | exact Or.inl rfl | exact Or.inr rfl))) (fun _ _ _ _ _ => q_one (i_tcmp o_lt (i_callB o_len rfl Tx.mg_len (by decide +kernel) (a_cons (i_meth0 H_Needs_visits (hroom.mono (by decide)) takes0 (i_meth H_Needs_without (hroom.mono (by decide)) takes0 (iv 0) (a_cons (iv 2) a_nil))) a_nil)) (iv 1) rfl)) (fun _ _ _ _ _ => (iv 2))) a_nil)))))), hm, hb⟩
noncomputable def b_want_number_1_1 : Sm := sRaise 1 "value" (esCons (eVar 0) esNil)
noncomputable def b_want_number_1 : Sm := sIf (tNot (tOf (eCall d_is_number (esCons (eVar 0) (esCons (eVar 1) (esCons (eVar 2) esNil)))))) b_want_number_1_1 sNop
noncomputable def b_want_number_2 : Sm := sRet (eVar 0)
noncomputable def b_want_number : Sm :=
  (sSeq b_want_number_1 b_want_number_2)
theorem b_want_number_eq : b_want_number = (sSeq (sIf (tNot (tOf (eCall d_is_number (esCons (eVar 0) (esCons (eVar 1) (esCons (eVar 2) esNil)))))) (sRaise 1 "value" (esCons (eVar 0) esNil)) sNop) (sRet (eVar 0))) := rfl
noncomputable def d_want_number : FnD := runFn 3 3 b_want_number
theorem D_want_number (Tx : Txt P K mg T) : DefI P w K mg base T.base 3 "want_number" d_want_number := by
  obtain ⟨f, fd, F, hm, hb⟩ := Tx.fun_want_number
  have H_is_number : DefI P w K mg base T.base 2 "is_number" d_is_number := D_is_number Tx
  exact ⟨f, fd, _, FnG.scope (fnU_i (k := 2) (m := 3) (b := b_want_number) F sc_want_number rfl rfl fun cdv A outer s H E hroom tk =>
      (s_cons (s_if (i_tnot (i_truth (i_call H_is_number (hroom.mono (by decide)) tk rfl (a_cons (iv 0) (a_cons (iv 1) (a_cons (iv 2) a_nil)))))) (s_one (s_raise (c := 1) rfl Tx.x_BadNumber.2 fn_value Tx.x_BadNumber.1 hroom.r rfl tk (a_cons (iv 0) a_nil) rfl)) s_nil)
      (s_one (s_ret (iv 0))))), hm, F.kp, hb⟩
noncomputable def b_spans_of_1 : Sm := sExpr (eCall d_want_number (esCons (eVar 1) (esCons (eC (.int 0)) (esCons (eC (.int (9999))) esNil))))
noncomputable def b_spans_of_2 : Sm := sExpr (eCall d_want_number (esCons (eVar 2) (esCons (eC (.int 0)) (esCons (eC (.int (9999))) esNil))))
noncomputable def b_spans_of_3 : Sm := sSet 3 (eOpN dNew esNil)
noncomputable def b_spans_of_4_1_1 : Sm := sRaise 2 "index" (esCons (eVar 4) esNil)
noncomputable def b_spans_of_4_1 : Sm := sIf (tOr (tNot (tOf (eCall d_is_row (esCons (eVar 5) esNil)))) (tOr (tBl (eOp2 dNe (eOpN dLen (esCons (eVar 5) esNil)) (eC (.int 2)))) (tOr (tNot (tOf (eCall d_is_name (esCons (eOp2 dIx (eVar 5) (eC (.int 0))) esNil)))) ((tNot (tOf (eCall d_is_number (esCons (eOp2 dIx (eVar 5) (eC (.int 1))) (esCons (eC (.int 0)) (esCons (eC (.int (9999))) esNil)))))))))) b_spans_of_4_1_1 sNop
noncomputable def b_spans_of_4_2_1 : Sm := sExpr (eBM isLst dAppend (eVar 3) (esCons (eOpN dTup (esCons (eOp2 dIx (eVar 5) (eC (.int 0))) (esCons (eOp2 dIx (eVar 5) (eC (.int 1))) (esCons (eOpN dMin2 (esCons (eVar 2) (esCons (eOp2 dAdd (eOp2 dIx (eVar 5) (eC (.int 1))) (eVar 1)) esNil))) esNil)))) esNil))
noncomputable def b_spans_of_4_2 : Sm := sIf (tBl (eOp2 dLe (eOp2 dIx (eVar 5) (eC (.int 1))) (eVar 2))) b_spans_of_4_2_1 sNop
noncomputable def b_spans_of_4 : Sm := sFor (iEnum (esCons (eVar 0) esNil)) (.tup [(.name 4), (.name 5)]) (sSeq b_spans_of_4_1 b_spans_of_4_2)
noncomputable def b_spans_of_5 : Sm := sRet (eOpN dTupleOf (esCons (eVar 3) esNil))
noncomputable def b_spans_of : Sm :=
  (sSeq b_spans_of_1 (sSeq b_spans_of_2 (sSeq b_spans_of_3 (sSeq b_spans_of_4 b_spans_of_5))))
theorem b_spans_of_eq : b_spans_of = (sSeq (sExpr (eCall d_want_number (esCons (eVar 1) (esCons (eC (.int 0)) (esCons (eC (.int (9999))) esNil))))) (sSeq (sExpr (eCall d_want_number (esCons (eVar 2) (esCons (eC (.int 0)) (esCons (eC (.int (9999))) esNil))))) (sSeq (sSet 3 (eOpN dNew esNil)) (sSeq (sFor (iEnum (esCons (eVar 0) esNil)) (.tup [(.name 4), (.name 5)]) (sSeq (sIf (tOr (tNot (tOf (eCall d_is_row (esCons (eVar 5) esNil)))) (tOr (tBl (eOp2 dNe (eOpN dLen (esCons (eVar 5) esNil)) (eC (.int 2)))) (tOr (tNot (tOf (eCall d_is_name (esCons (eOp2 dIx (eVar 5) (eC (.int 0))) esNil)))) ((tNot (tOf (eCall d_is_number (esCons (eOp2 dIx (eVar 5) (eC (.int 1))) (esCons (eC (.int 0)) (esCons (eC (.int (9999))) esNil)))))))))) (sRaise 2 "index" (esCons (eVar 4) esNil)) sNop) (sIf (tBl (eOp2 dLe (eOp2 dIx (eVar 5) (eC (.int 1))) (eVar 2))) (sExpr (eBM isLst dAppend (eVar 3) (esCons (eOpN dTup (esCons (eOp2 dIx (eVar 5) (eC (.int 0))) (esCons (eOp2 dIx (eVar 5) (eC (.int 1))) (esCons (eOpN dMin2 (esCons (eVar 2) (esCons (eOp2 dAdd (eOp2 dIx (eVar 5) (eC (.int 1))) (eVar 1)) esNil))) esNil)))) esNil))) sNop))) (sRet (eOpN dTupleOf (esCons (eVar 3) esNil))))))) := rfl
noncomputable def d_spans_of : FnD := runFn 3 6 b_spans_of
theorem D_spans_of (Tx : Txt P K mg T) : DefI P w K mg base T.base 4 "spans_of" d_spans_of := by
  obtain ⟨f, fd, F, hm, hb⟩ := Tx.fun_spans_of
  have H_is_name : DefI P w K mg base T.base 1 "is_name" d_is_name := D_is_name Tx
  have H_is_number : DefI P w K mg base T.base 2 "is_number" d_is_number := D_is_number Tx
  have H_is_row : DefI P w K mg base T.base 1 "is_row" d_is_row := D_is_row Tx
  have H_want_number : DefI P w K mg base T.base 3 "want_number" d_want_number := D_want_number Tx
  exact ⟨f, fd, _, FnG.scope (fnU_i (k := 3) (m := 6) (b := b_spans_of) F sc_spans_of rfl rfl fun cdv A outer s H E hroom tk =>
      (s_cons (s_expr (i_call H_want_number (hroom.mono (by decide)) tk rfl (a_cons (iv 1) (a_cons i_int (a_cons (i_gint rfl Tx.con_LAST_TICK) a_nil)))))
      (s_cons (s_expr (i_call H_want_number (hroom.mono (by decide)) tk rfl (a_cons (iv 2) (a_cons i_int (a_cons (i_gint rfl Tx.con_LAST_TICK) a_nil)))))
      (s_cons (s_set (i := 3) sc_spans_of.nd rfl (by first | exact Or.inl rfl | exact Or.inr rfl) (i_new a_nil))
      (s_cons (s_for (passes_of rfl) rfl (it_enum rfl Tx.mg_enumerate (a_cons (iv 0) a_nil)) (g_tup (ts := [(.name 4), (.name 5)]) rfl (g_cons (g_name sc_spans_of.nd (i := 4) rfl (by first | exact Or.inl rfl | exact Or.inr rfl)) (g_cons (g_name sc_spans_of.nd (i := 5) rfl (by first | exact Or.inl rfl | exact Or.inr rfl)) g_nil))) (s_cons (s_if (i_w (i_tor (i_tnot (i_truth (i_call H_is_row (hroom.mono (by decide)) tk rfl (a_cons (iv 5) a_nil)))) (i_tor (i_tcmp (o_ne (hu64 hroom)) (i_callB o_len rfl Tx.mg_len (by decide +kernel) (a_cons (iv 5) a_nil)) i_int rfl) (i_tor (i_tnot (i_truth (i_call H_is_name (hroom.mono (by decide)) tk rfl (a_cons (i_ix o_ix (iv 5) i_int (fun _ _ => rfl)) a_nil)))) (i_or1 (i_tnot (i_truth (i_call H_is_number (hroom.mono (by decide)) tk rfl (a_cons (i_ix o_ix (iv 5) i_int (fun _ _ => rfl)) (a_cons i_int (a_cons (i_gint rfl Tx.con_LAST_TICK) a_nil))))))))))) (s_one (s_raise (c := 2) rfl Tx.x_BadItem.2 fn_index Tx.x_BadItem.1 hroom.r rfl tk (a_cons (iv 4) a_nil) rfl)) s_nil)
      (s_one (s_if (i_tcmp o_le (i_ix o_ix (iv 5) i_int (fun _ _ => rfl)) (iv 2) rfl) (s_one (s_expr (i_lm PySem.F.slot_list_append PySem.F.type_list_append m_append (iv 3) (a_cons (i_tup (a_cons (i_ix o_ix (iv 5) i_int (fun _ _ => rfl)) (a_cons (i_ix o_ix (iv 5) i_int (fun _ _ => rfl)) (a_cons (i_callB (o_min2 rfl) rfl Tx.mg_min (by decide +kernel) (a_cons (iv 2) (a_cons (i_bin o_add (i_ix o_ix (iv 5) i_int (fun _ _ => rfl)) (iv 1)) a_nil))) a_nil)))) a_nil)))) s_nil))))
      (s_one (s_ret (i_callTy o_tuple rfl Tx.mg_tuple (by decide +kernel) (a_cons (iv 3) a_nil))))))))), hm, F.kp, hb⟩
noncomputable def b__law_rest_1 : Sm := sSet 5 (eOp2 dAdd (eC (.int 1)) (eCall d__law_taken (esCons (eVar 0) (esCons (eC (.int 4)) esNil))))
noncomputable def b__law_rest_2 : Sm := sAsg (.tup [(.name 12), (.name 13)]) (eOpN dTup (esCons (eMeth 4 "gentle" d_Needs_gentle (eVar 1) (esCons (eVar 5) esNil)) (esCons (eOpN dLst esNil) esNil)))
noncomputable def b__law_rest_3_1 : Sm := sSet 13 (eOp2 dAdd (eVar 13) (eComp [23] (iVal (eCall d__law_rows (esCons (eVar 6) (esCons (eC (.int 16)) esNil)))) (.name 23) (tAnd (tBl (eOp2 dEq (eVar 13) (eOpN dLst esNil))) (tAnd (tOf (eCall d__law_good (esCons (eVar 2) (esCons (eVar 23) esNil)))) ((tBl (eOp2 dEq (eComp [8] (iRange2 (esCons (eC (.int 1)) (esCons (eVar 6) esNil))) (.name 8) (tBl (eOp2 dLt (eOp2 dSub (eOp2 dIx (eVar 23) (eVar 8)) (eOp2 dIx (eVar 23) (eOp2 dSub (eVar 8) (eC (.int 1))))) (eVar 5))) (eVar 8)) (eOpN dLst esNil)))))) (eVar 23)))
noncomputable def b__law_rest_3 : Sm := sFor (iRange1 (esCons (eC (.int 4)) esNil)) (.name 6) b__law_rest_3_1
noncomputable def b__law_rest_4_1 : Sm := sRet (eC (.bl false))
noncomputable def b__law_rest_4 : Sm := sIf (tAnd (tBl (eOp2 dIsNot (eVar 12) (eC .non))) ((tOr (tNot (tOf (eCall d__law_good (esCons (eVar 2) (esCons (eVar 12) esNil))))) (tOr (tBl (eOp2 dNe (eComp [8] (iRange2 (esCons (eC (.int 1)) (esCons (eOpN dLen (esCons (eVar 12) esNil)) esNil))) (.name 8) (tBl (eOp2 dLt (eOp2 dSub (eOp2 dIx (eVar 12) (eVar 8)) (eOp2 dIx (eVar 12) (eOp2 dSub (eVar 8) (eC (.int 1))))) (eVar 5))) (eVar 8)) (eOpN dLst esNil))) ((tBl (eOp2 dLt (eOpN dLen (esCons (eVar 12) esNil)) (eOpN dLen (esCons (eVar 3) esNil))))))))) b__law_rest_4_1 sNop
noncomputable def b__law_rest_5_1 : Sm := sRet (eC (.bl false))
noncomputable def b__law_rest_5 : Sm := sIf (tOr (tAnd (tBl (eOp2 dNe (eVar 13) (eOpN dLst esNil))) ((tOr (tBl (eOp2 dIs (eVar 12) (eC .non))) ((tBl (eOp2 dNe (eOpN dLen (esCons (eVar 12) esNil)) (eOpN dLen (esCons (eOp2 dIx (eVar 13) (eC (.int 0))) esNil)))))))) ((tAnd (tBl (eOp2 dEq (eVar 13) (eOpN dLst esNil))) (tAnd (tBl (eOp2 dIsNot (eVar 12) (eC .non))) ((tBl (eOp2 dLt (eOpN dLen (esCons (eVar 12) esNil)) (eC (.int 4))))))))) b__law_rest_5_1 sNop
noncomputable def b__law_rest_6 : Sm := sSet 7 (eOpN dLst esNil)
noncomputable def b__law_rest_7_1 : Sm := sSet 14 (eOp2 dAdd (eSl (eVar 2) eoNone (eoSome (eVar 8))) (eSl (eVar 2) (eoSome (eOp2 dAdd (eVar 8) (eC (.int 1)))) eoNone))
noncomputable def b__law_rest_7_2_1 : Sm := sRet (eC (.bl false))
noncomputable def b__law_rest_7_2 : Sm := sIf (tBl (eOp2 (dNeO 4 (d_Needs___eq__)) (eMeth 4 "without" d_Needs_without (eVar 1) (esCons (eVar 8) esNil)) (eMakeV 4 d_Needs___init__ (esCons (eVar 14) esNil)))) b__law_rest_7_2_1 sNop
noncomputable def b__law_rest_7_3 : Sm := sSet 7 (eOp2 dAdd (eVar 7) (eComp [24] (iRange1 (esCons (eOpN dInt (esCons (eOp2 dLt (eOpN dLen (esCons (eMeth 4 "visits" d_Needs_visits (eMakeV 4 d_Needs___init__ (esCons (eVar 14) esNil)) esNil) esNil)) (eOpN dLen (esCons (eVar 3) esNil))) esNil)) esNil)) (.name 24) tYesD (eVar 8)))
noncomputable def b__law_rest_7 : Sm := sFor (iRange1 (esCons (eOpN dLen (esCons (eVar 2) esNil)) esNil)) (.name 8) (sSeq b__law_rest_7_1 (sSeq b__law_rest_7_2 b__law_rest_7_3))
noncomputable def b__law_rest_8_1 : Sm := sRet (eC (.bl false))
noncomputable def b__law_rest_8 : Sm := sIf (tNot (tOf (eCall (d__law_alike 12) (esCons (eMeth 4 "needed" d_Needs_needed (eVar 1) esNil) (esCons (eOpN dTupleOf (esCons (eVar 7) esNil)) esNil))))) b__law_rest_8_1 sNop
noncomputable def b__law_rest_9 : Sm := sAsg (.tup [(.name 15), (.name 16), (.name 17)]) (eOpN dTup (esCons (eComp [21] (iVal (eVar 4)) (.name 21) tYesD (eOpN dTup (esCons (eVar 21) (esCons (eCall d__law_taken (esCons (eVar 0) (esCons (eC (.int 20)) esNil))) esNil)))) (esCons (eCall d__law_taken (esCons (eVar 0) (esCons (eC (.int 6)) esNil))) (esCons (eCall d__law_taken (esCons (eVar 0) (esCons (eC (.int 20)) esNil))) esNil))))
noncomputable def b__law_rest_10 : Sm := sSet 9 (eComp [21, 22] (iVal (eVar 15)) (.tup [(.name 21), (.name 22)]) (tBl (eOp2 dLe (eVar 22) (eVar 17))) (eOpN dTup (esCons (eVar 21) (esCons (eVar 22) (esCons (eOpN dMin2 (esCons (eVar 17) (esCons (eOp2 dAdd (eVar 22) (eVar 16)) esNil))) esNil)))))
noncomputable def b__law_rest_11_1 : Sm := sRet (eC (.bl false))
noncomputable def b__law_rest_11 : Sm := sIf (tNot (tOf (eCall (d__law_alike 12) (esCons (eCall d_spans_of (esCons (eComp [25] (iVal (eVar 15)) (.name 25) tYesD (eOpN dListOf (esCons (eVar 25) esNil))) (esCons (eVar 16) (esCons (eVar 17) esNil)))) (esCons (eOpN dTupleOf (esCons (eVar 9) esNil)) esNil))))) b__law_rest_11_1 sNop
noncomputable def b__law_rest_12_1_1 : Sm := sExpr (eCall d_spans_of (esCons (eVar 18) (esCons (eC (.int 1)) (esCons (eC (.int 9)) esNil))))
noncomputable def b__law_rest_12_1_2 : Sm := sRet (eC (.bl false))
noncomputable def b__law_rest_12_1_0_1_1_1 : Sm := sRet (eC (.bl false))
noncomputable def b__law_rest_12_1_0_1_1 : Sm := sIf (tBl (eOp2 dNe (eXf [2] 20 "index") (eVar 19))) b__law_rest_12_1_0_1_1_1 sNop
noncomputable def b__law_rest_12_1 : Sm := sTry (sSeq b__law_rest_12_1_1 b__law_rest_12_1_2) [⟨[(1, false), (2, true), (3, false)], some 20, b__law_rest_12_1_0_1_1⟩]
noncomputable def b__law_rest_12 : Sm := sFor (iVal (eOpN dLst (esCons (eOpN dTup (esCons (eOpN dLst (esCons (eOpN dTup (esCons (eC (.str "a")) (esCons (eC (.int 1)) esNil))) (esCons (eOpN dTup (esCons (eC (.str "a")) (esCons (eOp1 dNeg (eC (.int 1))) esNil))) esNil))) (esCons (eC (.int 1)) esNil))) (esCons (eOpN dTup (esCons (eOpN dLst (esCons (eOpN dTup (esCons (eC (.str "A")) (esCons (eC (.int 1)) esNil))) esNil)) (esCons (eC (.int 0)) esNil))) (esCons (eOpN dTup (esCons (eOpN dLst (esCons (eC (.int 5)) esNil)) (esCons (eC (.int 0)) esNil))) esNil))))) (.tup [(.name 18), (.name 19)]) b__law_rest_12_1
noncomputable def b__law_rest_13_1_1 : Sm := sExpr (eCall d_spans_of (esCons (eOpN dLst esNil) (esCons (eOp2 dIx (eOpN dLst (esCons (eOp1 dNeg (eC (.int 1))) (esCons (eC (.int 1)) esNil))) (eVar 10)) (esCons (eOp2 dIx (eOpN dLst (esCons (eC (.int 1)) (esCons (eC (.int 10000)) esNil))) (eVar 10)) esNil))))
noncomputable def b__law_rest_13_1_2 : Sm := sRet (eC (.bl false))
noncomputable def b__law_rest_13_1_0_1_1_1 : Sm := sRet (eC (.bl false))
noncomputable def b__law_rest_13_1_0_1_1 : Sm := sIf (tBl (eOp2 dNe (eXf [1] 20 "value") (eOp2 dIx (eOpN dLst (esCons (eOp1 dNeg (eC (.int 1))) (esCons (eC (.int 10000)) esNil))) (eVar 10)))) b__law_rest_13_1_0_1_1_1 sNop
noncomputable def b__law_rest_13_1 : Sm := sTry (sSeq b__law_rest_13_1_1 b__law_rest_13_1_2) [⟨[(1, true), (2, false), (3, false)], some 20, b__law_rest_13_1_0_1_1⟩]
noncomputable def b__law_rest_13 : Sm := sFor (iRange1 (esCons (eC (.int 2)) esNil)) (.name 10) b__law_rest_13_1
noncomputable def b__law_rest_14 : Sm := sSet 11 (eCall d__law_pick (esCons (eVar 0) (esCons (eOpN dLst (esCons (eOpN dTup (esCons (eC (.str "")) (esCons (eC (.int 1)) (esCons (eC (.int 2)) esNil)))) (esCons (eOpN dTup (esCons (eC (.str "a")) (esCons (eC (.int 2)) (esCons (eC (.int 1)) esNil)))) (esCons (eOpN dTup (esCons (eC (.str "a")) (esCons (eOp1 dNeg (eC (.int 1))) (esCons (eC (.int 2)) esNil)))) (esCons (eOpN dTup (esCons (eC (.str "a")) (esCons (eC (.int 1)) esNil))) (esCons (eC .non) (esCons (eOpN dTup (esCons (eC (.str "a")) (esCons (eC (.bl true)) (esCons (eC (.int 2)) esNil)))) (esCons (eOpN dTup (esCons (eC (.str "a")) (esCons (eC (.int 1)) (esCons (eC (.int 10000)) esNil)))) esNil)))))))) esNil)))
noncomputable def b__law_rest_15_1_1 : Sm := sExpr (eMakeV 4 d_Needs___init__ (esCons (eVar 18) esNil))
noncomputable def b__law_rest_15_1_2 : Sm := sRet (eC (.bl false))
noncomputable def b__law_rest_15_1_0_1_1_1 : Sm := sRet (eC (.bl false))
noncomputable def b__law_rest_15_1_0_1_1 : Sm := sIf (tBl (eOp2 dNe (eOpN dTup (esCons (eC (.str "item")) (esCons (eXf [2] 20 "index") esNil))) (eVar 19))) b__law_rest_15_1_0_1_1_1 sNop
noncomputable def b__law_rest_15_1_0_2_1_1 : Sm := sRet (eC (.bl false))
noncomputable def b__law_rest_15_1_0_2_1 : Sm := sIf (tBl (eOp2 dNe (eOpN dTup (esCons (eC (.str "many")) (esCons (eXf [3] 20 "limit") esNil))) (eVar 19))) b__law_rest_15_1_0_2_1_1 sNop
noncomputable def b__law_rest_15_1 : Sm := sTry (sSeq b__law_rest_15_1_1 b__law_rest_15_1_2) [⟨[(1, false), (2, true), (3, false)], some 20, b__law_rest_15_1_0_1_1⟩, ⟨[(1, false), (2, false), (3, true)], some 20, b__law_rest_15_1_0_2_1⟩]
noncomputable def b__law_rest_15 : Sm := sFor (iVal (eOpN dLst (esCons (eOpN dTup (esCons (eOp2 dAdd (eVar 2) (eOpN dTup (esCons (eVar 11) esNil))) (esCons (eOpN dTup (esCons (eC (.str "item")) (esCons (eOpN dLen (esCons (eVar 2) esNil)) esNil))) esNil))) (esCons (eOpN dTup (esCons (eC .non) (esCons (eOpN dTup (esCons (eC (.str "item")) (esCons (eC .non) esNil))) esNil))) (esCons (eOpN dTup (esCons (eOp2 dMul (eOpN dLst (esCons (eOpN dTup (esCons (eC (.str "a")) (esCons (eC (.int 1)) (esCons (eC (.int 2)) esNil)))) esNil)) (eC (.int 31))) (esCons (eOpN dTup (esCons (eC (.str "many")) (esCons (eC (.int 30)) esNil))) esNil))) esNil))))) (.tup [(.name 18), (.name 19)]) b__law_rest_15_1
noncomputable def b__law_rest_16 : Sm := sRet (eC (.bl true))
noncomputable def b__law_rest : Sm :=
  (sSeq b__law_rest_1 (sSeq b__law_rest_2 (sSeq b__law_rest_3 (sSeq b__law_rest_4 (sSeq b__law_rest_5 (sSeq b__law_rest_6 (sSeq b__law_rest_7 (sSeq b__law_rest_8 (sSeq b__law_rest_9 (sSeq b__law_rest_10 (sSeq b__law_rest_11 (sSeq b__law_rest_12 (sSeq b__law_rest_13 (sSeq b__law_rest_14 (sSeq b__law_rest_15 b__law_rest_16)))))))))))))))
theorem b__law_rest_eq : b__law_rest = (sSeq (sSet 5 (eOp2 dAdd (eC (.int 1)) (eCall d__law_taken (esCons (eVar 0) (esCons (eC (.int 4)) esNil))))) (sSeq (sAsg (.tup [(.name 12), (.name 13)]) (eOpN dTup (esCons (eMeth 4 "gentle" d_Needs_gentle (eVar 1) (esCons (eVar 5) esNil)) (esCons (eOpN dLst esNil) esNil)))) (sSeq (sFor (iRange1 (esCons (eC (.int 4)) esNil)) (.name 6) (sSet 13 (eOp2 dAdd (eVar 13) (eComp [23] (iVal (eCall d__law_rows (esCons (eVar 6) (esCons (eC (.int 16)) esNil)))) (.name 23) (tAnd (tBl (eOp2 dEq (eVar 13) (eOpN dLst esNil))) (tAnd (tOf (eCall d__law_good (esCons (eVar 2) (esCons (eVar 23) esNil)))) ((tBl (eOp2 dEq (eComp [8] (iRange2 (esCons (eC (.int 1)) (esCons (eVar 6) esNil))) (.name 8) (tBl (eOp2 dLt (eOp2 dSub (eOp2 dIx (eVar 23) (eVar 8)) (eOp2 dIx (eVar 23) (eOp2 dSub (eVar 8) (eC (.int 1))))) (eVar 5))) (eVar 8)) (eOpN dLst esNil)))))) (eVar 23))))) (sSeq (sIf (tAnd (tBl (eOp2 dIsNot (eVar 12) (eC .non))) ((tOr (tNot (tOf (eCall d__law_good (esCons (eVar 2) (esCons (eVar 12) esNil))))) (tOr (tBl (eOp2 dNe (eComp [8] (iRange2 (esCons (eC (.int 1)) (esCons (eOpN dLen (esCons (eVar 12) esNil)) esNil))) (.name 8) (tBl (eOp2 dLt (eOp2 dSub (eOp2 dIx (eVar 12) (eVar 8)) (eOp2 dIx (eVar 12) (eOp2 dSub (eVar 8) (eC (.int 1))))) (eVar 5))) (eVar 8)) (eOpN dLst esNil))) ((tBl (eOp2 dLt (eOpN dLen (esCons (eVar 12) esNil)) (eOpN dLen (esCons (eVar 3) esNil))))))))) (sRet (eC (.bl false))) sNop) (sSeq (sIf (tOr (tAnd (tBl (eOp2 dNe (eVar 13) (eOpN dLst esNil))) ((tOr (tBl (eOp2 dIs (eVar 12) (eC .non))) ((tBl (eOp2 dNe (eOpN dLen (esCons (eVar 12) esNil)) (eOpN dLen (esCons (eOp2 dIx (eVar 13) (eC (.int 0))) esNil)))))))) ((tAnd (tBl (eOp2 dEq (eVar 13) (eOpN dLst esNil))) (tAnd (tBl (eOp2 dIsNot (eVar 12) (eC .non))) ((tBl (eOp2 dLt (eOpN dLen (esCons (eVar 12) esNil)) (eC (.int 4))))))))) (sRet (eC (.bl false))) sNop) (sSeq (sSet 7 (eOpN dLst esNil)) (sSeq (sFor (iRange1 (esCons (eOpN dLen (esCons (eVar 2) esNil)) esNil)) (.name 8) (sSeq (sSet 14 (eOp2 dAdd (eSl (eVar 2) eoNone (eoSome (eVar 8))) (eSl (eVar 2) (eoSome (eOp2 dAdd (eVar 8) (eC (.int 1)))) eoNone))) (sSeq (sIf (tBl (eOp2 (dNeO 4 (d_Needs___eq__)) (eMeth 4 "without" d_Needs_without (eVar 1) (esCons (eVar 8) esNil)) (eMakeV 4 d_Needs___init__ (esCons (eVar 14) esNil)))) (sRet (eC (.bl false))) sNop) (sSet 7 (eOp2 dAdd (eVar 7) (eComp [24] (iRange1 (esCons (eOpN dInt (esCons (eOp2 dLt (eOpN dLen (esCons (eMeth 4 "visits" d_Needs_visits (eMakeV 4 d_Needs___init__ (esCons (eVar 14) esNil)) esNil) esNil)) (eOpN dLen (esCons (eVar 3) esNil))) esNil)) esNil)) (.name 24) tYesD (eVar 8))))))) (sSeq (sIf (tNot (tOf (eCall (d__law_alike 12) (esCons (eMeth 4 "needed" d_Needs_needed (eVar 1) esNil) (esCons (eOpN dTupleOf (esCons (eVar 7) esNil)) esNil))))) (sRet (eC (.bl false))) sNop) (sSeq (sAsg (.tup [(.name 15), (.name 16), (.name 17)]) (eOpN dTup (esCons (eComp [21] (iVal (eVar 4)) (.name 21) tYesD (eOpN dTup (esCons (eVar 21) (esCons (eCall d__law_taken (esCons (eVar 0) (esCons (eC (.int 20)) esNil))) esNil)))) (esCons (eCall d__law_taken (esCons (eVar 0) (esCons (eC (.int 6)) esNil))) (esCons (eCall d__law_taken (esCons (eVar 0) (esCons (eC (.int 20)) esNil))) esNil))))) (sSeq (sSet 9 (eComp [21, 22] (iVal (eVar 15)) (.tup [(.name 21), (.name 22)]) (tBl (eOp2 dLe (eVar 22) (eVar 17))) (eOpN dTup (esCons (eVar 21) (esCons (eVar 22) (esCons (eOpN dMin2 (esCons (eVar 17) (esCons (eOp2 dAdd (eVar 22) (eVar 16)) esNil))) esNil)))))) (sSeq (sIf (tNot (tOf (eCall (d__law_alike 12) (esCons (eCall d_spans_of (esCons (eComp [25] (iVal (eVar 15)) (.name 25) tYesD (eOpN dListOf (esCons (eVar 25) esNil))) (esCons (eVar 16) (esCons (eVar 17) esNil)))) (esCons (eOpN dTupleOf (esCons (eVar 9) esNil)) esNil))))) (sRet (eC (.bl false))) sNop) (sSeq (sFor (iVal (eOpN dLst (esCons (eOpN dTup (esCons (eOpN dLst (esCons (eOpN dTup (esCons (eC (.str "a")) (esCons (eC (.int 1)) esNil))) (esCons (eOpN dTup (esCons (eC (.str "a")) (esCons (eOp1 dNeg (eC (.int 1))) esNil))) esNil))) (esCons (eC (.int 1)) esNil))) (esCons (eOpN dTup (esCons (eOpN dLst (esCons (eOpN dTup (esCons (eC (.str "A")) (esCons (eC (.int 1)) esNil))) esNil)) (esCons (eC (.int 0)) esNil))) (esCons (eOpN dTup (esCons (eOpN dLst (esCons (eC (.int 5)) esNil)) (esCons (eC (.int 0)) esNil))) esNil))))) (.tup [(.name 18), (.name 19)]) (sTry (sSeq (sExpr (eCall d_spans_of (esCons (eVar 18) (esCons (eC (.int 1)) (esCons (eC (.int 9)) esNil))))) (sRet (eC (.bl false)))) [⟨[(1, false), (2, true), (3, false)], some 20, (sIf (tBl (eOp2 dNe (eXf [2] 20 "index") (eVar 19))) (sRet (eC (.bl false))) sNop)⟩])) (sSeq (sFor (iRange1 (esCons (eC (.int 2)) esNil)) (.name 10) (sTry (sSeq (sExpr (eCall d_spans_of (esCons (eOpN dLst esNil) (esCons (eOp2 dIx (eOpN dLst (esCons (eOp1 dNeg (eC (.int 1))) (esCons (eC (.int 1)) esNil))) (eVar 10)) (esCons (eOp2 dIx (eOpN dLst (esCons (eC (.int 1)) (esCons (eC (.int 10000)) esNil))) (eVar 10)) esNil))))) (sRet (eC (.bl false)))) [⟨[(1, true), (2, false), (3, false)], some 20, (sIf (tBl (eOp2 dNe (eXf [1] 20 "value") (eOp2 dIx (eOpN dLst (esCons (eOp1 dNeg (eC (.int 1))) (esCons (eC (.int 10000)) esNil))) (eVar 10)))) (sRet (eC (.bl false))) sNop)⟩])) (sSeq (sSet 11 (eCall d__law_pick (esCons (eVar 0) (esCons (eOpN dLst (esCons (eOpN dTup (esCons (eC (.str "")) (esCons (eC (.int 1)) (esCons (eC (.int 2)) esNil)))) (esCons (eOpN dTup (esCons (eC (.str "a")) (esCons (eC (.int 2)) (esCons (eC (.int 1)) esNil)))) (esCons (eOpN dTup (esCons (eC (.str "a")) (esCons (eOp1 dNeg (eC (.int 1))) (esCons (eC (.int 2)) esNil)))) (esCons (eOpN dTup (esCons (eC (.str "a")) (esCons (eC (.int 1)) esNil))) (esCons (eC .non) (esCons (eOpN dTup (esCons (eC (.str "a")) (esCons (eC (.bl true)) (esCons (eC (.int 2)) esNil)))) (esCons (eOpN dTup (esCons (eC (.str "a")) (esCons (eC (.int 1)) (esCons (eC (.int 10000)) esNil)))) esNil)))))))) esNil)))) (sSeq (sFor (iVal (eOpN dLst (esCons (eOpN dTup (esCons (eOp2 dAdd (eVar 2) (eOpN dTup (esCons (eVar 11) esNil))) (esCons (eOpN dTup (esCons (eC (.str "item")) (esCons (eOpN dLen (esCons (eVar 2) esNil)) esNil))) esNil))) (esCons (eOpN dTup (esCons (eC .non) (esCons (eOpN dTup (esCons (eC (.str "item")) (esCons (eC .non) esNil))) esNil))) (esCons (eOpN dTup (esCons (eOp2 dMul (eOpN dLst (esCons (eOpN dTup (esCons (eC (.str "a")) (esCons (eC (.int 1)) (esCons (eC (.int 2)) esNil)))) esNil)) (eC (.int 31))) (esCons (eOpN dTup (esCons (eC (.str "many")) (esCons (eC (.int 30)) esNil))) esNil))) esNil))))) (.tup [(.name 18), (.name 19)]) (sTry (sSeq (sExpr (eMakeV 4 d_Needs___init__ (esCons (eVar 18) esNil))) (sRet (eC (.bl false)))) [⟨[(1, false), (2, true), (3, false)], some 20, (sIf (tBl (eOp2 dNe (eOpN dTup (esCons (eC (.str "item")) (esCons (eXf [2] 20 "index") esNil))) (eVar 19))) (sRet (eC (.bl false))) sNop)⟩, ⟨[(1, false), (2, false), (3, true)], some 20, (sIf (tBl (eOp2 dNe (eOpN dTup (esCons (eC (.str "many")) (esCons (eXf [3] 20 "limit") esNil))) (eVar 19))) (sRet (eC (.bl false))) sNop)⟩])) (sRet (eC (.bl true)))))))))))))))))) := rfl
noncomputable def d__law_rest : FnD := runFn 5 26 b__law_rest
theorem D__law_rest (Tx : Txt P K mg T) : DefI P w K mg base T.base 19 "_law_rest" d__law_rest := by
  obtain ⟨f, fd, F, hm, hb⟩ := Tx.fun__law_rest
  have HE_Needs : EqI P w K mg base T.base 1 4 d_Needs___eq__ := D_Needs___eq__ Tx
  have HM_Needs : MakI P w K mg base T.base 15 "Needs" 4 d_Needs___init__ := D_Needs___init__ Tx
  have H_Needs_gentle : MetI P w K mg base T.base 2 4 "gentle" d_Needs_gentle := D_Needs_gentle Tx
  have H_Needs_needed : MetI P w K mg base T.base 18 4 "needed" d_Needs_needed := D_Needs_needed Tx
  have H_Needs_visits : MetI P w K mg base T.base 1 4 "visits" d_Needs_visits := D_Needs_visits Tx
  have H_Needs_without : MetI P w K mg base T.base 17 4 "without" d_Needs_without := D_Needs_without Tx
  have H__law_alike : DefI P w K mg base T.base 13 "_law_alike" (d__law_alike 12) := D__law_alike Tx
  have H__law_good : DefI P w K mg base T.base 1 "_law_good" d__law_good := D__law_good Tx
  have H__law_pick : DefI P w K mg base T.base 2 "_law_pick" d__law_pick := D__law_pick Tx
  have H__law_rows : DefI P w K mg base T.base 1 "_law_rows" d__law_rows := D__law_rows Tx
  have H__law_taken : DefI P w K mg base T.base 1 "_law_taken" d__law_taken := D__law_taken Tx
  have H_spans_of : DefI P w K mg base T.base 4 "spans_of" d_spans_of := D_spans_of Tx
  exact ⟨f, fd, _, FnG.scope (fnU_i (k := 18) (m := 26) (b := b__law_rest) F sc__law_rest rfl rfl fun cdv A outer s H E hroom tk =>
      (s_cons (s_set (i := 5) sc__law_rest.nd rfl (by first | exact Or.inl rfl | exact Or.inr rfl) (i_bin o_add i_int (i_call H__law_taken (hroom.mono (by decide)) tk rfl (a_cons (iv 0) (a_cons i_int a_nil)))))
      (s_cons (s_asg (i_tup (a_cons (i_meth H_Needs_gentle (hroom.mono (by decide)) tk (iv 1) (a_cons (iv 5) a_nil)) (a_cons (i_lst a_nil) a_nil))) (g_tup (ts := [(.name 12), (.name 13)]) rfl (g_cons (g_name sc__law_rest.nd (i := 12) rfl (by first | exact Or.inl rfl | exact Or.inr rfl)) (g_cons (g_name sc__law_rest.nd (i := 13) rfl (by first | exact Or.inl rfl | exact Or.inr rfl)) g_nil))))
      (s_cons (s_for (passes_of rfl) rfl (it_range1 rfl Tx.mg_range (a_cons i_int a_nil)) (g_name sc__law_rest.nd (i := 6) rfl (by first | exact Or.inl rfl | exact Or.inr rfl)) (s_one (s_set (i := 13) sc__law_rest.nd rfl (by first | exact Or.inl rfl | exact Or.inr rfl) (i_bin o_add (iv 13) (i_comp (own := [("ticks", 23)]) rfl sc__law_rest.nd (it_val (i_call H__law_rows (hroom.mono (by decide)) tk rfl (a_cons (iv 6) (a_cons i_int a_nil)))) (blkOk_by (by kernel_rfl)) (fun _ _ _ _ _ => (g_name sc__law_rest.nd (i := 23) rfl (by first | exact Or.inl rfl | exact Or.inr rfl))) (fun _ _ _ _ _ => q_one (i_w (i_tand (i_tcmp (o_eq (hu64 hroom)) (iv 13) (i_lst a_nil) rfl) (i_tand (i_truth (i_call H__law_good (hroom.mono (by decide)) takes0 rfl (a_cons (iv 2) (a_cons (iv 23) a_nil)))) (i_and1 (i_tcmp (o_eq (hu64 hroom)) (i_comp (own := [("k", 8)]) rfl sc__law_rest.nd (it_range2 rfl Tx.mg_range (a_cons i_int (a_cons (iv 6) a_nil))) (blkOk_by (by kernel_rfl)) (fun _ _ _ _ _ => (g_name sc__law_rest.nd (i := 8) rfl (by first | exact Or.inl rfl | exact Or.inr rfl))) (fun _ _ _ _ _ => q_one (i_tcmp o_lt (i_bin o_sub (i_ix o_ix (iv 23) (iv 8) (fun _ _ => rfl)) (i_ix o_ix (iv 23) (i_bin o_sub (iv 8) i_int) (fun _ _ => rfl))) (iv 5) rfl)) (fun _ _ _ _ _ => (iv 8))) (i_lst a_nil) rfl)))))) (fun _ _ _ _ _ => (iv 23)))))))
      (s_cons (s_if (i_w (i_tand (i_tcmp o_isnot (iv 12) i_non rfl) (i_and1 (i_w (i_tor (i_tnot (i_truth (i_call H__law_good (hroom.mono (by decide)) tk rfl (a_cons (iv 2) (a_cons (iv 12) a_nil))))) (i_tor (i_tcmp (o_ne (hu64 hroom)) (i_comp (own := [("k", 8)]) rfl sc__law_rest.nd (it_range2 rfl Tx.mg_range (a_cons i_int (a_cons (i_callB o_len rfl Tx.mg_len (by decide +kernel) (a_cons (iv 12) a_nil)) a_nil))) (blkOk_by (by kernel_rfl)) (fun _ _ _ _ _ => (g_name sc__law_rest.nd (i := 8) rfl (by first | exact Or.inl rfl | exact Or.inr rfl))) (fun _ _ _ _ _ => q_one (i_tcmp o_lt (i_bin o_sub (i_ix o_ix (iv 12) (iv 8) (fun _ _ => rfl)) (i_ix o_ix (iv 12) (i_bin o_sub (iv 8) i_int) (fun _ _ => rfl))) (iv 5) rfl)) (fun _ _ _ _ _ => (iv 8))) (i_lst a_nil) rfl) (i_or1 (i_tcmp o_lt (i_callB o_len rfl Tx.mg_len (by decide +kernel) (a_cons (iv 12) a_nil)) (i_callB o_len rfl Tx.mg_len (by decide +kernel) (a_cons (iv 3) a_nil)) rfl)))))))) (s_one (s_ret i_bl)) s_nil)
      (s_cons (s_if (i_w (i_tor (i_w (i_tand (i_tcmp (o_ne (hu64 hroom)) (iv 13) (i_lst a_nil) rfl) (i_and1 (i_w (i_tor (i_tcmp o_is (iv 12) i_non rfl) (i_or1 (i_tcmp (o_ne (hu64 hroom)) (i_callB o_len rfl Tx.mg_len (by decide +kernel) (a_cons (iv 12) a_nil)) (i_callB o_len rfl Tx.mg_len (by decide +kernel) (a_cons (i_ix o_ix (iv 13) i_int (fun _ _ => rfl)) a_nil)) rfl))))))) (i_or1 (i_w (i_tand (i_tcmp (o_eq (hu64 hroom)) (iv 13) (i_lst a_nil) rfl) (i_tand (i_tcmp o_isnot (iv 12) i_non rfl) (i_and1 (i_tcmp o_lt (i_callB o_len rfl Tx.mg_len (by decide +kernel) (a_cons (iv 12) a_nil)) i_int rfl)))))))) (s_one (s_ret i_bl)) s_nil)
      (s_cons (s_set (i := 7) sc__law_rest.nd rfl (by first | exact Or.inl rfl | exact Or.inr rfl) (i_lst a_nil))
      (s_cons (s_for (passes_of rfl) rfl (it_range1 rfl Tx.mg_range (a_cons (i_callB o_len rfl Tx.mg_len (by decide +kernel) (a_cons (iv 2) a_nil)) a_nil)) (g_name sc__law_rest.nd (i := 8) rfl (by first | exact Or.inl rfl | exact Or.inr rfl)) (s_cons (s_set (i := 14) sc__law_rest.nd rfl (by first | exact Or.inl rfl | exact Or.inr rfl) (i_bin o_add (i_slice (iv 2) oi_none (oi_some (iv 8))) (i_slice (iv 2) (oi_some (i_bin o_add (iv 8) i_int)) oi_none)))
      (s_cons (s_if (i_tcmp (o_neO (HE_Needs) (hroom.mono (by decide))) (i_meth H_Needs_without (hroom.mono (by decide)) tk (iv 1) (a_cons (iv 8) a_nil)) (i_makeV HM_Needs (hroom.mono (by decide)) tk rfl (a_cons (iv 14) a_nil)) rfl) (s_one (s_ret i_bl)) s_nil)
      (s_one (s_set (i := 7) sc__law_rest.nd rfl (by first | exact Or.inl rfl | exact Or.inr rfl) (i_bin o_add (iv 7) (i_comp (own := [("j", 24)]) rfl sc__law_rest.nd (it_range1 rfl Tx.mg_range (a_cons (i_callTy o_int rfl Tx.mg_int (by decide +kernel) (a_cons (i_cmp o_lt (i_callB o_len rfl Tx.mg_len (by decide +kernel) (a_cons (i_meth0 H_Needs_visits (hroom.mono (by decide)) tk (i_makeV HM_Needs (hroom.mono (by decide)) tk rfl (a_cons (iv 14) a_nil))) a_nil)) (i_callB o_len rfl Tx.mg_len (by decide +kernel) (a_cons (iv 3) a_nil)) rfl) a_nil)) a_nil)) (blkOk_by (by kernel_rfl)) (fun _ _ _ _ _ => (g_name sc__law_rest.nd (i := 24) rfl (by first | exact Or.inl rfl | exact Or.inr rfl))) (fun _ _ _ _ _ => q_nil) (fun _ _ _ _ _ => (iv 8)))))))))
      (s_cons (s_if (i_tnot (i_truth (i_call H__law_alike (hroom.mono (by decide)) tk rfl (a_cons (i_meth0 H_Needs_needed (hroom.mono (by decide)) tk (iv 1)) (a_cons (i_callTy o_tuple rfl Tx.mg_tuple (by decide +kernel) (a_cons (iv 7) a_nil)) a_nil))))) (s_one (s_ret i_bl)) s_nil)
      (s_cons (s_asg (i_tup (a_cons (i_comp (own := [("name", 21)]) rfl sc__law_rest.nd (it_val (iv 4)) (blkOk_by (by kernel_rfl)) (fun _ _ _ _ _ => (g_name sc__law_rest.nd (i := 21) rfl (by first | exact Or.inl rfl | exact Or.inr rfl))) (fun _ _ _ _ _ => q_nil) (fun _ _ _ _ _ => (i_tup (a_cons (iv 21) (a_cons (i_call H__law_taken (hroom.mono (by decide)) takes0 rfl (a_cons (iv 0) (a_cons i_int a_nil))) a_nil))))) (a_cons (i_call H__law_taken (hroom.mono (by decide)) tk rfl (a_cons (iv 0) (a_cons i_int a_nil))) (a_cons (i_call H__law_taken (hroom.mono (by decide)) tk rfl (a_cons (iv 0) (a_cons i_int a_nil))) a_nil)))) (g_tup (ts := [(.name 15), (.name 16), (.name 17)]) rfl (g_cons (g_name sc__law_rest.nd (i := 15) rfl (by first | exact Or.inl rfl | exact Or.inr rfl)) (g_cons (g_name sc__law_rest.nd (i := 16) rfl (by first | exact Or.inl rfl | exact Or.inr rfl)) (g_cons (g_name sc__law_rest.nd (i := 17) rfl (by first | exact Or.inl rfl | exact Or.inr rfl)) g_nil)))))
      (s_cons (s_comp (i := 9) (own := [("name", 21), ("tick", 22)]) rfl sc__law_rest.nd rfl rfl rfl (it_val (iv 15)) (blkOk_by (by kernel_rfl)) (fun _ _ _ _ _ => (g_tup (ts := [(.name 21), (.name 22)]) rfl (g_cons (g_name sc__law_rest.nd (i := 21) rfl (by first | exact Or.inl rfl | exact Or.inr rfl)) (g_cons (g_name sc__law_rest.nd (i := 22) rfl (by first | exact Or.inl rfl | exact Or.inr rfl)) g_nil)))) (fun _ _ _ _ _ => q_one (i_tcmp o_le (iv 22) (iv 17) rfl)) (fun _ _ _ _ _ => (i_tup (a_cons (iv 21) (a_cons (iv 22) (a_cons (i_callB (o_min2 rfl) rfl Tx.mg_min (by decide +kernel) (a_cons (iv 17) (a_cons (i_bin o_add (iv 22) (iv 16)) a_nil))) a_nil))))))
      (s_cons (s_if (i_tnot (i_truth (i_call H__law_alike (hroom.mono (by decide)) tk rfl (a_cons (i_call H_spans_of (hroom.mono (by decide)) tk rfl (a_cons (i_comp (own := [("one", 25)]) rfl sc__law_rest.nd (it_val (iv 15)) (blkOk_by (by kernel_rfl)) (fun _ _ _ _ _ => (g_name sc__law_rest.nd (i := 25) rfl (by first | exact Or.inl rfl | exact Or.inr rfl))) (fun _ _ _ _ _ => q_nil) (fun _ _ _ _ _ => (i_callTy o_list rfl Tx.mg_list (by decide +kernel) (a_cons (iv 25) a_nil)))) (a_cons (iv 16) (a_cons (iv 17) a_nil)))) (a_cons (i_callTy o_tuple rfl Tx.mg_tuple (by decide +kernel) (a_cons (iv 9) a_nil)) a_nil))))) (s_one (s_ret i_bl)) s_nil)
      (s_cons (s_for (passes_of rfl) rfl (it_val (i_lst (a_cons (i_tup (a_cons (i_lst (a_cons (i_tup (a_cons i_str (a_cons i_int a_nil))) (a_cons (i_tup (a_cons i_str (a_cons (i_un o_neg i_int) a_nil))) a_nil))) (a_cons i_int a_nil))) (a_cons (i_tup (a_cons (i_lst (a_cons (i_tup (a_cons i_str (a_cons i_int a_nil))) a_nil)) (a_cons i_int a_nil))) (a_cons (i_tup (a_cons (i_lst (a_cons i_int a_nil)) (a_cons i_int a_nil))) a_nil))))) (g_tup (ts := [(.name 18), (.name 19)]) rfl (g_cons (g_name sc__law_rest.nd (i := 18) rfl (by first | exact Or.inl rfl | exact Or.inr rfl)) (g_cons (g_name sc__law_rest.nd (i := 19) rfl (by first | exact Or.inl rfl | exact Or.inr rfl)) g_nil))) (s_one (s_try rfl tk (fun W0 pn0 xe0 tk0 po0 => (s_cons (s_expr (i_call H_spans_of (hroom.mono (by decide)) tk0 rfl (a_cons (iv 18) (a_cons i_int (a_cons i_int a_nil)))))
      (s_one (s_ret i_bl)))) (HdsD.named (tbl := [(1, false), (2, true), (3, false)]) sc__law_rest.nd (i := 20) rfl rfl ⟨rfl, by decide, Or.inl Tx.x_BadItem.1⟩ (Tx.exm_BadItem) (fun a oe cls d pn hz hf => (s_one (s_if (i_tcmp (o_ne (hu64m hroom)) (i_xf (cs := [2]) (i := 20) hz hf rfl (by first | exact Or.inl rfl | exact Or.inr (Or.inl rfl)) (by simp only [List.mem_cons, List.not_mem_nil, or_false]; rintro c rfl; exact ⟨Tx.xf_BadItem, Tx.xn_BadItem_index⟩)) (iv 19) rfl) (s_one (s_ret i_bl)) s_nil))) HdsD.nil))))
      (s_cons (s_for (passes_of rfl) rfl (it_range1 rfl Tx.mg_range (a_cons i_int a_nil)) (g_name sc__law_rest.nd (i := 10) rfl (by first | exact Or.inl rfl | exact Or.inr rfl)) (s_one (s_try rfl tk (fun W0 pn0 xe0 tk0 po0 => (s_cons (s_expr (i_call H_spans_of (hroom.mono (by decide)) tk0 rfl (a_cons (i_lst a_nil) (a_cons (i_ix o_ix (i_lst (a_cons (i_un o_neg i_int) (a_cons i_int a_nil))) (iv 10) (fun _ _ => rfl)) (a_cons (i_ix o_ix (i_lst (a_cons i_int (a_cons i_int a_nil))) (iv 10) (fun _ _ => rfl)) a_nil)))))
      (s_one (s_ret i_bl)))) (HdsD.named (tbl := [(1, true), (2, false), (3, false)]) sc__law_rest.nd (i := 20) rfl rfl ⟨rfl, by decide, Or.inl Tx.x_BadNumber.1⟩ (Tx.exm_BadNumber) (fun a oe cls d pn hz hf => (s_one (s_if (i_tcmp (o_ne (hu64m hroom)) (i_xf (cs := [1]) (i := 20) hz hf rfl (by first | exact Or.inl rfl | exact Or.inr (Or.inl rfl)) (by simp only [List.mem_cons, List.not_mem_nil, or_false]; rintro c rfl; exact ⟨Tx.xf_BadNumber, Tx.xn_BadNumber_value⟩)) (i_ix o_ix (i_lst (a_cons (i_un o_neg i_int) (a_cons i_int a_nil))) (iv 10) (fun _ _ => rfl)) rfl) (s_one (s_ret i_bl)) s_nil))) HdsD.nil))))
      (s_cons (s_set (i := 11) sc__law_rest.nd rfl (by first | exact Or.inl rfl | exact Or.inr rfl) (i_call H__law_pick (hroom.mono (by decide)) tk rfl (a_cons (iv 0) (a_cons (i_lst (a_cons (i_tup (a_cons i_str (a_cons i_int (a_cons i_int a_nil)))) (a_cons (i_tup (a_cons i_str (a_cons i_int (a_cons i_int a_nil)))) (a_cons (i_tup (a_cons i_str (a_cons (i_un o_neg i_int) (a_cons i_int a_nil)))) (a_cons (i_tup (a_cons i_str (a_cons i_int a_nil))) (a_cons i_non (a_cons (i_tup (a_cons i_str (a_cons i_bl (a_cons i_int a_nil)))) (a_cons (i_tup (a_cons i_str (a_cons i_int (a_cons i_int a_nil)))) a_nil)))))))) a_nil))))
      (s_cons (s_for (passes_of rfl) rfl (it_val (i_lst (a_cons (i_tup (a_cons (i_bin o_add (iv 2) (i_tup (a_cons (iv 11) a_nil))) (a_cons (i_tup (a_cons i_str (a_cons (i_callB o_len rfl Tx.mg_len (by decide +kernel) (a_cons (iv 2) a_nil)) a_nil))) a_nil))) (a_cons (i_tup (a_cons i_non (a_cons (i_tup (a_cons i_str (a_cons i_non a_nil))) a_nil))) (a_cons (i_tup (a_cons (i_bin o_mul (i_lst (a_cons (i_tup (a_cons i_str (a_cons i_int (a_cons i_int a_nil)))) a_nil)) i_int) (a_cons (i_tup (a_cons i_str (a_cons i_int a_nil))) a_nil))) a_nil))))) (g_tup (ts := [(.name 18), (.name 19)]) rfl (g_cons (g_name sc__law_rest.nd (i := 18) rfl (by first | exact Or.inl rfl | exact Or.inr rfl)) (g_cons (g_name sc__law_rest.nd (i := 19) rfl (by first | exact Or.inl rfl | exact Or.inr rfl)) g_nil))) (s_one (s_try rfl tk (fun W0 pn0 xe0 tk0 po0 => (s_cons (s_expr (i_makeV HM_Needs (hroom.mono (by decide)) tk0 rfl (a_cons (iv 18) a_nil)))
      (s_one (s_ret i_bl)))) (HdsD.named (tbl := [(1, false), (2, true), (3, false)]) sc__law_rest.nd (i := 20) rfl rfl ⟨rfl, by decide, Or.inl Tx.x_BadItem.1⟩ (Tx.exm_BadItem) (fun a oe cls d pn hz hf => (s_one (s_if (i_tcmp (o_ne (hu64m hroom)) (i_tup (a_cons i_str (a_cons (i_xf (cs := [2]) (i := 20) hz hf rfl (by first | exact Or.inl rfl | exact Or.inr (Or.inl rfl)) (by simp only [List.mem_cons, List.not_mem_nil, or_false]; rintro c rfl; exact ⟨Tx.xf_BadItem, Tx.xn_BadItem_index⟩)) a_nil))) (iv 19) rfl) (s_one (s_ret i_bl)) s_nil))) (HdsD.named (tbl := [(1, false), (2, false), (3, true)]) sc__law_rest.nd (i := 20) rfl rfl ⟨rfl, by decide, Or.inl Tx.x_TooMany.1⟩ (Tx.exm_TooMany) (fun a oe cls d pn hz hf => (s_one (s_if (i_tcmp (o_ne (hu64m hroom)) (i_tup (a_cons i_str (a_cons (i_xf (cs := [3]) (i := 20) hz hf rfl (by first | exact Or.inl rfl | exact Or.inr (Or.inl rfl)) (by simp only [List.mem_cons, List.not_mem_nil, or_false]; rintro c rfl; exact ⟨Tx.xf_TooMany, Tx.xn_TooMany_limit⟩)) a_nil))) (iv 19) rfl) (s_one (s_ret i_bl)) s_nil))) HdsD.nil)))))
      (s_one (s_ret i_bl)))))))))))))))))), hm, F.kp, hb⟩
noncomputable def b_law_1 : Sm := sSet 1 (eOpN dNew (esCons (eVar 0) (esCons (eC (.int 0)) (esCons (eC (.int 73)) (esCons (eC (.int 0)) esNil)))))
noncomputable def b_law_2 : Sm := sAsg (.tup [(.name 6), (.name 3)]) (eOpN dTup (esCons (eCall d__law_names (esCons (eVar 1) (esCons (eC (.int 3)) esNil))) (esCons (eOpN dNew esNil) esNil)))
noncomputable def b_law_3_1 : Sm := sSet 7 (eCall d__law_taken (esCons (eVar 1) (esCons (eC (.int 12)) esNil)))
noncomputable def b_law_3_2 : Sm := sExpr (eBM isLst dAppend (eVar 3) (esCons (eOpN dTup (esCons (eCall d__law_pick (esCons (eVar 1) (esCons (eVar 6) esNil))) (esCons (eVar 7) (esCons (eOp2 dAdd (eVar 7) (eCall d__law_taken (esCons (eVar 1) (esCons (eC (.int 5)) esNil)))) esNil)))) esNil))
noncomputable def b_law_3 : Sm := sFor (iRange1 (esCons (eCall d__law_taken (esCons (eVar 1) (esCons (eC (.int 7)) esNil))) esNil)) (.name 2) (sSeq b_law_3_1 b_law_3_2)
noncomputable def b_law_4 : Sm := sSet 3 (eOpN dTupleOf (esCons (eVar 3) esNil))
noncomputable def b_law_5 : Sm := sAsg (.tup [(.name 8), (.name 9)]) (eOpN dTup (esCons (eMakeV 4 d_Needs___init__ (esCons (eCall d__law_mixed (esCons (eVar 1) (esCons (eComp [22] (iVal (eVar 3)) (.name 22) tYesD (eCall d__law_mixed (esCons (eVar 1) (esCons (eVar 22) esNil)))) esNil))) esNil)) (esCons (eC (.int 0)) esNil)))
noncomputable def b_law_6_1 : Sm := sRet (eC (.bl false))
noncomputable def b_law_6 : Sm := sIf (tOr (tNot (tOf (eCall (d__law_alike 12) (esCons (eFld [4] "spans" (eVar 8)) (esCons (eVar 3) esNil))))) (tOr (tBl (eOp2 (dNeO 4 (d_Needs___eq__)) (eVar 8) (eMakeV 4 d_Needs___init__ (esCons (eVar 3) esNil)))) ((tBl (eOp2 (dEqO 4 (d_Needs___eq__)) (eVar 8) (eVar 3)))))) b_law_6_1 sNop
noncomputable def b_law_7 : Sm := sAsg (.tup [(.name 10), (.name 11)]) (eOpN dTup (esCons (eMeth 4 "visits" d_Needs_visits (eVar 8) esNil) (esCons (eMeth 4 "paper" d_Needs_paper (eVar 8) esNil) esNil)))
noncomputable def b_law_8_1 : Sm := sRet (eC (.bl false))
noncomputable def b_law_8 : Sm := sIf (tOr (tNot (tOf (eMeth 4 "is_served" d_Needs_is_served (eVar 8) (esCons (eVar 10) esNil)))) (tOr (tNot (tOf (eMeth 4 "is_paper" d_Needs_is_paper (eVar 8) (esCons (eVar 11) esNil)))) (tOr (tBl (eOp2 dNe (eOpN dLen (esCons (eVar 11) esNil)) (eOpN dLen (esCons (eVar 10) esNil)))) (tOr (tBl (eOp2 dNe (eOpN dListOf (esCons (eVar 10) esNil)) (eOpN dSrtSetT (esCons (eVar 10) esNil)))) ((tBl (eOp2 dNe (eMeth 4 "unserved" d_Needs_unserved (eVar 8) (esCons (eVar 10) esNil)) (eOpN dTup esNil)))))))) b_law_8_1 sNop
noncomputable def b_law_9_1 : Sm := sRet (eC (.bl false))
noncomputable def b_law_9 : Sm := sIf (tOr (tBl (eOp2 dNe (eComp [2] (iRange1 (esCons (eOpN dLen (esCons (eVar 10) esNil)) esNil)) (.name 2) (tOf (eMeth 4 "is_served" d_Needs_is_served (eVar 8) (esCons (eOp2 dAdd (eSl (eVar 10) eoNone (eoSome (eVar 2))) (eSl (eVar 10) (eoSome (eOp2 dAdd (eVar 2) (eC (.int 1)))) eoNone)) esNil))) (eVar 2)) (eOpN dLst esNil))) ((tBl (eOp2 dNe (eComp [5] (iVal (eVar 10)) (.name 5) (tBl (eOp2 dNotIn (eVar 5) (eComp [22] (iVal (eVar 3)) (.name 22) tYesD (eOp2 dIx (eVar 22) (eC (.int 2)))))) (eVar 5)) (eOpN dLst esNil))))) b_law_9_1 sNop
noncomputable def b_law_10_1_1 : Sm := sRet (eC (.bl false))
noncomputable def b_law_10_1 : Sm := sIf (tAnd (tBl (eOp2 dLt (eVar 12) (eVar 13))) ((tOf (eCall d_meet (esCons (eOp2 dIx (eVar 3) (eOp2 dIx (eVar 11) (eVar 12))) (esCons (eOp2 dIx (eVar 3) (eOp2 dIx (eVar 11) (eVar 13))) esNil)))))) b_law_10_1_1 sNop
noncomputable def b_law_10 : Sm := sFor (iVal (eCall d__law_pairs (esCons (eOpN dLen (esCons (eVar 11) esNil)) (esCons (eOpN dLen (esCons (eVar 11) esNil)) esNil)))) (.tup [(.name 12), (.name 13)]) b_law_10_1
noncomputable def b_law_11_1 : Sm := sRet (eC (.bl false))
noncomputable def b_law_11 : Sm := sIf (tAnd (tBl (eOp2 dLt (eOpN dLen (esCons (eVar 10) esNil)) (eC (.int 3)))) ((tBl (eOp2 dNe (eComp [14] (iVal (eCall d__law_rows (esCons (eOpN dMax2 (esCons (eC (.int 0)) (esCons (eOp2 dSub (eOpN dLen (esCons (eVar 10) esNil)) (eC (.int 1))) esNil))) (esCons (eC (.int 17)) esNil)))) (.name 14) (tAnd (tBl (eOp2 dNe (eVar 10) (eOpN dTup esNil))) ((tOf (eCall d__law_good (esCons (eVar 3) (esCons (eVar 14) esNil)))))) (eVar 14)) (eOpN dLst esNil))))) b_law_11_1 sNop
noncomputable def b_law_12_1 : Sm := sSet 14 (eOpN dTupleOf (esCons (eOpN dSorted (esCons (eComp [2] (iRange1 (esCons (eCall d__law_taken (esCons (eVar 1) (esCons (eC (.int 4)) esNil))) esNil)) (.name 2) tYesD (eCall d__law_taken (esCons (eVar 1) (esCons (eC (.int 17)) esNil)))) esNil)) esNil))
noncomputable def b_law_12_2 : Sm := sSet 15 (eComp [2, 22] (iEnum (esCons (eVar 3) esNil)) (.tup [(.name 2), (.name 22)]) (tBl (eOp2 dEq (eComp [5] (iVal (eVar 14)) (.name 5) (tBl (eChain dLe dLe (eOp2 dIx (eVar 22) (eC (.int 1))) (eVar 5) (eOp2 dIx (eVar 22) (eC (.int 2))))) (eVar 5)) (eOpN dLst esNil))) (eVar 2))
noncomputable def b_law_12_3_1 : Sm := sRet (eC (.bl false))
noncomputable def b_law_12_3 : Sm := sIf (tOr (tNot (tOf (eCall d__law_truth (esCons (eMeth 4 "is_served" d_Needs_is_served (eVar 8) (esCons (eVar 14) esNil)) (esCons (eOp2 dEq (eVar 15) (eOpN dLst esNil)) esNil))))) ((tNot (tOf (eCall (d__law_alike 12) (esCons (eMeth 4 "unserved" d_Needs_unserved (eVar 8) (esCons (eVar 14) esNil)) (esCons (eOpN dTupleOf (esCons (eVar 15) esNil)) esNil))))))) b_law_12_3_1 sNop
noncomputable def b_law_12_4 : Sm := sSet 16 (eOpN dNew esNil)
noncomputable def b_law_12_5_1 : Sm := sSet 21 (eComp [5] (iVal (eVar 14)) (.name 5) (tBl (eChain dLe dLe (eVar 7) (eVar 5) (eVar 20))) (eOp2 dSub (eVar 5) (eVar 7)))
noncomputable def b_law_12_5_2 : Sm := sExpr (eBM isLst dAppend (eVar 16) (esCons (eOpN dTup (esCons (eVar 19) (esCons (eOp2 dIx (eOp2 dAdd (eOpN dSorted (esCons (eVar 21) esNil)) (eOpN dLst (esCons (eC .non) esNil))) (eC (.int 0))) esNil))) esNil))
noncomputable def b_law_12_5 : Sm := sFor (iVal (eVar 3)) (.tup [(.name 19), (.name 7), (.name 20)]) (sSeq b_law_12_5_1 b_law_12_5_2)
noncomputable def b_law_12_6_1 : Sm := sRet (eC (.bl false))
noncomputable def b_law_12_6 : Sm := sIf (tBl (eOp2 dNe (eMeth 4 "late_by" d_Needs_late_by (eVar 8) (esCons (eVar 14) esNil)) (eOpN dTupleOf (esCons (eVar 16) esNil)))) b_law_12_6_1 sNop
noncomputable def b_law_12_7 : Sm := sSet 17 (eComp [2] (iRange1 (esCons (eCall d__law_taken (esCons (eVar 1) (esCons (eC (.int 3)) esNil))) esNil)) (.name 2) tYesD (eCall d__law_taken (esCons (eVar 1) (esCons (eOp2 dAdd (eOpN dLen (esCons (eVar 3) esNil)) (eC (.int 1))) esNil))))
noncomputable def b_law_12_8 : Sm := sSet 18 (eAnd (eOp2 dEq (eComp [2] (iVal (eVar 17)) (.name 2) (tBl (eOp2 dGe (eVar 2) (eOpN dLen (esCons (eVar 3) esNil)))) (eVar 2)) (eOpN dLst esNil)) ((eOp2 dEq (eComp [12, 13] (iVal (eCall d__law_pairs (esCons (eOpN dLen (esCons (eVar 17) esNil)) (esCons (eOpN dLen (esCons (eVar 17) esNil)) esNil)))) (.tup [(.name 12), (.name 13)]) (tAnd (tBl (eOp2 dLt (eVar 12) (eVar 13))) ((tOf (eCall d_meet (esCons (eOp2 dIx (eVar 3) (eOp2 dIx (eVar 17) (eVar 12))) (esCons (eOp2 dIx (eVar 3) (eOp2 dIx (eVar 17) (eVar 13))) esNil)))))) (eC (.int 1))) (eOpN dLst esNil))))
noncomputable def b_law_12_9_1 : Sm := sRet (eC (.bl false))
noncomputable def b_law_12_9 : Sm := sIf (tNot (tOf (eCall d__law_truth (esCons (eMeth 4 "is_paper" d_Needs_is_paper (eVar 8) (esCons (eVar 17) esNil)) (esCons (eVar 18) esNil))))) b_law_12_9_1 sNop
noncomputable def b_law_12 : Sm := sFor (iRange1 (esCons (eC (.int 3)) esNil)) (.name 4) (sSeq b_law_12_1 (sSeq b_law_12_2 (sSeq b_law_12_3 (sSeq b_law_12_4 (sSeq b_law_12_5 (sSeq b_law_12_6 (sSeq b_law_12_7 (sSeq b_law_12_8 b_law_12_9))))))))
noncomputable def b_law_13_1_1 : Sm := sRet (eC (.bl false))
noncomputable def b_law_13_1 : Sm := sIf (tNot (tOf (eCall (d__law_alike 12) (esCons (eMeth 4 "served_by" d_Needs_served_by (eVar 8) (esCons (eVar 5) esNil)) (esCons (eOpN dTupleOf (esCons (eComp [2, 22] (iEnum (esCons (eVar 3) esNil)) (.tup [(.name 2), (.name 22)]) (tBl (eChain dLe dLe (eOp2 dIx (eVar 22) (eC (.int 1))) (eVar 5) (eOp2 dIx (eVar 22) (eC (.int 2))))) (eVar 2)) esNil)) esNil))))) b_law_13_1_1 sNop
noncomputable def b_law_13 : Sm := sFor (iRange1 (esCons (eC (.int 17)) esNil)) (.name 5) b_law_13_1
noncomputable def b_law_14 : Sm := sRet (eCall d__law_rest (esCons (eVar 1) (esCons (eVar 8) (esCons (eVar 3) (esCons (eVar 10) (esCons (eVar 6) esNil))))))
noncomputable def b_law : Sm :=
  (sSeq b_law_1 (sSeq b_law_2 (sSeq b_law_3 (sSeq b_law_4 (sSeq b_law_5 (sSeq b_law_6 (sSeq b_law_7 (sSeq b_law_8 (sSeq b_law_9 (sSeq b_law_10 (sSeq b_law_11 (sSeq b_law_12 (sSeq b_law_13 b_law_14)))))))))))))
noncomputable def d_law : FnD := runFn 1 23 b_law
theorem FnOk_law (Tx : Txt P K mg T) {f : Addr} {fd : FuncData} (F : Fun K "law" "law" s_law f fd) : FnG P w K mg base 20 f fd ["script"] (spI K T.base d_law) := by
  have HE_Needs : EqI P w K mg base T.base 1 4 d_Needs___eq__ := D_Needs___eq__ Tx
  have HM_Needs : MakI P w K mg base T.base 15 "Needs" 4 d_Needs___init__ := D_Needs___init__ Tx
  have H_Needs_is_paper : MetI P w K mg base T.base 3 4 "is_paper" d_Needs_is_paper := D_Needs_is_paper Tx
  have H_Needs_is_served : MetI P w K mg base T.base 1 4 "is_served" d_Needs_is_served := D_Needs_is_served Tx
  have H_Needs_late_by : MetI P w K mg base T.base 1 4 "late_by" d_Needs_late_by := D_Needs_late_by Tx
  have H_Needs_paper : MetI P w K mg base T.base 1 4 "paper" d_Needs_paper := D_Needs_paper Tx
  have H_Needs_served_by : MetI P w K mg base T.base 1 4 "served_by" d_Needs_served_by := D_Needs_served_by Tx
  have H_Needs_unserved : MetI P w K mg base T.base 1 4 "unserved" d_Needs_unserved := D_Needs_unserved Tx
  have H_Needs_visits : MetI P w K mg base T.base 1 4 "visits" d_Needs_visits := D_Needs_visits Tx
  have H__law_alike : DefI P w K mg base T.base 13 "_law_alike" (d__law_alike 12) := D__law_alike Tx
  have H__law_good : DefI P w K mg base T.base 1 "_law_good" d__law_good := D__law_good Tx
  have H__law_mixed : DefI P w K mg base T.base 2 "_law_mixed" d__law_mixed := D__law_mixed Tx
  have H__law_names : DefI P w K mg base T.base 4 "_law_names" d__law_names := D__law_names Tx
  have H__law_pairs : DefI P w K mg base T.base 1 "_law_pairs" d__law_pairs := D__law_pairs Tx
  have H__law_pick : DefI P w K mg base T.base 2 "_law_pick" d__law_pick := D__law_pick Tx
  have H__law_rest : DefI P w K mg base T.base 19 "_law_rest" d__law_rest := D__law_rest Tx
  have H__law_rows : DefI P w K mg base T.base 1 "_law_rows" d__law_rows := D__law_rows Tx
  have H__law_taken : DefI P w K mg base T.base 1 "_law_taken" d__law_taken := D__law_taken Tx
  have H__law_truth : DefI P w K mg base T.base 1 "_law_truth" d__law_truth := D__law_truth Tx
  have H_meet : DefI P w K mg base T.base 1 "meet" d_meet := D_meet Tx
  exact FnG.scope (fnU_i (k := 19) (m := 23) (b := b_law) F sc_law rfl rfl fun cdv A outer s H E hroom tk =>
      (s_cons (s_set (i := 1) sc_law.nd rfl (by first | exact Or.inl rfl | exact Or.inr rfl) (i_new (a_cons (iv 0) (a_cons i_int (a_cons i_int (a_cons i_int a_nil))))))
      (s_cons (s_asg (i_tup (a_cons (i_call H__law_names (hroom.mono (by decide)) tk rfl (a_cons (iv 1) (a_cons i_int a_nil))) (a_cons (i_new a_nil) a_nil))) (g_tup (ts := [(.name 6), (.name 3)]) rfl (g_cons (g_name sc_law.nd (i := 6) rfl (by first | exact Or.inl rfl | exact Or.inr rfl)) (g_cons (g_name sc_law.nd (i := 3) rfl (by first | exact Or.inl rfl | exact Or.inr rfl)) g_nil))))
      (s_cons (s_for (passes_of rfl) rfl (it_range1 rfl Tx.mg_range (a_cons (i_call H__law_taken (hroom.mono (by decide)) tk rfl (a_cons (iv 1) (a_cons i_int a_nil))) a_nil)) (g_name sc_law.nd (i := 2) rfl (by first | exact Or.inl rfl | exact Or.inr rfl)) (s_cons (s_set (i := 7) sc_law.nd rfl (by first | exact Or.inl rfl | exact Or.inr rfl) (i_call H__law_taken (hroom.mono (by decide)) tk rfl (a_cons (iv 1) (a_cons i_int a_nil))))
      (s_one (s_expr (i_lm PySem.F.slot_list_append PySem.F.type_list_append m_append (iv 3) (a_cons (i_tup (a_cons (i_call H__law_pick (hroom.mono (by decide)) tk rfl (a_cons (iv 1) (a_cons (iv 6) a_nil))) (a_cons (iv 7) (a_cons (i_bin o_add (iv 7) (i_call H__law_taken (hroom.mono (by decide)) tk rfl (a_cons (iv 1) (a_cons i_int a_nil)))) a_nil)))) a_nil))))))
      (s_cons (s_set (i := 3) sc_law.nd rfl (by first | exact Or.inl rfl | exact Or.inr rfl) (i_callTy o_tuple rfl Tx.mg_tuple (by decide +kernel) (a_cons (iv 3) a_nil)))
      (s_cons (s_asg (i_tup (a_cons (i_makeV HM_Needs (hroom.mono (by decide)) tk rfl (a_cons (i_call H__law_mixed (hroom.mono (by decide)) tk rfl (a_cons (iv 1) (a_cons (i_comp (own := [("one", 22)]) rfl sc_law.nd (it_val (iv 3)) (blkOk_by (by kernel_rfl)) (fun _ _ _ _ _ => (g_name sc_law.nd (i := 22) rfl (by first | exact Or.inl rfl | exact Or.inr rfl))) (fun _ _ _ _ _ => q_nil) (fun _ _ _ _ _ => (i_call H__law_mixed (hroom.mono (by decide)) takes0 rfl (a_cons (iv 1) (a_cons (iv 22) a_nil))))) a_nil))) a_nil)) (a_cons i_int a_nil))) (g_tup (ts := [(.name 8), (.name 9)]) rfl (g_cons (g_name sc_law.nd (i := 8) rfl (by first | exact Or.inl rfl | exact Or.inr rfl)) (g_cons (g_name sc_law.nd (i := 9) rfl (by first | exact Or.inl rfl | exact Or.inr rfl)) g_nil))))
      (s_cons (s_if (i_w (i_tor (i_tnot (i_truth (i_call H__law_alike (hroom.mono (by decide)) tk rfl (a_cons (i_fld (cs := [4]) (by simp only [List.mem_cons, List.not_mem_nil, or_false]; rintro c rfl; exact ⟨Tx.cl_Needs, Tx.na_Needs_spans⟩) (iv 8)) (a_cons (iv 3) a_nil))))) (i_tor (i_tcmp (o_neO (HE_Needs) (hroom.mono (by decide))) (iv 8) (i_makeV HM_Needs (hroom.mono (by decide)) tk rfl (a_cons (iv 3) a_nil)) rfl) (i_or1 (i_tcmp (o_eqO (HE_Needs) (hroom.mono (by decide))) (iv 8) (iv 3) rfl))))) (s_one (s_ret i_bl)) s_nil)
      (s_cons (s_asg (i_tup (a_cons (i_meth0 H_Needs_visits (hroom.mono (by decide)) tk (iv 8)) (a_cons (i_meth0 H_Needs_paper (hroom.mono (by decide)) tk (iv 8)) a_nil))) (g_tup (ts := [(.name 10), (.name 11)]) rfl (g_cons (g_name sc_law.nd (i := 10) rfl (by first | exact Or.inl rfl | exact Or.inr rfl)) (g_cons (g_name sc_law.nd (i := 11) rfl (by first | exact Or.inl rfl | exact Or.inr rfl)) g_nil))))
      (s_cons (s_if (i_w (i_tor (i_tnot (i_truth (i_meth H_Needs_is_served (hroom.mono (by decide)) tk (iv 8) (a_cons (iv 10) a_nil)))) (i_tor (i_tnot (i_truth (i_meth H_Needs_is_paper (hroom.mono (by decide)) tk (iv 8) (a_cons (iv 11) a_nil)))) (i_tor (i_tcmp (o_ne (hu64 hroom)) (i_callB o_len rfl Tx.mg_len (by decide +kernel) (a_cons (iv 11) a_nil)) (i_callB o_len rfl Tx.mg_len (by decide +kernel) (a_cons (iv 10) a_nil)) rfl) (i_tor (i_tcmp (o_ne (hu64 hroom)) (i_callTy o_list rfl Tx.mg_list (by decide +kernel) (a_cons (iv 10) a_nil)) (i_srtSetT rfl rfl Tx.mg_sorted rfl Tx.mg_set (a_cons (iv 10) a_nil)) rfl) (i_or1 (i_tcmp (o_ne (hu64 hroom)) (i_meth H_Needs_unserved (hroom.mono (by decide)) tk (iv 8) (a_cons (iv 10) a_nil)) (i_tup a_nil) rfl))))))) (s_one (s_ret i_bl)) s_nil)
      (s_cons (s_if (i_w (i_tor (i_tcmp (o_ne (hu64 hroom)) (i_comp (own := [("k", 2)]) rfl sc_law.nd (it_range1 rfl Tx.mg_range (a_cons (i_callB o_len rfl Tx.mg_len (by decide +kernel) (a_cons (iv 10) a_nil)) a_nil)) (blkOk_by (by kernel_rfl)) (fun _ _ _ _ _ => (g_name sc_law.nd (i := 2) rfl (by first | exact Or.inl rfl | exact Or.inr rfl))) (fun _ _ _ _ _ => q_one (i_truth (i_meth H_Needs_is_served (hroom.mono (by decide)) takes0 (iv 8) (a_cons (i_bin o_add (i_slice (iv 10) oi_none (oi_some (iv 2))) (i_slice (iv 10) (oi_some (i_bin o_add (iv 2) i_int)) oi_none)) a_nil)))) (fun _ _ _ _ _ => (iv 2))) (i_lst a_nil) rfl) (i_or1 (i_tcmp (o_ne (hu64 hroom)) (i_comp (own := [("tick", 5)]) rfl sc_law.nd (it_val (iv 10)) (blkOk_by (by kernel_rfl)) (fun _ _ _ _ _ => (g_name sc_law.nd (i := 5) rfl (by first | exact Or.inl rfl | exact Or.inr rfl))) (fun _ _ _ _ _ => q_one (i_tcmp (o_notin (hu65 hroom)) (iv 5) (i_comp (own := [("one", 22)]) rfl sc_law.nd (it_val (iv 3)) (blkOk_by (by kernel_rfl)) (fun _ _ _ _ _ => (g_name sc_law.nd (i := 22) rfl (by first | exact Or.inl rfl | exact Or.inr rfl))) (fun _ _ _ _ _ => q_nil) (fun _ _ _ _ _ => (i_ix o_ix (iv 22) i_int (fun _ _ => rfl)))) rfl)) (fun _ _ _ _ _ => (iv 5))) (i_lst a_nil) rfl)))) (s_one (s_ret i_bl)) s_nil)
      (s_cons (s_for (passes_of rfl) rfl (it_val (i_call H__law_pairs (hroom.mono (by decide)) tk rfl (a_cons (i_callB o_len rfl Tx.mg_len (by decide +kernel) (a_cons (iv 11) a_nil)) (a_cons (i_callB o_len rfl Tx.mg_len (by decide +kernel) (a_cons (iv 11) a_nil)) a_nil)))) (g_tup (ts := [(.name 12), (.name 13)]) rfl (g_cons (g_name sc_law.nd (i := 12) rfl (by first | exact Or.inl rfl | exact Or.inr rfl)) (g_cons (g_name sc_law.nd (i := 13) rfl (by first | exact Or.inl rfl | exact Or.inr rfl)) g_nil))) (s_one (s_if (i_w (i_tand (i_tcmp o_lt (iv 12) (iv 13) rfl) (i_and1 (i_truth (i_call H_meet (hroom.mono (by decide)) tk rfl (a_cons (i_ix o_ix (iv 3) (i_ix o_ix (iv 11) (iv 12) (fun _ _ => rfl)) (fun _ _ => rfl)) (a_cons (i_ix o_ix (iv 3) (i_ix o_ix (iv 11) (iv 13) (fun _ _ => rfl)) (fun _ _ => rfl)) a_nil))))))) (s_one (s_ret i_bl)) s_nil)))
      (s_cons (s_if (i_w (i_tand (i_tcmp o_lt (i_callB o_len rfl Tx.mg_len (by decide +kernel) (a_cons (iv 10) a_nil)) i_int rfl) (i_and1 (i_tcmp (o_ne (hu64 hroom)) (i_comp (own := [("ticks", 14)]) rfl sc_law.nd (it_val (i_call H__law_rows (hroom.mono (by decide)) tk rfl (a_cons (i_callB (o_max2 rfl) rfl Tx.mg_max (by decide +kernel) (a_cons i_int (a_cons (i_bin o_sub (i_callB o_len rfl Tx.mg_len (by decide +kernel) (a_cons (iv 10) a_nil)) i_int) a_nil))) (a_cons i_int a_nil)))) (blkOk_by (by kernel_rfl)) (fun _ _ _ _ _ => (g_name sc_law.nd (i := 14) rfl (by first | exact Or.inl rfl | exact Or.inr rfl))) (fun _ _ _ _ _ => q_one (i_w (i_tand (i_tcmp (o_ne (hu64 hroom)) (iv 10) (i_tup a_nil) rfl) (i_and1 (i_truth (i_call H__law_good (hroom.mono (by decide)) takes0 rfl (a_cons (iv 3) (a_cons (iv 14) a_nil)))))))) (fun _ _ _ _ _ => (iv 14))) (i_lst a_nil) rfl)))) (s_one (s_ret i_bl)) s_nil)
      (s_cons (s_for (passes_of rfl) rfl (it_range1 rfl Tx.mg_range (a_cons i_int a_nil)) (g_name sc_law.nd (i := 4) rfl (by first | exact Or.inl rfl | exact Or.inr rfl)) (s_cons (s_set (i := 14) sc_law.nd rfl (by first | exact Or.inl rfl | exact Or.inr rfl) (i_callTy o_tuple rfl Tx.mg_tuple (by decide +kernel) (a_cons (i_callB (o_sorted (hu70 hroom)) rfl Tx.mg_sorted (by decide +kernel) (a_cons (i_comp (own := [("k", 2)]) rfl sc_law.nd (it_range1 rfl Tx.mg_range (a_cons (i_call H__law_taken (hroom.mono (by decide)) tk rfl (a_cons (iv 1) (a_cons i_int a_nil))) a_nil)) (blkOk_by (by kernel_rfl)) (fun _ _ _ _ _ => (g_name sc_law.nd (i := 2) rfl (by first | exact Or.inl rfl | exact Or.inr rfl))) (fun _ _ _ _ _ => q_nil) (fun _ _ _ _ _ => (i_call H__law_taken (hroom.mono (by decide)) takes0 rfl (a_cons (iv 1) (a_cons i_int a_nil))))) a_nil)) a_nil)))
      (s_cons (s_comp (i := 15) (own := [("k", 2), ("one", 22)]) rfl sc_law.nd rfl rfl rfl (it_enum rfl Tx.mg_enumerate (a_cons (iv 3) a_nil)) (blkOk_by (by kernel_rfl)) (fun _ _ _ _ _ => (g_tup (ts := [(.name 2), (.name 22)]) rfl (g_cons (g_name sc_law.nd (i := 2) rfl (by first | exact Or.inl rfl | exact Or.inr rfl)) (g_cons (g_name sc_law.nd (i := 22) rfl (by first | exact Or.inl rfl | exact Or.inr rfl)) g_nil)))) (fun _ _ _ _ _ => q_one (i_tcmp (o_eq (hu64 hroom)) (i_comp (own := [("tick", 5)]) rfl sc_law.nd (it_val (iv 14)) (blkOk_by (by kernel_rfl)) (fun _ _ _ _ _ => (g_name sc_law.nd (i := 5) rfl (by first | exact Or.inl rfl | exact Or.inr rfl))) (fun _ _ _ _ _ => q_one (t_chain o_le o_le (i_ix o_ix (iv 22) i_int (fun _ _ => rfl)) (iv 5) (i_ix o_ix (iv 22) i_int (fun _ _ => rfl)))) (fun _ _ _ _ _ => (iv 5))) (i_lst a_nil) rfl)) (fun _ _ _ _ _ => (iv 2)))
      (s_cons (s_if (i_w (i_tor (i_tnot (i_truth (i_call H__law_truth (hroom.mono (by decide)) tk rfl (a_cons (i_meth H_Needs_is_served (hroom.mono (by decide)) tk (iv 8) (a_cons (iv 14) a_nil)) (a_cons (i_cmp (o_eq (hu64 hroom)) (iv 15) (i_lst a_nil) rfl) a_nil))))) (i_or1 (i_tnot (i_truth (i_call H__law_alike (hroom.mono (by decide)) tk rfl (a_cons (i_meth H_Needs_unserved (hroom.mono (by decide)) tk (iv 8) (a_cons (iv 14) a_nil)) (a_cons (i_callTy o_tuple rfl Tx.mg_tuple (by decide +kernel) (a_cons (iv 15) a_nil)) a_nil)))))))) (s_one (s_ret i_bl)) s_nil)
      (s_cons (s_set (i := 16) sc_law.nd rfl (by first | exact Or.inl rfl | exact Or.inr rfl) (i_new a_nil))
      (s_cons (s_for (passes_of rfl) rfl (it_val (iv 3)) (g_tup (ts := [(.name 19), (.name 7), (.name 20)]) rfl (g_cons (g_name sc_law.nd (i := 19) rfl (by first | exact Or.inl rfl | exact Or.inr rfl)) (g_cons (g_name sc_law.nd (i := 7) rfl (by first | exact Or.inl rfl | exact Or.inr rfl)) (g_cons (g_name sc_law.nd (i := 20) rfl (by first | exact Or.inl rfl | exact Or.inr rfl)) g_nil)))) (s_cons (s_comp (i := 21) (own := [("tick", 5)]) rfl sc_law.nd rfl rfl rfl (it_val (iv 14)) (blkOk_by (by kernel_rfl)) (fun _ _ _ _ _ => (g_name sc_law.nd (i := 5) rfl (by first | exact Or.inl rfl | exact Or.inr rfl))) (fun _ _ _ _ _ => q_one (t_chain o_le o_le (iv 7) (iv 5) (iv 20))) (fun _ _ _ _ _ => (i_bin o_sub (iv 5) (iv 7))))
      (s_one (s_expr (i_lm PySem.F.slot_list_append PySem.F.type_list_append m_append (iv 16) (a_cons (i_tup (a_cons (iv 19) (a_cons (i_ix o_ix (i_bin o_add (i_callB (o_sorted (hu70 hroom)) rfl Tx.mg_sorted (by decide +kernel) (a_cons (iv 21) a_nil)) (i_lst (a_cons i_non a_nil))) i_int (fun _ _ => rfl)) a_nil))) a_nil))))))
      (s_cons (s_if (i_tcmp (o_ne (hu64 hroom)) (i_meth H_Needs_late_by (hroom.mono (by decide)) tk (iv 8) (a_cons (iv 14) a_nil)) (i_callTy o_tuple rfl Tx.mg_tuple (by decide +kernel) (a_cons (iv 16) a_nil)) rfl) (s_one (s_ret i_bl)) s_nil)
      (s_cons (s_set (i := 17) sc_law.nd rfl (by first | exact Or.inl rfl | exact Or.inr rfl) (i_comp (own := [("k", 2)]) rfl sc_law.nd (it_range1 rfl Tx.mg_range (a_cons (i_call H__law_taken (hroom.mono (by decide)) tk rfl (a_cons (iv 1) (a_cons i_int a_nil))) a_nil)) (blkOk_by (by kernel_rfl)) (fun _ _ _ _ _ => (g_name sc_law.nd (i := 2) rfl (by first | exact Or.inl rfl | exact Or.inr rfl))) (fun _ _ _ _ _ => q_nil) (fun _ _ _ _ _ => (i_call H__law_taken (hroom.mono (by decide)) takes0 rfl (a_cons (iv 1) (a_cons (i_bin o_add (i_callB o_len rfl Tx.mg_len (by decide +kernel) (a_cons (iv 3) a_nil)) i_int) a_nil))))))
      (s_cons (s_set (i := 18) sc_law.nd rfl (by first | exact Or.inl rfl | exact Or.inr rfl) (i_and (i_cmp (o_eq (hu64 hroom)) (i_comp (own := [("k", 2)]) rfl sc_law.nd (it_val (iv 17)) (blkOk_by (by kernel_rfl)) (fun _ _ _ _ _ => (g_name sc_law.nd (i := 2) rfl (by first | exact Or.inl rfl | exact Or.inr rfl))) (fun _ _ _ _ _ => q_one (i_tcmp o_ge (iv 2) (i_callB o_len rfl Tx.mg_len (by decide +kernel) (a_cons (iv 3) a_nil)) rfl)) (fun _ _ _ _ _ => (iv 2))) (i_lst a_nil) rfl) (i_one (i_cmp (o_eq (hu64 hroom)) (i_comp (own := [("a", 12), ("b", 13)]) rfl sc_law.nd (it_val (i_call H__law_pairs (hroom.mono (by decide)) tk rfl (a_cons (i_callB o_len rfl Tx.mg_len (by decide +kernel) (a_cons (iv 17) a_nil)) (a_cons (i_callB o_len rfl Tx.mg_len (by decide +kernel) (a_cons (iv 17) a_nil)) a_nil)))) (blkOk_by (by kernel_rfl)) (fun _ _ _ _ _ => (g_tup (ts := [(.name 12), (.name 13)]) rfl (g_cons (g_name sc_law.nd (i := 12) rfl (by first | exact Or.inl rfl | exact Or.inr rfl)) (g_cons (g_name sc_law.nd (i := 13) rfl (by first | exact Or.inl rfl | exact Or.inr rfl)) g_nil)))) (fun _ _ _ _ _ => q_one (i_w (i_tand (i_tcmp o_lt (iv 12) (iv 13) rfl) (i_and1 (i_truth (i_call H_meet (hroom.mono (by decide)) takes0 rfl (a_cons (i_ix o_ix (iv 3) (i_ix o_ix (iv 17) (iv 12) (fun _ _ => rfl)) (fun _ _ => rfl)) (a_cons (i_ix o_ix (iv 3) (i_ix o_ix (iv 17) (iv 13) (fun _ _ => rfl)) (fun _ _ => rfl)) a_nil)))))))) (fun _ _ _ _ _ => i_int)) (i_lst a_nil) rfl))))
      (s_one (s_if (i_tnot (i_truth (i_call H__law_truth (hroom.mono (by decide)) tk rfl (a_cons (i_meth H_Needs_is_paper (hroom.mono (by decide)) tk (iv 8) (a_cons (iv 17) a_nil)) (a_cons (iv 18) a_nil))))) (s_one (s_ret i_bl)) s_nil)))))))))))
      (s_cons (s_for (passes_of rfl) rfl (it_range1 rfl Tx.mg_range (a_cons i_int a_nil)) (g_name sc_law.nd (i := 5) rfl (by first | exact Or.inl rfl | exact Or.inr rfl)) (s_one (s_if (i_tnot (i_truth (i_call H__law_alike (hroom.mono (by decide)) tk rfl (a_cons (i_meth H_Needs_served_by (hroom.mono (by decide)) tk (iv 8) (a_cons (iv 5) a_nil)) (a_cons (i_callTy o_tuple rfl Tx.mg_tuple (by decide +kernel) (a_cons (i_comp (own := [("k", 2), ("one", 22)]) rfl sc_law.nd (it_enum rfl Tx.mg_enumerate (a_cons (iv 3) a_nil)) (blkOk_by (by kernel_rfl)) (fun _ _ _ _ _ => (g_tup (ts := [(.name 2), (.name 22)]) rfl (g_cons (g_name sc_law.nd (i := 2) rfl (by first | exact Or.inl rfl | exact Or.inr rfl)) (g_cons (g_name sc_law.nd (i := 22) rfl (by first | exact Or.inl rfl | exact Or.inr rfl)) g_nil)))) (fun _ _ _ _ _ => q_one (t_chain o_le o_le (i_ix o_ix (iv 22) i_int (fun _ _ => rfl)) (iv 5) (i_ix o_ix (iv 22) i_int (fun _ _ => rfl)))) (fun _ _ _ _ _ => (iv 2))) a_nil)) a_nil))))) (s_one (s_ret i_bl)) s_nil)))
      (s_one (s_ret (i_call H__law_rest (hroom.mono (by decide)) tk rfl (a_cons (iv 1) (a_cons (iv 8) (a_cons (iv 3) (a_cons (iv 10) (a_cons (iv 6) a_nil))))))))))))))))))))))
end
end Qk21

namespace G
open PySem PySem.Spec PyProof.Rows L2
theorem xv_non : isExv .non = false := id rfl
theorem xv_bl {b} : isExv (.bl b) = false := id rfl
theorem xv_int {b} : isExv (.int b) = false := id rfl
theorem xv_str {b} : isExv (.str b) = false := id rfl
theorem xv_lst {b} : isExv (.lst b) = false := id rfl
theorem xv_tup {b} : isExv (.tup b) = false := id rfl
theorem xv_scr {b} : isExv (.scr b) = false := id rfl
theorem xv_ref {b} : isExv (.ref b) = false := id rfl
theorem xv_ins {b c} : isExv (.ins b c) = false := id rfl
theorem xv_fn {b} : isExv (.fn b) = false := id rfl
theorem xv_ty {b} : isExv (.ty b) = false := id rfl
theorem bind_ok {α β : Type} {a : α} {S : Sto} {k : α → Sto → Rs β} : (Rs.ok a S).bind k = k a S := rfl
theorem lft_ok {α : Type} {a : α} {S : Sto} {ε : Env} {k : α → Sto → Fl} : lft (.ok a S) ε k = k a S := rfl
theorem lft_exc {α : Type} {c fs} {S : Sto} {ε : Env} {k : α → Sto → Fl} : lft (.exc c fs S) ε k = .ex c fs ε S := rfl
theorem lft_bad {α : Type} {ε : Env} {k : α → Sto → Fl} : lft (.bad : Rs α) ε k = .bad := rfl
theorem of_some {α : Type} {a : α} {S : Sto} : Rs.of (some (a, S)) = .ok a S := rfl
theorem atI_0 {α : Type} {x : α} {l : List α} : atI (x :: l) 0 = some x := by simp [atI, ixN]
theorem atI_1 {α : Type} {x y : α} {l : List α} : atI (x :: y :: l) 1 = some y := by
  have : ixN (x :: y :: l).length 1 = some 1 := by unfold ixN; rw [if_pos (by decide), if_pos (by simp only [List.length_cons]; omega)]; rfl
  unfold atI; rw [this]; rfl
theorem fnRes_rt {d : Da} {S : Sto} : fnRes (.rt d S) = .ok d S := rfl
theorem fnRes_nx {ε : Env} {S : Sto} : fnRes (.nx ε S) = .ok .non S := rfl
theorem fnRes_ex {c fs} {ε : Env} {S : Sto} : fnRes (.ex c fs ε S) = .exc c fs S := rfl
theorem dEq_ii {i j : Int} {S : Sto} : dEq (.int i) (.int j) S = some (.bl (i == j), S) := rfl
theorem dEq_bb {i j : Bool} {S : Sto} : dEq (.bl i) (.bl j) S = some (.bl (i == j), S) := rfl
theorem dEq_ss {i j : Str} {S : Sto} : dEq (.str i) (.str j) S = some (.bl (i == j), S) := rfl
theorem dEq_nn {S : Sto} : dEq .non .non S = some (.bl true, S) := rfl
theorem dNe_ii {i j : Int} {S : Sto} : dNe (.int i) (.int j) S = some (.bl (!(i == j)), S) := rfl
theorem dNe_bb {i j : Bool} {S : Sto} : dNe (.bl i) (.bl j) S = some (.bl (!(i == j)), S) := rfl
theorem dNe_ss {i j : Str} {S : Sto} : dNe (.str i) (.str j) S = some (.bl (!(i == j)), S) := rfl
theorem dNe_nn {S : Sto} : dNe .non .non S = some (.bl false, S) := rfl
theorem drf_shp {n : Nat} {d : Da} {S : Sto} (h : shp n d = true) : drf S d = d := by cases d <;> first | rfl | simp [shp] at h
theorem dEq_shp {x y : Da} {S : Sto} (hx : shp 64 x = true) (hy : shp 64 y = true) : dEq x y S = some (.bl (eqv x y), S) := by
  unfold dEq; rw [drf_shp hx, drf_shp hy, hx, hy, if_pos (by simp)]
theorem dNe_shp {x y : Da} {S : Sto} (hx : shp 64 x = true) (hy : shp 64 y = true) : dNe x y S = some (.bl (!eqv x y), S) := by
  unfold dNe; rw [drf_shp hx, drf_shp hy, hx, hy, if_pos (by simp)]
theorem dLst_s {xs : List Da} {S : Sto} (h : xs.length ≤ 1000) : dLst xs S = some (.lst xs, S) := by
  unfold dLst; rw [if_pos (by rw [sizeLine_eq]; omega)]
theorem dTup_s {xs : List Da} {S : Sto} (h : xs.length ≤ 1000) : dTup xs S = some (.tup xs, S) := by
  unfold dTup; rw [if_pos (by rw [sizeLine_eq]; omega)]
theorem dNew_s {xs : List Da} {S : Sto} (h : xs.length ≤ 1000) : dNew xs S = some (.ref S.length, S ++ [.lst xs]) := by
  unfold dNew; rw [if_pos (by rw [sizeLine_eq]; omega)]
theorem dEq_nil {S : Sto} : dEq (.lst []) (.lst []) S = some (.bl true, S) := rfl
theorem dEq_nilc {S : Sto} {d : Da} {ds : List Da} (h : shp 64 (.lst (d :: ds)) = true) : dEq (.lst (d :: ds)) (.lst []) S = some (.bl false, S) := by
  rw [dEq_shp h rfl]; rfl
theorem put_name {i : Nat} {d : Da} {ε : Env} : put (.name i) d ε = some (ε.set i (some d)) := by rw [put]
theorem put_tt {ts : List Tg} {ds : List Da} {ε : Env} : put (.tup ts) (.tup ds) ε = puts ts ds ε := by rw [put]
theorem put_tl {ts : List Tg} {ds : List Da} {ε : Env} : put (.tup ts) (.lst ds) ε = puts ts ds ε := by rw [put]
theorem puts_nil {ε : Env} : puts [] [] ε = some ε := by rw [puts]
theorem puts_cons {t : Tg} {ts : List Tg} {d : Da} {ds : List Da} {ε ε1 : Env} (h : put t d ε = some ε1) : puts (t :: ts) (d :: ds) ε = puts ts ds ε1 := by rw [puts, h]
theorem puts_name {i : Nat} {ts : List Tg} {d : Da} {ds : List Da} {ε : Env} : puts (.name i :: ts) (d :: ds) ε = puts ts ds (ε.set i (some d)) := puts_cons put_name
local macro_rules
  | `(tactic| simp? only [$l,*]) => `(tactic| simp only [runU, eVar, eC, xv_non, xv_bl, xv_int, xv_str, xv_lst, xv_tup, xv_scr, xv_ref, xv_ins, xv_fn, xv_ty, bind_ok, lft_ok, lft_exc, of_some, fnRes_rt, fnRes_nx, fnRes_ex, eOp1, eOp2, eOpN, esNil, esCons, sSeq, sSet, sIf, sRet, sRetN, sExpr, sNop, tBl, tOf, tAnd, tOr, tNot, asB, sSetIx, List.map_cons, List.map_nil, List.replicate, Nat.zero_add, Nat.reduceAdd, Nat.reduceSub, List.cons_append, List.nil_append, List.getElem?_cons_zero, List.getElem?_cons_succ, List.set_cons_zero, List.set_cons_succ, List.length_cons, List.length_nil, dIx, dGt, dGe, dLt, dLe, dAdd, dSub, dMul, dMod, dDiv, dPow, dNeg, dInt, drf, dLen, if_true, if_false, Bool.false_eq_true, decide_eq_true_eq, dSetIx, Option.map_some, decide_true, decide_false, truth, eAnd, eOr, eNot, eIf, eIsT, dIsT, kindD, tysOf, dIsi, isB, dIs, dIsNot, isNon, List.any_cons, List.any_nil, Bool.or_false, Bool.or_true, Bool.false_or, Bool.true_or, Bool.and_true, Bool.true_and, Bool.and_false, Bool.false_and, Bool.not_true, Bool.not_false, Nat.reduceLeDiff, Nat.reduceLT, Int.reduceLT, Int.reduceLE, and_self, and_true, true_and, reduceIte, sFor, lft_bad, dEq_ii, dEq_bb, dEq_ss, dEq_nn, dNe_ii, dNe_bb, dNe_ss, dNe_nn, BEq.rfl, dLst_s, dTup_s, dNew_s, dEq_nil, Nat.zero_le, put_name, put_tt, put_tl, puts_nil, puts_name, sAsg, eFld, eMeth, insOf, List.mem_cons, List.not_mem_nil, or_false, false_or, eCall, sPar, atI_0, atI_1, Int.cast_ofNat_Int, Int.reduceBEq, $l,*])
/-- the row of a law: the script, how many were read, the state, what is left of a large number -/
def rowL (ns : List Int) (i s p : Int) : Ob := .lst [.scr ns, .int i, .int s, .int p]
section
variable {S : Sto} {r : Nat} {ns : List Int} {i s p m : Int}
theorem row0 {i s p : Int} : atI [Da.scr ns, Da.int i, Da.int s, Da.int p] 0 = some (.scr ns) := rfl
theorem row1 {i s p : Int} : atI [Da.scr ns, Da.int i, Da.int s, Da.int p] 1 = some (.int i) := rfl
theorem row2 {i s p : Int} : atI [Da.scr ns, Da.int i, Da.int s, Da.int p] 2 = some (.int s) := rfl
theorem row3 {i s p : Int} : atI [Da.scr ns, Da.int i, Da.int s, Da.int p] 3 = some (.int p) := rfl
theorem ix1 {n : Nat} (h : 2 ≤ n) : ixN n 1 = some 1 := by unfold ixN; rw [if_pos (by decide), if_pos (by omega)]; rfl
theorem ixk (n : Nat) (k : Nat) (h : k < n) : ixN n (k : Int) = some k := by unfold ixN; rw [if_pos (by omega), if_pos (by omega)]; simp
theorem ix4_1 : ixN 4 1 = some 1 := rfl
theorem ix4_2 : ixN 4 2 = some 2 := rfl
theorem ix4_3 : ixN 4 3 = some 3 := rfl
theorem row_set {X : Ob} (h : r < S.length) : (S.set r X)[r]? = some X := List.getElem?_set_self h
theorem mulOk_s (h1 : 0 ≤ s) (h2 : s < 2147483647) : mulOk s 48271 = true := mulOk_r (by decide) (by decide)
end
/-! ### leaving a def -/
theorem scp_same {S : Sto} {d : Da} (h : belowD S.length d = true) : scp S (.ok d S) = .ok d S := by
  rw [scp_ok, if_pos ⟨h, Nat.le_refl _, fun i _ => .inl rfl⟩, List.take_length]
theorem scp_more {S X : Sto} {d : Da} (h : belowD S.length d = true) : scp S (.ok d (S ++ X)) = .ok d S := by
  rw [scp_ok, if_pos ⟨h, by simp, fun i hi => .inl (List.getElem?_append_left hi)⟩, List.take_left]
theorem scp_set {S : Sto} {d : Da} {r : Nat} {o : Ob} (h : belowD S.length d = true) (ho : belowO S.length o = true) : scp S (.ok d (S.set r o)) = .ok d (S.set r o) := by
  have e : (S.set r o).take S.length = S.set r o := by rw [← List.length_set (as := S) (i := r) (a := o), List.take_length]
  have sc : ScopeOk S (S.set r o) := ⟨by simp, fun i hi => by
    by_cases z : i = r
    · subst z
      exact .inr ⟨o, List.getElem?_set_self hi, ho⟩
    · exact .inl (List.getElem?_set_ne (Ne.symm z))⟩
  rw [scp_ok, if_pos ⟨h, sc⟩, e]
theorem scp_exc_same {S : Sto} {c : Nat} {fs : List (Str × Da)} (h : belowDf S.length fs = true) : scp S (.exc c fs S) = .exc c fs S := by
  rw [scp_exc, if_pos ⟨h, Nat.le_refl _, fun i _ => .inl rfl⟩, List.take_length]
theorem scp_exc_more {S X : Sto} {c : Nat} {fs : List (Str × Da)} (h : belowDf S.length fs = true) : scp S (.exc c fs (S ++ X)) = .exc c fs S := by
  rw [scp_exc, if_pos ⟨h, by simp, fun i hi => .inl (List.getElem?_append_left hi)⟩, List.take_left]
/-- the row stands at r of the store -/
structure RowOk (S : Sto) (r : Nat) (ns : List Int) : Prop where
  ex : ∃ i s p : Int, S[r]? = some (.lst [.scr ns, .int i, .int s, .int p]) ∧ 0 ≤ i ∧ 0 ≤ s ∧ s < 2147483647
/-- the rest of the store is as it was -/
structure OnlyAt (r : Nat) (S S' : Sto) : Prop where
  len : S'.length = S.length
  old : ∀ j, j ≠ r → S'[j]? = S[j]?
theorem OnlyAt.refl (r : Nat) (S : Sto) : OnlyAt r S S := ⟨rfl, fun _ _ => rfl⟩
theorem OnlyAt.trans {r : Nat} {S1 S2 S3 : Sto} (a : OnlyAt r S1 S2) (b : OnlyAt r S2 S3) : OnlyAt r S1 S3 := ⟨b.len.trans a.len, fun j h => (b.old j h).trans (a.old j h)⟩
theorem OnlyAt.set (r : Nat) (S : Sto) (o : Ob) : OnlyAt r S (S.set r o) := ⟨by simp, fun j h => List.getElem?_set_ne (Ne.symm h)⟩
/-! ### _law_alike -/
mutual
def dep : Da → Nat
  | .lst ds => deps ds + 1
  | .tup ds => deps ds + 1
  | _ => 0
def deps : List Da → Nat
  | [] => 0
  | d :: ds => max (dep d) (deps ds)
end
theorem deps_mem {d : Da} : ∀ {ds : List Da}, d ∈ ds → dep d ≤ deps ds
  | [], h => by cases h
  | e :: ds, h => by
    rcases List.mem_cons.mp h with h | h
    · subst h; exact Nat.le_max_left _ _
    · exact Nat.le_trans (deps_mem h) (Nat.le_max_right _ _)
mutual
theorem shp_refl : ∀ (n : Nat) (d : Da), shp n d = true → eqv d d = true
  | _, .non, _ => rfl
  | _, .bl b, _ => by simp [eqv]
  | _, .int b, _ => by simp [eqv]
  | _, .str b, _ => by simp [eqv]
  | n, .lst ds, h => by simp only [shp, Bool.and_eq_true] at h; simp only [eqv]; exact shps_refl (n - 1) ds h.2
  | n, .tup ds, h => by simp only [shp, Bool.and_eq_true] at h; simp only [eqv]; exact shps_refl (n - 1) ds h.2
  | _, .scr _, h => by simp [shp] at h
  | _, .ins _ _, h => by simp [shp] at h
  | _, .fn _, h => by simp [shp] at h
  | _, .ty _, h => by simp [shp] at h
  | _, .cls _, h => by simp [shp] at h
  | _, .exv _ _, h => by simp [shp] at h
  | _, .ref _, h => by simp [shp] at h
theorem shps_refl : ∀ (n : Nat) (ds : List Da), shps n ds = true → eqvs ds ds = true
  | _, [], _ => rfl
  | n, d :: ds, h => by simp only [shps, Bool.and_eq_true] at h; simp only [eqvs, Bool.and_eq_true]; exact ⟨shp_refl n d h.1, shps_refl n ds h.2⟩
end
mutual
theorem shp_mono : ∀ {n m : Nat} {d : Da}, n ≤ m → shp n d = true → shp m d = true
  | _, _, .non, _, _ => rfl
  | _, _, .bl b, _, _ => rfl
  | _, _, .int b, _, _ => rfl
  | _, _, .str b, _, h => h
  | n, m, .lst ds, l, h => by
    simp only [shp, Bool.and_eq_true, decide_eq_true_eq] at h ⊢
    exact ⟨by omega, shps_mono (by omega) h.2⟩
  | n, m, .tup ds, l, h => by
    simp only [shp, Bool.and_eq_true, decide_eq_true_eq] at h ⊢
    exact ⟨by omega, shps_mono (by omega) h.2⟩
  | _, _, .scr _, _, h => by simp [shp] at h
  | _, _, .ins _ _, _, h => by simp [shp] at h
  | _, _, .fn _, _, h => by simp [shp] at h
  | _, _, .ty _, _, h => by simp [shp] at h
  | _, _, .cls _, _, h => by simp [shp] at h
  | _, _, .exv _ _, _, h => by simp [shp] at h
  | _, _, .ref _, _, h => by simp [shp] at h
theorem shps_mono : ∀ {n m : Nat} {ds : List Da}, n ≤ m → shps n ds = true → shps m ds = true
  | _, _, [], _, _ => rfl
  | n, m, d :: ds, l, h => by simp only [shps, Bool.and_eq_true] at h ⊢; exact ⟨shp_mono l h.1, shps_mono l h.2⟩
end
/-- data: small, shallow -/
def okD (n : Nat) : Da → Bool
  | d => shp n d
mutual
/-- every row within is short -/
def shrt : Da → Bool
  | .lst ds => decide (ds.length ≤ 100000) && shrts ds
  | .tup ds => decide (ds.length ≤ 100000) && shrts ds
  | _ => true
def shrts : List Da → Bool
  | [] => true
  | d :: ds => shrt d && shrts ds
end
theorem shrts_mem {d : Da} : ∀ {ds : List Da}, shrts ds = true → d ∈ ds → shrt d = true
  | [], _, h => by cases h
  | e :: ds, s, h => by
    simp only [shrts, Bool.and_eq_true] at s
    rcases List.mem_cons.mp h with h | h
    · subst h; exact s.1
    · exact shrts_mem s.2 h
theorem shp_xv {n : Nat} {d : Da} (h : shp n d = true) : isExv d = false := by cases d <;> first | rfl | simp [shp] at h
mutual
theorem shp_below {m : Nat} : ∀ {n : Nat} {d : Da}, shp n d = true → belowD m d = true
  | _, .non, _ => rfl
  | _, .bl b, _ => rfl
  | _, .int b, _ => rfl
  | _, .str b, _ => rfl
  | n, .lst ds, h => by simp only [shp, Bool.and_eq_true] at h; exact shps_below h.2
  | n, .tup ds, h => by simp only [shp, Bool.and_eq_true] at h; exact shps_below h.2
  | _, .scr _, _ => rfl
  | _, .ins _ _, h => by simp [shp] at h
  | _, .fn _, _ => rfl
  | _, .ty _, _ => rfl
  | _, .cls _, _ => rfl
  | _, .exv _ _, h => by simp [shp] at h
  | _, .ref _, h => by simp [shp] at h
theorem shps_below {m : Nat} : ∀ {n : Nat} {ds : List Da}, shps n ds = true → belowDs m ds = true
  | _, [], _ => rfl
  | n, d :: ds, h => by simp only [shps, Bool.and_eq_true] at h; simp only [belowDs, Bool.and_eq_true]; exact ⟨shp_below h.1, shps_below h.2⟩
end
/-- a comprehension whose test never holds -/
theorem compL_none {g : Tg} {t : TeE} {a : E} {ε : Env} {S : Sto} : ∀ {ds : List Da}, (∀ d ∈ ds, ∃ ε1, put g d ε = some ε1 ∧ t ε1 S = .ok false S) → compL g t a ε ds S = .ok [] S
  | [], _ => rfl
  | d :: ds, h => by
    obtain ⟨ε1, e1, e2⟩ := h d List.mem_cons_self
    unfold compL
    rw [e1]
    dsimp only
    rw [e2]
    exact compL_none fun x hx => h x (List.mem_cons_of_mem _ hx)
def kids : Da → List Da
  | .lst ds => ds
  | .tup ds => ds
  | _ => []
theorem rng_mem {n : Nat} {z : Da} (h : z ∈ rng 0 (n : Int)) : ∃ j, j < n ∧ z = .int (j : Int) := by
  simp only [rng, List.mem_map, List.mem_range] at h
  obtain ⟨j, hj, rfl⟩ := h
  exact ⟨j, by simpa using hj, by rw [Int.zero_add]⟩
theorem rng_len (n : Nat) : (rng 0 (n : Int)).length = n := by simp [rng]
theorem len62 {n : Nat} (h : n ≤ sizeLine) : inW 62 (n : Int) = true := by
  rw [sizeLine_eq] at h
  exact inW_62 (by omega) (by omega)
theorem seq_nx {a b : Sm} {ε ε' : Env} {S S' : Sto} (h : a ε S = .nx ε' S') : sSeq a b ε S = b ε' S' := by unfold sSeq; rw [h]
/-! ### _law_low: by every divisor -/
theorem rng_nil {a b : Int} (h : b ≤ a) : rng a b = [] := by unfold rng; rw [show (b - a).toNat = 0 by omega]; rfl
theorem rng_cons {a b : Int} (h : a < b) : rng a b = .int a :: rng (a + 1) b := by
  unfold rng
  obtain ⟨n, hn⟩ : ∃ n : Nat, (b - a).toNat = n + 1 := ⟨(b - a).toNat - 1, by omega⟩
  rw [hn, show (b - (a + 1)).toNat = n by omega, List.range_succ_eq_map, List.map_cons, List.map_map]
  congr 1
  · simp
  · refine List.map_congr_left fun i _ => ?_
    show Da.int (a + ((i + 1 : Nat) : Int)) = Da.int (a + 1 + i)
    congr 1
    omega
theorem forL_cons {g : Tg} {b : Sm} {d : Da} {ds : List Da} {ε ε1 ε2 : Env} {S S2 : Sto} (h1 : put g d ε = some ε1) (h2 : b ε1 S = .nx ε2 S2) : forL g b (d :: ds) ε S = forL g b ds ε2 S2 := by
  rw [forL, h1]
  simp only [h2]
theorem forL_nil {g : Tg} {b : Sm} {ε : Env} {S : Sto} : forL g b [] ε S = .nx ε S := rfl
/-! ### comprehensions whose parts change nothing -/
theorem compL_filter {g : Tg} {t : TeE} {a : E} {ε : Env} {S : Sto} {f : Da → Bool} {v : Da → Da} : ∀ {ds : List Da}, (∀ d ∈ ds, ∃ ε1, put g d ε = some ε1 ∧ t ε1 S = .ok (f d) S ∧ (f d = true → a ε1 S = .ok (v d) S)) → compL g t a ε ds S = .ok ((ds.filter f).map v) S
  | [], _ => rfl
  | d :: ds, h => by
    obtain ⟨ε1, e1, e2, e3⟩ := h d List.mem_cons_self
    have ih := compL_filter (f := f) (v := v) (ds := ds) fun x hx => h x (List.mem_cons_of_mem _ hx)
    unfold compL
    rw [e1]
    dsimp only
    rw [e2]
    cases q : f d with
    | false => simp only [Rs.bindN, Bool.false_eq_true, if_false, ih, List.filter_cons_of_neg (show ¬ f d = true from by rw [q]; exact Bool.false_ne_true)]
    | true => simp only [Rs.bindN, if_true, e3 q, ih, List.filter_cons_of_pos q, List.map_cons]
theorem intsOf_map : ∀ ns : List Int, intsOf (ns.map Da.int) = some ns
  | [] => rfl
  | n :: ns => by simp only [List.map_cons, intsOf, intsOf_map ns, Option.map_some]
theorem dMaxL_ints {ns : List Int} {S : Sto} (h : ns ≠ []) : dMaxL [.lst (ns.map Da.int)] S = some (.int (maxL ns), S) := by
  unfold dMaxL listOf
  simp only [drf, Option.bind_some, intsOf_map]
  cases ns with
  | nil => exact absurd rfl h
  | cons => rfl
theorem dMinL_ints {ns : List Int} {S : Sto} (h : ns ≠ []) : dMinL [.lst (ns.map Da.int)] S = some (.int (minL ns), S) := by
  unfold dMinL listOf
  simp only [drf, Option.bind_some, intsOf_map]
  cases ns with
  | nil => exact absurd rfl h
  | cons => rfl
theorem maxL_eq {m : Int} {ns : List Int} (h1 : m ∈ ns) (h2 : ∀ y ∈ ns, y ≤ m) : maxL ns = m := by
  obtain ⟨q1, q2⟩ := maxL_spec ns (List.ne_nil_of_mem h1)
  exact Int.le_antisymm (h2 _ q1) (q2 _ h1)
theorem minL_eq {m : Int} {ns : List Int} (h1 : m ∈ ns) (h2 : ∀ y ∈ ns, m ≤ y) : minL ns = m := by
  obtain ⟨q1, q2⟩ := minL_spec ns (List.ne_nil_of_mem h1)
  exact Int.le_antisymm (q2 _ h1) (h2 _ q1)
/-- the wholes a .. b - 1 -/
def whl (a b : Int) : List Int := (List.range (b - a).toNat).map fun i => a + (i : Nat)
theorem rng_whl (a b : Int) : rng a b = (whl a b).map Da.int := by unfold rng whl; rw [List.map_map]; rfl
theorem mem_whl {a b z : Int} : z ∈ whl a b ↔ a ≤ z ∧ z < b := by
  unfold whl
  simp only [List.mem_map, List.mem_range]
  constructor
  · rintro ⟨i, hi, rfl⟩; omega
  · rintro ⟨h1, h2⟩; exact ⟨(z - a).toNat, by omega, by omega⟩
theorem len_whl (a b : Int) : (whl a b).length = (b - a).toNat := by simp [whl]
/-- [k for k in ints if f k] -/
theorem comp_ints {j : Nat} {t : TeE} {ε : Env} {S : Sto} {f : Int → Bool} (ns : List Int) (hj : j < ε.length) (ht : ∀ k : Int, t (ε.set j (some (.int k))) S = .ok (f k) S) :
    compL (.name j) t (eVar j) ε (ns.map Da.int) S = .ok (.map Da.int (ns.filter f)) S := by
  have h := compL_filter (g := .name j) (t := t) (a := eVar j) (ε := ε) (S := S) (f := fun d => match d with | .int k => f k | _ => false) (v := id) (ds := ns.map Da.int) fun d hd => by
    simp only [List.mem_map] at hd
    obtain ⟨k, _, rfl⟩ := hd
    refine ⟨_, rfl, ht k, fun _ => ?_⟩
    unfold eVar
    rw [List.getElem?_set_self hj]
    rfl
  rw [h, List.map_id, List.filter_map]
  rfl
theorem compS_filter {n : Nat} {d0 : List Da} {g : Tg} {t : TeE} {a : E} {ε : Env} {S : Sto} {f : Da → Bool} {v : Da → Da} (hS : S[n]? = some (.lst d0)) : ∀ {ds : List Da}, (∀ d ∈ ds, ∃ ε1, put g d ε = some ε1 ∧ t ε1 S = .ok (f d) S ∧ (f d = true → a ε1 S = .ok (v d) S)) → compS n d0 g t a ε ds S = .ok ((ds.filter f).map v) S
  | [], _ => by unfold compS; rw [if_pos hS]; rfl
  | d :: ds, h => by
    obtain ⟨ε1, e1, e2, e3⟩ := h d List.mem_cons_self
    have ih := compS_filter (f := f) (v := v) hS (ds := ds) fun x hx => h x (List.mem_cons_of_mem _ hx)
    unfold compS
    rw [if_pos hS, e1]
    dsimp only
    rw [e2]
    cases q : f d with
    | false => simp only [Rs.bindN, Bool.false_eq_true, if_false, ih, List.filter_cons_of_neg (show ¬ f d = true from by rw [q]; exact Bool.false_ne_true)]
    | true => simp only [Rs.bindN, if_true, e3 q, ih, List.filter_cons_of_pos q, List.map_cons]
theorem app_get {S : Sto} {X : Ob} : (S ++ [X])[S.length]? = some X := by simp
theorem app_set {S : Sto} {X Y : Ob} : (S ++ [X]).set S.length Y = S ++ [Y] := by simp
open PySem PySem.Spec PyProof.Rows L2
/-! ### comprehensions over typed rows -/
theorem compL_t {α : Type} {emb : α → Da} {f : α → Bool} {v : α → Da} {g : Tg} {t : TeE} {a : E} {ε : Env} {S : Sto} : ∀ (L : List α), (∀ x ∈ L, ∃ ε1, put g (emb x) ε = some ε1 ∧ t ε1 S = .ok (f x) S ∧ (f x = true → a ε1 S = .ok (v x) S)) → compL g t a ε (L.map emb) S = .ok ((L.filter f).map v) S
  | [], _ => rfl
  | x :: L, h => by
    obtain ⟨ε1, e1, e2, e3⟩ := h x List.mem_cons_self
    have ih := compL_t (f := f) (v := v) L fun y hy => h y (List.mem_cons_of_mem _ hy)
    rw [List.map_cons]
    unfold compL
    rw [e1]
    dsimp only
    rw [e2]
    cases q : f x with
    | false => simp only [Rs.bindN, Bool.false_eq_true, if_false, ih, List.filter_cons_of_neg (show ¬ f x = true from by rw [q]; exact Bool.false_ne_true)]
    | true => simp only [Rs.bindN, if_true, e3 q, ih, List.filter_cons_of_pos q, List.map_cons]
theorem eComp_t {α : Type} {emb : α → Da} {f : α → Bool} {v : α → Da} {own : List Nat} {it : Ie} {g : Tg} {t : TeE} {a : E} {ε : Env} {S : Sto} (L : List α) (hi : it ε S = .ok (L.map emb) S) (hl : L.length ≤ 100000) (h : ∀ x ∈ L, ∃ ε1, put g (emb x) (wipeE ε own) = some ε1 ∧ t ε1 S = .ok (f x) S ∧ (f x = true → a ε1 S = .ok (v x) S)) :
    eComp own it g t a ε S = .ok (.lst ((L.filter f).map v)) S := by
  unfold eComp
  rw [hi]
  simp only [bind_ok]
  rw [if_pos (by rw [List.length_map, sizeLine_eq]; omega), compL_t L h]
  rfl
theorem filter_all {α : Type} (L : List α) : L.filter (fun _ => true) = L := by induction L with | nil => rfl | cons x l ih => simp
/-- [v for x in ..] -/
theorem eComp_m {α : Type} {emb : α → Da} {v : α → Da} {own : List Nat} {it : Ie} {g : Tg} {a : E} {ε : Env} {S : Sto} (L : List α) (hi : it ε S = .ok (L.map emb) S) (hl : L.length ≤ 100000) (h : ∀ x ∈ L, ∃ ε1, put g (emb x) (wipeE ε own) = some ε1 ∧ a ε1 S = .ok (v x) S) :
    eComp own it g tYesD a ε S = .ok (.lst (L.map v)) S := by
  rw [eComp_t (f := fun _ => true) (v := v) L hi hl fun x hx => by obtain ⟨ε1, e1, e2⟩ := h x hx; exact ⟨ε1, e1, rfl, fun _ => e2⟩, filter_all]
theorem compS_t {α : Type} {emb : α → Da} {f : α → Bool} {v : α → Da} {n : Nat} {d0 : List Da} {g : Tg} {t : TeE} {a : E} {ε : Env} {S : Sto} (hS : S[n]? = some (.lst d0)) : ∀ (L : List α), (∀ x ∈ L, ∃ ε1, put g (emb x) ε = some ε1 ∧ t ε1 S = .ok (f x) S ∧ (f x = true → a ε1 S = .ok (v x) S)) → compS n d0 g t a ε (L.map emb) S = .ok ((L.filter f).map v) S
  | [], _ => by rw [List.map_nil]; unfold compS; rw [if_pos hS]; rfl
  | x :: L, h => by
    obtain ⟨ε1, e1, e2, e3⟩ := h x List.mem_cons_self
    have ih := compS_t (f := f) (v := v) hS L fun y hy => h y (List.mem_cons_of_mem _ hy)
    rw [List.map_cons]
    unfold compS
    rw [if_pos hS, e1]
    dsimp only
    rw [e2]
    cases q : f x with
    | false => simp only [Rs.bindN, Bool.false_eq_true, if_false, ih, List.filter_cons_of_neg (show ¬ f x = true from by rw [q]; exact Bool.false_ne_true)]
    | true => simp only [Rs.bindN, if_true, e3 q, ih, List.filter_cons_of_pos q, List.map_cons]
theorem eCompS_t {α : Type} {emb : α → Da} {f : α → Bool} {v : α → Da} {own : List Nat} {it : Ies} {g : Tg} {t : TeE} {a : E} {ε : Env} {S : Sto} {n : Nat} (L : List α) (hi : it ε S = .ok (n, L.map emb) S) (hS : S[n]? = some (.lst (L.map emb))) (hl : L.length ≤ 100000) (h : ∀ x ∈ L, ∃ ε1, put g (emb x) (wipeE ε own) = some ε1 ∧ t ε1 S = .ok (f x) S ∧ (f x = true → a ε1 S = .ok (v x) S)) :
    eCompS own it g t a ε S = .ok (.lst ((L.filter f).map v)) S := by
  unfold eCompS
  rw [hi]
  simp only [bind_ok]
  rw [if_pos (by rw [List.length_map, sizeLine_eq]; omega), compS_t hS L h]
  rfl
theorem eCompS_m {α : Type} {emb : α → Da} {v : α → Da} {own : List Nat} {it : Ies} {g : Tg} {a : E} {ε : Env} {S : Sto} {n : Nat} (L : List α) (hi : it ε S = .ok (n, L.map emb) S) (hS : S[n]? = some (.lst (L.map emb))) (hl : L.length ≤ 100000) (h : ∀ x ∈ L, ∃ ε1, put g (emb x) (wipeE ε own) = some ε1 ∧ a ε1 S = .ok (v x) S) :
    eCompS own it g tYesD a ε S = .ok (.lst (L.map v)) S := by
  rw [eCompS_t (f := fun _ => true) (v := v) L hi hS hl fun x hx => by obtain ⟨ε1, e1, e2⟩ := h x hx; exact ⟨ε1, e1, rfl, fun _ => e2⟩, filter_all]
/-- a comprehension that draws -/
theorem compL_draw {P : Da → Prop} {R : Sto → Prop} {g : Tg} {a : E} {ε : Env} : ∀ (ds : List Da) (S : Sto), R S → (∀ d ∈ ds, ∀ S, R S → ∃ ε1 v S2, put g d ε = some ε1 ∧ a ε1 S = .ok v S2 ∧ P v ∧ R S2) → ∃ vs S2, compL g tYesD a ε ds S = .ok vs S2 ∧ vs.length = ds.length ∧ (∀ v ∈ vs, P v) ∧ R S2
  | [], S, r, _ => ⟨[], S, rfl, rfl, fun _ z => (nomatch z), r⟩
  | d :: ds, S, r, h => by
    obtain ⟨ε1, v, S2, e1, e2, p, r2⟩ := h d List.mem_cons_self S r
    obtain ⟨vs, S3, e3, l, ps, r3⟩ := compL_draw ds S2 r2 fun x hx => h x (List.mem_cons_of_mem _ hx)
    refine ⟨v :: vs, S3, ?_, by simp [l], fun x hx => ?_, r3⟩
    · unfold compL
      rw [e1]
      dsimp only [tYesD]
      simp only [Rs.bindN, if_true, e2, e3]
    · rcases List.mem_cons.mp hx with z | z
      · subst z; exact p
      · exact ps x z
/-! ### leaving a def -/
theorem fn_same {n m : Nat} {b : Sm} {xs : List Da} {S : Sto} {d : Da} (e : runU n m b xs S = .ok d S) (h : belowD S.length d = true) : runFn n m b xs S = .ok d S := by
  unfold runFn; rw [e]; exact scp_same h
theorem fn_more {n m : Nat} {b : Sm} {xs : List Da} {S X : Sto} {d : Da} (e : runU n m b xs S = .ok d (S ++ X)) (h : belowD S.length d = true) : runFn n m b xs S = .ok d S := by
  unfold runFn; rw [e]; exact scp_more h
theorem fn_exc {n m : Nat} {b : Sm} {xs : List Da} {S : Sto} {c : Nat} {fs : List (Str × Da)} (e : runU n m b xs S = .exc c fs S) (h : belowDf S.length fs = true) : runFn n m b xs S = .exc c fs S := by
  unfold runFn; rw [e]; exact scp_exc_same h
theorem fn_exc_more {n m : Nat} {b : Sm} {xs : List Da} {S X : Sto} {c : Nat} {fs : List (Str × Da)} (e : runU n m b xs S = .exc c fs (S ++ X)) (h : belowDf S.length fs = true) : runFn n m b xs S = .exc c fs S := by
  unfold runFn; rw [e]; exact scp_exc_more h
theorem compL_drawT {α β : Type} {emb : α → Da} {out : β → Da} {pj : β → α} {R : Sto → Prop} {g : Tg} {a : E} {ε : Env} : ∀ (L : List α) (S : Sto), R S → (∀ x ∈ L, ∀ S, R S → ∃ ε1 q S2, put g (emb x) ε = some ε1 ∧ a ε1 S = .ok (out q) S2 ∧ pj q = x ∧ R S2) →
    ∃ (Q : List β) (S2 : Sto), compL g tYesD a ε (L.map emb) S = .ok (Q.map out) S2 ∧ Q.map pj = L ∧ R S2
  | [], S, r, _ => ⟨[], S, rfl, rfl, r⟩
  | x :: L, S, r, h => by
    obtain ⟨ε1, q, S2, e1, e2, p, r2⟩ := h x List.mem_cons_self S r
    obtain ⟨Q, S3, e3, l, r3⟩ := compL_drawT L S2 r2 fun y hy => h y (List.mem_cons_of_mem _ hy)
    refine ⟨q :: Q, S3, ?_, by simp [p, l], r3⟩
    rw [List.map_cons]
    unfold compL
    rw [e1]
    dsimp only [tYesD]
    simp only [Rs.bindN, if_true, e2, e3, List.map_cons]
/-- a comprehension that draws, its row a value -/
theorem eComp_drawT {α β : Type} {emb : α → Da} {out : β → Da} {pj : β → α} {R : Sto → Prop} {own : List Nat} {it : Ie} {g : Tg} {a : E} {ε : Env} {S S1 : Sto} (L : List α) (hi : it ε S = .ok (L.map emb) S1) (hl : L.length ≤ 100000) (r : R S1)
    (h : ∀ x ∈ L, ∀ S, R S → ∃ ε1 q S2, put g (emb x) (wipeE ε own) = some ε1 ∧ a ε1 S = .ok (out q) S2 ∧ pj q = x ∧ R S2) :
    ∃ (Q : List β) (S2 : Sto), eComp own it g tYesD a ε S = .ok (.lst (Q.map out)) S2 ∧ Q.map pj = L ∧ R S2 := by
  obtain ⟨Q, S2, e, p, r2⟩ := compL_drawT (out := out) L S1 r h
  refine ⟨Q, S2, ?_, p, r2⟩
  unfold eComp
  rw [hi]
  simp only [bind_ok]
  rw [if_pos (by rw [List.length_map, sizeLine_eq]; omega), e]
  rfl
/-- behind draws -/
theorem fn_row {n m r : Nat} {b : Sm} {xs : List Da} {S S2 X : Sto} {d : Da} {ns : List Int} (e : runU n m b xs S = .ok d (S2 ++ X)) (o : OnlyAt r S S2) (h : RowOk S2 r ns) (hb : belowD S.length d = true) : runFn n m b xs S = .ok d S2 := by
  unfold runFn
  rw [e, scp_ok]
  have tk : (S2 ++ X).take S.length = S2 := by rw [← o.len, List.take_left]
  have sc : ScopeOk S (S2 ++ X) := by
    refine ⟨by rw [List.length_append, o.len]; exact Nat.le_add_right _ _, fun i hi => ?_⟩
    by_cases z : i = r
    · subst z
      obtain ⟨a, s, p, e2, _⟩ := h.ex
      refine .inr ⟨.lst [.scr ns, .int a, .int s, .int p], ?_, rfl⟩
      rw [List.getElem?_append_left (by rw [o.len]; exact hi)]
      exact e2
    · refine .inl ?_
      rw [List.getElem?_append_left (by rw [o.len]; exact hi)]
      exact o.old i z
  rw [if_pos ⟨hb, sc⟩, tk]
theorem fn_row0 {n m r : Nat} {b : Sm} {xs : List Da} {S S2 : Sto} {d : Da} {ns : List Int} (e : runU n m b xs S = .ok d S2) (o : OnlyAt r S S2) (h : RowOk S2 r ns) (hb : belowD S.length d = true) : runFn n m b xs S = .ok d S2 := fn_row (X := []) (by rw [List.append_nil]; exact e) o h hb
def rowOf (c : Bool) (ds : List Da) : Da := if c = true then .lst ds else .tup ds
theorem xv_row {c : Bool} {ds : List Da} : isExv (rowOf c ds) = false := by unfold rowOf; split <;> rfl
theorem below_row {n : Nat} {c : Bool} {ds : List Da} : belowD n (rowOf c ds) = belowDs n ds := by unfold rowOf; split <;> rfl
theorem belowDs_mem {n : Nat} {d : Da} : ∀ {ds : List Da}, belowDs n ds = true → d ∈ ds → belowD n d = true
  | e :: ds, h, hd => by
    simp only [belowDs, Bool.and_eq_true] at h
    rcases List.mem_cons.mp hd with z | z
    · subst z; exact h.1
    · exact belowDs_mem h.2 z
/-! ### for -/
theorem forL_fold {σ α : Type} {emb : α → Da} {g : Tg} {b : Sm} (mk : σ → Env) (mS : σ → Sto) (step : σ → α → σ) (I : Nat → σ → Prop) : ∀ (L : List α) (n : Nat) (s : σ), I n s →
    (∀ i s x, n ≤ i → L[i - n]? = some x → I i s → (∃ ε1, put g (emb x) (mk s) = some ε1 ∧ b ε1 (mS s) = .nx (mk (step s x)) (mS (step s x))) ∧ I (i + 1) (step s x)) →
    forL g b (L.map emb) (mk s) (mS s) = .nx (mk (L.foldl step s)) (mS (L.foldl step s))
  | [], _, _, _, _ => rfl
  | x :: L, n, s, hi, h => by
    obtain ⟨⟨ε1, e1, e2⟩, hi2⟩ := h n s x (Nat.le_refl _) (by simp) hi
    rw [List.map_cons, forL_cons e1 e2]
    exact forL_fold mk mS step I L (n + 1) (step s x) hi2 fun i s y hn hy => h i s y (by omega) (by
      have : i - n = (i - (n + 1)) + 1 := by omega
      rw [this, List.getElem?_cons_succ]; exact hy)
theorem forL_ex {g : Tg} {b : Sm} (I : Nat → Env → Sto → Prop) : ∀ (ds : List Da) (n : Nat) (ε : Env) (S : Sto), I n ε S →
    (∀ i d ε S, n ≤ i → ds[i - n]? = some d → I i ε S → ∃ ε1 ε2 S2, put g d ε = some ε1 ∧ b ε1 S = .nx ε2 S2 ∧ I (i + 1) ε2 S2) → ∃ ε2 S2, forL g b ds ε S = .nx ε2 S2 ∧ I (n + ds.length) ε2 S2
  | [], n, ε, S, hi, _ => ⟨ε, S, rfl, hi⟩
  | d :: ds, n, ε, S, hi, h => by
    obtain ⟨ε1, ε2, S2, e1, e2, hi2⟩ := h n d ε S (Nat.le_refl _) (by simp) hi
    obtain ⟨ε3, S3, e3, h3⟩ := forL_ex I ds (n + 1) ε2 S2 hi2 fun i x ε S hn hx => h i x ε S (by omega) (by
      have : i - n = (i - (n + 1)) + 1 := by omega
      rw [this, List.getElem?_cons_succ]; exact hx)
    exact ⟨ε3, S3, by rw [forL_cons e1 e2]; exact e3, by rw [List.length_cons]; rw [show n + (ds.length + 1) = n + 1 + ds.length by omega]; exact h3⟩
/-- a loop that may leave at an item -/
theorem forL_scan {α : Type} {emb : α → Da} {g : Tg} {b : Sm} (mk : Option Da → Env) {S : Sto} (bad : α → Bool) (out : α → Fl) : ∀ (L : List α) (w : Option Da),
    (∀ x ∈ L, ∀ w, ∃ ε1, put g (emb x) (mk w) = some ε1 ∧ (bad x = false → b ε1 S = .nx (mk (some (emb x))) S) ∧ (bad x = true → b ε1 S = out x ∧ ∀ ε2 S2, out x ≠ .nx ε2 S2 ∧ out x ≠ .ct ε2 S2 ∧ out x ≠ .bk ε2 S2)) →
    forL g b (L.map emb) (mk w) S = match L.find? bad with | some x => out x | none => .nx (mk (match L.getLast? with | some x => some (emb x) | none => w)) S
  | [], _, _ => rfl
  | x :: L, w, h => by
    obtain ⟨ε1, e1, e2, e3⟩ := h x List.mem_cons_self w
    rw [List.map_cons]
    cases q : bad x with
    | false =>
      rw [forL_cons e1 (e2 q), forL_scan mk bad out L (some (emb x)) fun y hy => h y (List.mem_cons_of_mem _ hy), List.find?_cons_of_neg (by rw [q]; exact Bool.false_ne_true)]
      cases z : L.find? bad with
      | some y => rfl
      | none =>
        cases L with
        | nil => rfl
        | cons y l =>
          rw [List.getLast?_cons_cons]
          cases q2 : (y :: l).getLast? with
          | none => simp at q2
          | some v => rfl
    | true =>
      obtain ⟨e4, e5⟩ := e3 q
      rw [forL, e1]
      simp only [e4, List.find?_cons_of_pos q]
      cases z : out x with
      | nx ε S => exact absurd z (e5 ε S).1
      | ct ε S => exact absurd z (e5 ε S).2.1
      | bk ε S => exact absurd z (e5 ε S).2.2
      | rt d S => rfl
      | ex c fs ε S => rfl
      | bad => rfl
theorem forL_out {α : Type} {emb : α → Da} {g : Tg} {b : Sm} (mk : Option Da → Env) {S : Sto} (bad : α → Bool) (out : α → Fl) (L : List α) (w : Option Da)
    (h : ∀ x ∈ L, ∀ w, ∃ ε1, put g (emb x) (mk w) = some ε1 ∧ (bad x = false → b ε1 S = .nx (mk (some (emb x))) S) ∧ (bad x = true → b ε1 S = out x ∧ ∀ ε2 S2, out x ≠ .nx ε2 S2 ∧ out x ≠ .ct ε2 S2 ∧ out x ≠ .bk ε2 S2)) :
    (∀ x, L.find? bad = some x → forL g b (L.map emb) (mk w) S = out x) ∧ (L.find? bad = none → ∃ w2, forL g b (L.map emb) (mk w) S = .nx (mk w2) S) := by
  have z := forL_scan mk bad out L w h
  exact ⟨fun x e => by rw [z, e], fun e => ⟨match L.getLast? with | some x => some (emb x) | none => w, by rw [z, e]⟩⟩
theorem foldl_app {α β : Type} (p : α → Bool) (f : α → β) : ∀ (L : List α) (l : List β), L.foldl (fun l x => if p x = true then l ++ [f x] else l) l = l ++ (L.filter p).map f
  | [], l => by simp
  | x :: L, l => by
    rw [List.foldl_cons, foldl_app p f L]
    cases q : p x with
    | false => simp [q]
    | true => simp [q]
theorem foldl_app2 {α β γ : Type} (p : α → Bool) (f : α → β) (h : α → γ) : ∀ (L : List α) (l : List β) (w : γ), (L.foldl (fun s x => (if p x = true then s.1 ++ [f x] else s.1, h x)) (l, w)).1 = l ++ (L.filter p).map f
  | [], l, w => by simp
  | x :: L, l, w => by
    rw [List.foldl_cons, foldl_app2 p f h L]
    cases q : p x with
    | false => simp [q]
    | true => simp [q]
theorem foldl_sum {α : Type} (f : α → Int) : ∀ (L : List α) (z : Int), L.foldl (fun z x => z + f x) z = z + (L.map f).sum
  | [], z => by simp
  | x :: L, z => by rw [List.foldl_cons, foldl_sum f L, List.map_cons, List.sum_cons]; omega
/-! ### sorting -/
def sortI (ns : List Int) : List Int := ns.mergeSort (fun a b => decide (a ≤ b))
theorem leD_int (a b : Int) : leD (.int a) (.int b) = decide (a ≤ b) := by
  show (!PySem.W.dataLt (.int b) (.int a)) = decide (a ≤ b)
  rw [PySem.W.dataLt_int]
  by_cases h : a ≤ b
  · rw [decide_eq_true h, decide_eq_false (by omega)]; rfl
  · rw [decide_eq_false h, decide_eq_true (by omega)]; rfl
theorem shps_ints (n : Nat) : ∀ ns : List Int, shps n (ns.map Da.int) = true
  | [] => rfl
  | k :: ns => by simp only [List.map_cons, shps, Bool.and_eq_true]; exact ⟨rfl, shps_ints n ns⟩
theorem srtB_ints (ns : List Int) : srtB ((ns.map Da.int).map pyD) = true := by
  simp only [srtB, Bool.and_eq_true, List.all_eq_true, List.mem_map, Bool.or_eq_true]
  refine ⟨?_, .inr ?_⟩
  · rintro _ ⟨_, ⟨a, _, rfl⟩, rfl⟩ _ ⟨_, ⟨b, _, rfl⟩, rfl⟩; rfl
  · rintro _ ⟨_, ⟨a, _, rfl⟩, rfl⟩; rfl
theorem dSorted_ints {ns : List Int} {S : Sto} (h : ns.length ≤ 100000) : dSorted [.lst (ns.map Da.int)] S = some (.lst ((sortI ns).map Da.int), S) := by
  unfold dSorted listOf srtL
  simp only [drf, Option.bind_some]
  rw [if_pos ⟨shps_ints _ _, srtB_ints _, by rw [List.length_map]; exact h⟩]
  unfold sortI
  rw [List.map_mergeSort (r := fun a b => decide (a ≤ b)) (s := leD) (f := Da.int) fun a _ b _ => (leD_int a b).symm]
  rfl
theorem len_sortI (ns : List Int) : (sortI ns).length = ns.length := by unfold sortI; exact List.length_mergeSort ..
theorem mem_sortI {ns : List Int} {k : Int} : k ∈ sortI ns ↔ k ∈ ns := by unfold sortI; exact List.mem_mergeSort
theorem dSrtSet_ints {ns : List Int} {S : Sto} (h : ns.length < 64) : dSrtSet [.lst (ns.map Da.int)] S = some (.lst ((usrt ltI ns).map Da.int), S) := by
  unfold dSrtSet listOf srtSet
  simp only [drf, Option.bind_some]
  rw [if_pos (by rw [List.length_map]; exact h)]
  simp only [intsOf_map, Option.map_some]
theorem dSrtSet_i {ns : List Int} {x : Da} {S : Sto} (e : listOf x S = some (ns.map Da.int)) (h : ns.length < 64) : dSrtSet [x] S = some (.lst ((usrt ltI ns).map Da.int), S) := by
  have z : ((listOf (.lst (ns.map Da.int)) S).bind srtSet).map (fun ds => (Da.lst ds, S)) = some (.lst ((usrt ltI ns).map Da.int), S) := dSrtSet_ints (S := S) h
  show ((listOf x S).bind srtSet).map (fun ds => (Da.lst ds, S)) = _
  rw [e]
  exact z
theorem len_insU {α : Type} {lt : α → α → Bool} {x : α} : ∀ l : List α, (insU lt x l).length ≤ l.length + 1
  | [] => by simp [insU]
  | y :: l => by
    unfold insU
    split
    · simp
    · split
      · have := len_insU (lt := lt) (x := x) l; simp; omega
      · simp
theorem len_usrt {α : Type} {lt : α → α → Bool} : ∀ l : List α, (usrt lt l).length ≤ l.length
  | [] => by simp [usrt]
  | x :: l => by
    have h1 := len_insU (lt := lt) (x := x) (usrt lt l)
    have h2 := len_usrt (lt := lt) l
    simp only [usrt, List.length_cons]; omega
theorem pairsOf_map : ∀ ps : List (Int × Int), pairsOf (ps.map daP) = some ps
  | [] => rfl
  | p :: ps => by simp only [List.map_cons, daP, pairsOf, show pairsOf (List.map daP ps) = some ps from pairsOf_map ps, Option.map_some]
theorem dSrtSet_pairs {ps : List (Int × Int)} {S : Sto} (h0 : ps ≠ []) (h : ps.length < 64) (h2 : ps.all smallP = true) : dSrtSet [.lst (ps.map daP)] S = some (.lst ((usrt ltP ps).map daP), S) := by
  unfold dSrtSet listOf srtSet
  simp only [drf, Option.bind_some]
  rw [if_pos (by rw [List.length_map]; exact h)]
  have : intsOf (ps.map daP) = none := by
    cases ps with
    | nil => exact absurd rfl h0
    | cons p ps => rfl
  simp only [this, pairsOf_map, if_pos h2, Option.map_some]
/-! ### frozen -/
mutual
/-- tuples in the place of lists -/
def frzD : Da → Da
  | .lst ds => .tup (frzDs ds)
  | .tup ds => .tup (frzDs ds)
  | .non => .non
  | .bl b => .bl b
  | .int i => .int i
  | .str x => .str x
  | .scr ns => .scr ns
  | .ins c fs => .ins c fs
  | .fn k => .fn k
  | .ty b => .ty b
  | .cls k => .cls k
  | .exv c fs => .exv c fs
  | .ref n => .ref n
def frzDs : List Da → List Da
  | [] => []
  | d :: ds => frzD d :: frzDs ds
end
theorem frzDs_map : ∀ ds : List Da, frzDs ds = ds.map frzD
  | [] => rfl
  | d :: ds => by simp only [frzDs, List.map_cons, frzDs_map ds]
mutual
theorem frzD_shp : ∀ {n : Nat} {d : Da}, shp n d = true → shp n (frzD d) = true
  | _, .non, _ => rfl
  | _, .bl b, _ => rfl
  | _, .int b, _ => rfl
  | _, .str b, h => h
  | n, .lst ds, h => by simp only [shp, frzD, Bool.and_eq_true] at h ⊢; exact ⟨h.1, frzDs_shp h.2⟩
  | n, .tup ds, h => by simp only [shp, frzD, Bool.and_eq_true] at h ⊢; exact ⟨h.1, frzDs_shp h.2⟩
  | _, .scr _, h => by simp [shp] at h
  | _, .ins _ _, h => by simp [shp] at h
  | _, .fn _, h => by simp [shp] at h
  | _, .ty _, h => by simp [shp] at h
  | _, .cls _, h => by simp [shp] at h
  | _, .exv _ _, h => by simp [shp] at h
  | _, .ref _, h => by simp [shp] at h
theorem frzDs_shp : ∀ {n : Nat} {ds : List Da}, shps n ds = true → shps n (frzDs ds) = true
  | _, [], _ => rfl
  | n, d :: ds, h => by simp only [shps, frzDs, Bool.and_eq_true] at h ⊢; exact ⟨frzD_shp h.1, frzDs_shp h.2⟩
end
theorem app_len {S : Sto} {X : Ob} : (S ++ [X]).length = S.length + 1 := by simp
/-! ### slices -/
def cutG {α : Type} (L : List α) (lo hi : Option Int) : List α := (L.drop (HT.sIx L.length 0 lo)).take (HT.sIx L.length L.length hi - HT.sIx L.length 0 lo)
theorem cutD_map {α : Type} {emb : α → Da} (L : List α) (lo hi : Option Int) : cutD (L.map emb) lo hi = (cutG L lo hi).map emb := by
  unfold cutD cutG
  rw [List.length_map, ← List.map_drop, ← List.map_take]
theorem len_cutG {α : Type} (L : List α) (lo hi : Option Int) : (cutG L lo hi).length ≤ L.length := by
  unfold cutG
  rw [List.length_take, List.length_drop]; omega
theorem mem_cutG {α : Type} {L : List α} {lo hi : Option Int} {x : α} (h : x ∈ cutG L lo hi) : x ∈ L := List.mem_of_mem_drop (List.mem_of_mem_take h)
theorem shp_ints {n : Nat} (h : 1 ≤ n) (ns : List Int) : shp n (.lst (ns.map Da.int)) = true := by
  simp only [shp, Bool.and_eq_true, decide_eq_true_eq]; exact ⟨by omega, shps_ints _ _⟩
theorem dIn_ints {k : Int} {ns : List Int} {S : Sto} : dIn (.int k) (.lst (ns.map Da.int)) S = some (.bl (ns.any (· == k)), S) := by
  unfold dIn inSeq
  simp only [drf]
  rw [if_pos (by rw [shp_ints (by decide)]; rfl), List.any_map]
  rfl
/-! ### fractions -/
abbrev fr (p q : Int) : Da := .tup [.int p, .int q]
/-- reduced to lowest terms -/
def redD (a b : Int) : Da := fr (a / (Int.gcd a b : Int)) (b / (Int.gcd a b : Int))
theorem gcd_step {x y : Int} (hx : 0 ≤ x) (hy : 0 < y) : Int.gcd y (x % y) = Int.gcd x y := by
  obtain ⟨m, rfl⟩ := Int.eq_ofNat_of_zero_le hx
  obtain ⟨n, rfl⟩ := Int.eq_ofNat_of_zero_le (Int.le_of_lt hy)
  rw [← Int.natCast_emod, Int.gcd_natCast_natCast, Int.gcd_natCast_natCast, Nat.gcd_comm, ← Nat.gcd_rec, Nat.gcd_comm]
/-! ### items -/
theorem atI_t {α : Type} {emb : α → Da} {L : List α} {k : Int} {x : α} (h0 : 0 ≤ k) (h : L[k.toNat]? = some x) : atI (L.map emb) k = some (emb x) := by
  have e : k = ((k.toNat : Nat) : Int) := by omega
  rw [e]
  exact atI_nat (by rw [List.getElem?_map, h]; rfl)
theorem atI_last {α : Type} {L : List α} {x : α} (h : L.getLast? = some x) : atI L (-1) = some x := by
  cases L with
  | nil => cases h
  | cons y l =>
    have hl : ixN (y :: l).length (-1) = some l.length := by
      unfold ixN
      rw [if_neg (by decide), if_pos (by simp only [List.length_cons]; omega)]
      simp only [List.length_cons]
      congr 1
      omega
    unfold atI
    rw [hl]
    rw [List.getLast?_eq_getElem?] at h
    simpa using h
open PySem PySem.Spec PyProof.Rows L2
/-! ## names: rows of the 36 signs -/
abbrev Nm := List (Fin 36)
def code (k : Fin 36) : Nat := if k.val < 26 then 97 + k.val else 22 + k.val
def nmS (l : Nm) : Str := ⟨(l.map code).toArray⟩
theorem code_inj {a b : Fin 36} (h : code a = code b) : a = b := by
  unfold code at h
  apply Fin.ext
  have := a.isLt; have := b.isLt
  split at h <;> split at h <;> omega
theorem map_code_inj : ∀ {a b : Nm}, a.map code = b.map code → a = b
  | [], [], _ => rfl
  | [], _ :: _, h => by cases h
  | _ :: _, [], h => by cases h
  | x :: a, y :: b, h => by
    simp only [List.map_cons, List.cons.injEq] at h
    rw [code_inj h.1, map_code_inj h.2]
theorem nmS_inj {a b : Nm} (h : nmS a = nmS b) : a = b := by
  unfold nmS at h
  have : (a.map code).toArray = (b.map code).toArray := congrArg Str.cps h
  exact map_code_inj (congrArg Array.toList this)
theorem nmS_beq (a b : Nm) : (nmS a == nmS b) = decide (a = b) := by
  by_cases h : a = b
  · subst h; simp
  · rw [decide_eq_false h]
    exact beq_eq_false_iff_ne.mpr fun z => h (nmS_inj z)
theorem nmS_len (l : Nm) : (nmS l).length = l.length := by
  show (l.map code).toArray.size = _
  simp
theorem nmS_app (a b : Nm) : nmS a ++ nmS b = nmS (a ++ b) := by
  show Str.append _ _ = _
  unfold Str.append nmS
  simp
theorem nmS_shp (n : Nat) (l : Nm) : shp n (.str (nmS l)) = true := by
  show (nmS l).cps.all (· < 0x110000) = true
  unfold nmS
  rw [Array.all_eq_true]
  intro i hi
  simp only [List.size_toArray, List.length_map] at hi
  simp only [List.getElem_toArray, List.getElem_map]
  have := (l[i]).isLt
  unfold code
  split <;> (simp; omega)
theorem sIx_nn {n d : Nat} {k : Int} (h0 : 0 ≤ k) : HT.sIx n d (some k) = min k.toNat n := by
  show (if k < 0 then (k + (n : Int)).toNat else min k.toNat n) = min k.toNat n
  rw [if_neg (by omega)]
theorem sIx_no {n d : Nat} : HT.sIx n d none = d := rfl
theorem nmS_cut (l : Nm) (k : Int) (h0 : 0 ≤ k) : cutS (nmS l) none (some k) = nmS (l.take k.toNat) := by
  unfold cutS
  rw [sIx_nn h0, sIx_no, nmS_len]
  unfold nmS
  congr 1
  simp only [List.drop_zero, Nat.sub_zero]
  rw [← List.map_take]
  congr 1
  by_cases h : k.toNat ≤ l.length
  · rw [Nat.min_eq_left h]
  · rw [Nat.min_eq_right (by omega), List.take_of_length_le (Nat.le_refl _), List.take_of_length_le (by omega)]
theorem atI_g {α β : Type} {f : α → β} {L : List α} {k : Int} {x : α} (h0 : 0 ≤ k) (h : L[k.toNat]? = some x) : atI (L.map f) k = some (f x) := by
  have hl := (List.getElem?_eq_some_iff.mp h).1
  unfold atI ixN
  rw [if_pos h0, List.length_map, if_pos (by omega)]
  show (L.map f)[k.toNat]? = _
  rw [List.getElem?_map, h]; rfl
theorem nmS_ix (l : Nm) (k : Int) (h0 : 0 ≤ k) (h : k < l.length) : atI (nmS l).cps.toList k = some (code (l.getD k.toNat 0)) := by
  have q : k.toNat < l.length := by omega
  show atI (l.map code) k = _
  refine atI_g h0 ?_
  simp only [List.getD_eq_getElem?_getD, List.getElem?_eq_getElem q, Option.getD_some]
def LET : Str := Str.ofString "abcdefghijklmnopqrstuvwxyz"
def FIG : Str := Str.ofString "0123456789"
def SGN : Str := Str.ofString "abcdefghijklmnopqrstuvwxyz0123456789"
theorem in_let : ∀ k : Fin 36, (Builtin.Str.occurrences LET ⟨#[code k]⟩ 0 LET.length 1).isEmpty = !decide (k.val < 26) := by decide +kernel
theorem in_fig : ∀ k : Fin 36, (Builtin.Str.occurrences FIG ⟨#[code k]⟩ 0 FIG.length 1).isEmpty = decide (k.val < 26) := by decide +kernel
theorem sgn_ix : ∀ k : Fin 36, atI SGN.cps.toList ((k.val : Nat) : Int) = some (code k) := by decide +kernel
theorem sgn_len : SGN.length ≤ sizeLine := by decide +kernel
/-- the figures of a number below 1000 -/
def digs (t : Nat) : Nm := if t < 10 then [⟨(26 + t) % 36, by omega⟩] else if t < 100 then [⟨(26 + t / 10) % 36, by omega⟩, ⟨(26 + t % 10) % 36, by omega⟩] else [⟨(26 + t / 100) % 36, by omega⟩, ⟨(26 + t / 10 % 10) % 36, by omega⟩, ⟨(26 + t % 10) % 36, by omega⟩]
theorem digs_str : ∀ t : Fin 400, Str.ofString (toString ((t.val : Nat) : Int)) = nmS (digs t.val) := by decide +kernel
theorem digs_len (t : Nat) : (digs t).length ≤ 3 ∧ (t < 100 → (digs t).length ≤ 2) := by
  unfold digs
  split
  · simp
  · split
    · simp
    · exact ⟨by simp, fun h => absurd h (by assumption)⟩
theorem digs_inj : ∀ a b : Fin 400, digs a.val = digs b.val → a = b := by
  intro a b h
  have e : Str.ofString (toString ((a.val : Nat) : Int)) = Str.ofString (toString ((b.val : Nat) : Int)) := by rw [digs_str, digs_str, h]
  unfold digs at h
  apply Fin.ext
  have := a.isLt; have := b.isLt
  split at h <;> split at h <;> (try split at h) <;> (try split at h) <;> simp only [List.cons.injEq, Fin.mk.injEq, and_true, reduceCtorEq, and_false, List.ne_cons_self] at h <;> omega
theorem dStr_t {t : Int} {S : Sto} (h0 : 0 ≤ t) (h : t < 400) : dStr [.int t] S = some (.str (nmS (digs t.toNat)), S) := by
  unfold dStr
  dsimp only
  have e := digs_str ⟨t.toNat, by omega⟩
  dsimp only at e
  rw [show ((t.toNat : Nat) : Int) = t by omega] at e
  rw [if_pos (cdec_of ?_), e]
  have : t.natAbs < 400 := by omega
  by_cases z : t.natAbs = 0
  · rw [z]; decide
  · exact Nat.lt_of_lt_of_le ((Nat.log2_lt (k := 9) z).mpr (by omega)) (by decide)
/-! ## no more than fit -/
theorem nodup_le {α : Type} [DecidableEq α] : ∀ {L M : List α}, L.Nodup → (∀ x ∈ L, x ∈ M) → L.length ≤ M.length
  | [], _, _, _ => Nat.zero_le _
  | x :: L, M, h, k => by
    rw [List.nodup_cons] at h
    have hx := k x List.mem_cons_self
    have := nodup_le (L := L) (M := M.erase x) h.2 fun y hy => (List.mem_erase_of_ne (fun z => h.1 (by rw [← z]; exact hy))).mpr (k y (List.mem_cons_of_mem _ hy))
    have l := List.length_erase_of_mem hx
    have p : 0 < M.length := List.length_pos_of_mem hx
    rw [List.length_cons]; omega
theorem fresh_one {α : Type} [DecidableEq α] {L M : List α} (h : L.Nodup) (hl : M.length < L.length) : ∃ x, (L.filter fun y => !decide (y ∈ M)).head? = some x ∧ x ∈ L ∧ x ∉ M := by
  cases e : L.filter fun y => !decide (y ∈ M) with
  | nil =>
    rw [List.filter_eq_nil_iff] at e
    have := nodup_le h fun x hx => by simpa using e x hx
    omega
  | cons x r =>
    have hx : x ∈ L.filter fun y => !decide (y ∈ M) := by rw [e]; exact List.mem_cons_self
    rw [List.mem_filter] at hx
    exact ⟨x, rfl, hx.1, by simpa using hx.2⟩
/-- a good name -/
structure NmOk (l : Nm) : Prop where
  pos : 0 < l.length
  len : l.length ≤ 12
  hd : (l.getD 0 0).val < 26
/-! ## texts in lists -/
theorem shp_strs (n : Nat) : ∀ ls : List Nm, shps n (ls.map fun l => .str (nmS l)) = true
  | [] => rfl
  | l :: ls => by simp only [List.map_cons, shps, Bool.and_eq_true]; exact ⟨nmS_shp n l, shp_strs n ls⟩
abbrev nmD (l : Nm) : Da := .str (nmS l)
theorem any_nm (l : Nm) (ls : List Nm) : ((ls.map nmD).any fun z => eqv z (nmD l)) = decide (l ∈ ls) := by
  induction ls with
  | nil => rfl
  | cons m ls ih =>
    rw [List.map_cons, List.any_cons, ih]
    show (nmS m == nmS l || _) = _
    rw [nmS_beq]
    by_cases h : m = l
    · subst h; simp
    · have h2 : ¬ l = m := fun z => h z.symm
      simp [h, h2]
theorem inSeq_l {l : Nm} {ls : List Nm} {x : Da} {S : Sto} (h : drf S x = .lst (ls.map nmD)) : inSeq S (nmD l) x = some (decide (l ∈ ls)) := by
  unfold inSeq
  rw [h]
  dsimp only
  have a := shp_strs 63 ls
  rw [if_pos (by simp only [Bool.and_eq_true]; refine ⟨nmS_shp _ _, ?_⟩; simp only [shp, Bool.and_eq_true, Nat.add_sub_cancel]; exact ⟨by decide, a⟩), any_nm]
theorem inSeq_t {l : Nm} {ls : List Nm} {x : Da} {S : Sto} (h : drf S x = .tup (ls.map nmD)) : inSeq S (nmD l) x = some (decide (l ∈ ls)) := by
  unfold inSeq
  rw [h]
  dsimp only
  have a := shp_strs 63 ls
  rw [if_pos (by simp only [Bool.and_eq_true]; refine ⟨nmS_shp _ _, ?_⟩; simp only [shp, Bool.and_eq_true, Nat.add_sub_cancel]; exact ⟨by decide, a⟩), any_nm]
theorem RowOk.app {S X : Sto} {r : Nat} {ns : List Int} (h : RowOk S r ns) : RowOk (S ++ X) r ns := by
  obtain ⟨i, s, p, e, h1, h2, h3⟩ := h.ex
  exact ⟨i, s, p, by rw [List.getElem?_append_left (List.getElem?_eq_some_iff.mp e).1]; exact e, h1, h2, h3⟩
theorem RowOk.set {S : Sto} {r n : Nat} {o : Ob} {ns : List Int} (h : RowOk S r ns) (hn : n ≠ r) : RowOk (S.set n o) r ns := by
  obtain ⟨i, s, p, e, h1, h2, h3⟩ := h.ex
  exact ⟨i, s, p, by rw [List.getElem?_set_ne hn]; exact e, h1, h2, h3⟩
theorem head_at {α : Type} {emb : α → Da} {L : List α} {z : α} (h : L.head? = some z) : atI (L.map emb) 0 = some (emb z) := by
  cases L with
  | nil => cases h
  | cons x r => cases h; exact atI_0
open PySem PySem.Spec PyProof.Rows L2
/-! ## fractions -/
def BIG : Int := 1606938044258990275541962092341162602522202993782792835301376
theorem lt_big {b : Int} (h : b ≤ 1000000000000000000000000000000000000000000000000) : b < BIG := by unfold BIG; omega
theorem wdv_of {g b : Int} (h0 : 0 < g) (h1 : g ≤ b) (h2 : b < BIG) : wdv g = true := by
  have e : BIG = 2 ^ 200 := by decide +kernel
  refine cdec_of ⟨h0, Nat.lt_of_lt_of_le (PySem.Flt.log2_lt_of (k := 200) (by decide) ?_) (by decide)⟩
  have : g < 2 ^ 200 := by rw [← e]; omega
  have g1 : (g.natAbs : Int) < ((2 ^ 200 : Nat) : Int) := by rw [Int.natAbs_of_nonneg (by omega)]; exact_mod_cast this
  exact_mod_cast g1
theorem ite_div2 {α : Type} {j : Int} {a : α} (h : wdv j = true) : (if j < 1073741824 then some a else if wdv j = true then some a else none) = some a := by
  rw [if_pos h]
  split <;> rfl
abbrev QQ := Int × Int
abbrev frP (x : QQ) : Da := fr x.1 x.2
def redP (a b : Int) : QQ := (a / (Int.gcd a b : Int), b / (Int.gcd a b : Int))
theorem redD_P (a b : Int) : redD a b = frP (redP a b) := rfl
theorem gpos {a b : Int} (hb : 0 < b) : 0 < (Int.gcd a b : Int) := by
  have : Int.gcd a b ≠ 0 := by rw [Ne, Int.gcd_eq_zero_iff]; omega
  omega
theorem redP_pos {a b : Int} (hb : 0 < b) : 0 < (redP a b).2 ∧ (redP a b).2 ≤ b :=
  ⟨Int.ediv_pos_of_pos_of_dvd hb (by have := gpos (a := a) hb; omega) (Int.gcd_dvd_right ..), Int.ediv_le_self _ (by omega)⟩
theorem redP_x {a b : Int} (hb : 0 < b) : (redP a b).1 * b = a * (redP a b).2 := by
  obtain ⟨x, hx⟩ := Int.gcd_dvd_left a b
  obtain ⟨y, hy⟩ := Int.gcd_dvd_right a b
  have g0 := gpos (a := a) hb
  have e1 : (redP a b).1 = x := by
    show a / (Int.gcd a b : Int) = x
    exact Int.ediv_eq_of_eq_mul_right (by omega) hx
  have e2 : (redP a b).2 = y := by
    show b / (Int.gcd a b : Int) = y
    exact Int.ediv_eq_of_eq_mul_right (by omega) hy
  rw [e1, e2]
  generalize (Int.gcd a b : Int) = g at *
  subst hx; subst hy
  grind
theorem redP_cop {a b : Int} (hb : 0 < b) : Int.gcd (redP a b).1 (redP a b).2 = 1 := Int.gcd_ediv_gcd_ediv_gcd (by have := gpos (a := a) hb; omega)
theorem cop_dvd {a q s : Int} (h : Int.gcd a q = 1) (d : q ∣ a * s) : q ∣ s := by
  rw [← Int.natAbs_dvd_natAbs] at d ⊢
  rw [Int.natAbs_mul] at d
  refine Nat.Coprime.dvd_of_dvd_mul_left (m := a.natAbs) ?_ d
  rw [Nat.coprime_comm]
  exact h
theorem low_uniq {p q r s : Int} (hq : 0 < q) (hs : 0 < s) (h1 : Int.gcd p q = 1) (h2 : Int.gcd r s = 1) (h : p * s = r * q) : p = r ∧ q = s := by
  have d1 : q ∣ s := cop_dvd (a := p) h1 (by rw [h]; exact Int.dvd_mul_left ..)
  have d2 : s ∣ q := cop_dvd (a := r) h2 (by rw [← h]; exact Int.dvd_mul_left ..)
  have e : q = s := by
    have a := Int.le_of_dvd hs d1
    have b := Int.le_of_dvd hq d2
    omega
  subst e
  exact ⟨Int.eq_of_mul_eq_mul_right (by omega) h, rfl⟩
theorem redP_eq {a b c d : Int} (hb : 0 < b) (hd : 0 < d) (h : a * d = c * b) : redP a b = redP c d := by
  have x1 := redP_x (a := a) hb
  have x2 := redP_x (a := c) hd
  obtain ⟨p1, _⟩ := redP_pos (a := a) hb
  obtain ⟨p2, _⟩ := redP_pos (a := c) hd
  have e : (redP a b).1 * (redP c d).2 = (redP c d).1 * (redP a b).2 := by
    generalize (redP a b).1 = p at *
    generalize (redP a b).2 = q at *
    generalize (redP c d).1 = r at *
    generalize (redP c d).2 = s at *
    refine Int.eq_of_mul_eq_mul_right (a := b * d) (by have := Int.mul_pos hb hd; omega) ?_
    have : p * s * (b * d) = (p * b) * (s * d) := by grind
    rw [this, x1]
    have : r * q * (b * d) = (r * d) * (q * b) := by grind
    rw [this, x2]
    have : a * q * (s * d) = (a * d) * (q * s) := by grind
    rw [this, h]
    grind
  obtain ⟨e1, e2⟩ := low_uniq p1 p2 (redP_cop hb) (redP_cop hd) e
  exact Prod.ext e1 e2
theorem redD_eq {a b c d : Int} (hb : 0 < b) (hd : 0 < d) (h : a * d = c * b) : redD a b = redD c d := by rw [redD_P, redD_P, redP_eq hb hd h]
/-- products of reduced ones -/
theorem redP_mul {a b c d : Int} (hb : 0 < b) (hd : 0 < d) : redP ((redP a b).1 * (redP c d).1) ((redP a b).2 * (redP c d).2) = redP (a * c) (b * d) := by
  have x1 := redP_x (a := a) hb
  have x2 := redP_x (a := c) hd
  obtain ⟨p1, _⟩ := redP_pos (a := a) hb
  obtain ⟨p2, _⟩ := redP_pos (a := c) hd
  refine redP_eq (Int.mul_pos p1 p2) (Int.mul_pos hb hd) ?_
  generalize (redP a b).1 = p at *
  generalize (redP a b).2 = q at *
  generalize (redP c d).1 = r at *
  generalize (redP c d).2 = s at *
  have : p * r * (b * d) = (p * b) * (r * d) := by grind
  rw [this, x1, x2]
  grind
theorem redP_add {a b c d : Int} (hb : 0 < b) (hd : 0 < d) : redP ((redP a b).1 * (redP c d).2 + (redP c d).1 * (redP a b).2) ((redP a b).2 * (redP c d).2) = redP (a * d + c * b) (b * d) := by
  have x1 := redP_x (a := a) hb
  have x2 := redP_x (a := c) hd
  obtain ⟨p1, _⟩ := redP_pos (a := a) hb
  obtain ⟨p2, _⟩ := redP_pos (a := c) hd
  refine redP_eq (Int.mul_pos p1 p2) (Int.mul_pos hb hd) ?_
  generalize (redP a b).1 = p at *
  generalize (redP a b).2 = q at *
  generalize (redP c d).1 = r at *
  generalize (redP c d).2 = s at *
  have : (p * s + r * q) * (b * d) = (p * b) * (s * d) + (r * d) * (q * b) := by grind
  rw [this, x1, x2]
  grind
/-- less, of reduced ones -/
theorem redP_lt {a b c d : Int} (hb : 0 < b) (hd : 0 < d) : (redP a b).1 * (redP c d).2 < (redP c d).1 * (redP a b).2 ↔ a * d < c * b := by
  have x1 := redP_x (a := a) hb
  have x2 := redP_x (a := c) hd
  obtain ⟨p1, _⟩ := redP_pos (a := a) hb
  obtain ⟨p2, _⟩ := redP_pos (a := c) hd
  generalize (redP a b).1 = p at *
  generalize (redP a b).2 = q at *
  generalize (redP c d).1 = r at *
  generalize (redP c d).2 = s at *
  have m1 : 0 < b * d := Int.mul_pos hb hd
  have m2 : 0 < q * s := Int.mul_pos p1 p2
  have e1 : p * s * (b * d) = a * d * (q * s) := by
    have : p * s * (b * d) = (p * b) * (s * d) := by grind
    rw [this, x1]; grind
  have e2 : r * q * (b * d) = c * b * (q * s) := by
    have : r * q * (b * d) = (r * d) * (q * b) := by grind
    rw [this, x2]; grind
  constructor
  · intro h
    have := Int.mul_lt_mul_of_pos_right h m1
    rw [e1, e2] at this
    exact Int.lt_of_mul_lt_mul_right this (Int.le_of_lt m2)
  · intro h
    have := Int.mul_lt_mul_of_pos_right h m2
    rw [← e1, ← e2] at this
    exact Int.lt_of_mul_lt_mul_right this (Int.le_of_lt m1)
/-! ## enumerate -/
theorem enum_zip {α : Type} (emb : α → Da) (L : List α) : enumL (L.map emb) = L.zipIdx.map fun p => .tup [.int (p.2 : Nat), emb p.1] := by
  unfold enumL
  rw [List.length_map]
  refine List.ext_getElem (by simp) fun i h1 h2 => ?_
  have hi : i < L.length := by simpa using h1
  simp only [List.getElem_map, List.getElem_range, List.getElem_zipIdx, List.getD_eq_getElem?_getD, List.getElem?_map, List.getElem?_eq_getElem hi, Option.map_some, Option.getD_some, Nat.zero_add]
theorem zip_mem {α : Type} {L : List α} {x : α} {i : Nat} (h : (x, i) ∈ L.zipIdx) : L[i]? = some x ∧ i < L.length := by
  have e := List.mem_zipIdx_iff_getElem?.mp h
  exact ⟨e, (List.getElem?_eq_some_iff.mp e).1⟩
theorem dEq_nm {a b : Nm} {S : Sto} : dEq (nmD a) (nmD b) S = some (.bl (decide (a = b)), S) := by rw [dEq_ss, nmS_beq]
theorem dNe_nm {a b : Nm} {S : Sto} : dNe (nmD a) (nmD b) S = some (.bl (!decide (a = b)), S) := by rw [dNe_ss, nmS_beq]
theorem shp_nm (n : Nat) (l : Nm) : shp n (nmD l) = true := nmS_shp n l
theorem xv_nm (l : Nm) : isExv (nmD l) = false := rfl
theorem below_nms (n : Nat) : ∀ L : List Nm, belowDs n (L.map nmD) = true
  | [] => rfl
  | l :: L => by simp only [List.map_cons, belowDs, Bool.and_eq_true]; exact ⟨rfl, below_nms n L⟩
theorem dIn_t {l : Nm} {ls : List Nm} {S : Sto} : dIn (nmD l) (.tup (ls.map nmD)) S = some (.bl (decide (l ∈ ls)), S) := by unfold dIn; rw [inSeq_t rfl]; rfl
theorem dIn_l {l : Nm} {ls : List Nm} {S : Sto} : dIn (nmD l) (.lst (ls.map nmD)) S = some (.bl (decide (l ∈ ls)), S) := by unfold dIn; rw [inSeq_l rfl]; rfl
theorem cutG_take {α : Type} {L : List α} {k : Int} (h0 : 0 ≤ k) : cutG L none (some k) = L.take k.toNat := by
  unfold cutG
  rw [sIx_no, sIx_nn h0]
  simp only [List.drop_zero, Nat.sub_zero]
  by_cases h : k.toNat ≤ L.length
  · rw [Nat.min_eq_left h]
  · rw [Nat.min_eq_right (by omega), List.take_of_length_le (Nat.le_refl _), List.take_of_length_le (by omega)]
theorem compLX_m {α : Type} {emb : α → Da} {v : α → Da} {g : Tg} {a : E} {ε : Env} {S : Sto} : ∀ (L : List α), (∀ x ∈ L, ∃ ε1, put g (emb x) ε = some ε1 ∧ a ε1 S = .ok (v x) S) → compLX g tYesD a ε (L.map emb) S = .ok (L.map v) S
  | [], _ => rfl
  | x :: L, h => by
    obtain ⟨ε1, e1, e2⟩ := h x List.mem_cons_self
    have ih := compLX_m (a := a) L fun y hy => h y (List.mem_cons_of_mem _ hy)
    rw [List.map_cons]
    unfold compLX
    rw [e1]
    dsimp only [tYesD, Rs.bindN]
    simp only [if_true, e2, bind_ok, ih, List.map_cons]
theorem eCompX_m {α : Type} {emb : α → Da} {v : α → Da} {own : List Nat} {it : Ie} {g : Tg} {a : E} {ε : Env} {S : Sto} (L : List α) (hi : it ε S = .ok (L.map emb) S) (hl : L.length ≤ 100000) (h : ∀ x ∈ L, ∃ ε1, put g (emb x) (wipeE ε own) = some ε1 ∧ a ε1 S = .ok (v x) S) :
    eCompX own it g tYesD a ε S = .ok (.lst (L.map v)) S := by
  unfold eCompX
  rw [hi]
  simp only [bind_ok]
  rw [if_pos (by rw [List.length_map, sizeLine_eq]; omega), compLX_m L h]
  rfl
theorem eCompX_exc {α : Type} {emb : α → Da} {own : List Nat} {it : Ie} {g : Tg} {a : E} {ε : Env} {S : Sto} {c : Nat} {fs : List (Str × Da)} (x : α) (L : List α) (hi : it ε S = .ok ((x :: L).map emb) S) (hl : L.length ≤ 100000) {ε1 : Env} (e1 : put g (emb x) (wipeE ε own) = some ε1) (e2 : a ε1 S = .exc c fs S) :
    eCompX own it g tYesD a ε S = .exc c fs S := by
  unfold eCompX
  rw [hi]
  simp only [bind_ok]
  rw [if_pos (by rw [List.length_map, sizeLine_eq, List.length_cons]; omega), List.map_cons]
  unfold compLX
  rw [e1]
  dsimp only [tYesD, Rs.bindN]
  simp only [if_true, e2]
  rfl
open PySem PySem.Spec PyProof.Rows L2
/-! ### rows led by two numbers, by their key -/
def keyLe {α : Type} (key : α → Int × Int) (a b : α) : Bool := !ltLead (key b) (key a)
theorem ltLead_iff {x y : Int × Int} : ltLead x y = true ↔ x.1 < y.1 ∨ (x.1 = y.1 ∧ x.2 < y.2) := by
  unfold ltLead
  simp only [Bool.or_eq_true, Bool.and_eq_true, decide_eq_true_eq]
theorem ltLead_no {x y : Int × Int} : ltLead x y = false ↔ ¬ (x.1 < y.1 ∨ (x.1 = y.1 ∧ x.2 < y.2)) := by
  rw [← ltLead_iff]; simp
theorem keyLe_iff {α : Type} {key : α → Int × Int} {a b : α} : keyLe key a b = true ↔ ¬ ((key b).1 < (key a).1 ∨ ((key b).1 = (key a).1 ∧ (key b).2 < (key a).2)) := by
  unfold keyLe
  rw [Bool.not_eq_true', ltLead_no]
theorem sorted_key {α : Type} {key : α → Int × Int} (l : List α) : (l.mergeSort (keyLe key)).Pairwise fun a b => keyLe key a b = true :=
  List.pairwise_mergeSort (fun a b c h1 h2 => by rw [keyLe_iff] at *; omega) (fun a b => by
    rw [Bool.or_eq_true, keyLe_iff, keyLe_iff]; omega) l
theorem sort_head {α : Type} {key : α → Int × Int} {l : List α} {w : α} (h : (l.mergeSort (keyLe key)).head? = some w) : w ∈ l ∧ ∀ m ∈ l, keyLe key w m = true := by
  have p := sorted_key (key := key) l
  have mm : ∀ x, x ∈ l.mergeSort (keyLe key) ↔ x ∈ l := fun x => List.mem_mergeSort
  cases e : l.mergeSort (keyLe key) with
  | nil => rw [e] at h; cases h
  | cons a r =>
    rw [e] at h p mm
    cases h
    refine ⟨(mm w).mp List.mem_cons_self, fun m hm => ?_⟩
    rcases List.mem_cons.mp ((mm m).mpr hm) with z | z
    · subst z; rw [keyLe_iff]; omega
    · exact (List.pairwise_cons.mp p).1 m z
theorem dSortL_emb {α : Type} {emb : α → Da} {key : α → Int × Int} {rest : α → List PyData} {L : List α} {y : Da} {S : Sto} (h1 : ∀ x ∈ L, shp 60 (emb x) = true) (h2 : ∀ x, pyD (emb x) = .tuple (.int (key x).1 :: .int (key x).2 :: rest x)) (h3 : ∀ x ∈ L, PySem.W.alikeAll (rest x) (rest x) = true) (hn : (L.map key).Nodup) (hl : L.length ≤ 100000) (hy : listOf y S = some (L.map emb)) :
    dSortL [y] S = some (.lst ((L.mergeSort (keyLe key)).map emb), S) := by
  have ld : ∀ x, leadP (pyD (emb x)) = some (key x) := fun x => by rw [h2]; rfl
  have sp : ∀ M : List α, (∀ x ∈ M, x ∈ L) → shps 60 (M.map emb) = true := fun M => by
    induction M with
    | nil => intro _; rfl
    | cons x M ih =>
      intro h
      simp only [List.map_cons, shps, Bool.and_eq_true]
      exact ⟨h1 x (h x List.mem_cons_self), ih fun z hz => h z (List.mem_cons_of_mem _ hz)⟩
  have lb : leadB ((L.map emb).map pyD) = true := by
    unfold leadB
    rw [Bool.and_eq_true, List.all_eq_true, decide_eq_true_eq]
    refine ⟨fun d hd => ?_, ?_⟩
    · obtain ⟨e, he, rfl⟩ := List.mem_map.mp hd
      obtain ⟨x, hx, rfl⟩ := List.mem_map.mp he
      rw [ld, h2]
      show (true && _) = true
      rw [Bool.true_and]
      exact h3 x hx
    · rw [List.map_map, List.map_map]
      have e : List.map ((leadP ∘ pyD) ∘ emb) L = (L.map key).map some := by
        rw [List.map_map]; exact List.map_congr_left fun x _ => ld x
      rw [e]
      exact List.Pairwise.map _ (fun a b hab => fun z => hab (Option.some.inj z)) hn
  unfold dSortL
  dsimp only
  rw [hy]
  show (Option.map _ (srtLd (L.map emb))) = _
  unfold srtLd
  rw [if_pos ⟨sp L fun _ h => h, lb, by rw [List.length_map]; exact hl⟩]
  have : (L.map emb).mergeSort pairLe = (L.mergeSort (keyLe key)).map emb := by
    refine (List.map_mergeSort fun a _ b _ => ?_).symm
    unfold keyLe pairLe leadD
    rw [ld, ld]; rfl
  rw [this]
  rfl
open PySem PySem.Spec PyProof.Rows L2
/-! ## law-side helpers, part 2 -/
theorem sl_ok {n : Nat} (h : n ≤ 100000) : n ≤ sizeLine := by rw [sizeLine_eq]; omega
theorem wipe_nil {ε : Env} : wipeE ε [] = ε := rfl
theorem wipe_cons {ε : Env} {v : Nat} {vs : List Nat} : wipeE ε (v :: vs) = (wipeE ε vs).set v none := rfl
theorem bind_exc' {α β : Type} {c : Nat} {fs : List (Str × Da)} {S : Sto} {k : α → Sto → Rs β} : (Rs.exc c fs S : Rs α).bind k = .exc c fs S := rfl
theorem iVal_at {a : E} {ε : Env} {S : Sto} : iVal a ε S = (a ε S).bind fun x S => match items x with | some ds => .ok ds S | none => .bad := rfl
theorem items_l {ds : List Da} : items (.lst ds) = some ds := rfl
theorem items_t {ds : List Da} : items (.tup ds) = some ds := rfl
theorem iEnum_at {a : E} {ε : Env} {S S2 : Sto} {x : Da} {ds : List Da} (h : a ε S = .ok x S2) (hx : x = .lst ds ∨ x = .tup ds) : iEnum (esCons a esNil) ε S = .ok (enumL ds) S2 := by
  unfold iEnum esCons esNil
  rw [h]
  rcases hx with rfl | rfl <;> rfl
theorem eoNone_at {ε : Env} {S : Sto} : eoNone ε S = .ok none S := rfl
theorem eoSome_at {a : E} {ε : Env} {S : Sto} : eoSome a ε S = (a ε S).bind fun x S => match x with | .int i => .ok (some i) S | _ => .bad := rfl
theorem eSl_at {a : E} {lo hi : Env → Sto → Rs (Option Int)} {ε : Env} {S : Sto} : eSl a lo hi ε S = (a ε S).bind fun x S => (lo ε S).bind fun l S => (hi ε S).bind fun u S => Rs.of (dSl x l u S) := rfl
theorem dSl_l {ds : List Da} {lo hi : Option Int} {S : Sto} : dSl (.lst ds) lo hi S = some (.lst (cutD ds lo hi), S) := rfl
theorem dSl_t {ds : List Da} {lo hi : Option Int} {S : Sto} : dSl (.tup ds) lo hi S = some (.tup (cutD ds lo hi), S) := rfl
theorem dTup_l {ds : List Da} {S : Sto} : dTupleOf [.lst ds] S = some (.tup ds, S) := rfl
theorem dTup_t {ds : List Da} {S : Sto} : dTupleOf [.tup ds] S = some (.tup ds, S) := rfl
theorem dLs_l {ds : List Da} {S : Sto} : dListOf [.lst ds] S = some (.lst ds, S) := rfl
theorem dLs_t {ds : List Da} {S : Sto} : dListOf [.tup ds] S = some (.lst ds, S) := rfl
theorem dTup_r {n : Nat} {ds : List Da} {S : Sto} (h : S[n]? = some (.lst ds)) : dTupleOf [.ref n] S = some (.tup ds, S) := by
  unfold dTupleOf seqOf drf
  dsimp only
  rw [h]; rfl
theorem rng1_at {a : E} {ε : Env} {S S2 : Sto} {j : Int} (h : a ε S = .ok (.int j) S2) (h0 : -1000000 ≤ j) (h1 : j ≤ 1000000) : iRange1 (esCons a esNil) ε S = .ok ((whl 0 j).map Da.int) S2 := by
  unfold iRange1 esCons esNil
  rw [h]
  show (if inW 62 j = true then Rs.ok (rng 0 j) S2 else .bad) = _
  rw [if_pos (inW_62 (by omega) (by omega)), rng_whl]
theorem rng2_at {a b : E} {ε : Env} {S S2 S3 : Sto} {i j : Int} (h : a ε S = .ok (.int i) S2) (h' : b ε S2 = .ok (.int j) S3) (h0 : -1000000 ≤ i ∧ i ≤ 1000000) (h1 : -1000000 ≤ j ∧ j ≤ 1000000) : iRange2 (esCons a (esCons b esNil)) ε S = .ok ((whl i j).map Da.int) S3 := by
  unfold iRange2 esCons esNil
  rw [h]
  simp only [bind_ok]
  rw [h']
  show (if inW 62 i = true ∧ inW 62 j = true then Rs.ok (rng i j) S3 else .bad) = _
  rw [if_pos ⟨inW_62 (by omega) (by omega), inW_62 (by omega) (by omega)⟩, rng_whl]
theorem blsOf_map {α : Type} (f : α → Bool) : ∀ L : List α, blsOf (L.map fun x => Da.bl (f x)) = some (L.map f)
  | [] => rfl
  | x :: L => by rw [List.map_cons, blsOf, blsOf_map f L]; rfl
theorem dAll_bl {α : Type} {f : α → Bool} {L : List α} {S : Sto} : dAll [.lst (L.map fun x => Da.bl (f x))] S = some (.bl (L.all f), S) := by
  unfold dAll listOf drf
  simp only [Option.bind_some, blsOf_map, Option.map_some, List.all_map]
  rfl
theorem dAny_bl {α : Type} {f : α → Bool} {L : List α} {S : Sto} : dAny [.lst (L.map fun x => Da.bl (f x))] S = some (.bl (L.any f), S) := by
  unfold dAny listOf drf
  simp only [Option.bind_some, blsOf_map, Option.map_some, List.any_map]
  rfl
theorem chain_le {a b c : E} {ε : Env} {S : Sto} {i t j : Int} (ha : a ε S = .ok (.int i) S) (hb : b ε S = .ok (.int t) S) (hc : c ε S = .ok (.int j) S) : eChain dLe dLe a b c ε S = .ok (.bl (decide (i ≤ t ∧ t ≤ j))) S := by
  unfold eChain
  rw [ha]
  simp only [bind_ok, hb, dLe]
  by_cases q : i ≤ t
  · rw [decide_eq_true q]
    simp only [hc, bind_ok, dLe, of_some]
    simp [q]
  · rw [decide_eq_false q]
    simp [q]
theorem chain_ltle {a b c : E} {ε : Env} {S : Sto} {i t j : Int} (ha : a ε S = .ok (.int i) S) (hb : b ε S = .ok (.int t) S) (hc : c ε S = .ok (.int j) S) : eChain dLt dLe a b c ε S = .ok (.bl (decide (i < t ∧ t ≤ j))) S := by
  unfold eChain
  rw [ha]
  simp only [bind_ok, hb, dLt]
  by_cases q : i < t
  · rw [decide_eq_true q]
    simp only [hc, bind_ok, dLe, of_some]
    simp [q]
  · rw [decide_eq_false q]
    simp [q]
/-- an append to a list of the store -/
theorem app_at {o a : E} {ε : Env} {S S2 : Sto} {n : Nat} {ds : List Da} {d : Da} (ho : o ε S = .ok (.ref n) S) (ha : a ε S = .ok d S2) (hS : S[n]? = some (.lst ds)) (h2 : S2[n]? = some (.lst ds)) (hl : ds.length ≤ 100000) : eBM isLst dAppend o (esCons a esNil) ε S = .ok .non (S2.set n (.lst (ds ++ [d]))) := by
  unfold eBM esCons esNil
  rw [ho]
  simp only [bind_ok]
  have k : isLst (.ref n) S = true := by unfold isLst kindD drf; simp only [hS]
  rw [if_pos k, ha]
  simp only [bind_ok, dAppend, h2]
  rw [if_pos (by rw [sizeLine_eq]; omega)]
  rfl
/-- an invariant of a loop over what is told by a list -/
theorem forL_inv {α : Type} {emb : α → Da} {g : Tg} {b : Sm} (I : Nat → Env → Sto → Prop) (L : List α) {ε : Env} {S : Sto} (h0 : I 0 ε S)
    (h : ∀ i x ε S, L[i]? = some x → I i ε S → ∃ ε1 ε2 S2, put g (emb x) ε = some ε1 ∧ b ε1 S = .nx ε2 S2 ∧ I (i + 1) ε2 S2) : ∃ ε2 S2, forL g b (L.map emb) ε S = .nx ε2 S2 ∧ I L.length ε2 S2 := by
  obtain ⟨ε2, S2, e, i⟩ := forL_ex (g := g) (b := b) I (L.map emb) 0 ε S h0 fun i d ε S _ hd hi => by
    rw [Nat.sub_zero, List.getElem?_map] at hd
    cases q : L[i]? with
    | none => rw [q] at hd; cases hd
    | some x =>
      rw [q] at hd
      cases hd
      exact h i x ε S q hi
  rw [List.length_map, Nat.zero_add] at i
  exact ⟨ε2, S2, e, i⟩
/-- a loop that gathers -/
theorem forL_acc {α σ : Type} {emb : α → Da} {g : Tg} {b : Sm} (I : Nat → σ → Env → Sto → Prop) (step : σ → α → σ) (L : List α) {s : σ} {ε : Env} {S : Sto} (h0 : I 0 s ε S)
    (h : ∀ i x s ε S, i < L.length → x ∈ L → I i s ε S → ∃ ε1 ε2 S2, put g (emb x) ε = some ε1 ∧ b ε1 S = .nx ε2 S2 ∧ I (i + 1) (step s x) ε2 S2) : ∃ ε2 S2, forL g b (L.map emb) ε S = .nx ε2 S2 ∧ I L.length (L.foldl step s) ε2 S2 := by
  obtain ⟨ε2, S2, e, i⟩ := forL_inv (emb := emb) (g := g) (b := b) (fun i ε S => I i ((L.take i).foldl step s) ε S) L h0 fun i x ε S hx hi => by
    obtain ⟨hl, e⟩ := List.getElem?_eq_some_iff.mp hx
    obtain ⟨ε1, ε2, S2, a, b, c⟩ := h i x _ ε S hl (by rw [← e]; exact List.getElem_mem hl) hi
    refine ⟨ε1, ε2, S2, a, b, ?_⟩
    rw [List.take_add_one, hx, List.foldl_append]
    exact c
  rw [List.take_of_length_le (Nat.le_refl _)] at i
  exact ⟨ε2, S2, e, i⟩
theorem set_last {S : Sto} {X Y : Ob} : (S ++ [X]).set S.length Y = S ++ [Y] := by simp
theorem lk_hit {f : Str} {d : Da} {r : List (Str × Da)} : List.lookup f ((f, d) :: r) = some d := by simp [List.lookup]
noncomputable def mk1 (c : Nat) (F : FnD) (v : Da) (S : Sto) : Rs Da := scp S (frzI (mkRes S.length (F [.ref S.length, v] (S ++ [.ins c []]))))
theorem eMakeV_1 {c : Nat} {F : FnD} {a : E} {ε : Env} {S : Sto} : eMakeV c F (esCons a esNil) ε S = (a ε S).bind (mk1 c F) := by
  unfold eMakeV esCons esNil
  cases a ε S <;> rfl
local macro_rules
  | `(tactic| dsimp? only [$l,*]) => `(tactic| simp only [runU, eVar, eC, xv_non, xv_bl, xv_int, xv_str, xv_lst, xv_tup, xv_scr, xv_ref, xv_ins, xv_fn, xv_ty, bind_ok, lft_ok, lft_exc, of_some, fnRes_rt, fnRes_nx, fnRes_ex, eOp1, eOp2, eOpN, esNil, esCons, sSeq, sSet, sIf, sRet, sRetN, sExpr, sNop, tBl, tOf, tAnd, tOr, tNot, asB, sSetIx, List.map_cons, List.map_nil, List.replicate, Nat.zero_add, Nat.reduceAdd, Nat.reduceSub, List.cons_append, List.nil_append, List.getElem?_cons_zero, List.getElem?_cons_succ, List.set_cons_zero, List.set_cons_succ, List.length_cons, List.length_nil, dIx, dGt, dGe, dLt, dLe, dAdd, dSub, dMul, dMod, dDiv, dPow, dNeg, dInt, drf, dLen, if_true, if_false, Bool.false_eq_true, decide_eq_true_eq, dSetIx, Option.map_some, decide_true, decide_false, truth, eAnd, eOr, eNot, eIf, eIsT, dIsT, kindD, tysOf, dIsi, isB, dIs, dIsNot, isNon, List.any_cons, List.any_nil, Bool.or_false, Bool.or_true, Bool.false_or, Bool.true_or, Bool.and_true, Bool.true_and, Bool.and_false, Bool.false_and, Bool.not_true, Bool.not_false, Nat.reduceLeDiff, Nat.reduceLT, Int.reduceLT, Int.reduceLE, and_self, and_true, true_and, reduceIte, sFor, lft_bad, dEq_ii, dEq_bb, dEq_ss, dEq_nn, dNe_ii, dNe_bb, dNe_ss, dNe_nn, BEq.rfl, dLst_s, dTup_s, dNew_s, dEq_nil, Nat.zero_le, put_name, put_tt, put_tl, puts_nil, puts_name, sAsg, eFld, eMeth, insOf, List.mem_cons, List.not_mem_nil, or_false, false_or, eCall, sPar, atI_0, atI_1, Int.cast_ofNat_Int, Int.reduceBEq, wipe_nil, wipe_cons, iVal_at, items_l, items_t, eoNone_at, eoSome_at, eSl_at, dSl_l, dSl_t, dTup_l, dTup_t, dLs_l, dLs_t, bind_exc', List.length_map, app_get, eBM, isLst, dAppend, set_last, lk_hit, eMakeV_1, Option.isNone, $l,*])
/-! ### rows of ints, in their order -/
def ltR : List Int → List Int → Bool
  | x :: xs, y :: ys => if x = y then ltR xs ys else decide (x < y)
  | _, _ => false
theorem toPys_ints : ∀ xs : List Int, toPys (xs.map Da.int) = some (xs.map PyData.int)
  | [] => rfl
  | x :: xs => by rw [List.map_cons, toPys, toPys_ints xs]; rfl
theorem pyD_row (xs : List Int) : pyD (.tup (xs.map Da.int)) = .tuple (xs.map PyData.int) := by unfold pyD; rw [toPy, toPys_ints]; rfl
theorem alike_rows : ∀ xs ys : List Int, PySem.W.alikeAll (xs.map PyData.int) (ys.map PyData.int) = true
  | [], ys => by cases ys <;> rfl
  | _ :: _, [] => rfl
  | x :: xs, y :: ys => by
    rw [List.map_cons, List.map_cons, PySem.W.alikeAll, alike_rows xs ys]; rfl
theorem alike_row (xs ys : List Int) : PySem.W.alike (.tuple (xs.map PyData.int)) (.tuple (ys.map PyData.int)) = true := alike_rows xs ys
theorem ltR_data : ∀ (xs ys : List Int), xs.length = ys.length → PySem.W.dataLt (.tuple (xs.map PyData.int)) (.tuple (ys.map PyData.int)) = ltR xs ys
  | [], [], _ => by rw [PySem.W.dataLt_tuple]; rfl
  | x :: xs, y :: ys, h => by
    rw [PySem.W.dataLt_tuple, ltR, List.map_cons, List.map_cons]
    by_cases e : x = y
    · subst e
      rw [if_pos rfl, PySem.W.dataLt_all_yes rfl (by show (x == x) = true; simp), ← PySem.W.dataLt_tuple, ltR_data xs ys (by simpa using h)]
    · have na : PyData.eqv (.int x) (.int y) = false := by
        show (x == y) = false
        simpa using e
      rw [if_neg e, PySem.W.dataLt_all_no rfl na, PySem.W.dataLt_int]
theorem ltD_row {xs ys : List Int} (h : xs.length = ys.length) : ltD (.tup (xs.map Da.int)) (.tup (ys.map Da.int)) = ltR xs ys := by
  unfold ltD
  rw [pyD_row, pyD_row, ltR_data xs ys h]
theorem ltR_irr : ∀ xs : List Int, ltR xs xs = false
  | [] => rfl
  | x :: xs => by rw [ltR, if_pos rfl, ltR_irr xs]
theorem ltR_tr : ∀ {xs ys zs : List Int}, xs.length = ys.length → ys.length = zs.length → ltR xs ys = true → ltR ys zs = true → ltR xs zs = true
  | [], [], [], _, _, h, _ => h
  | x :: xs, y :: ys, z :: zs, l1, l2, h1, h2 => by
    rw [ltR] at h1 h2 ⊢
    by_cases e1 : x = y
    · subst e1
      rw [if_pos rfl] at h1
      by_cases e2 : x = z
      · subst e2
        rw [if_pos rfl] at h2 ⊢
        exact ltR_tr (by simpa using l1) (by simpa using l2) h1 h2
      · rw [if_neg e2] at h2 ⊢; exact h2
    · rw [if_neg e1] at h1
      by_cases e2 : y = z
      · subst e2
        rw [if_neg e1]; exact h1
      · rw [if_neg e2] at h2
        simp only [decide_eq_true_eq] at h1 h2
        rw [if_neg (by omega)]
        simp only [decide_eq_true_eq]; omega
theorem ltR_tri : ∀ {xs ys : List Int}, xs.length = ys.length → ltR xs ys = false → ltR ys xs = false → xs = ys
  | [], [], _, _, _ => rfl
  | x :: xs, y :: ys, l, h1, h2 => by
    rw [ltR] at h1 h2
    by_cases e : x = y
    · subst e
      rw [if_pos rfl] at h1 h2
      rw [ltR_tri (by simpa using l) h1 h2]
    · rw [if_neg e] at h1
      rw [if_neg (fun z => e z.symm)] at h2
      simp only [decide_eq_false_iff_not] at h1 h2
      omega
def leK {α : Type} (key : α → List Int) (a b : α) : Bool := !ltR (key b) (key a)
section
variable {α : Type} {key : α → List Int} {n : Nat}
theorem sorted_K (hk : ∀ x, (key x).length = n) (l : List α) : (l.mergeSort (leK key)).Pairwise fun a b => leK key a b = true :=
  List.pairwise_mergeSort (fun a b c h1 h2 => by
    unfold leK at *
    rw [Bool.not_eq_true'] at *
    cases q : ltR (key c) (key a) with
    | false => rfl
    | true =>
      rcases Bool.eq_false_or_eq_true (ltR (key c) (key b)) with z | z
      · rw [z] at h2; cases h2
      · cases w : ltR (key b) (key c) with
        | true =>
          rw [ltR_tr (by simp [hk]) (by simp [hk]) w q] at h1
          cases h1
        | false =>
          have e := ltR_tri (by simp [hk]) z w
          rw [e] at q
          rw [q] at h1; cases h1) (fun a b => by
    unfold leK
    cases q : ltR (key b) (key a) with
    | false => rfl
    | true =>
      cases w : ltR (key a) (key b) with
      | false => rfl
      | true =>
        have := ltR_tr (by simp [hk]) (by simp [hk]) q w
        rw [ltR_irr] at this; cases this) l
theorem rows_ok (hk : ∀ x, (key x).length = n) (hn : 0 < n) (L : List α) : shps 60 (L.map fun x => Da.tup ((key x).map Da.int)) = true ∧ srtB ((L.map fun x => Da.tup ((key x).map Da.int)).map pyD) = true := by
  refine ⟨?_, ?_⟩
  · induction L with
    | nil => rfl
    | cons x L ih =>
      simp only [List.map_cons, shps, Bool.and_eq_true]
      exact ⟨by show (decide (0 < 60) && shps 59 ((key x).map Da.int)) = true; rw [shps_ints]; rfl, ih⟩
  · simp only [srtB, Bool.and_eq_true, List.all_eq_true, List.mem_map, Bool.or_eq_true]
    refine ⟨?_, .inl ?_⟩
    · rintro _ ⟨_, ⟨a, _, rfl⟩, rfl⟩ _ ⟨_, ⟨b, _, rfl⟩, rfl⟩
      rw [pyD_row, pyD_row]; exact alike_row _ _
    · rintro _ ⟨_, ⟨a, _, rfl⟩, rfl⟩
      rw [pyD_row]
      have := hk a
      cases e : key a with
      | nil => rw [e] at this; simp at this; omega
      | cons x r => rfl
theorem dSorted_rows (hk : ∀ x, (key x).length = n) (hn : 0 < n) {L : List α} (hl : L.length ≤ 100000) {y : Da} {S : Sto} (hy : listOf y S = some (L.map fun x => Da.tup ((key x).map Da.int))) : dSorted [y] S = some (.lst ((L.mergeSort (leK key)).map fun x => Da.tup ((key x).map Da.int)), S) := by
  unfold dSorted
  dsimp only
  rw [hy]
  show (Option.map _ (srtL _)) = _
  unfold srtL
  have ok := rows_ok hk hn L
  rw [if_pos ⟨ok.1, ok.2, by rw [List.length_map]; exact hl⟩]
  have : (L.map fun x => Da.tup ((key x).map Da.int)).mergeSort leD = (L.mergeSort (leK key)).map fun x => Da.tup ((key x).map Da.int) := by
    refine (List.map_mergeSort fun a _ b _ => ?_).symm
    show leK key a b = !ltD (.tup ((key b).map Da.int)) (.tup ((key a).map Da.int))
    rw [ltD_row (by simp [hk])]; rfl
  rw [this]; rfl
end
/-- the least of rows -/
def argm {α : Type} (key : α → List Int) (x : α) (L : List α) : α := L.foldl (fun a y => if ltR (key y) (key a) = true then y else a) x
theorem argm_spec {α : Type} {key : α → List Int} {n : Nat} (hk : ∀ x, (key x).length = n) : ∀ (L : List α) (x : α), argm key x L ∈ x :: L ∧ ∀ y ∈ x :: L, ltR (key y) (key (argm key x L)) = false
  | [], x => ⟨List.mem_cons_self, fun y hy => by
    rw [List.mem_singleton] at hy
    subst hy
    exact ltR_irr _⟩
  | z :: L, x => by
    obtain ⟨h1, h2⟩ := argm_spec hk L (if ltR (key z) (key x) = true then z else x)
    have e : argm key x (z :: L) = argm key (if ltR (key z) (key x) = true then z else x) L := rfl
    rw [e]
    generalize argm key (if ltR (key z) (key x) = true then z else x) L = m at h1 h2
    by_cases c : ltR (key z) (key x) = true
    · rw [if_pos c] at h1 h2
      refine ⟨List.mem_cons_of_mem _ h1, fun y hy => ?_⟩
      rcases List.mem_cons.mp hy with rfl | hy
      · cases q : ltR (key y) (key m) with
        | false => rfl
        | true =>
          have := h2 z List.mem_cons_self
          rw [ltR_tr (by simp [hk]) (by simp [hk]) c q] at this
          cases this
      · exact h2 y hy
    · rw [if_neg c] at h1 h2
      refine ⟨?_, fun y hy => ?_⟩
      · rcases List.mem_cons.mp h1 with z | z
        · rw [z]; exact List.mem_cons_self
        · exact List.mem_cons_of_mem _ (List.mem_cons_of_mem _ z)
      · rcases List.mem_cons.mp hy with rfl | hy
        · exact h2 y List.mem_cons_self
        · rcases List.mem_cons.mp hy with rfl | hy
          · cases q : ltR (key y) (key m) with
            | false => rfl
            | true =>
              exfalso
              have a := h2 x List.mem_cons_self
              cases w : ltR (key x) (key y) with
              | true =>
                rw [ltR_tr (by simp [hk]) (by simp [hk]) w q] at a
                cases a
              | false =>
                have e := ltR_tri (by simp [hk]) w (by simpa using c)
                rw [e] at a
                rw [q] at a; cases a
          · exact h2 y (List.mem_cons_of_mem _ hy)
theorem dMinD_rows {α : Type} {key : α → List Int} {n : Nat} (hk : ∀ x, (key x).length = n) (hn : 0 < n) {x : α} {L : List α} {S : Sto} : dMinD [.lst ((x :: L).map fun x => Da.tup ((key x).map Da.int))] S = some (.tup ((key (argm key x L)).map Da.int), S) := by
  have ok := rows_ok hk hn (x :: L)
  have al : alkB (((x :: L).map fun x => Da.tup ((key x).map Da.int)).map pyD) = true := by
    have := ok.2
    unfold srtB at this
    unfold alkB
    rw [Bool.and_eq_true] at this ⊢
    refine ⟨this.1, ?_⟩
    rw [List.all_eq_true]
    intro p hp
    obtain ⟨e, he, rfl⟩ := List.mem_map.mp hp
    obtain ⟨y, _, rfl⟩ := List.mem_map.mp he
    rw [pyD_row]; rfl
  unfold dMinD listOf drf bestL
  simp only [Option.bind_some, List.map_cons] at ok al ⊢
  rw [if_pos ⟨ok.1, al⟩]
  have : ∀ (L : List α) (x : α), minDa (.tup ((key x).map Da.int)) (L.map fun x => Da.tup ((key x).map Da.int)) = .tup ((key (argm key x L)).map Da.int) := fun L => by
    induction L with
    | nil => intro x; rfl
    | cons z L ih =>
      intro x
      show minDa (if ltD (.tup ((key z).map Da.int)) (.tup ((key x).map Da.int)) = true then .tup ((key z).map Da.int) else .tup ((key x).map Da.int)) (L.map fun x => Da.tup ((key x).map Da.int)) = .tup ((key (argm key (if ltR (key z) (key x) = true then z else x) L)).map Da.int)
      rw [ltD_row (by simp [hk])]
      split <;> exact ih _
  rw [this]; rfl
theorem dLtD_row {xs ys : List Int} {S : Sto} (h : xs.length = ys.length) : dLtD (.tup (xs.map Da.int)) (.tup (ys.map Da.int)) S = some (.bl (ltR xs ys), S) := by
  have s : ∀ zs : List Int, shp 60 (.tup (zs.map Da.int)) = true := fun zs => by show (decide (0 < 60) && shps 59 (zs.map Da.int)) = true; rw [shps_ints]; rfl
  unfold dLtD
  rw [if_pos, ltD_row h]
  unfold okLt
  rw [s, s, pyD_row, pyD_row, alike_row]; rfl
/-- the two parts of what is told by a turn -/
def w3 : Option Da → Option Da
  | some (.tup [a, _]) => some a
  | _ => none
def w4 : Option Da → Option Da
  | some (.tup [_, b]) => some b
  | _ => none
/-! ### try -/
def okX (o : Option Da) : Bool := match o with
  | some d => !isExv d
  | none => true
def clean (ε : Env) : Bool := ε.all okX
theorem okS {d : Da} : okX (some d) = !isExv d := rfl
theorem okN : okX none = true := rfl
theorem shrt_t {ds : List Da} (h : shrts ds = true) (hl : ds.length ≤ 1000) : shrt (.tup ds) = true := by simp only [shrt, Bool.and_eq_true, decide_eq_true_eq]; first | exact ⟨by omega, h⟩ | exact ⟨h, by omega⟩
theorem shrt_l {ds : List Da} (h : shrts ds = true) (hl : ds.length ≤ 1000) : shrt (.lst ds) = true := by simp only [shrt, Bool.and_eq_true, decide_eq_true_eq]; first | exact ⟨by omega, h⟩ | exact ⟨h, by omega⟩
theorem clr_cons {o : Option Da} {ε : Env} (h : okX o = true) : clrX (o :: ε) = o :: clrX ε := by
  cases o with
  | none => rfl
  | some d => cases d <;> first | rfl | (simp [okX, isExv] at h)
theorem clr_id : ∀ {ε : Env}, clean ε = true → clrX ε = ε
  | [], _ => rfl
  | o :: ε, h => by
    unfold clean at h
    rw [List.all_cons, Bool.and_eq_true] at h
    rw [clr_cons h.1, clr_id (ε := ε) h.2]
theorem uns_clr : ∀ {ε : Env} {i c : Nat} {fs : List (Str × Da)}, clean ε = true → ε[i]? = some none → unsE (some i) (clrX (ε.set i (some (.exv c fs)))) = ε
  | [], i, _, _, _, h => by simp at h
  | o :: ε, 0, c, fs, h, hi => by
    unfold clean at h
    rw [List.all_cons, Bool.and_eq_true] at h
    have ih := clr_id (ε := ε) h.2
    have : o = none := by simpa using hi
    subst this
    show (none :: clrX ε) = _
    rw [ih]
  | o :: ε, i + 1, c, fs, h, hi => by
    unfold clean at h
    rw [List.all_cons, Bool.and_eq_true] at h
    have ih := uns_clr (ε := ε) (i := i) (c := c) (fs := fs) h.2 (by simpa using hi)
    rw [List.set_cons_succ, clr_cons h.1]
    show o :: (clrX (ε.set i (some (.exv c fs)))).set i none = o :: ε
    have ih : (clrX (ε.set i (some (.exv c fs)))).set i none = ε := ih
    rw [ih]
theorem try_h {b : Sm} {hl : List HdD} {i c : Nat} {s : Sm} {fs : List (Str × Da)} {ε : Env} {S S1 : Sto} (h : b ε S = .ex c fs ε S1) (hc : catchL hl c fs ε S1 = sufl (some i) (s (ε.set i (some (.exv c fs))) S1)) (hs : s (ε.set i (some (.exv c fs))) S1 = .nx (ε.set i (some (.exv c fs))) S1) (cl : clean ε = true) (hi : ε[i]? = some none) : sTry b hl ε S = .nx ε S1 := by
  unfold sTry
  rw [h]
  dsimp only
  rw [hc, hs]
  show Fl.nx (unsE (some i) (clrX (ε.set i (some (.exv c fs))))) S1 = _
  rw [uns_clr cl hi]
/-- [.. for k in range(int(test))] -/
theorem compI {own : List Nat} {g : Tg} {e a : E} {ε : Env} {S S2 : Sto} {b : Bool} {d : Da} (he : e ε S = .ok (.bl b) S2) (ha : ∃ ε1, put g (.int 0) (wipeE ε own) = some ε1 ∧ a ε1 S2 = .ok d S2) : eComp own (iRange1 (esCons (eOpN dInt (esCons e esNil)) esNil)) g tYesD a ε S = .ok (.lst (if b = true then [d] else [])) S2 := by
  have hi : iRange1 (esCons (eOpN dInt (esCons e esNil)) esNil) ε S = .ok ((if b = true then [(0 : Int)] else []).map Da.int) S2 := by
    rw [rng1_at (j := if b = true then 1 else 0) (S2 := S2) (by simp? only [he]) (by split <;> omega) (by split <;> omega)]
    cases b <;> rfl
  obtain ⟨ε1, e1, e2⟩ := ha
  unfold eComp
  rw [hi]
  simp only [bind_ok]
  rw [if_pos (by cases b <;> (rw [sizeLine_eq]; simp))]
  cases b with
  | true =>
    simp only [if_true, List.map_cons, List.map_nil]
    unfold compL
    rw [e1]
    dsimp only [tYesD]
    simp only [Rs.bindN, if_true, e2]
    rfl
  | false => rfl
theorem at_row {r : List Int} {k : Int} (h0 : 0 ≤ k) (h : k < r.length) : atI (r.map Da.int) k = some (.int (r.getD k.toNat 0)) := by
  have h2 : k.toNat < r.length := by omega
  refine atI_t h0 ?_
  rw [List.getD_eq_getElem?_getD, List.getElem?_eq_getElem h2]; rfl
/-! ### running -/
section
variable {a b : Sm} {ε : Env} {S : Sto} {v : Da}
theorem run_q {Q : Sto → Prop} {ε' : Env} {S' : Sto} (h : a ε S = .nx ε' S') (k : ∃ S2, b ε' S' = .rt v S2 ∧ Q S2) : ∃ S2, sSeq a b ε S = .rt v S2 ∧ Q S2 := by
  obtain ⟨S2, k, q⟩ := k
  exact ⟨S2, by rw [seq_nx h, k], q⟩
theorem run_e {ε' : Env} {S' : Sto} {c : Nat} {fs : List (Str × Da)} {ε2 : Env} {S2 : Sto} (h : a ε S = .nx ε' S') (k : b ε' S' = .ex c fs ε2 S2) : sSeq a b ε S = .ex c fs ε2 S2 := by rw [seq_nx h, k]
theorem forL_stop {g : Tg} {b : Sm} {d : Da} {ds : List Da} {ε ε1 ε2 : Env} {S S2 : Sto} {c : Nat} {fs : List (Str × Da)} (h1 : put g d ε = some ε1) (h2 : b ε1 S = .ex c fs ε2 S2) : forL g b (d :: ds) ε S = .ex c fs ε2 S2 := by
  unfold forL
  rw [h1]
  dsimp only
  rw [h2]
theorem run_nx {ε' : Env} {S' : Sto} (h : a ε S = .nx ε' S') (k : ∃ S2, b ε' S' = .rt v S2) : ∃ S2, sSeq a b ε S = .rt v S2 := by
  obtain ⟨S2, k⟩ := k
  exact ⟨S2, by rw [seq_nx h, k]⟩
end

/-! ### making an object -/
theorem app_set' {S : Sto} {X Y : Ob} : (S ++ [X]).set S.length Y = S ++ [Y] := by simp
theorem mk1_ok {c : Nat} {F : FnD} {v : Da} {S : Sto} {fs : List (Str × Da)} (h : F [.ref S.length, v] (S ++ [.ins c []]) = .ok .non (S ++ [.ins c fs])) (hb : belowDf S.length fs = true) : mk1 c F v S = .ok (.ins c fs) S := by
  unfold mk1
  rw [h]
  show scp S (frzI (.ok (.ref S.length) (S ++ [.ins c fs]))) = _
  unfold frzI
  simp only [Rs.bind, app_get, app_set']
  exact scp_more (by show belowDf S.length fs = true; exact hb)
theorem mk1_exc {c k : Nat} {F : FnD} {v : Da} {S : Sto} {X : Ob} {gs : List (Str × Da)} (h : F [.ref S.length, v] (S ++ [.ins c []]) = .exc k gs (S ++ [X])) (hb : belowDf S.length gs = true) : mk1 c F v S = .exc k gs S := by
  unfold mk1
  rw [h]
  exact scp_exc_more hb
theorem lk_mis {m f : Str} {d : Da} {r : List (Str × Da)} (h : (m == f) = false) : List.lookup m ((f, d) :: r) = List.lookup m r := by simp [List.lookup, h]
theorem lk_nil {m : Str} : List.lookup m ([] : List (Str × Da)) = none := rfl
theorem rep_ok {v : Da} {p : PyData} {S : Sto} (h : toPy v = some p) (h1 : p.showable = true) (h2 : p.shown.length ≤ 1000) (hs : shp 64 v = true) : ∃ t, dRepr [v] S = some (.str t, S) := by
  refine ⟨p.shown, ?_⟩
  unfold dRepr reprD
  dsimp only
  rw [drf_shp hs, if_pos hs, h]
  dsimp only
  rw [if_pos ⟨h1, by rw [sizeLine_eq]; omega⟩]
  rfl
theorem dEq_self {d : Da} {S : Sto} (h : shp 64 d = true) : dEq d d S = some (.bl true, S) := by rw [dEq_shp h h, shp_refl 64 d h]
theorem dNe_self {d : Da} {S : Sto} (h : shp 64 d = true) : dNe d d S = some (.bl false, S) := by rw [dNe_shp h h, shp_refl 64 d h]; rfl
theorem a_nm : Str.ofString "a" = nmS [0] := by decide +kernel
theorem a_ok : NmOk [0] := ⟨by decide, by decide, by decide⟩
theorem nm_ne {l : Nm} (h : NmOk l) : decide (nmS l = Str.ofString "") = false := by
  refine decide_eq_false fun z => ?_
  have := congrArg Str.length z
  rw [nmS_len] at this
  have e : (Str.ofString "").length = 0 := by decide +kernel
  have := h.pos
  omega
theorem shp_nms (n : Nat) (L : List Nm) : shps n (L.map nmD) = true := shp_strs n L
theorem dEq_l0 {S : Sto} : dEq (.lst []) (.lst []) S = some (.bl true, S) := rfl
theorem dNe_l0 {S : Sto} : dNe (.lst []) (.lst []) S = some (.bl false, S) := rfl
theorem dNe_l1 {d : Da} {ds : List Da} {S : Sto} (h : shp 64 (.lst (d :: ds)) = true) : dNe (.lst (d :: ds)) (.lst []) S = some (.bl true, S) := by
  rw [dNe_shp h rfl]; rfl
/-- == [] of a list that is told -/
theorem dEq_nilL {ds : List Da} {S : Sto} (h : shps 63 ds = true) : dEq (.lst ds) (.lst []) S = some (.bl ds.isEmpty, S) := by
  cases ds with
  | nil => rfl
  | cons d ds => exact dEq_nilc (by show (decide (0 < 64) && shps 63 (d :: ds)) = true; rw [h]; rfl)
theorem dNe_nilL {ds : List Da} {S : Sto} (h : shps 63 ds = true) : dNe (.lst ds) (.lst []) S = some (.bl (!ds.isEmpty), S) := by
  cases ds with
  | nil => rfl
  | cons d ds => exact dNe_l1 (by show (decide (0 < 64) && shps 63 (d :: ds)) = true; rw [h]; rfl)
theorem dEq_nilT {ds : List Da} {S : Sto} (h : shps 63 ds = true) : dEq (.tup ds) (.tup []) S = some (.bl ds.isEmpty, S) := by
  cases ds with
  | nil => rfl
  | cons d ds =>
    rw [dEq_shp (by show (decide (0 < 64) && shps 63 (d :: ds)) = true; rw [h]; rfl) rfl]; rfl
theorem dNe_nilT {ds : List Da} {S : Sto} (h : shps 63 ds = true) : dNe (.tup ds) (.tup []) S = some (.bl (!ds.isEmpty), S) := by
  cases ds with
  | nil => rfl
  | cons d ds =>
    rw [dNe_shp (by show (decide (0 < 64) && shps 63 (d :: ds)) = true; rw [h]; rfl) rfl]; rfl
open PySem PySem.Spec PyProof.Rows L2
open Qk21
-- template: Qk21 stands for the law's namespace
section
variable {S : Sto} {r : Nat} {ns : List Int} {i s p m : Int}
theorem taken1 (h : S[r]? = some (.lst [.scr ns, .int i, .int s, .int p])) (hp : 0 < p) (hm : 0 < m) (hm2 : m < 1073741824) :
    runU 2 4 Qk21.b__law_taken [.ref r, .int m] S = .ok (.int (p % m)) (S.set r (.lst [.scr ns, .int i, .int s, .int (p / m)])) := by
  have hmm : 0 < m ∧ m < 1073741824 := ⟨hm, hm2⟩
  rw [Qk21.b__law_taken_eq]
  simp? only [h, row0, row1, row2, row3, hp, hm, hmm, and_self, ix4_3]
theorem taken2 (h : S[r]? = some (.lst [.scr ns, .int i, .int s, .int p])) (hp : ¬ 0 < p) (h1 : 0 ≤ s) (h2 : s < 2147483647) (hi : (ns.length : Int) < i + 1) (hm : 0 < m) (hm2 : m < 1073741824) :
    runU 2 4 Qk21.b__law_taken [.ref r, .int m] S = .ok (.int ((s * 48271 + 11) % 2147483647 / 7 % m)) (S.set r (.lst [.scr ns, .int (i + 1), .int ((s * 48271 + 11) % 2147483647), .int p])) := by
  have hmm : 0 < m ∧ m < 1073741824 := ⟨hm, hm2⟩
  have hr : r < S.length := (List.getElem?_eq_some_iff.mp h).1
  rw [Qk21.b__law_taken_eq]
  simp? only [h, row0, row1, row2, row3, hp, hm, hmm, and_self, ix4_3, ix4_1, ix4_2, row_set hr, hi, mulOk_s h1 h2, show (0 : Int) < 2147483647 from by decide, show (0 : Int) < 7 ∧ (7 : Int) < 1073741824 from by decide, List.length_set, List.set_set]
theorem taken3 {c : Int} (h : S[r]? = some (.lst [.scr ns, .int i, .int s, .int p])) (hp : ¬ 0 < p) (h1 : 0 ≤ s) (h2 : s < 2147483647) (hi : ¬ (ns.length : Int) < i + 1) (h0 : 0 ≤ i) (hc : ns[i.toNat]? = some c) (hm : 0 < m) (hm2 : m < 1073741824) :
    runU 2 4 Qk21.b__law_taken [.ref r, .int m] S = .ok (.int (c % m)) (S.set r (.lst [.scr ns, .int (i + 1), .int ((s * 48271 + c + 11) % 2147483647), .int (if 1000000000000000000 ≤ c then c / m else p)])) := by
  have hmm : 0 < m ∧ m < 1073741824 := ⟨hm, hm2⟩
  have hr : r < S.length := (List.getElem?_eq_some_iff.mp h).1
  have hat : atI ns (i + 1 - 1) = some c := by
    rw [Int.add_sub_cancel]
    have : i = ((i.toNat : Nat) : Int) := by omega
    rw [this]; exact atI_nat hc
  rw [Qk21.b__law_taken_eq]
  simp? only [h, row0, row1, row2, row3, hp, hm, hmm, and_self, ix4_3, ix4_1, ix4_2, row_set hr, hi, hat, mulOk_s h1 h2, show (0 : Int) < 2147483647 from by decide, show (0 : Int) < 7 ∧ (7 : Int) < 1073741824 from by decide, List.length_set, List.set_set]
  have pc : powOk 10 18 = true := cdec_of (by decide)
  have pv : (10 : Int) ^ Int.toNat 18 = 1000000000000000000 := by decide
  by_cases hb : 1000000000000000000 ≤ c
  · simp? only [pc, pv, hb, row_set hr, row3, hmm, and_self, ix4_3, List.set_set, hm]
  · simp? only [pc, pv, hb, row_set hr, row3, hmm, and_self, ix4_3, List.set_set, hm]
end
theorem taken_spec {S : Sto} {r : Nat} {ns : List Int} {m : Int} (h : RowOk S r ns) (hm : 0 < m) (hm2 : m < 1073741824) :
    ∃ v S', Qk21.d__law_taken [.ref r, .int m] S = .ok (.int v) S' ∧ 0 ≤ v ∧ v < m ∧ RowOk S' r ns ∧ OnlyAt r S S' := by
  obtain ⟨i, s, p, e, h0, h1, h2⟩ := h.ex
  have hr : r < S.length := (List.getElem?_eq_some_iff.mp e).1
  have bel : ∀ i s p : Int, belowO S.length (.lst [.scr ns, .int i, .int s, .int p]) = true := fun _ _ _ => rfl
  have fin : ∀ (v i' s' p' : Int), runU 2 4 Qk21.b__law_taken [.ref r, .int m] S = .ok (.int v) (S.set r (.lst [.scr ns, .int i', .int s', .int p'])) → 0 ≤ i' → 0 ≤ s' → s' < 2147483647 → 0 ≤ v → v < m →
      ∃ v S', Qk21.d__law_taken [.ref r, .int m] S = .ok (.int v) S' ∧ 0 ≤ v ∧ v < m ∧ RowOk S' r ns ∧ OnlyAt r S S' := fun v i' s' p' e1 a1 a2 a3 a4 a5 => by
    refine ⟨v, S.set r (.lst [.scr ns, .int i', .int s', .int p']), ?_, a4, a5, ⟨i', s', p', row_set hr, a1, a2, a3⟩, OnlyAt.set _ _ _⟩
    unfold Qk21.d__law_taken runFn
    rw [e1]
    exact scp_set rfl (bel _ _ _)
  have hmod : ∀ z : Int, 0 ≤ z % m ∧ z % m < m := fun z => ⟨Int.emod_nonneg _ (by omega), Int.emod_lt_of_pos _ hm⟩
  have hm7 : ∀ z : Int, 0 ≤ z % 2147483647 ∧ z % 2147483647 < 2147483647 := fun z => ⟨Int.emod_nonneg _ (by omega), Int.emod_lt_of_pos _ (by omega)⟩
  by_cases hp : 0 < p
  · exact fin _ _ _ _ (taken1 e hp hm hm2) h0 h1 h2 (hmod _).1 (hmod _).2
  · by_cases hi : (ns.length : Int) < i + 1
    · exact fin _ _ _ _ (taken2 e hp h1 h2 hi hm hm2) (by omega) (hm7 _).1 (hm7 _).2 (hmod _).1 (hmod _).2
    · have hi2 : i.toNat < ns.length := by omega
      exact fin _ _ _ _ (taken3 e hp h1 h2 hi h0 (List.getElem?_eq_getElem hi2) hm hm2) (by omega) (hm7 _).1 (hm7 _).2 (hmod _).1 (hmod _).2
theorem alike_comp {self : FnD} {x : Da} {ds : List Da} {S : Sto} (hlen : ds.length ≤ sizeLine) (hx : x = .lst ds ∨ x = .tup ds) (ih : ∀ y ∈ ds, self [y, y] S = .ok (.bl true) S) :
    eComp [2] (iRange1 (esCons (eOpN dLen (esCons (eVar 1) esNil)) esNil)) (.name 2) (tNot (tOf (eCall self (esCons (eOp2 dIx (eVar 0) (eVar 2)) (esCons (eOp2 dIx (eVar 1) (eVar 2)) esNil))))) (eVar 2) [some x, some x, none] S = .ok (.lst []) S := by
  have e1 : iRange1 (esCons (eOpN dLen (esCons (eVar 1) esNil)) esNil) [some x, some x, none] S = .ok (rng 0 ds.length) S := by
    unfold iRange1
    rcases hx with rfl | rfl
    · simp? only []
      rw [if_pos (len62 hlen)]
    · simp? only []
      rw [if_pos (len62 hlen)]
  unfold eComp
  rw [e1]
  simp only [bind_ok]
  rw [if_pos (by rw [rng_len]; exact hlen), compL_none]
  · rfl
  · intro z hz
    obtain ⟨j, hj, rfl⟩ := rng_mem hz
    refine ⟨_, rfl, ?_⟩
    have ix : atI ds (j : Int) = some ds[j] := atI_nat (List.getElem?_eq_getElem hj)
    have ihj := ih ds[j] (List.getElem_mem hj)
    show tNot (tOf (eCall self (esCons (eOp2 dIx (eVar 0) (eVar 2)) (esCons (eOp2 dIx (eVar 1) (eVar 2)) esNil)))) [some x, some x, some (.int (j : Int))] S = _
    rcases hx with rfl | rfl
    · simp? only [eCall, ix, ihj]
    · simp? only [eCall, ix, ihj]
theorem alike_step {self : FnD} {d : Da} {S : Sto} {k : Nat} (hs : shp k d = true) (hl : shrt d = true) (ih : ∀ y ∈ kids d, self [y, y] S = .ok (.bl true) S) : runU 2 3 (Qk21.b__law_alike self) [d, d] S = .ok (.bl true) S := by
  rw [Qk21.b__law_alike_eq]
  cases d with
  | non => simp? only []
  | bl b => cases b <;> simp? only []
  | int i => simp? only [show (i == i) = true from by simp]
  | str i => simp? only []
  | lst ds =>
    simp only [shrt, Bool.and_eq_true, decide_eq_true_eq] at hl
    have c := alike_comp (x := .lst ds) (Nat.le_trans hl.1 (by rw [sizeLine_eq]; decide)) (.inl rfl) ih
    simp? only [c, show dEq (Da.lst []) (Da.lst []) S = some (.bl true, S) from rfl]
  | tup ds =>
    simp only [shrt, Bool.and_eq_true, decide_eq_true_eq] at hl
    have c := alike_comp (x := .tup ds) (Nat.le_trans hl.1 (by rw [sizeLine_eq]; decide)) (.inr rfl) ih
    simp? only [c, show dEq (Da.lst []) (Da.lst []) S = some (.bl true, S) from rfl]
  | _ => simp [shp] at hs
theorem alike_true : ∀ (n k : Nat) (d : Da) (S : Sto), k < n → shp k d = true → shrt d = true → Qk21.d__law_alike n [d, d] S = .ok (.bl true) S
  | 0, _, _, _, h, _, _ => absurd h (Nat.not_lt_zero _)
  | n + 1, k, d, S, hn, hs, hl => by
    show scp S (runU 2 3 (Qk21.b__law_alike (Qk21.d__law_alike n)) [d, d] S) = _
    rw [alike_step hs hl fun y hy => ?_]
    · exact scp_same rfl
    · cases d with
      | lst ds =>
        simp only [shp, shrt, Bool.and_eq_true, decide_eq_true_eq] at hs hl
        exact alike_true n (k - 1) y S (by omega) (shps_mem hs.2 _ hy) (shrts_mem hl.2 hy)
      | tup ds =>
        simp only [shp, shrt, Bool.and_eq_true, decide_eq_true_eq] at hs hl
        exact alike_true n (k - 1) y S (by omega) (shps_mem hs.2 _ hy) (shrts_mem hl.2 hy)
      | _ => cases hy
theorem alike_eq {x y : Da} {S : Sto} (e : x = y) (h1 : shp 11 x = true) (h2 : shrt x = true) : Qk21.d__law_alike 12 [x, y] S = .ok (.bl true) S := by
  subst e; exact alike_true 12 11 x S (by omega) h1 h2
/-- if not alike(..): return False -/
theorem alike_tOf {A B : E} {ε : Env} {S S2 S3 : Sto} {d : Da} (hA : A ε S = .ok d S2) (hB : B ε S2 = .ok d S3) (h1 : shp 11 d = true) (h2 : shrt d = true) :
    tNot (tOf (eCall (Qk21.d__law_alike 12) (esCons A (esCons B esNil)))) ε S = .ok false S3 := by
  simp? only [hA, hB, alike_eq rfl h1 h2]
theorem alike_stmt {A B : E} {ε : Env} {S S2 S3 : Sto} {d : Da} {m : Sm} (hA : A ε S = .ok d S2) (hB : B ε S2 = .ok d S3) (h1 : shp 11 d = true) (h2 : shrt d = true) :
    sIf (tNot (tOf (eCall (Qk21.d__law_alike 12) (esCons A (esCons B esNil))))) m sNop ε S = .nx ε S3 := by
  simp? only [hA, hB, alike_eq rfl h1 h2]

section
variable {S : Sto}
theorem is_row_tup {ds : List Da} : d_is_row [.tup ds] S = .ok (.bl true) S := fn_same (b := b_is_row) (by rw [b_is_row_eq]; simp? only []) rfl
theorem is_row_lst {ds : List Da} : d_is_row [.lst ds] S = .ok (.bl true) S := fn_same (b := b_is_row) (by rw [b_is_row_eq]; simp? only []) rfl
theorem is_row_non : d_is_row [.non] S = .ok (.bl false) S := fn_same (b := b_is_row) (by rw [b_is_row_eq]; simp? only []) rfl
end
section
variable {S : Sto}
theorem is_whole_int {i : Int} : d_is_whole [.int i] S = .ok (.bl true) S := fn_same (b := b_is_whole) (by rw [b_is_whole_eq]; simp? only []) rfl
theorem is_whole_bl {i : Bool} : d_is_whole [.bl i] S = .ok (.bl false) S := fn_same (b := b_is_whole) (by rw [b_is_whole_eq]; simp? only []) rfl
end
section
variable {S : Sto}
theorem is_number_int {i a b : Int} : d_is_number [.int i, .int a, .int b] S = .ok (.bl (decide (a ≤ i ∧ i ≤ b))) S := fn_same (b := b_is_number) (by
  rw [b_is_number_eq]
  by_cases h1 : a ≤ i
  · by_cases h2 : i ≤ b
    · simp? only [is_whole_int, eChain, h1, h2]
    · simp? only [is_whole_int, eChain, h1, h2, and_false]
  · simp? only [is_whole_int, eChain, h1, false_and]) rfl
theorem is_number_bl {i : Bool} {a b : Int} : d_is_number [.bl i, .int a, .int b] S = .ok (.bl false) S := fn_same (b := b_is_number) (by rw [b_is_number_eq]; simp? only [is_whole_bl]) rfl
theorem is_number_non {a b : Int} : d_is_number [.non, .int a, .int b] S = .ok (.bl false) S := fn_same (b := b_is_number) (by
  have w : d_is_whole [.non] S = .ok (.bl false) S := fn_same (b := b_is_whole) (by rw [b_is_whole_eq]; simp? only [dIsi]) rfl
  rw [b_is_number_eq]
  simp? only [w]) rfl
end
section
variable {S : Sto}
theorem want_number_ok {d : Da} {a b : Int} (h : d_is_number [d, .int a, .int b] S = .ok (.bl true) S) (hx : isExv d = false) (hb : belowD S.length d = true) : d_want_number [d, .int a, .int b] S = .ok d S := fn_same (b := b_want_number) (by
  rw [b_want_number_eq]
  simp? only [hx, h]) hb
theorem want_number_bad {d : Da} {a b : Int} (h : d_is_number [d, .int a, .int b] S = .ok (.bl false) S) (hx : isExv d = false) (hb : belowD S.length d = true) : d_want_number [d, .int a, .int b] S = .exc 1 [("value", d)] S := fn_exc (b := b_want_number) (by
  rw [b_want_number_eq]
  simp? only [hx, h, sRaise]) (by simp [belowDf, hb])
end
section
variable {S : Sto}
theorem frozen_step {self : FnD} {d : Da} {S : Sto} {k : Nat} (hs : shp k d = true) (hl : shrt d = true) (ih : ∀ y ∈ kids d, self [y] S = .ok (frzD y) S) : runU 1 2 (b_frozen self) [d] S = .ok (frzD d) S := by
  rw [b_frozen_eq]
  have comp : ∀ (ds : List Da) (x : Da), ds.length ≤ 100000 → (∀ y ∈ ds, isExv y = false ∧ self [y] S = .ok (frzD y) S) → items x = some ds → isExv x = false → eComp [1] (iVal (eVar 0)) (.name 1) tYesD (eCall self (esCons (eVar 1) esNil)) [some x, none] S = .ok (.lst (frzDs ds)) S := fun ds x hlen h hx hxe => by
    have hi : iVal (eVar 0) [some x, none] S = .ok (ds.map fun d => d) S := by
      unfold iVal
      simp? only [hxe, hx, List.map_id']
    rw [frzDs_map]
    refine eComp_m (emb := fun d => d) ds hi hlen fun y hy => ⟨_, rfl, ?_⟩
    obtain ⟨h1, h2⟩ := h y hy
    show eCall self (esCons (eVar 1) esNil) [some x, some y] S = _
    simp? only [h1, h2]
  cases d with
  | non => simp? only [frzD]
  | bl b => simp? only [frzD]
  | int i => simp? only [frzD]
  | str i => simp? only [frzD]
  | lst ds =>
    simp only [shp, shrt, Bool.and_eq_true, decide_eq_true_eq] at hs hl
    have c := comp ds (.lst ds) (hl.1) (fun y hy => ⟨shp_xv (shps_mem hs.2 y hy), ih y hy⟩) rfl rfl
    simp? only [c, dTupleOf, seqOf, frzD]
  | tup ds =>
    simp only [shp, shrt, Bool.and_eq_true, decide_eq_true_eq] at hs hl
    have c := comp ds (.tup ds) (hl.1) (fun y hy => ⟨shp_xv (shps_mem hs.2 y hy), ih y hy⟩) rfl rfl
    simp? only [c, dTupleOf, seqOf, frzD]
  | _ => simp [shp] at hs
theorem frozen_true : ∀ (n k : Nat) (d : Da) (S : Sto), k < n → shp k d = true → shrt d = true → d_frozen n [d] S = .ok (frzD d) S
  | 0, _, _, _, h, _, _ => absurd h (Nat.not_lt_zero _)
  | n + 1, k, d, S, hn, hs, hl => by
    show scp S (runU 1 2 (b_frozen (d_frozen n)) [d] S) = _
    rw [frozen_step hs hl fun y hy => ?_]
    · exact scp_same (shp_below (frzD_shp hs))
    · cases d with
      | lst ds =>
        simp only [shp, shrt, Bool.and_eq_true, decide_eq_true_eq] at hs hl
        exact frozen_true n (k - 1) y S (by omega) (shps_mem hs.2 _ hy) (shrts_mem hl.2 hy)
      | tup ds =>
        simp only [shp, shrt, Bool.and_eq_true, decide_eq_true_eq] at hs hl
        exact frozen_true n (k - 1) y S (by omega) (shps_mem hs.2 _ hy) (shrts_mem hl.2 hy)
      | _ => cases hy
end
section
variable {S : Sto}
def firstBad (t : Da → Bool) (ds : List Da) : Option Nat := (List.range ds.length).find? fun i => !t (ds.getD i .non)
def wrEnv (v : Da) (j : Nat) (m : Int) : Option Da → Env
  | some (.tup [a, b]) => [some v, some (.fn j), some (.int m), some a, some b]
  | _ => [some v, some (.fn j), some (.int m), none, none]
noncomputable abbrev wrBody : Sm := sIf (tNot (tOf (eCallL 1 tbl_want_row (esCons (eVar 4) esNil)))) (sRaise 2 "index" (esCons (eVar 3) esNil)) sNop
theorem wr_loop {j : Nat} {m : Int} {ds : List Da} {v : Da} {F : FnD} {t : Da → Bool} (hF : tbl_want_row.lookup j = some F) (hx : ∀ d ∈ ds, isExv d = false) (ht : ∀ d ∈ ds, F [d] S = .ok (.bl (t d)) S) :
    (∀ i, firstBad t ds = some i → forL (.tup [.name 3, .name 4]) wrBody (enumL ds) [some v, some (.fn j), some (.int m), none, none] S = .ex 2 [("index", .int (i : Nat))] [some v, some (.fn j), some (.int m), some (.int (i : Nat)), some (ds.getD i .non)] S) ∧
    (firstBad t ds = none → ∃ a b, forL (.tup [.name 3, .name 4]) wrBody (enumL ds) [some v, some (.fn j), some (.int m), none, none] S = .nx [some v, some (.fn j), some (.int m), a, b] S) := by
  have z := forL_out (emb := fun i : Nat => .tup [.int (i : Nat), ds.getD i .non]) (g := .tup [.name 3, .name 4]) (b := wrBody) (wrEnv v j m) (S := S) (fun i => !t (ds.getD i .non)) (fun i => .ex 2 [("index", .int (i : Nat))] [some v, some (.fn j), some (.int m), some (.int (i : Nat)), some (ds.getD i .non)] S) (List.range ds.length) none fun i hi w => by
    have hi2 : i < ds.length := by simpa using hi
    have mem : ds.getD i .non ∈ ds := by rw [List.getD_eq_getElem?_getD, List.getElem?_eq_getElem hi2]; exact List.getElem_mem hi2
    have xv := hx _ mem
    have fe := ht _ mem
    generalize ds.getD i .non = d at xv fe
    refine ⟨[some v, some (.fn j), some (.int m), some (.int (i : Nat)), some d], ?_, fun hb => ?_, fun hb => ⟨?_, fun ε2 S2 => ⟨fun z => (nomatch z), fun z => (nomatch z), fun z => (nomatch z)⟩⟩⟩
    · unfold wrEnv
      split <;> simp? only []
    · have tt : t d = true := by simpa using hb
      rw [tt] at fe
      unfold wrBody
      simp? only [eCallL, hF, xv, fe]
      rfl
    · have tt : t d = false := by simpa using hb
      rw [tt] at fe
      unfold wrBody
      simp? only [eCallL, hF, xv, fe, sRaise]
  refine ⟨z.1, fun e => ?_⟩
  obtain ⟨w, e2⟩ := z.2 e
  have w0 : ∃ a b, wrEnv v j m w = [some v, some (.fn j), some (.int m), a, b] := by unfold wrEnv; split <;> exact ⟨_, _, rfl⟩
  obtain ⟨a, b, ew⟩ := w0
  rw [ew] at e2
  exact ⟨a, b, e2⟩
theorem want_row_spec {j k : Nat} {m : Int} {ds : List Da} {v : Da} {F : FnD} {t : Da → Bool} (hF : tbl_want_row.lookup j = some F) (hv : v = .tup ds ∨ v = .lst ds) (hk : k < 12) (hs : shp k v = true) (hl : shrt v = true) (ht : ∀ d ∈ ds, F [d] S = .ok (.bl (t d)) S) :
    d_want_row [v, .fn j, .int m] S = match firstBad t ds with
      | some i => .exc 2 [("index", .int (i : Nat))] S
      | none => if m < ds.length then .exc 3 [("limit", .int m)] S else .ok (frzD v) S := by
  have hx : ∀ d ∈ ds, isExv d = false := fun d hd => by
    rcases hv with rfl | rfl <;> (simp only [shp, Bool.and_eq_true] at hs; exact shp_xv (shps_mem hs.2 d hd))
  have lp := wr_loop (v := v) (m := m) hF hx ht
  have fz := frozen_true 12 k v S hk hs hl
  have hxv : isExv v = false := shp_xv hs
  have it : iEnum (esCons (eVar 0) esNil) [some v, some (.fn j), some (.int m), none, none] S = .ok (enumL ds) S := by
    unfold iEnum
    rcases hv with rfl | rfl <;> simp? only [hxv]
  have row : d_is_row [v] S = .ok (.bl true) S := by
    rcases hv with rfl | rfl
    · exact is_row_tup
    · exact is_row_lst
  have len : dLen [v] S = some (.int (ds.length : Nat), S) := by
    rcases hv with rfl | rfl <;> rfl
  cases hb : firstBad t ds with
  | some i =>
    have lp := lp.1 i hb
    refine fn_exc (b := b_want_row) ?_ rfl
    rw [b_want_row_eq]
    simp? only [hxv, row, it, lp]
  | none =>
    obtain ⟨a, b, lp⟩ := lp.2 hb
    dsimp only
    by_cases hm : m < ds.length
    · rw [if_pos hm]
      refine fn_exc (b := b_want_row) ?_ rfl
      rw [b_want_row_eq]
      rcases hv with rfl | rfl <;> simp? only [hxv, row, it, lp, hm, sRaise]
    · rw [if_neg hm]
      refine fn_same (b := b_want_row) ?_ (shp_below (frzD_shp hs))
      rw [b_want_row_eq]
      rcases hv with rfl | rfl <;> simp? only [hxv, row, it, lp, hm, fz]
theorem want_row_non {j : Nat} {m : Int} : d_want_row [.non, .fn j, .int m] S = .exc 2 [("index", .non)] S := by
  refine fn_exc (b := b_want_row) ?_ rfl
  rw [b_want_row_eq]
  simp? only [is_row_non, sRaise]
theorem firstBad_none {t : Da → Bool} {ds : List Da} (h : ∀ d ∈ ds, t d = true) : firstBad t ds = none := by
  unfold firstBad
  rw [List.find?_eq_none]
  intro i hi
  rw [List.mem_range] at hi
  rw [List.getD_eq_getElem?_getD, List.getElem?_eq_getElem hi, Option.getD_some, h _ (List.getElem_mem hi)]
  decide
theorem firstBad_app {t : Da → Bool} {ds : List Da} {bad : Da} (h : ∀ d ∈ ds, t d = true) (hb : t bad = false) : firstBad t (ds ++ [bad]) = some ds.length := by
  unfold firstBad
  rw [List.length_append, List.length_singleton, List.range_succ, List.find?_append]
  have a : (List.range ds.length).find? (fun i => !t ((ds ++ [bad]).getD i .non)) = none := by
    rw [List.find?_eq_none]
    intro i hi
    rw [List.mem_range] at hi
    rw [List.getD_eq_getElem?_getD, List.getElem?_append_left hi, List.getElem?_eq_getElem hi, Option.getD_some, h _ (List.getElem_mem hi)]
    decide
  rw [a, Option.none_or]
  have e : (ds ++ [bad]).getD ds.length .non = bad := by
    rw [List.getD_eq_getElem?_getD, List.getElem?_append_right (Nat.le_refl _), Nat.sub_self]; rfl
  simp only [List.find?_cons, e, hb, Bool.not_false]
end
section
variable {S : Sto}
theorem mixed_spec {r : Nat} {ns : List Int} {v : Da} {ds : List Da} (h : RowOk S r ns) (hv : v = .lst ds ∨ v = .tup ds) (hb : belowDs S.length ds = true) :
    ∃ c S2, d__law_mixed [.ref r, v] S = .ok (rowOf c ds) S2 ∧ RowOk S2 r ns ∧ OnlyAt r S S2 := by
  obtain ⟨x, S2, e, x0, x2, h2, o⟩ := taken_spec (m := 2) h (by decide) (by decide)
  refine ⟨x == 0, S2, fn_row0 (b := b__law_mixed) ?_ o h2 (by rw [below_row]; exact hb), h2, o⟩
  rw [b__law_mixed_eq]
  unfold rowOf
  cases q : x == 0 with
  | true => rcases hv with rfl | rfl <;> simp? only [e, q, dListOf, dTupleOf, seqOf]
  | false => rcases hv with rfl | rfl <;> simp? only [e, q, dListOf, dTupleOf, seqOf]
end
section
variable {S : Sto}
theorem pick_spec {r : Nat} {ns : List Int} {ds : List Da} (h : RowOk S r ns) (h0 : ds ≠ []) (hl : ds.length ≤ 1000) (hb : belowDs S.length ds = true) :
    ∃ d S2, d__law_pick [.ref r, .lst ds] S = .ok d S2 ∧ d ∈ ds ∧ RowOk S2 r ns ∧ OnlyAt r S S2 := by
  have pos : 0 < ds.length := List.length_pos_iff.mpr h0
  obtain ⟨x, S2, e, x0, x2, h2, o⟩ := taken_spec (m := (ds.length : Int)) h (by omega) (by omega)
  have hx : x.toNat < ds.length := by omega
  have a : atI ds x = some ds[x.toNat] := by
    have z := atI_nat (List.getElem?_eq_getElem hx)
    rw [show ((x.toNat : Nat) : Int) = x by omega] at z
    exact z
  have hm := List.getElem_mem hx
  refine ⟨ds[x.toNat], S2, fn_row0 (b := b__law_pick) ?_ o h2 (belowDs_mem hb hm), hm, h2, o⟩
  rw [b__law_pick_eq]
  simp? only [e, a]
end
section
variable {S : Sto}
theorem blsOf_true {α : Type} : ∀ L : List α, blsOf (L.map fun _ => Da.bl true) = some (L.map fun _ => true)
  | [] => rfl
  | x :: L => by simp only [List.map_cons, blsOf, blsOf_true L, Option.map_some]
theorem is_name_ok {l : Nm} (h : NmOk l) : d_is_name [.str (nmS l)] S = .ok (.bl true) S := fn_same (b := b_is_name) (by
  have h1 := h.pos
  have h2 := h.len
  have e0 := nmS_ix l 0 (by omega) (by omega)
  have il := in_let (l.getD (0 : Int).toNat 0)
  rw [decide_eq_true (show (l.getD (0 : Int).toNat 0).val < 26 from h.hd)] at il
  have c : eComp [1] (iVal (eVar 0)) (.name 1) tYesD (eOr (eOp2 dIn (eVar 1) (eC (.str "abcdefghijklmnopqrstuvwxyz"))) ((eOp2 dIn (eVar 1) (eC (.str "0123456789"))))) [some (.str (nmS l)), none] S = .ok (.lst (l.map fun _ => Da.bl true)) S := by
    refine eComp_m (emb := fun k => Da.str ⟨#[code k]⟩) l ?_ (by omega) fun k hk => ⟨[some (.str (nmS l)), some (.str ⟨#[code k]⟩)], rfl, ?_⟩
    · unfold iVal
      simp? only [items]
      show Rs.ok ((l.map code).map fun c => Da.str ⟨#[c]⟩) S = _
      rw [List.map_map]; rfl
    · have a := in_let k
      have b := in_fig k
      unfold LET at a
      unfold FIG at b
      by_cases z : k.val < 26
      · rw [decide_eq_true z] at a
        simp? only [dIn, inSeq, a]
      · rw [decide_eq_false z] at a b
        simp? only [dIn, inSeq, a, b]
  have ch : eChain dLe dLe (eC (.int 1)) (eOpN dLen (esCons (eVar 0) esNil)) (eC (.int 12)) [some (.str (nmS l)), none] S = .ok (.bl true) S := by
    have zs : l.length ≤ sizeLine := by rw [sizeLine_eq]; omega
    unfold eChain
    simp? only [nmS_len, zs, show (1 : Int) ≤ l.length by omega, show (l.length : Int) ≤ 12 by omega]
  have zl : (nmS l).length ≤ sizeLine := by rw [nmS_len, sizeLine_eq]; omega
  have da : dAll [.lst (l.map fun _ => Da.bl true)] S = some (.bl true, S) := by
    unfold dAll listOf
    simp only [drf, Option.bind_some, blsOf_true, Option.map_some, List.all_map, Function.comp_def, id, List.all_eq_true, implies_true]
    simp
  unfold LET at il
  rw [b_is_name_eq]
  simp? only [dIsi, ch, e0, zl, dNotIn, inSeq, il, c, da]) rfl
theorem is_name_non : d_is_name [.non] S = .ok (.bl false) S := fn_same (b := b_is_name) (by rw [b_is_name_eq]; simp? only [dIsi]) rfl
theorem is_name_int {i : Int} : d_is_name [.int i] S = .ok (.bl false) S := fn_same (b := b_is_name) (by rw [b_is_name_eq]; simp? only [dIsi]) rfl
theorem is_name_nil : d_is_name [.str ""] S = .ok (.bl false) S := fn_same (b := b_is_name) (by
  rw [b_is_name_eq]
  have ch : eChain dLe dLe (eC (.int 1)) (eOpN dLen (esCons (eVar 0) esNil)) (eC (.int 12)) [some (.str (Str.ofString "")), none] S = .ok (.bl false) S := by
    unfold eChain
    simp? only [show (Str.ofString "").length = 0 from by decide +kernel]
  simp? only [dIsi, ch]) rfl
theorem is_name_A : d_is_name [.str "A"] S = .ok (.bl false) S := fn_same (b := b_is_name) (by
  rw [b_is_name_eq]
  have ch : eChain dLe dLe (eC (.int 1)) (eOpN dLen (esCons (eVar 0) esNil)) (eC (.int 12)) [some (.str (Str.ofString "A")), none] S = .ok (.bl true) S := by
    unfold eChain
    simp? only [show (Str.ofString "A").length = 1 from by decide +kernel, show (1 : Nat) ≤ sizeLine from by rw [sizeLine_eq]; decide]
  have a0 : atI (Str.ofString "A").cps.toList 0 = some 65 := by decide +kernel
  have zl : (Str.ofString "A").length ≤ sizeLine := by rw [sizeLine_eq]; decide +kernel
  have oc : (Builtin.Str.occurrences (Str.ofString "abcdefghijklmnopqrstuvwxyz") ⟨#[65]⟩ 0 (Str.ofString "abcdefghijklmnopqrstuvwxyz").length 1).isEmpty = true := by decide +kernel
  simp? only [dIsi, ch, a0, zl, dNotIn, inSeq, oc]) rfl
end
section
variable {S : Sto}
theorem sgn_at {v : Int} (h0 : 0 ≤ v) (h : v < 36) : ∃ k : Fin 36, atI (Str.ofString "abcdefghijklmnopqrstuvwxyz0123456789").cps.toList v = some (code k) ∧ (k.val : Int) = v := by
  refine ⟨⟨v.toNat, by omega⟩, ?_, by dsimp only; omega⟩
  have e := sgn_ix ⟨v.toNat, by omega⟩
  dsimp only at e
  rw [show ((v.toNat : Nat) : Int) = v by omega] at e
  exact e
theorem nm_one (k : Fin 36) : (⟨#[code k]⟩ : Str) = nmS [k] := rfl
theorem name_loop {x1 x2 : Option Da} {r : Nat} {ns : List Int} {S0 : Sto} {n : Nat} : ∀ (ds : List Da) (i : Nat) (x4 : Option Da) (l : Nm) (S : Sto), RowOk S r ns → OnlyAt r S0 S → l.length = i → i + ds.length ≤ 12 → 0 < i →
    ∃ (l2 : Nm) (y4 : Option Da) (S2 : Sto), forL (.name 4) b__law_name_4_1 ds [some (.ref r), some (.str "abcdefghijklmnopqrstuvwxyz0123456789"), x2, some (.str (nmS l)), x4] S = .nx [some (.ref r), some (.str "abcdefghijklmnopqrstuvwxyz0123456789"), x2, some (.str (nmS l2)), y4] S2 ∧ RowOk S2 r ns ∧ OnlyAt r S0 S2 ∧ l2.length ≤ 12 ∧ 0 < l2.length ∧ l2.getD 0 0 = l.getD 0 0
  | [], i, x4, l, S, h, o, hl, hi, h0 => ⟨l, x4, S, rfl, h, o, by simp at hi; omega, by omega, rfl⟩
  | d :: ds, i, x4, l, S, h, o, hl, hi, h0 => by
    obtain ⟨v, S1, e, v0, v1, h1, o1⟩ := taken_spec (m := 36) h (by decide) (by decide)
    obtain ⟨k, ek, _⟩ := sgn_at v0 v1
    have hi2 : i + 1 + ds.length ≤ 12 := by rw [List.length_cons] at hi; omega
    obtain ⟨l2, y4, S2, e2, h2, o2, a, b, c⟩ := name_loop (x1 := x1) (x2 := x2) (n := n) ds (i + 1) (some d) (l ++ [k]) S1 h1 (o.trans o1) (by simp [hl]) hi2 (by omega)
    refine ⟨l2, y4, S2, ?_, h2, o2, a, b, ?_⟩
    · refine (forL_cons (ε1 := [some (.ref r), some (.str "abcdefghijklmnopqrstuvwxyz0123456789"), x2, some (.str (nmS l)), some d]) rfl ?_).trans e2
      have zl : (Str.ofString "abcdefghijklmnopqrstuvwxyz0123456789").length ≤ sizeLine := sgn_len
      have z1 : (nmS l).length + (⟨#[code k]⟩ : Str).length ≤ sizeLine := by rw [nm_one, nmS_len, nmS_len, sizeLine_eq, hl]; simp; omega
      unfold b__law_name_4_1
      simp? only [e, zl, ek, z1]
      rw [nm_one, nmS_app]
    · rw [c]
      cases l with
      | nil => simp at hl; omega
      | cons x l => rfl
theorem name_spec {r : Nat} {ns : List Int} (h : RowOk S r ns) : ∃ (l : Nm) (S2 : Sto), d__law_name [.ref r] S = .ok (.str (nmS l)) S2 ∧ NmOk l ∧ RowOk S2 r ns ∧ OnlyAt r S S2 := by
  obtain ⟨d, S1, e1, hd, h1, o1⟩ := pick_spec (ds := [.int 1, .int 1, .int 2, .int 3, .int 5, .int 12]) h (by simp) (by simp) (by rfl)
  obtain ⟨s, rfl, s1, s2⟩ : ∃ s : Int, d = .int s ∧ 1 ≤ s ∧ s ≤ 12 := by
    simp only [List.mem_cons, List.not_mem_nil, or_false] at hd
    rcases hd with rfl | rfl | rfl | rfl | rfl | rfl <;> exact ⟨_, rfl, by decide, by decide⟩
  obtain ⟨v, S2, e2, v0, v1, h2, o2⟩ := taken_spec (m := 26) h1 (by decide) (by decide)
  obtain ⟨k, ek, kv⟩ := sgn_at v0 (by omega)
  obtain ⟨l2, y4, S3, e3, h3, o3, a, b, c⟩ := name_loop (x1 := none) (x2 := some (.int s)) (n := 0) (rng 0 (s - 1)) 1 none [k] S2 h2 (o1.trans o2) rfl (by rw [rng_whl, List.length_map, len_whl]; omega) (by decide)
  refine ⟨l2, S3, fn_row0 (b := b__law_name) ?_ o3 h3 rfl, ⟨b, a, ?_⟩, h3, o3⟩
  · have zl : (Str.ofString "abcdefghijklmnopqrstuvwxyz0123456789").length ≤ sizeLine := sgn_len
    rw [b__law_name_eq]
    simp only [b__law_name_4_1, eOp2, eVar] at e3
    unfold iRange1
    simp? only [e1, e2, zl, ek, nm_one, inW_62 (i := s - 1) (by omega) (by omega)]
    simp? only [e3]
  · rw [c]
    show k.val < 26
    omega
end
section
variable {S : Sto}
def spareF (l : Nm) : List Nm := l :: (List.range 100).map fun t => l.take 9 ++ digs t
theorem spare_ok {l : Nm} (h : NmOk l) : ∀ m ∈ spareF l, NmOk m := fun m hm => by
  rcases List.mem_cons.mp hm with rfl | hm
  · exact h
  · obtain ⟨t, ht, rfl⟩ := List.mem_map.mp hm
    have dl := (digs_len t).2 (List.mem_range.mp ht)
    have := h.pos
    refine ⟨by rw [List.length_append, List.length_take]; omega, by rw [List.length_append, List.length_take]; omega, ?_⟩
    have hd := h.hd
    cases l with
    | nil => simp at this
    | cons x l => exact hd
theorem spare_fresh {l : Nm} {M : List Nm} (hM : M.length < 100) : ∃ x, ((spareF l).filter fun y => !decide (y ∈ M)).head? = some x ∧ x ∈ spareF l ∧ x ∉ M := by
  have nd : ((List.range 100).map fun t => l.take 9 ++ digs t).Nodup := by
    rw [List.nodup_iff_pairwise_ne, List.pairwise_map]
    refine (List.pairwise_lt_range (n := 100)).imp_of_mem fun {a b} ha hb lt z => ?_
    have e := List.append_cancel_left z
    rw [List.mem_range] at ha hb
    have := digs_inj ⟨a, by omega⟩ ⟨b, by omega⟩ e
    simp only [Fin.mk.injEq] at this
    omega
  obtain ⟨y, _, hy, hn⟩ := fresh_one (M := M) nd (by rw [List.length_map, List.length_range]; exact hM)
  cases e : (spareF l).filter fun y => !decide (y ∈ M) with
  | nil =>
    rw [List.filter_eq_nil_iff] at e
    have := e y (List.mem_cons_of_mem _ hy)
    simp [hn] at this
  | cons x r =>
    have hx : x ∈ (spareF l).filter fun y => !decide (y ∈ M) := by rw [e]; exact List.mem_cons_self
    rw [List.mem_filter] at hx
    exact ⟨x, rfl, hx.1, by simpa using hx.2⟩
abbrev nmsEnv (r : Nat) (many : Int) (q x3 x4 x5 x6 x7 : Option Da) : Env := [some (.ref r), some (.int many), q, x3, x4, x5, x6, x7]
theorem names_step {r : Nat} {ns : List Int} {many : Int} {x3 x4 x5 x6 x7 : Option Da} {S : Sto} {n : Nat} {M : List Nm} (h : RowOk S r ns) (hr : r ≠ n) (hn : n < S.length) (hS : S[n]? = some (.lst (M.map nmD))) (hM : M.length < 100) :
    ∃ (m : Nm) (y4 y5 : Option Da) (S2 : Sto), sSeq b__law_names_2_1 (sSeq b__law_names_2_2 b__law_names_2_3) (nmsEnv r many (some (.ref n)) x3 x4 x5 x6 x7) S = .nx (nmsEnv r many (some (.ref n)) x3 y4 y5 x6 x7) (S2.set n (.lst ((M ++ [m]).map nmD))) ∧ NmOk m ∧ m ∉ M ∧ RowOk S2 r ns ∧ OnlyAt r S S2 := by
  obtain ⟨l, S2, e1, lo, h2, o2⟩ := name_spec (S := S) h
  have hS2 : S2[n]? = some (.lst (M.map nmD)) := (o2.old n (Ne.symm hr)).trans hS
  have c1 : eComp [6] (iRange1 (esCons (eC (.int 100)) esNil)) (.name 6) tYesD (eOp2 dAdd (eSl (eVar 4) eoNone (eoSome (eC (.int 9)))) (eOpN dStr (esCons (eVar 6) esNil))) (nmsEnv r many (some (.ref n)) x3 (some (.str (nmS l))) x5 x6 x7) S2 = .ok (.lst (((List.range 100).map fun t => l.take 9 ++ digs t).map nmD)) S2 := by
    rw [List.map_map]
    refine eComp_m (emb := fun t : Nat => Da.int (0 + (t : Nat))) (List.range 100) ?_ (by simp) fun t ht => ⟨nmsEnv r many (some (.ref n)) x3 (some (.str (nmS l))) x5 (some (.int (0 + (t : Nat)))) x7, rfl, ?_⟩
    · unfold iRange1
      simp? only [inW_62 (i := 100) (by omega) (by omega)]
      rfl
    · have ht := List.mem_range.mp ht
      have ds := dStr_t (t := 0 + (t : Nat)) (S := S2) (by omega) (by omega)
      rw [show (0 + (t : Int)).toNat = t by omega] at ds
      have cu := nmS_cut l 9 (by decide)
      have dl := (digs_len t).1
      have z1 : (nmS (l.take 9)).length + (nmS (digs t)).length ≤ sizeLine := by rw [nmS_len, nmS_len, List.length_take, sizeLine_eq]; omega
      have z2 : (nmS l).length ≤ sizeLine := by have := lo.len; rw [nmS_len, sizeLine_eq]; omega
      rw [show (9 : Int).toNat = 9 from rfl] at cu
      unfold eSl eoNone eoSome
      simp? only [dSl, z2, cu, ds, z1]
      rw [nmS_app]
      rfl
  obtain ⟨m, hm, ms, mn⟩ := spare_fresh (l := l) hM
  have c2 : eComp [7] (iVal (eVar 5)) (.name 7) (tBl (eOp2 dNotIn (eVar 7) (eVar 2))) (eVar 7) (nmsEnv r many (some (.ref n)) x3 (some (.str (nmS l))) (some (.lst ((spareF l).map nmD))) x6 x7) S2 = .ok (.lst (((spareF l).filter fun y => !decide (y ∈ M)).map nmD)) S2 := by
    refine eComp_t (emb := nmD) (spareF l) ?_ (by simp [spareF]) fun y hy => ⟨nmsEnv r many (some (.ref n)) x3 (some (.str (nmS l))) (some (.lst ((spareF l).map nmD))) x6 (some (nmD y)), rfl, ?_, fun _ => ?_⟩
    · unfold iVal
      simp? only [items]
    · have q := inSeq_l (S := S2) (l := y) (ls := M) (x := .ref n) (by simp only [drf, hS2])
      simp? only [dNotIn, q]
    · simp? only []
  have a0 : atI (((spareF l).filter fun y => !decide (y ∈ M)).map nmD) 0 = some (nmD m) := head_at hm
  refine ⟨m, some (.str (nmS l)), some (.lst ((spareF l).map nmD)), S2, ?_, spare_ok lo m ms, mn, h2, o2⟩
  have sp : (spareF l).map nmD = .str (nmS l) :: ((List.range 100).map fun t => l.take 9 ++ digs t).map nmD := rfl
  have sl : (1 : Nat) + 100 ≤ sizeLine := by rw [sizeLine_eq]; decide
  have n2 : n < S2.length := by rw [o2.len]; exact hn
  unfold b__law_names_2_1 b__law_names_2_2 b__law_names_2_3
  rw [sp] at c2
  simp? only [e1, c1, List.length_map, List.length_range, sl]
  simp? only [c2, a0, eBM, isLst, hS2, dAppend, List.length_map, List.map_append]
  rw [if_pos (by rw [sizeLine_eq]; omega)]
  rfl
theorem names_spec {r : Nat} {ns : List Int} {many : Nat} (h : RowOk S r ns) (hm : many ≤ 90) : ∃ (M : List Nm) (S2 : Sto), d__law_names [.ref r, .int (many : Int)] S = .ok (.lst (M.map nmD)) S2 ∧ M.length = many ∧ (∀ m ∈ M, NmOk m) ∧ M.Nodup ∧ RowOk S2 r ns ∧ OnlyAt r S S2 := by
  have hr : r < S.length := by obtain ⟨i, s, p, e, _⟩ := h.ex; exact (List.getElem?_eq_some_iff.mp e).1
  have main := forL_ex (g := .name 3) (b := sSeq b__law_names_2_1 (sSeq b__law_names_2_2 b__law_names_2_3)) (fun i ε S2 => ∃ (M : List Nm) (x3 x4 x5 : Option Da) (S1 : Sto), ε = nmsEnv r many (some (.ref S.length)) x3 x4 x5 none none ∧ S2 = S1 ++ [.lst (M.map nmD)] ∧ M.length = i ∧ (∀ m ∈ M, NmOk m) ∧ M.Nodup ∧ RowOk S1 r ns ∧ OnlyAt r S S1) (rng 0 many) 0
    (nmsEnv r many (some (.ref S.length)) none none none none none) (S ++ [.lst []]) ⟨[], none, none, none, S, rfl, rfl, rfl, fun m hm => (nomatch hm), List.nodup_nil, h, OnlyAt.refl _ _⟩ fun i d ε S2 _ hd hI => by
    obtain ⟨M, x3, x4, x5, S1, rfl, rfl, ml, mo, md, h1, o1⟩ := hI
    have hi : i < many := by
      have := (List.getElem?_eq_some_iff.mp hd).1
      rw [rng_whl, List.length_map, len_whl] at this; omega
    have l1 : S1.length = S.length := o1.len
    obtain ⟨m, y4, y5, S2, e, mk, mn, h2, o2⟩ := names_step (many := many) (x3 := some d) (x4 := x4) (x5 := x5) (x6 := none) (x7 := none) (S := S1 ++ [.lst (M.map nmD)]) (n := S.length) (M := M) (h1.app) (by omega) (by simp [l1]) (by rw [← l1]; exact app_get) (by omega)
    have l2 : S2.length = S.length + 1 := by rw [o2.len, List.length_append, l1]; rfl
    have sp : ∃ S3, S2.set S.length (.lst ((M ++ [m]).map nmD)) = S3 ++ [.lst ((M ++ [m]).map nmD)] ∧ RowOk S3 r ns ∧ OnlyAt r S1 S3 := by
      refine ⟨S2.take S.length, ?_, ?_, ?_⟩
      · rw [List.set_eq_take_append_cons_drop, if_pos (by omega), List.drop_eq_nil_of_le (by omega)]
      · obtain ⟨i, s, p, e, a, b, c⟩ := h2.ex
        exact ⟨i, s, p, by rw [List.getElem?_take_of_lt hr]; exact e, a, b, c⟩
      · refine ⟨by rw [List.length_take, l1]; omega, fun j hj => ?_⟩
        by_cases z : j < S.length
        · rw [List.getElem?_take_of_lt z, o2.old j hj, List.getElem?_append_left (by omega)]
        · rw [List.getElem?_eq_none (by rw [List.length_take]; omega), List.getElem?_eq_none (by omega)]
    obtain ⟨S3, e3, h3, o3⟩ := sp
    refine ⟨nmsEnv r many (some (.ref S.length)) (some d) x4 x5 none none, nmsEnv r many (some (.ref S.length)) (some d) y4 y5 none none, S3 ++ [.lst ((M ++ [m]).map nmD)], rfl, by rw [← e3]; exact e, M ++ [m], some d, y4, y5, S3, rfl, rfl, by simp [ml], fun z hz => ?_, ?_, h3, o1.trans o3⟩
    · rcases List.mem_append.mp hz with q | q
      · exact mo z q
      · have : z = m := by simpa using q
        subst this; exact mk
    · rw [List.nodup_append]
      exact ⟨md, by simp, fun a ha b hb z => by
        have : b = m := by simpa using hb
        subst this; subst z; exact mn ha⟩
  obtain ⟨ε2, S2, lp, M, x3, x4, x5, S1, rfl, rfl, ml, mo, md, h1, o1⟩ := main
  have l1 : S1.length = S.length := o1.len
  refine ⟨M, S1, fn_row (b := b__law_names) (X := [.gone]) ?_ o1 h1 ?_, by rw [ml, rng_whl, List.length_map, len_whl]; omega, mo, md, h1, o1⟩
  · rw [b__law_names_eq]
    have fz : (S1 ++ [Ob.lst (M.map nmD)])[S.length]? = some (.lst (M.map nmD)) := by rw [← l1]; exact app_get
    have fs : (S1 ++ [Ob.lst (M.map nmD)]).set S.length .gone = S1 ++ [.gone] := by rw [← l1]; exact app_set
    simp only [b__law_names_2_1, b__law_names_2_2, b__law_names_2_3] at lp
    have ri : iRange1 (esCons (eVar 1) esNil) (nmsEnv r many (some (.ref S.length)) none none none none none) (S ++ [.lst []]) = .ok (rng 0 many) (S ++ [.lst []]) := by
      unfold iRange1
      simp? only [inW_62 (i := (many : Int)) (by omega) (by omega)]
    unfold eFrz
    simp? only [ri, lp, fz, fs]
  · have : ∀ M : List Nm, belowDs S.length (M.map nmD) = true := fun M => by
      induction M with
      | nil => rfl
      | cons m M ih => simp only [List.map_cons, belowDs, Bool.and_eq_true]; exact ⟨rfl, ih⟩
    exact this M
end
open PySem PySem.Spec PyProof.Rows L2
open Qk21
abbrev Spn := Nm × Int × Int
abbrev spD (p : Spn) : Da := .tup [nmD p.1, .int p.2.1, .int p.2.2]
abbrev sps (P : List Spn) : Da := .tup (P.map spD)
abbrev objN (P : List Spn) : Da := .ins 4 [("spans", sps P)]
theorem sp_fld {d : Da} : List.lookup (Str.ofString "spans") [(Str.ofString "spans", d)] = some d := lk_hit
theorem spA {x y z : Da} : atI [x, y, z] 2 = some z := rfl
def inB (p : Spn) (t : Int) : Bool := decide (p.2.1 ≤ t ∧ t ≤ p.2.2)
structure SpOk (p : Spn) : Prop where
  nm : NmOk p.1
  a : 0 ≤ p.2.1 ∧ p.2.1 ≤ 9999
  b : p.2.1 ≤ p.2.2 ∧ p.2.2 ≤ 9999
structure GN (P : List Spn) : Prop where
  ok : ∀ p ∈ P, SpOk p
  len : P.length ≤ 30
theorem shp_sp (n : Nat) (h : 1 ≤ n) (p : Spn) : shp n (spD p) = true := by
  have := shp_nm 0 p.1
  simp only [nmD, shp] at this
  simp only [shp, shps, Bool.and_eq_true, decide_eq_true_eq]
  exact ⟨by omega, this, trivial, trivial, trivial⟩
theorem shps_sp (n : Nat) (h : 1 ≤ n) : ∀ P : List Spn, shps n (P.map spD) = true
  | [] => rfl
  | p :: P => by simp only [List.map_cons, shps, Bool.and_eq_true]; exact ⟨shp_sp n h p, shps_sp n h P⟩
theorem shp_sps (n : Nat) (h : 2 ≤ n) (P : List Spn) : shp n (sps P) = true := by
  show (decide (0 < n) && shps (n - 1) (P.map spD)) = true
  rw [shps_sp _ (by omega)]; simp; omega
theorem shrt_sps : ∀ P : List Spn, shrts (P.map spD) = true
  | [] => rfl
  | p :: P => by
    have : shrt (spD p) = true := by simp [shrt, shrts]
    simp only [List.map_cons, shrts, this, shrt_sps P, Bool.and_self]
section
variable {S : Sto} {P : List Spn}
/-! ### is_span -/
def spanB : Da → Bool
  | .tup [.str s, .int a, .int b] => !decide (s = "") && (decide (0 ≤ a ∧ a ≤ 9999) && decide (a ≤ b ∧ b ≤ 9999))
  | .lst [.str s, .int a, .int b] => !decide (s = "") && (decide (0 ≤ a ∧ a ≤ 9999) && decide (a ≤ b ∧ b ≤ 9999))
  | _ => false
inductive SpArg : Da → Prop
  | t (l : Nm) (h : NmOk l) (a b : Int) : SpArg (.tup [nmD l, .int a, .int b])
  | l (l : Nm) (h : NmOk l) (a b : Int) : SpArg (.lst [nmD l, .int a, .int b])
  | e : SpArg (.tup [.str "", .int 1, .int 2])
  | two : SpArg (.tup [nmD [0], .int 1])
  | non : SpArg .non
  | bl : SpArg (.tup [nmD [0], .bl true, .int 2])
theorem sp_t {l : Nm} (h : NmOk l) {a b : Int} : d_is_span [.tup [nmD l, .int a, .int b]] S = .ok (.bl (decide (0 ≤ a ∧ a ≤ 9999) && decide (a ≤ b ∧ b ≤ 9999))) S := fn_same (b := b_is_span) (by
  have nm := is_name_ok (S := S) h
  rw [b_is_span_eq]
  by_cases h1 : 0 ≤ a ∧ a ≤ 9999
  · dsimp? only [is_row_tup, nm, is_number_int, h1, spA]
  · dsimp? only [is_row_tup, nm, is_number_int, h1, spA]) rfl
theorem sp_l {l : Nm} (h : NmOk l) {a b : Int} : d_is_span [.lst [nmD l, .int a, .int b]] S = .ok (.bl (decide (0 ≤ a ∧ a ≤ 9999) && decide (a ≤ b ∧ b ≤ 9999))) S := fn_same (b := b_is_span) (by
  have nm := is_name_ok (S := S) h
  rw [b_is_span_eq]
  by_cases h1 : 0 ≤ a ∧ a ≤ 9999
  · dsimp? only [is_row_lst, nm, is_number_int, h1, spA]
  · dsimp? only [is_row_lst, nm, is_number_int, h1, spA]) rfl
theorem span_arg {d : Da} (h : SpArg d) : d_is_span [d] S = .ok (.bl (spanB d)) S := by
  cases h with
  | t l h a b =>
    show _ = Rs.ok (Da.bl (!decide (nmS l = Str.ofString "") && _)) S
    rw [nm_ne h, Bool.not_false, Bool.true_and]
    exact sp_t h
  | l l h a b =>
    show _ = Rs.ok (Da.bl (!decide (nmS l = Str.ofString "") && _)) S
    rw [nm_ne h, Bool.not_false, Bool.true_and]
    exact sp_l h
  | e =>
    rw [show spanB (.tup [.str "", .int 1, .int 2]) = false from by simp [spanB]]
    exact fn_same (b := b_is_span) (by
      rw [b_is_span_eq]
      dsimp? only [is_row_tup, is_name_nil]) rfl
  | two =>
    rw [show spanB (.tup [nmD [0], .int 1]) = false from by rfl]
    exact fn_same (b := b_is_span) (by
      rw [b_is_span_eq]
      dsimp? only [is_row_tup, show ((2 : Int) == 3) = false from rfl]) rfl
  | non =>
    exact fn_same (b := b_is_span) (by
      rw [b_is_span_eq]
      dsimp? only [is_row_non, spanB]) rfl
  | bl =>
    rw [show spanB (.tup [nmD [0], .bl true, .int 2]) = false from by rfl]
    exact fn_same (b := b_is_span) (by
      have nm := is_name_ok (S := S) a_ok
      rw [b_is_span_eq]
      dsimp? only [is_row_tup, nm, is_number_bl]) rfl
theorem spArg_shp {d : Da} (h : SpArg d) : shp 1 d = true ∧ shrt d = true := by
  cases h with
  | t l h a b => have := nmS_shp 0 l; simp only [shp] at this; simp [shp, shps, shrt, shrts]; simpa using this
  | l l h a b => have := nmS_shp 0 l; simp only [shp] at this; simp [shp, shps, shrt, shrts]; simpa using this
  | e => decide +kernel
  | two => decide +kernel
  | non => exact ⟨rfl, rfl⟩
  | bl => decide +kernel
theorem shps_arg : ∀ {ds : List Da}, (∀ d ∈ ds, SpArg d) → shps 1 ds = true ∧ shrts ds = true
  | [], _ => ⟨rfl, rfl⟩
  | d :: ds, h => by
    obtain ⟨h1, h2⟩ := shps_arg (ds := ds) fun x hx => h x (List.mem_cons_of_mem _ hx)
    obtain ⟨h3, h4⟩ := spArg_shp (h d List.mem_cons_self)
    simp only [shps, shrts, h1, h2, h3, h4, Bool.and_self, and_self]
theorem rowOf_arg {c : Bool} {ds : List Da} (h : ∀ d ∈ ds, SpArg d) (hl : ds.length ≤ 1000) : shp 2 (rowOf c ds) = true ∧ shrt (rowOf c ds) = true := by
  obtain ⟨h1, h2⟩ := shps_arg h
  unfold rowOf
  split <;> (refine ⟨?_, ?_⟩ <;> simp [shp, shrt, h1, h2]) <;> omega
theorem want_spans {c : Bool} {ds : List Da} (h : ∀ d ∈ ds, SpArg d) (hl : ds.length ≤ 1000) (S : Sto) :
    d_want_row [rowOf c ds, .fn 0, .int 30] S = match firstBad spanB ds with
      | some i => .exc 2 [("index", .int (i : Nat))] S
      | none => if (30 : Int) < ds.length then .exc 3 [("limit", .int 30)] S else .ok (frzD (rowOf c ds)) S := by
  obtain ⟨h1, h2⟩ := rowOf_arg (c := c) h hl
  exact want_row_spec (t := spanB) (k := 2) rfl (by unfold rowOf; split <;> simp) (by decide) h1 h2 fun d hd => span_arg (h d hd)
/-! ### Needs(..) -/
noncomputable abbrev mkN (v : Da) (S : Sto) : Rs Da := mk1 4 d_Needs___init__ v S
theorem below_sps (n : Nat) : belowD n (sps P) = true := shp_below (n := 2) (shp_sps 2 (by decide) P)
theorem mkN_of {v : Da} (hx : isExv v = false) (hw : ∀ S, d_want_row [v, .fn 0, .int 30] S = .ok (sps P) S) : mkN v S = .ok (objN P) S := by
  refine mk1_ok (fs := [("spans", sps P)]) ?_ (by simp only [belowDf, below_sps, Bool.and_true])
  show runU 2 2 b_Needs___init__ [.ref S.length, v] (S ++ [.ins 4 []]) = _
  have put0 : ∀ d : Da, putFD (Str.ofString "spans") d [] = ([(Str.ofString "spans", d)] : List (Str × Da)) := fun _ => rfl
  rw [b_Needs___init___eq]
  dsimp? only [sFldSet, hx, hw, dFldSet, app_get, app_set', put0]
theorem mkN_exc {v : Da} {c : Nat} {fs : List (Str × Da)} (hb : ∀ n, belowDf n fs = true) (hx : isExv v = false) (hw : ∀ S, d_want_row [v, .fn 0, .int 30] S = .exc c fs S) : mkN v S = .exc c fs S := by
  refine mk1_exc (X := .ins 4 []) ?_ (hb _)
  show runU 2 2 b_Needs___init__ [.ref S.length, v] (S ++ [.ins 4 []]) = _
  rw [b_Needs___init___eq]
  dsimp? only [sFldSet, hx, hw]
def spr (q : Bool × Spn) : Da := if q.1 = true then .lst [nmD q.2.1, .int q.2.2.1, .int q.2.2.2] else spD q.2
theorem spr_frz (q : Bool × Spn) : frzD (spr q) = spD q.2 := by unfold spr; split <;> rfl
theorem spr_arg {q : Bool × Spn} (h : SpOk q.2) : SpArg (spr q) ∧ spanB (spr q) = true := by
  have z := nm_ne h.nm
  unfold spr
  split
  · refine ⟨.l _ h.nm _ _, ?_⟩
    simp only [spanB, nmD]
    rw [z]
    simp [h.a, h.b]
  · refine ⟨.t _ h.nm _ _, ?_⟩
    simp only [spanB, nmD]
    rw [z]
    simp [h.a, h.b]
theorem rowsN (c : Bool) (Q : List (Bool × Spn)) (h : ∀ q ∈ Q, SpOk q.2) (hl : Q.length ≤ 30) (S : Sto) : d_want_row [rowOf c (Q.map spr), .fn 0, .int 30] S = .ok (sps (Q.map (·.2))) S := by
  rw [want_spans (fun d hd => by obtain ⟨q, hq, rfl⟩ := List.mem_map.mp hd; exact (spr_arg (h q hq)).1) (by rw [List.length_map]; omega)]
  rw [firstBad_none fun d hd => by obtain ⟨q, hq, rfl⟩ := List.mem_map.mp hd; exact (spr_arg (h q hq)).2]
  dsimp only
  rw [List.length_map, if_neg (by omega)]
  have : frzD (rowOf c (Q.map spr)) = sps (Q.map (·.2)) := by
    have e : ∀ Q : List (Bool × Spn), frzDs (Q.map spr) = (Q.map (·.2)).map spD := fun Q => by
      induction Q with
      | nil => rfl
      | cons q Q ih => simp only [List.map_cons, frzDs, spr_frz, ih]
    unfold rowOf sps
    split <;> simp only [frzD, e]
  rw [this]
theorem mkN_ok (c : Bool) (Q : List (Bool × Spn)) (h : ∀ q ∈ Q, SpOk q.2) (hl : Q.length ≤ 30) : mkN (rowOf c (Q.map spr)) S = .ok (objN (Q.map (·.2))) S := mkN_of xv_row (rowsN c Q h hl)
theorem mkN_t (g : GN P) : mkN (sps P) S = .ok (objN P) S := by
  have z := mkN_ok (S := S) false (P.map fun p => (false, p)) (fun q hq => by
    obtain ⟨p, hp, rfl⟩ := List.mem_map.mp hq
    exact g.ok p hp) (by rw [List.length_map]; exact g.len)
  have e1 : (P.map fun p => (false, p)).map spr = P.map spD := by rw [List.map_map]; rfl
  have e2 : (P.map fun p => (false, p)).map (·.2) = P := by rw [List.map_map]; exact List.map_id' _
  rw [e1, e2] at z
  exact z
/-! ### == -/
theorem spD_inj {p q : Spn} (h : eqv (spD p) (spD q) = true) : p = q := by
  simp only [eqv, eqvs, Bool.and_eq_true, beq_iff_eq, and_true] at h
  obtain ⟨h1, h2, h3⟩ := h
  exact Prod.ext (nmS_inj h1) (Prod.ext h2 h3)
theorem eqvs_sp : ∀ P Q : List Spn, eqvs (P.map spD) (Q.map spD) = decide (P = Q)
  | [], [] => rfl
  | [], q :: Q => rfl
  | p :: P, [] => rfl
  | p :: P, q :: Q => by
    rw [List.map_cons, List.map_cons, eqvs, eqvs_sp P Q]
    by_cases e : p = q
    · subst e
      rw [shp_refl 1 _ (shp_sp 1 (by decide) p), Bool.true_and]
      exact decide_eq_decide.mpr (by simp)
    · have : eqv (spD p) (spD q) = false := by
        cases z : eqv (spD p) (spD q) with
        | false => rfl
        | true => exact absurd (spD_inj z) e
      rw [this, Bool.false_and]
      exact (decide_eq_false (by simp [e])).symm
theorem dEq_S {Q : List Spn} : dEq (sps P) (sps Q) S = some (.bl (decide (P = Q)), S) := by
  rw [dEq_shp (shp_sps 64 (by decide) P) (shp_sps 64 (by decide) Q)]
  show some (Da.bl (eqvs (P.map spD) (Q.map spD)), S) = _
  rw [eqvs_sp]
theorem eq_objN {Q : List Spn} : d_Needs___eq__ [objN P, objN Q] S = .ok (.bl (decide (P = Q))) S := fn_same (b := b_Needs___eq__) (by
  have e := dEq_S (S := S) (P := P) (Q := Q)
  rw [b_Needs___eq___eq]
  dsimp? only [sp_fld, dIsC, isIns, e]) rfl
end
open PySem PySem.Spec PyProof.Rows L2
open Qk21
section
variable {S : Sto} {P : List Spn} {L : List Int}
theorem shps_int (n : Nat) : ∀ ns : List Int, shps n (ns.map Da.int) = true := shps_ints n
theorem served_ok (hP : P.length ≤ 1000) (hL : L.length ≤ 1000) : d_Needs_is_served [objN P, .tup (L.map Da.int)] S = .ok (.bl (P.all fun p => L.any (inB p))) S := fn_same (b := b_Needs_is_served) (by
  rw [b_Needs_is_served_eq]
  dsimp? only []
  rw [eComp_m (emb := spD) (v := fun p => .bl (L.any (inB p))) P (by dsimp? only [sp_fld]) (by omega) fun p hp => ⟨_, rfl, by
    dsimp? only []
    rw [eComp_m (emb := Da.int) (v := fun t => .bl (inB p t)) L (by dsimp? only []) (by omega) fun t ht => ⟨_, rfl, by
      rw [chain_le (by dsimp? only []; rfl) (by dsimp? only []; rfl) (by dsimp? only [spA]; rfl)]; rfl⟩]
    dsimp? only [dAny_bl]⟩]
  dsimp? only [dAll_bl]) rfl
def meetB (p q : Spn) : Bool := decide (p.2.1 ≤ q.2.2) && decide (q.2.1 ≤ p.2.2)
theorem meet_ok {p q : Spn} : d_meet [spD p, spD q] S = .ok (.bl (meetB p q)) S := fn_same (b := b_meet) (by
  rw [b_meet_eq]
  unfold meetB
  by_cases h : p.2.1 ≤ q.2.2
  · dsimp? only [spA, h]
  · dsimp? only [spA, h]) rfl
/-! ### visits -/
abbrev kV (p : Spn) : List Int := [p.2.2, p.2.1]
def srtV (P : List Spn) : List Spn := P.mergeSort (leK kV)
def visS (acc : List Int) (p : Spn) : List Int := match acc.getLast? with
  | none => acc ++ [p.2.2]
  | some l => if l < p.2.1 then acc ++ [p.2.2] else acc
def visF (P : List Spn) : List Int := (srtV P).foldl visS []
theorem visS_len (acc : List Int) (p : Spn) : (visS acc p).length ≤ acc.length + 1 := by
  unfold visS
  split
  · simp
  · split <;> simp
theorem visits_ok (hP : P.length ≤ 1000) : d_Needs_visits [objN P] S = .ok (.tup ((visF P).map Da.int)) S := by
  have so := dSorted_rows (S := S ++ [.lst []]) (key := kV) (n := 2) (fun _ => rfl) (by decide) (L := P) (y := .lst (P.map fun p => .tup [.int p.2.2, .int p.2.1])) (by omega) rfl
  obtain ⟨ε2, S2, e, ⟨x2, x3, rfl⟩, rfl, hl⟩ := forL_acc (emb := fun p : Spn => Da.tup ((kV p).map Da.int)) (g := .tup [.name 2, .name 3]) (b := b_Needs_visits_2_1) (s := ([] : List Int)) (ε := [some (objN P), some (.ref S.length), none, none, none]) (S := S ++ [.lst []])
    (fun i acc ε S' => (∃ x2 x3, ε = [some (objN P), some (.ref S.length), x2, x3, none]) ∧ S' = S ++ [.lst (acc.map Da.int)] ∧ acc.length ≤ i) visS (srtV P) ⟨⟨_, _, rfl⟩, rfl, Nat.le_refl _⟩ fun i p acc ε S' hi hp ⟨⟨x2, x3, e1⟩, e2, hl⟩ => by
    subst e1; subst e2
    have il : (srtV P).length = P.length := List.length_mergeSort ..
    refine ⟨_, [some (objN P), some (.ref S.length), some (.int p.2.2), some (.int p.2.1), none], S ++ [.lst ((visS acc p).map Da.int)], rfl, ?_, ⟨_, _, rfl⟩, rfl, by have := visS_len acc p; omega⟩
    unfold b_Needs_visits_2_1 b_Needs_visits_2_1_1
    have sl : acc.length < sizeLine := by rw [sizeLine_eq]; omega
    cases hq : acc.getLast? with
    | none =>
      have := List.getLast?_eq_none_iff.mp hq
      subst this
      dsimp? only []
      rfl
    | some l =>
      have al : atI (acc.map Da.int) (-1) = some (.int l) := atI_last (by rw [List.getLast?_map, hq]; rfl)
      have ne : ((acc.length : Int) == 0) = false := by
        have : acc ≠ [] := by intro z; subst z; cases hq
        have := List.length_pos_iff.mpr this
        simp; omega
      unfold visS
      rw [hq]
      dsimp only
      by_cases c : l < p.2.1
      · dsimp? only [al, ne, c, sl, List.map_append]
      · dsimp? only [al, ne, c]
  refine fn_more (b := b_Needs_visits) (X := [.lst ((visF P).map Da.int)]) ?_ (by show belowDs _ _ = true; exact shps_below (n := 1) (shps_ints 1 _))
  unfold b_Needs_visits b_Needs_visits_1 b_Needs_visits_2 b_Needs_visits_3
  dsimp? only []
  rw [eComp_m (emb := spD) (v := fun p => .tup [.int p.2.2, .int p.2.1]) P (by dsimp? only [sp_fld]) (by omega) fun p hp => ⟨_, rfl, by dsimp? only [spA]⟩]
  dsimp? only [so]
  have e' : forL (.tup [.name 2, .name 3]) b_Needs_visits_2_1 ((P.mergeSort (leK kV)).map fun p => Da.tup ((kV p).map Da.int)) [some (objN P), some (.ref S.length), none, none, none] (S ++ [.lst []]) = _ := e
  simp only [List.map_cons, List.map_nil] at e'
  dsimp? only [e', dTup_r app_get]
  rfl
/-! ### paper -/
abbrev kP (q : Spn × Nat) : List Int := [q.1.2.2, q.1.2.1, (q.2 : Int)]
def srtP (P : List Spn) : List (Spn × Nat) := P.zipIdx.mergeSort (leK kP)
def papS (s : List Nat × Int) (q : Spn × Nat) : List Nat × Int := if s.2 < q.1.2.1 then (s.1 ++ [q.2], q.1.2.2) else s
def papF (P : List Spn) : List Nat := ((srtP P).foldl papS ([], -1)).1
abbrev natD (k : Nat) : Da := .int (k : Int)
theorem nat_ints (L : List Nat) : L.map natD = (L.map fun k : Nat => (k : Int)).map Da.int := by rw [List.map_map]; rfl
theorem shps_nat (n : Nat) (L : List Nat) : shps n (L.map natD) = true := by rw [nat_ints]; exact shps_ints _ _
theorem zip_len {α : Type} (L : List α) : L.zipIdx.length = L.length := List.length_zipIdx
abbrev zsD (q : Spn × Nat) : Da := .tup [.int (q.2 : Nat), spD q.1]
theorem paper_ok (hP : P.length ≤ 1000) : d_Needs_paper [objN P] S = .ok (.tup ((papF P).map natD)) S := by
  have so := dSorted_rows (S := S ++ [.lst []]) (key := kP) (n := 3) (fun _ => rfl) (by decide) (L := P.zipIdx) (y := .lst (P.zipIdx.map fun q => .tup [.int q.1.2.2, .int q.1.2.1, .int (q.2 : Nat)])) (by rw [zip_len]; omega) rfl
  obtain ⟨ε2, S2, e, ⟨x3, x4, x5, rfl⟩, rfl, hl⟩ := forL_acc (emb := fun q : Spn × Nat => Da.tup ((kP q).map Da.int)) (g := .tup [.name 3, .name 4, .name 5]) (b := b_Needs_paper_2_1) (s := (([], -1) : List Nat × Int)) (ε := [some (objN P), some (.ref S.length), some (.int (-1)), none, none, none, none]) (S := S ++ [.lst []])
    (fun i s ε S' => (∃ x3 x4 x5, ε = [some (objN P), some (.ref S.length), some (.int s.2), x3, x4, x5, none]) ∧ S' = S ++ [.lst (s.1.map natD)] ∧ s.1.length ≤ i) papS (srtP P) ⟨⟨_, _, _, rfl⟩, rfl, Nat.le_refl _⟩ fun i q s ε S' hi hp ⟨⟨x3, x4, x5, e1⟩, e2, hl⟩ => by
    subst e1; subst e2
    have il : (srtP P).length = P.length := by unfold srtP; rw [List.length_mergeSort, zip_len]
    have sl : s.1.length < sizeLine := by rw [sizeLine_eq]; omega
    refine ⟨_, [some (objN P), some (.ref S.length), some (.int (papS s q).2), some (.int q.1.2.2), some (.int q.1.2.1), some (.int (q.2 : Nat)), none], S ++ [.lst ((papS s q).1.map natD)], rfl, ?_, ⟨_, _, _, rfl⟩, rfl, by unfold papS; split <;> (try simp) <;> omega⟩
    unfold b_Needs_paper_2_1 b_Needs_paper_2_1_1 b_Needs_paper_2_1_2 papS
    by_cases c : s.2 < q.1.2.1
    · dsimp? only [c, sl, List.map_append]
    · dsimp? only [c]
  refine fn_more (b := b_Needs_paper) (X := [.lst ((papF P).map natD)]) ?_ (by show belowDs _ _ = true; exact shps_below (n := 1) (shps_nat 1 _))
  unfold b_Needs_paper b_Needs_paper_1 b_Needs_paper_2 b_Needs_paper_3
  dsimp? only []
  rw [eComp_m (emb := zsD) (v := fun q => .tup [.int q.1.2.2, .int q.1.2.1, .int (q.2 : Nat)]) P.zipIdx (by rw [iEnum_at (ds := P.map spD) (by dsimp? only []; rfl) (.inr rfl), enum_zip]) (by rw [zip_len]; omega) fun q hq => ⟨_, rfl, by dsimp? only [spA]⟩]
  dsimp? only [so]
  have e' : forL (.tup [.name 3, .name 4, .name 5]) b_Needs_paper_2_1 ((P.zipIdx.mergeSort (leK kP)).map fun p => Da.tup ((kP p).map Da.int)) [some (objN P), some (.ref S.length), some (.int (-1)), none, none, none, none] (S ++ [.lst []]) = _ := e
  simp only [List.map_cons, List.map_nil] at e'
  dsimp? only [e', dTup_r app_get]
  rfl
/-! ### unserved, served_by -/
def unsP (L : List Int) (q : Spn × Nat) : Bool := !(L.any (inB q.1))
def unsF (P : List Spn) (L : List Int) : List Nat := (P.zipIdx.filter (unsP L)).map (·.2)
theorem unserved_ok (hP : P.length ≤ 1000) (hL : L.length ≤ 1000) : d_Needs_unserved [objN P, .tup (L.map Da.int)] S = .ok (.tup ((unsF P L).map natD)) S := by
  obtain ⟨ε2, S2, e, ⟨x3, x4, rfl⟩, rfl, hl⟩ := forL_acc (emb := zsD) (g := .tup [.name 3, .name 4]) (b := b_Needs_unserved_2_1) (s := ([] : List Nat)) (ε := [some (objN P), some (.tup (L.map Da.int)), some (.ref S.length), none, none, none]) (S := S ++ [.lst []])
    (fun i acc ε S' => (∃ x3 x4, ε = [some (objN P), some (.tup (L.map Da.int)), some (.ref S.length), x3, x4, none]) ∧ S' = S ++ [.lst (acc.map natD)] ∧ acc.length ≤ i) (fun acc q => if unsP L q = true then acc ++ [q.2] else acc) P.zipIdx ⟨⟨_, _, rfl⟩, rfl, Nat.le_refl _⟩ fun i q acc ε S' hi hq ⟨⟨x3, x4, e1⟩, e2, hl⟩ => by
    subst e1; subst e2
    have il := zip_len P
    have sl : acc.length < sizeLine := by rw [sizeLine_eq]; omega
    refine ⟨_, [some (objN P), some (.tup (L.map Da.int)), some (.ref S.length), some (.int (q.2 : Nat)), some (spD q.1), none], S ++ [.lst ((if unsP L q = true then acc ++ [q.2] else acc).map natD)], rfl, ?_, ⟨_, _, rfl⟩, rfl, by split <;> (try simp) <;> omega⟩
    unfold b_Needs_unserved_2_1 b_Needs_unserved_2_1_1
    dsimp? only []
    rw [eComp_m (emb := Da.int) (v := fun t => .bl (inB q.1 t)) L (by dsimp? only []) (by omega) fun t ht => ⟨_, rfl, by
      rw [chain_le (by dsimp? only []; rfl) (by dsimp? only []; rfl) (by dsimp? only [spA]; rfl)]; rfl⟩]
    have ep : (!(L.any fun t => inB q.1 t)) = unsP L q := rfl
    dsimp? only [dAny_bl, ep]
    cases c : unsP L q with
    | true => dsimp? only [sl, List.map_append]
    | false => dsimp? only []
  rw [foldl_app, List.nil_append] at e
  refine fn_more (b := b_Needs_unserved) (X := [.lst ((unsF P L).map natD)]) ?_ (by show belowDs _ _ = true; exact shps_below (n := 1) (shps_nat 1 _))
  unfold b_Needs_unserved b_Needs_unserved_1 b_Needs_unserved_2 b_Needs_unserved_3
  dsimp? only []
  rw [iEnum_at (ds := P.map spD) (by dsimp? only []; rfl) (.inr rfl), enum_zip]
  dsimp? only []
  rw [e]
  dsimp? only [dTup_r app_get]
  rfl
theorem served_by_ok (hP : P.length ≤ 1000) {t : Int} : d_Needs_served_by [objN P, .int t] S = .ok (.tup (((P.zipIdx.filter fun q => inB q.1 t).map (·.2)).map natD)) S := fn_same (b := b_Needs_served_by) (by
  rw [b_Needs_served_by_eq]
  dsimp? only []
  rw [eComp_t (emb := zsD) (f := fun q => inB q.1 t) (v := fun q => natD q.2) P.zipIdx (by rw [iEnum_at (ds := P.map spD) (by dsimp? only []; rfl) (.inr rfl), enum_zip]) (by rw [zip_len]; omega) fun q hq => ⟨_, rfl, by
    unfold tBl
    rw [chain_le (by dsimp? only [spA]; rfl) (by dsimp? only []; rfl) (by dsimp? only [spA]; rfl)]
    rfl, fun _ => by dsimp? only []⟩]
  dsimp? only [List.map_map]
  rfl) (by show belowDs _ _ = true; exact shps_below (n := 1) (shps_nat 1 _))
/-! ### late_by -/
def minO : List Int → Da
  | [] => .non
  | x :: l => .int (minL (x :: l))
def lateF (L : List Int) (p : Spn) : Da := .tup [nmD p.1, minO ((L.filter (inB p)).map fun t => t - p.2.1)]
theorem late_by_ok (hP : P.length ≤ 1000) (hL : L.length ≤ 1000) : d_Needs_late_by [objN P, .tup (L.map Da.int)] S = .ok (.tup (P.map (lateF L))) S := by
  have shl : ∀ n p, shp (n + 1) (lateF L p) = true := fun n p => by
    have := shp_nm 0 p.1
    simp only [nmD, shp] at this
    unfold lateF minO
    split <;> (simp only [shp, shps, Bool.and_eq_true, decide_eq_true_eq]; exact ⟨by omega, this, trivial, trivial⟩)
  obtain ⟨ε2, S2, e, ⟨x3, x4, x5, x6, rfl⟩, rfl, hl⟩ := forL_acc (emb := spD) (g := .tup [.name 3, .name 4, .name 5]) (b := sSeq b_Needs_late_by_2_1 b_Needs_late_by_2_2) (s := ([] : List Da)) (ε := [some (objN P), some (.tup (L.map Da.int)), some (.ref S.length), none, none, none, none, none]) (S := S ++ [.lst []])
    (fun i acc ε S' => (∃ x3 x4 x5 x6, ε = [some (objN P), some (.tup (L.map Da.int)), some (.ref S.length), x3, x4, x5, x6, none]) ∧ S' = S ++ [.lst acc] ∧ acc.length ≤ i) (fun acc p => acc ++ [lateF L p]) P ⟨⟨_, _, _, _, rfl⟩, rfl, Nat.le_refl _⟩ fun i p acc ε S' hi hq ⟨⟨x3, x4, x5, x6, e1⟩, e2, hl⟩ => by
    subst e1; subst e2
    have sl : acc.length < sizeLine := by rw [sizeLine_eq]; omega
    refine ⟨_, [some (objN P), some (.tup (L.map Da.int)), some (.ref S.length), some (nmD p.1), some (.int p.2.1), some (.int p.2.2), some (.lst (((L.filter (inB p)).map fun t => t - p.2.1).map Da.int)), none], S ++ [.lst (acc ++ [lateF L p])], rfl, ?_, ⟨_, _, _, _, rfl⟩, rfl, by simp; omega⟩
    unfold b_Needs_late_by_2_1 b_Needs_late_by_2_2
    dsimp? only []
    rw [eComp_t (emb := Da.int) (f := fun t => inB p t) (v := fun t => .int (t - p.2.1)) L (by dsimp? only []) (by omega) fun t ht => ⟨_, rfl, by
      unfold tBl
      rw [chain_le (by dsimp? only []; rfl) (by dsimp? only []; rfl) (by dsimp? only []; rfl)]; rfl, fun _ => by dsimp? only []⟩]
    have em : (L.filter fun t => inB p t).map (fun t => Da.int (t - p.2.1)) = ((L.filter (inB p)).map fun t => t - p.2.1).map Da.int := by rw [List.map_map]; rfl
    rw [em]
    unfold lateF
    cases q : (L.filter (inB p)).map fun t => t - p.2.1 with
    | nil => dsimp? only [minO, sl]
    | cons x r =>
      have mn := dMinL_ints (ns := x :: r) (S := S ++ [.lst acc]) (by simp)
      rw [List.map_cons] at mn
      have ps : (0 : Int) < ((r.length + 1 : Nat) : Int) := by omega
      dsimp? only [minO, sl, ps, mn]
  have fo : ∀ (Q : List Spn) (acc : List Da), Q.foldl (fun acc p => acc ++ [lateF L p]) acc = acc ++ Q.map (lateF L) := fun Q => by
    induction Q with
    | nil => intro acc; simp
    | cons p Q ih => intro acc; rw [List.foldl_cons, ih, List.map_cons]; simp
  rw [fo, List.nil_append] at e
  have bl : belowDs S.length (P.map (lateF L)) = true := shps_below (n := 1) (by
    have : ∀ Q : List Spn, shps 1 (Q.map (lateF L)) = true := fun Q => by
      induction Q with
      | nil => rfl
      | cons p Q ih => rw [List.map_cons, shps, ih, shl 0 p]; rfl
    exact this P)
  refine fn_more (b := b_Needs_late_by) (X := [.lst (P.map (lateF L))]) ?_ bl
  unfold b_Needs_late_by b_Needs_late_by_1 b_Needs_late_by_2 b_Needs_late_by_3
  dsimp? only []
  rw [e]
  dsimp? only [dTup_r app_get]
end
open PySem PySem.Spec PyProof.Rows L2
open Qk21
section
variable {S : Sto} {P : List Spn} {L : List Int}
/-! ### is_paper -/
abbrev spN : Spn := ([], 0, 0)
def gp (P : List Spn) (k : Int) : Spn := P.getD k.toNat spN
theorem gp_at {k : Int} (h0 : 0 ≤ k) (h : k < P.length) : atI (P.map spD) k = some (spD (gp P k)) := by
  have h2 : k.toNat < P.length := by omega
  refine atI_t h0 ?_
  unfold gp
  rw [List.getD_eq_getElem?_getD, List.getElem?_eq_getElem h2]; rfl
def okI (P : List Spn) (k : Int) : Bool := decide (0 ≤ k ∧ k ≤ (P.length : Int) - 1)
def ipBad (P : List Spn) (L : List Int) (q : Int × Nat) : Bool := (L.take q.2).any fun o => meetB (gp P q.1) (gp P o)
def ipB (P : List Spn) (L : List Int) : Bool := L.all (okI P) && (L.zipIdx.find? (ipBad P L)).isNone
abbrev ziD (q : Int × Nat) : Da := .tup [.int (q.2 : Nat), .int q.1]
theorem is_paper_ok {v : Da} (hv : v = .lst (L.map Da.int) ∨ v = .tup (L.map Da.int)) (hP : P.length ≤ 1000) (hL : L.length ≤ 1000) : d_Needs_is_paper [objN P, v] S = .ok (.bl (ipB P L)) S := fn_same (b := b_Needs_is_paper) (by
  have row : d_is_row [v] S = .ok (.bl true) S := by rcases hv with rfl | rfl <;> first | exact is_row_tup | exact is_row_lst
  have hx : isExv v = false := by rcases hv with rfl | rfl <;> rfl
  have hi : items v = some (L.map Da.int) := by rcases hv with rfl | rfl <;> rfl
  have hs : ∀ hi S, dSl v none (some hi) S = some (if (match v with | .lst _ => true | _ => false) = true then .lst (cutD (L.map Da.int) none (some hi)) else .tup (cutD (L.map Da.int) none (some hi)), S) := fun hi S => by rcases hv with rfl | rfl <;> rfl
  unfold b_Needs_is_paper b_Needs_is_paper_1 b_Needs_is_paper_1_1 b_Needs_is_paper_2 b_Needs_is_paper_3
  dsimp? only [hx, row]
  rw [eComp_m (emb := Da.int) (v := fun k => .bl (okI P k)) L (by dsimp? only [hx, hi]) (by omega) fun k hk => ⟨_, rfl, by dsimp? only [is_number_int, okI]⟩]
  dsimp? only [dAll_bl]
  unfold ipB
  cases a : L.all (okI P) with
  | false => dsimp? only []
  | true =>
    have lp := forL_out (emb := ziD) (g := .tup [.name 2, .name 3]) (b := b_Needs_is_paper_2_1) (fun w => [some (objN P), some v, w3 w, w4 w, none]) (S := S) (ipBad P L) (fun _ => .rt (.bl false) S) L.zipIdx none fun q hq w => by
      obtain ⟨hz, hi2⟩ := zip_mem (x := q.1) (i := q.2) hq
      have all := List.all_eq_true.mp a
      have o1 := all q.1 (List.mem_of_getElem? hz)
      simp only [okI, decide_eq_true_eq] at o1
      have ga := gp_at (P := P) o1.1 (by omega)
      have c : eComp [4] (iVal (eSl (eVar 1) eoNone (eoSome (eVar 2)))) (.name 4) tYesD (eCall d_meet (esCons (eOp2 dIx (eFld [4] "spans" (eVar 0)) (eVar 3)) (esCons (eOp2 dIx (eFld [4] "spans" (eVar 0)) (eVar 4)) esNil))) [some (objN P), some v, some (.int (q.2 : Nat)), some (.int q.1), none] S = .ok (.lst ((L.take q.2).map fun o => .bl (meetB (gp P q.1) (gp P o)))) S := by
        have ct : cutD (L.map Da.int) none (some (q.2 : Nat)) = (L.take q.2).map Da.int := by
          rw [cutD_map, cutG_take (by omega), Int.toNat_natCast]
        refine eComp_m (emb := Da.int) (v := fun o => .bl (meetB (gp P q.1) (gp P o))) (L.take q.2) ?_ (by rw [List.length_take]; omega) fun o ho => ⟨_, rfl, ?_⟩
        · dsimp? only [hx, hs]
          rcases hv with rfl | rfl <;> (dsimp only; dsimp? only [ct])
        · have o2 := all o (List.mem_of_mem_take ho)
          simp only [okI, decide_eq_true_eq] at o2
          have gb := gp_at (P := P) o2.1 (by omega)
          dsimp? only [ga, gb, meet_ok]
      refine ⟨[some (objN P), some v, some (.int (q.2 : Nat)), some (.int q.1), none], by dsimp? only [w3, w4], fun hb => ?_, fun hb => ⟨?_, fun ε2 S2 => ⟨fun z => (nomatch z), fun z => (nomatch z), fun z => (nomatch z)⟩⟩⟩
      · have hb : ((L.take q.2).any fun o => meetB (gp P q.1) (gp P o)) = false := hb
        unfold b_Needs_is_paper_2_1 b_Needs_is_paper_2_1_1
        dsimp? only [c, dAny_bl, hb, w3, w4]
      · have hb : ((L.take q.2).any fun o => meetB (gp P q.1) (gp P o)) = true := hb
        unfold b_Needs_is_paper_2_1 b_Needs_is_paper_2_1_1
        dsimp? only [c, dAny_bl, hb]
    dsimp? only []
    have it : iEnum (esCons (eVar 1) esNil) [some (objN P), some v, none, none, none] S = .ok (L.zipIdx.map ziD) S := by
      rw [iEnum_at (ds := L.map Da.int) (x := v) (S2 := S) (by dsimp? only [hx]) hv, enum_zip]
    rw [it]
    dsimp? only []
    cases f : L.zipIdx.find? (ipBad P L) with
    | some q =>
      have lp := lp.1 q f
      simp only [w3, w4] at lp
      dsimp? only [lp, Option.isNone]
    | none =>
      obtain ⟨w, lp⟩ := lp.2 f
      simp only [w3, w4] at lp
      dsimp? only [lp, Option.isNone]) rfl
/-! ### tries -/
def trS (P : List Spn) : List Nat → Option Spn
  | [] => none
  | k :: l => some (argm kV (gp P (k : Nat)) (l.map fun j => gp P (j : Nat)))
def trF (P : List Spn) (L : List Int) (left : List Nat) (w : Int) : List Int := match trS P left with
  | none => []
  | some z => whl (match L.getLast? with | none => z.2.1 | some p => if p + w > z.2.1 then p + w else z.2.1) (z.2.2 + 1)
theorem rgOk_s {a b : Int} (h1 : -1000000 ≤ a) (h2 : a ≤ 1000000) (h3 : -1000000 ≤ b) (h4 : b ≤ 1000000) : rgOk a b = true := cdec_of ⟨by omega, by omega, by omega, by omega, by omega⟩
theorem rngD_whl (a b : Int) : rngD a b = (whl a b).map Da.int := by unfold rngD whl; rw [List.map_map]; rfl
theorem gp_mem {k : Nat} (h : k < P.length) : gp P (k : Nat) ∈ P := by
  unfold gp
  rw [List.getD_eq_getElem?_getD, Int.toNat_natCast, List.getElem?_eq_getElem h]
  exact List.getElem_mem h
theorem trS_mem {left : List Nat} {z : Spn} (hk : ∀ k ∈ left, k < P.length) (e : trS P left = some z) : z ∈ P ∧ (∃ k ∈ left, z = gp P (k : Nat)) ∧ ∀ k ∈ left, z.2.2 ≤ (gp P (k : Nat)).2.2 := by
  cases left with
  | nil => cases e
  | cons k l =>
    simp only [trS, Option.some.injEq] at e
    obtain ⟨h1, h2⟩ := argm_spec (key := kV) (n := 2) (fun _ => rfl) (l.map fun j => gp P (j : Nat)) (gp P (k : Nat))
    rw [e] at h1 h2
    have h1' : z ∈ (k :: l).map fun j : Nat => gp P (j : Nat) := h1
    have h2' : ∀ y ∈ (k :: l).map fun j : Nat => gp P (j : Nat), ltR (kV y) (kV z) = false := h2
    obtain ⟨j, hj, ej⟩ := List.mem_map.mp h1'
    refine ⟨by rw [← ej]; exact gp_mem (hk j hj), ⟨j, hj, ej.symm⟩, fun m hm => ?_⟩
    have := h2' (gp P (m : Nat)) (List.mem_map.mpr ⟨m, hm, rfl⟩)
    simp only [kV, ltR] at this
    split at this
    · omega
    · simp only [decide_eq_false_iff_not] at this; omega
theorem tries_ok (g : GN P) {left : List Nat} (hk : ∀ k ∈ left, k < P.length) (hl : left.length ≤ 1000) (hL : ∀ t ∈ L, 0 ≤ t ∧ t ≤ 9999) {w : Int} (w0 : 0 ≤ w) (w1 : w ≤ 9999) : d_Needs_tries [objN P, .tup (L.map Da.int), .tup (left.map natD), .int w] S = .ok (.tup ((trF P L left w).map Da.int)) S := fn_same (b := b_Needs_tries) (by
  have gl := g.len
  unfold b_Needs_tries b_Needs_tries_1 b_Needs_tries_1_1 b_Needs_tries_2 b_Needs_tries_3 b_Needs_tries_4
  cases left with
  | nil => dsimp? only [trF, trS, items]
  | cons k l =>
    obtain ⟨z, ez⟩ : ∃ z, trS P (k :: l) = some z := ⟨_, rfl⟩
    have zm := (trS_mem hk ez).1
    have zo := g.ok z zm
    have za := zo.a
    have zb := zo.b
    have ne : (((l.length + 1 : Nat) : Int) == 0) = false := by simp; omega
    dsimp? only [ne]
    rw [eComp_m (emb := natD) (v := fun j => .tup [.int (gp P (j : Nat)).2.2, .int (gp P (j : Nat)).2.1]) (k :: l) (by dsimp? only []) (by omega) fun j hj => ⟨_, rfl, by
      have ga := gp_at (P := P) (k := (j : Nat)) (by omega) (by have := hk j hj; omega)
      dsimp? only [ga, spA]⟩]
    have mn := dMinD_rows (S := S) (key := kV) (n := 2) (fun _ => rfl) (by decide) (x := gp P (k : Nat)) (L := l.map fun j => gp P (j : Nat))
    have ez' : argm kV (gp P (k : Nat)) (l.map fun j => gp P (j : Nat)) = z := Option.some.inj ez
    rw [ez'] at mn
    simp only [List.map_cons, List.map_map, List.map_nil] at mn
    have e1 : ((fun x => Da.tup [Da.int x.2.2, Da.int x.2.1]) ∘ fun j : Nat => gp P (j : Int)) = fun j : Nat => Da.tup [Da.int (gp P (j : Int)).2.2, Da.int (gp P (j : Int)).2.1] := rfl
    rw [e1] at mn
    dsimp? only [mn]
    unfold trF
    rw [ez]
    dsimp only
    cases q : L.getLast? with
    | none =>
      have := List.getLast?_eq_none_iff.mp q
      subst this
      dsimp? only [eRg, rgRes, rgOk_s (a := z.2.1) (b := z.2.2 + 1) (by omega) (by omega) (by omega) (by omega), rngD_whl]
    | some p =>
      have al : atI (L.map Da.int) (-1) = some (.int p) := atI_last (by rw [List.getLast?_map, q]; rfl)
      have pm := hL p (List.mem_of_getLast? q)
      have ps : (0 : Int) < (L.length : Int) := by
        have : L ≠ [] := by intro z; subst z; cases q
        have := List.length_pos_iff.mpr this
        omega
      by_cases c : z.2.1 < p + w
      · dsimp? only [ps, al, dMax2, c, eRg, rgRes, rgOk_s (a := p + w) (b := z.2.2 + 1) (by omega) (by omega) (by omega) (by omega), rngD_whl, gt_iff_lt]
      · dsimp? only [ps, al, dMax2, c, eRg, rgRes, rgOk_s (a := z.2.1) (b := z.2.2 + 1) (by omega) (by omega) (by omega) (by omega), rngD_whl, gt_iff_lt]) (by show belowDs _ _ = true; exact shps_below (n := 1) (shps_ints 1 _))
/-! ### without, needed -/
def wtF (P : List Spn) (k : Nat) : List Spn := P.take k ++ P.drop (k + 1)
theorem wt_good (g : GN P) (k : Nat) : GN (wtF P k) := ⟨fun p hp => by
  rcases List.mem_append.mp hp with z | z
  · exact g.ok p (List.mem_of_mem_take z)
  · exact g.ok p (List.mem_of_mem_drop z), by
  have := g.len
  unfold wtF
  rw [List.length_append, List.length_take, List.length_drop]; omega⟩
theorem cutG_drop {α : Type} {L : List α} {k : Int} (h0 : 0 ≤ k) : cutG L (some k) none = L.drop k.toNat := by
  unfold cutG
  rw [sIx_nn h0, sIx_no]
  by_cases c : k.toNat ≤ L.length
  · rw [Nat.min_eq_left c, List.take_of_length_le (by rw [List.length_drop]; omega)]
  · rw [Nat.min_eq_right (by omega), List.drop_of_length_le (Nat.le_refl _), List.drop_of_length_le (by omega), List.take_nil]
theorem wt_cut (k : Nat) : cutD (P.map spD) none (some (k : Nat)) ++ cutD (P.map spD) (some ((k : Int) + 1)) none = (wtF P k).map spD := by
  rw [cutD_map, cutD_map, cutG_take (by omega), cutG_drop (by omega)]
  unfold wtF
  rw [List.map_append, Int.toNat_natCast, show ((k : Int) + 1).toNat = k + 1 by omega]
theorem cut_len {α : Type} (L : List α) (lo hi : Option Int) (f : α → Da) : (cutD (L.map f) lo hi).length ≤ L.length := by
  rw [cutD_map, List.length_map]; exact len_cutG _ _ _
theorem without_ok (g : GN P) {k : Nat} : d_Needs_without [objN P, natD k] S = .ok (objN (wtF P k)) S := fn_same (b := b_Needs_without) (by
  have gl := g.len
  have l1 := cut_len P none (some (k : Nat)) spD
  have l2 := cut_len P (some ((k : Int) + 1)) none spD
  have sl : (cutD (P.map spD) none (some (k : Nat))).length + (cutD (P.map spD) (some ((k : Int) + 1)) none).length ≤ sizeLine := by rw [sizeLine_eq]; omega
  have mk := mkN_t (S := S) (wt_good g k)
  rw [b_Needs_without_eq]
  dsimp? only [sl, wt_cut]
  have mk : mk1 4 d_Needs___init__ (.tup ((wtF P k).map spD)) S = .ok (objN (wtF P k)) S := mk
  dsimp? only [mk]) (by show belowDf _ _ = true; simp only [belowDf, below_sps, Bool.and_true])
theorem nl_visits {d : Da} : List.lookup (Str.ofString "visits") [(Str.ofString "spans", d)] = none := by rw [lk_mis (by decide +kernel)]; rfl
theorem nl_without {d : Da} : List.lookup (Str.ofString "without") [(Str.ofString "spans", d)] = none := by rw [lk_mis (by decide +kernel)]; rfl
theorem nl_unserved {d : Da} : List.lookup (Str.ofString "unserved") [(Str.ofString "spans", d)] = none := by rw [lk_mis (by decide +kernel)]; rfl
theorem nl_tries {d : Da} : List.lookup (Str.ofString "tries") [(Str.ofString "spans", d)] = none := by rw [lk_mis (by decide +kernel)]; rfl
theorem nl_paper {d : Da} : List.lookup (Str.ofString "paper") [(Str.ofString "spans", d)] = none := by rw [lk_mis (by decide +kernel)]; rfl
theorem nl_is_served {d : Da} : List.lookup (Str.ofString "is_served") [(Str.ofString "spans", d)] = none := by rw [lk_mis (by decide +kernel)]; rfl
theorem nl_is_paper {d : Da} : List.lookup (Str.ofString "is_paper") [(Str.ofString "spans", d)] = none := by rw [lk_mis (by decide +kernel)]; rfl
theorem nl_served_by {d : Da} : List.lookup (Str.ofString "served_by") [(Str.ofString "spans", d)] = none := by rw [lk_mis (by decide +kernel)]; rfl
theorem nl_late_by {d : Da} : List.lookup (Str.ofString "late_by") [(Str.ofString "spans", d)] = none := by rw [lk_mis (by decide +kernel)]; rfl
theorem nl_gentle {d : Da} : List.lookup (Str.ofString "gentle") [(Str.ofString "spans", d)] = none := by rw [lk_mis (by decide +kernel)]; rfl
theorem nl_needed {d : Da} : List.lookup (Str.ofString "needed") [(Str.ofString "spans", d)] = none := by rw [lk_mis (by decide +kernel)]; rfl
def ndB (P : List Spn) (k : Nat) : Bool := decide ((visF (wtF P k)).length < (visF P).length)
def ndF (P : List Spn) : List Nat := (List.range P.length).filter (ndB P)
theorem whl_nat (n : Nat) : whl 0 (n : Int) = (List.range n).map fun k : Nat => (k : Int) := by
  unfold whl
  rw [show ((n : Int) - 0).toNat = n by omega]
  exact List.map_congr_left fun k _ => by omega
theorem needed_ok (g : GN P) : d_Needs_needed [objN P] S = .ok (.tup ((ndF P).map natD)) S := fn_same (b := b_Needs_needed) (by
  have gl := g.len
  have v0 := visits_ok (S := S) (P := P) (by omega)
  rw [b_Needs_needed_eq]
  dsimp? only [nl_visits, Option.isNone, v0]
  rw [eComp_t (emb := natD) (f := ndB P) (v := natD) (List.range P.length) (by
    rw [rng1_at (j := (P.length : Nat)) (S2 := S) (by dsimp? only []) (by omega) (by omega), whl_nat, List.map_map]; rfl) (by rw [List.length_range]; omega) fun k hk => ⟨_, rfl, by
    have w := without_ok (S := S) g (k := k)
    have v := visits_ok (S := S) (P := wtF P k) (by have := (wt_good g k).len; omega)
    unfold ndB
    dsimp? only [nl_without, Option.isNone, w, nl_visits, v, Int.ofNat_lt], fun _ => by dsimp? only []⟩]
  dsimp? only []
  rfl) (by show belowDs _ _ = true; exact shps_below (n := 1) (shps_nat 1 _))
end
open PySem PySem.Spec PyProof.Rows L2
open Qk21
section
variable {S : Sto} {P : List Spn} {L : List Int}
/-! ### pairs -/
abbrev prD (q : Nat × Nat) : Da := .tup [.int (q.1 : Nat), .int (q.2 : Nat)]
def prsF (m n : Nat) : List (Nat × Nat) := (List.range m).flatMap fun a => (List.range n).map fun b => (a, b)
theorem flat_acc {α β : Type} (f : α → List β) : ∀ (L : List α) (acc : List β), L.foldl (fun acc x => acc ++ f x) acc = acc ++ L.flatMap f
  | [], acc => by simp
  | x :: L, acc => by rw [List.foldl_cons, flat_acc f L, List.flatMap_cons, List.append_assoc]
theorem prs_mem {m n : Nat} {q : Nat × Nat} : q ∈ prsF m n ↔ q.1 < m ∧ q.2 < n := by
  unfold prsF
  simp only [List.mem_flatMap, List.mem_map, List.mem_range]
  constructor
  · rintro ⟨a, ha, b, hb, rfl⟩; exact ⟨ha, hb⟩
  · rintro ⟨h1, h2⟩; exact ⟨q.1, h1, q.2, h2, rfl⟩
theorem prs_len (m n : Nat) : (prsF m n).length = m * n := by
  unfold prsF
  rw [List.length_flatMap]
  have : ∀ l : List Nat, (l.map fun a => ((List.range n).map fun b => (a, b)).length).sum = l.length * n := fun l => by
    induction l with
    | nil => simp
    | cons x l ih => rw [List.map_cons, List.sum_cons, ih, List.length_cons, Nat.add_mul, List.length_map, List.length_range]; omega
  rw [this, List.length_range]
theorem shps_prs (n : Nat) (h : 1 ≤ n) : ∀ L : List (Nat × Nat), shps n (L.map prD) = true
  | [] => rfl
  | p :: L => by
    simp only [List.map_cons, shps, shp, Bool.and_eq_true, decide_eq_true_eq]
    exact ⟨⟨by omega, trivial, trivial, trivial⟩, shps_prs n h L⟩
theorem pairs_ok {m n : Nat} (hm : m ≤ 100) (hn : n ≤ 100) : d__law_pairs [.int (m : Nat), .int (n : Nat)] S = .ok (.lst ((prsF m n).map prD)) S := by
  obtain ⟨ε2, S2, e, ⟨x3, rfl⟩, rfl, hl⟩ := forL_acc (emb := natD) (g := .name 3) (b := b__law_pairs_2_1) (s := ([] : List (Nat × Nat))) (ε := [some (.int (m : Nat)), some (.int (n : Nat)), some (.lst []), none, none]) (S := S)
    (fun i acc ε S' => (∃ x3, ε = [some (.int (m : Nat)), some (.int (n : Nat)), some (.lst (acc.map prD)), x3, none]) ∧ S = S' ∧ acc.length ≤ i * 100) (fun acc a => acc ++ (List.range n).map fun b => (a, b)) (List.range m) ⟨⟨_, rfl⟩, rfl, by simp⟩ fun i a acc ε S' hi ha ⟨⟨x3, e1⟩, e2, hl⟩ => by
    subst e1; subst e2
    rw [List.length_range] at hi
    refine ⟨_, [some (.int (m : Nat)), some (.int (n : Nat)), some (.lst ((acc ++ (List.range n).map fun b => (a, b)).map prD)), some (.int (a : Nat)), none], S, rfl, ?_, ⟨_, rfl⟩, rfl, by simp; omega⟩
    unfold b__law_pairs_2_1
    dsimp? only []
    rw [eComp_m (emb := natD) (v := fun b => prD (a, b)) (List.range n) (by rw [rng1_at (j := (n : Nat)) (S2 := S) (by dsimp? only []) (by omega) (by omega), whl_nat, List.map_map]; rfl) (by rw [List.length_range]; omega) fun b hb => ⟨_, rfl, by dsimp? only []⟩]
    have sl : acc.length + n ≤ sizeLine := by rw [sizeLine_eq]; omega
    dsimp? only [List.length_range, sl, List.map_append, List.map_map]
    rfl
  rw [flat_acc, List.nil_append] at e
  refine fn_same (b := b__law_pairs) ?_ (by show belowDs _ _ = true; exact shps_below (n := 1) (shps_prs 1 (by decide) _))
  unfold b__law_pairs b__law_pairs_1 b__law_pairs_2 b__law_pairs_3
  dsimp? only []
  rw [rng1_at (j := (m : Nat)) (S2 := S) (by dsimp? only []) (by omega) (by omega), whl_nat, List.map_map]
  have e' : forL (.name 3) b__law_pairs_2_1 ((List.range m).map (Da.int ∘ fun k : Nat => (k : Int))) [some (.int (m : Nat)), some (.int (n : Nat)), some (.lst []), none, none] S = _ := e
  dsimp? only [e']
  rfl
/-! ### rows -/
abbrev rwD (r : List Int) : Da := .tup (r.map Da.int)
def lstR (r : List Int) : Int := (r.getLast?).getD (-1)
def extR (top : Int) (r : List Int) : List (List Int) := (whl (lstR r + 1) (top + 1)).map fun t => r ++ [t]
def rowsF (top : Int) : Nat → List (List Int)
  | 0 => [[]]
  | k + 1 => (rowsF top k).flatMap (extR top)
theorem rows_in {top : Int} : ∀ {k : Nat} {r : List Int}, r ∈ rowsF top k → r.length = k ∧ ∀ t ∈ r, 0 ≤ t ∧ t ≤ top
  | 0, r, h => by
    have : r = [] := by simpa [rowsF] using h
    subst this
    exact ⟨rfl, fun t ht => nomatch ht⟩
  | k + 1, r, h => by
    rw [rowsF, List.mem_flatMap] at h
    obtain ⟨q, hq, hr⟩ := h
    obtain ⟨h1, h2⟩ := rows_in hq
    obtain ⟨t, ht, rfl⟩ := List.mem_map.mp hr
    rw [mem_whl] at ht
    have l0 : -1 ≤ lstR q := by
      unfold lstR
      cases e : q.getLast? with
      | none => simp
      | some x => have := h2 x (List.mem_of_getLast? e); simp; omega
    refine ⟨by simp [h1], fun x hx => ?_⟩
    rcases List.mem_append.mp hx with z | z
    · exact h2 x z
    · have : x = t := by simpa using z
      omega
theorem ext_len {top : Int} {r : List Int} (h : ∀ t ∈ r, 0 ≤ t) (ht : 0 ≤ top) : (extR top r).length ≤ (top + 1).toNat := by
  unfold extR
  rw [List.length_map, len_whl]
  have l0 : -1 ≤ lstR r := by
    unfold lstR
    cases e : r.getLast? with
    | none => simp
    | some x => have := h x (List.mem_of_getLast? e); simp; omega
  omega
theorem flat_le {α β : Type} {f : α → List β} {n : Nat} : ∀ {L : List α}, (∀ x ∈ L, (f x).length ≤ n) → (L.flatMap f).length ≤ L.length * n
  | [], _ => by simp
  | x :: L, h => by
    have a := h x List.mem_cons_self
    have b := flat_le (L := L) fun y hy => h y (List.mem_cons_of_mem _ hy)
    rw [List.flatMap_cons, List.length_append, List.length_cons, Nat.add_mul]
    omega
theorem rows_len {top : Int} (ht : 0 ≤ top) (h18 : top ≤ 17) : ∀ k : Nat, (rowsF top k).length ≤ 18 ^ k
  | 0 => by simp [rowsF]
  | k + 1 => by
    rw [rowsF]
    have a := flat_le (f := extR top) (n := 18) (L := rowsF top k) fun r hr => by
      have := ext_len (top := top) (r := r) (fun t h => ((rows_in hr).2 t h).1) ht
      omega
    have b := rows_len ht h18 k
    rw [Nat.pow_succ]
    have := Nat.mul_le_mul_right 18 b
    omega
theorem shps_rows (n : Nat) (h : 1 ≤ n) : ∀ L : List (List Int), shps n (L.map rwD) = true
  | [] => rfl
  | p :: L => by
    simp only [List.map_cons, shps, shp, Bool.and_eq_true, decide_eq_true_eq]
    exact ⟨⟨by omega, shps_ints _ _⟩, shps_rows n h L⟩
theorem last_m1 (r : List Int) : atI (Da.int (-1) :: r.map Da.int) (-1) = some (.int (lstR r)) := by
  have : atI ((-1 :: r).map Da.int) (-1) = some (.int (lstR r)) := atI_last (by
    rw [List.getLast?_map]
    unfold lstR
    cases e : r.getLast? with
    | none => have := List.getLast?_eq_none_iff.mp e; subst this; rfl
    | some x =>
      rw [List.getLast?_cons, e]; rfl)
  exact this
theorem pow18 {k : Nat} (h : k ≤ 3) : 18 ^ k ≤ 5832 := by
  rcases (show k = 0 ∨ k = 1 ∨ k = 2 ∨ k = 3 by omega) with rfl | rfl | rfl | rfl <;> decide
theorem rows_in_ok {top : Int} (t0 : 0 ≤ top) (t17 : top ≤ 17) {k : Nat} (hk : k ≤ 2) {x0 x3 x5 : Option Da} : ∃ y5, forL (.name 5) b__law_rows_2_2_1 ((rowsF top k).map rwD) [x0, some (.int top), some (.lst ((rowsF top k).map rwD)), x3, some (.lst []), x5, none] S = .nx [x0, some (.int top), some (.lst ((rowsF top k).map rwD)), x3, some (.lst ((rowsF top (k + 1)).map rwD)), y5, none] S := by
  obtain ⟨ε2, S2, e, ⟨y5, rfl⟩, rfl, hl⟩ := forL_acc (emb := rwD) (g := .name 5) (b := b__law_rows_2_2_1) (s := ([] : List (List Int))) (ε := [x0, some (.int top), some (.lst ((rowsF top k).map rwD)), x3, some (.lst []), x5, none]) (S := S)
    (fun i acc ε S' => (∃ x5, ε = [x0, some (.int top), some (.lst ((rowsF top k).map rwD)), x3, some (.lst (acc.map rwD)), x5, none]) ∧ S = S' ∧ acc.length ≤ i * 18) (fun acc r => acc ++ extR top r) (rowsF top k) ⟨⟨_, rfl⟩, rfl, by simp⟩ fun i r acc ε S' hi hr ⟨⟨x5, e1⟩, e2, hl⟩ => by
    subst e1; subst e2
    have rb := rows_len t0 t17 k
    have rp := pow18 (k := k) (by omega)
    obtain ⟨rl, rm⟩ := rows_in hr
    have el := ext_len (top := top) (r := r) (fun t h => (rm t h).1) t0
    have l0 : -1 ≤ lstR r ∧ lstR r ≤ 17 := by
      unfold lstR
      cases e : r.getLast? with
      | none => simp
      | some x => have := rm x (List.mem_of_getLast? e); simp; omega
    refine ⟨_, [x0, some (.int top), some (.lst ((rowsF top k).map rwD)), x3, some (.lst ((acc ++ extR top r).map rwD)), some (rwD r), none], S, rfl, ?_, ⟨_, rfl⟩, rfl, by simp; omega⟩
    unfold b__law_rows_2_2_1
    have s1 : r.length + 1 ≤ sizeLine := by rw [sizeLine_eq]; omega
    have s2 : 1 + r.length ≤ sizeLine := by rw [sizeLine_eq]; omega
    dsimp? only []
    rw [eComp_m (emb := Da.int) (v := fun t => rwD (r ++ [t])) (whl (lstR r + 1) (top + 1)) (by
      rw [rng2_at (i := lstR r + 1) (j := top + 1) (S2 := S) (S3 := S) (by dsimp? only [s2, last_m1]) (by dsimp? only []) (by omega) (by omega)]) (by rw [len_whl]; omega) fun t ht => ⟨_, rfl, by
      dsimp? only [s1]
      show _ = Rs.ok (Da.tup ((r ++ [t]).map Da.int)) S
      rw [List.map_append]; rfl⟩]
    have sl : acc.length + (whl (lstR r + 1) (top + 1)).length ≤ sizeLine := by rw [sizeLine_eq, len_whl]; omega
    dsimp? only [sl, List.map_append]
    unfold extR
    rw [List.map_map]; rfl
  rw [flat_acc, List.nil_append] at e
  exact ⟨y5, e⟩
theorem rows_ok' {top : Int} (t0 : 0 ≤ top) (t17 : top ≤ 17) {n : Nat} (hn : n ≤ 3) : d__law_rows [.int (n : Nat), .int top] S = .ok (.lst ((rowsF top n).map rwD)) S := by
  obtain ⟨ε2, S2, e, ⟨x3, x4, x5, rfl⟩, rfl⟩ := forL_inv (emb := natD) (g := .name 3) (b := sSeq b__law_rows_2_1 (sSeq b__law_rows_2_2 b__law_rows_2_3)) (ε := [some (.int (n : Nat)), some (.int top), some (.lst [.tup []]), none, none, none, none]) (S := S)
    (fun i ε S' => (∃ x3 x4 x5, ε = [some (.int (n : Nat)), some (.int top), some (.lst ((rowsF top i).map rwD)), x3, x4, x5, none]) ∧ S = S') (List.range n) ⟨⟨_, _, _, rfl⟩, rfl⟩ fun i a ε S' hi ⟨⟨x3, x4, x5, e1⟩, e2⟩ => by
    subst e1; subst e2
    have hi2 : i < n := by have := (List.getElem?_eq_some_iff.mp hi).1; rwa [List.length_range] at this
    obtain ⟨y5, e⟩ := rows_in_ok (S := S) t0 t17 (k := i) (by omega) (x0 := some (.int (n : Nat))) (x3 := some (.int (a : Nat))) (x5 := x5)
    refine ⟨_, [some (.int (n : Nat)), some (.int top), some (.lst ((rowsF top (i + 1)).map rwD)), some (.int (a : Nat)), some (.lst ((rowsF top (i + 1)).map rwD)), y5, none], S, rfl, ?_, ⟨_, _, _, rfl⟩, rfl⟩
    unfold b__law_rows_2_1 b__law_rows_2_2 b__law_rows_2_3
    dsimp? only [e]
  rw [List.length_range] at e
  refine fn_same (b := b__law_rows) ?_ (by show belowDs _ _ = true; exact shps_below (n := 1) (shps_rows 1 (by decide) _))
  unfold b__law_rows b__law_rows_1 b__law_rows_2 b__law_rows_3
  dsimp? only []
  rw [rng1_at (j := (n : Nat)) (S2 := S) (by dsimp? only []) (by omega) (by omega), whl_nat, List.map_map]
  have e' : forL (.name 3) (sSeq b__law_rows_2_1 (sSeq b__law_rows_2_2 b__law_rows_2_3)) ((List.range n).map (Da.int ∘ fun k : Nat => (k : Int))) [some (.int (n : Nat)), some (.int top), some (.lst [.tup []]), none, none, none, none] S = _ := e
  dsimp? only [e']
/-! ### good -/
def srvB (P : List Spn) (L : List Int) : Bool := P.all fun p => L.any (inB p)
theorem filt_emp {α : Type} (f : α → Bool) (L : List α) : (L.filter f).isEmpty = !(L.any f) := by
  induction L with
  | nil => rfl
  | cons x L ih =>
    rw [List.filter_cons, List.any_cons]
    cases f x with
    | true => rfl
    | false => rw [if_neg (by decide), ih]; rfl
theorem good_ok (hP : P.length ≤ 1000) (hL : L.length ≤ 1000) : d__law_good [sps P, rwD L] S = .ok (.bl (srvB P L)) S := fn_same (b := b__law_good) (by
  rw [b__law_good_eq]
  dsimp? only []
  rw [eComp_t (emb := spD) (f := fun p => !(L.any (inB p))) (v := spD) P (by dsimp? only []) (by omega) fun p hp => ⟨_, rfl, by
    dsimp? only []
    rw [eComp_t (emb := Da.int) (f := fun t => inB p t) (v := Da.int) L (by dsimp? only []) (by omega) fun t ht => ⟨_, rfl, by
      unfold tBl
      rw [chain_le (by dsimp? only []; rfl) (by dsimp? only []; rfl) (by dsimp? only [spA]; rfl)]; rfl, fun _ => by dsimp? only []⟩]
    have e := dEq_nilL (S := S) (ds := (L.filter fun t => inB p t).map Da.int) (shps_ints _ _)
    have e2 := filt_emp (inB p) L
    dsimp? only [e, List.isEmpty_map, e2], fun _ => by dsimp? only []⟩]
  have e := dEq_nilL (S := S) (ds := (P.filter fun p => !(L.any (inB p))).map spD) (shps_sp 63 (by decide) _)
  dsimp? only [e, List.isEmpty_map, filt_emp]
  unfold srvB
  rw [List.not_any_eq_all_not]
  simp) rfl
theorem truth_ok {b : Bool} : d__law_truth [.bl b, .bl b] S = .ok (.bl true) S := fn_same (b := b__law_truth) (by
  rw [b__law_truth_eq]
  dsimp? only []) rfl
end
open PySem PySem.Spec PyProof.Rows L2
open Qk21
section
variable {S : Sto} {P : List Spn} {L : List Int}
/-! ### the search -/
def btB (b : Option (List Int)) (r : List Int) : Bool := match b with | none => true | some y => ltR r y
def bestS (P : List Spn) (b : Option (List Int)) (r : List Int) : Option (List Int) := if ((unsF P r).isEmpty && btB b r) = true then some r else b
def extG (P : List Spn) (w : Int) (r : List Int) : List (List Int) := (trF P r (unsF P r) w).map fun t => r ++ [t]
def lvR (P : List Spn) (w : Int) : Nat → List (List Int)
  | 0 => [[]]
  | k + 1 => (lvR P w k).flatMap (extG P w)
def bestD : Option (List Int) → Da
  | none => .non
  | some r => rwD r
theorem xv_best (b : Option (List Int)) : isExv (bestD b) = false := by cases b <;> rfl
theorem uns_lt {r : List Int} {k : Nat} (h : k ∈ unsF P r) : k < P.length ∧ (r.any (inB (gp P (k : Nat)))) = false := by
  unfold unsF at h
  obtain ⟨q, hq, rfl⟩ := List.mem_map.mp h
  obtain ⟨h1, h2⟩ := List.mem_filter.mp hq
  obtain ⟨e, hl⟩ := zip_mem (x := q.1) (i := q.2) h1
  refine ⟨hl, ?_⟩
  have : gp P (q.2 : Nat) = q.1 := by
    unfold gp
    rw [List.getD_eq_getElem?_getD, Int.toNat_natCast, e]; rfl
  rw [this]
  simpa [unsP] using h2
theorem uns_iff {r : List Int} {k : Nat} : k ∈ unsF P r ↔ k < P.length ∧ (r.any (inB (gp P (k : Nat)))) = false := by
  refine ⟨uns_lt, fun ⟨h1, h2⟩ => ?_⟩
  unfold unsF
  have e : gp P (k : Nat) = P[k] := by
    unfold gp
    rw [List.getD_eq_getElem?_getD, Int.toNat_natCast, List.getElem?_eq_getElem h1]; rfl
  rw [e] at h2
  refine List.mem_map.mpr ⟨(P[k], k), List.mem_filter.mpr ⟨?_, by simp [unsP, h2]⟩, rfl⟩
  rw [List.mem_zipIdx_iff_getElem?]
  exact List.getElem?_eq_getElem h1
theorem uns_len {r : List Int} : (unsF P r).length ≤ P.length := by
  unfold unsF
  rw [List.length_map]
  exact Nat.le_trans (List.length_filter_le ..) (by rw [zip_len]; omega)
theorem uns_nil {r : List Int} : (unsF P r).isEmpty = srvB P r := by
  unfold unsF srvB
  rw [List.isEmpty_map, filt_emp]
  have : (P.zipIdx.any (unsP r)) = P.any fun p => !(r.any (inB p)) := by
    rw [Bool.eq_iff_iff, List.any_eq_true, List.any_eq_true]
    constructor
    · rintro ⟨q, hq, h⟩
      exact ⟨q.1, List.mem_of_getElem? (zip_mem (x := q.1) (i := q.2) hq).1, h⟩
    · rintro ⟨p, hp, h⟩
      obtain ⟨i, hi, e⟩ := List.getElem_of_mem hp
      exact ⟨(p, i), by rw [List.mem_zipIdx_iff_getElem?, List.getElem?_eq_getElem hi, e], h⟩
  rw [this, List.not_any_eq_all_not]
  simp
structure GS (P : List Spn) : Prop where
  g : GN P
  w5 : ∀ p ∈ P, p.2.2 ≤ p.2.1 + 4
  six : P.length ≤ 6
theorem tr_sub {r : List Int} {w : Int} (g : GS P) (hw : 0 ≤ w) : (trF P r (unsF P r) w).length ≤ 5 ∧ ∀ t ∈ trF P r (unsF P r) w, 0 ≤ t ∧ t ≤ 9999 := by
  unfold trF
  cases e : trS P (unsF P r) with
  | none => exact ⟨by simp, fun t ht => nomatch ht⟩
  | some z =>
    obtain ⟨zm, _, _⟩ := trS_mem (fun k hk => (uns_lt hk).1) e
    have a := (g.g.ok z zm).a
    have b := (g.g.ok z zm).b
    have c := g.w5 z zm
    dsimp only
    refine ⟨?_, fun t ht => ?_⟩
    · rw [len_whl]
      split
      · omega
      · split <;> omega
    · rw [mem_whl] at ht
      split at ht
      · omega
      · split at ht <;> omega
theorem lv_in {w : Int} (g : GS P) (hw : 0 ≤ w) : ∀ {k : Nat} {r : List Int}, r ∈ lvR P w k → r.length = k ∧ ∀ t ∈ r, 0 ≤ t ∧ t ≤ 9999
  | 0, r, h => by
    have : r = [] := by simpa [lvR] using h
    subst this
    exact ⟨rfl, fun t ht => nomatch ht⟩
  | k + 1, r, h => by
    rw [lvR, List.mem_flatMap] at h
    obtain ⟨q, hq, hr⟩ := h
    obtain ⟨h1, h2⟩ := lv_in g hw hq
    obtain ⟨t, ht, rfl⟩ := List.mem_map.mp hr
    refine ⟨by simp [h1], fun x hx => ?_⟩
    rcases List.mem_append.mp hx with z | z
    · exact h2 x z
    · have : x = t := by simpa using z
      subst this
      exact (tr_sub g hw).2 x ht
theorem lv_len {w : Int} (g : GS P) (hw : 0 ≤ w) : ∀ k : Nat, (lvR P w k).length ≤ 5 ^ k
  | 0 => by simp [lvR]
  | k + 1 => by
    rw [lvR]
    have a := flat_le (f := extG P w) (n := 5) (L := lvR P w k) fun r hr => by
      unfold extG; rw [List.length_map]; exact (tr_sub g hw).1
    have b := lv_len g hw k
    rw [Nat.pow_succ]
    have := Nat.mul_le_mul_right 5 b
    omega
theorem pow5 {k : Nat} (h : k ≤ 6) : 5 ^ k ≤ 15625 := by
  rcases (show k = 0 ∨ k = 1 ∨ k = 2 ∨ k = 3 ∨ k = 4 ∨ k = 5 ∨ k = 6 by omega) with rfl | rfl | rfl | rfl | rfl | rfl | rfl <;> decide
theorem best_len {R : List (List Int)} {k : Nat} (h : ∀ r ∈ R, r.length = k) : ∀ {b : Option (List Int)}, (∀ y, b = some y → y.length = k) → ∀ y, R.foldl (bestS P) b = some y → y.length = k := by
  induction R with
  | nil => exact fun hb => hb
  | cons r R ih =>
    intro b hb
    rw [List.foldl_cons]
    refine ih (fun x hx => h x (List.mem_cons_of_mem _ hx)) fun y hy => ?_
    unfold bestS at hy
    split at hy
    · cases hy; exact h r List.mem_cons_self
    · exact hb y hy
/-- one level -/
theorem gen_in (g : GS P) {w : Int} (w0 : 0 ≤ w) (w9 : w ≤ 9999) {k : Nat} (hk : k ≤ 6) {x5 x6 : Option Da} : ∃ y5 y6, forL (.name 5) (sSeq b_Needs_gentle_3_2_1 (sSeq b_Needs_gentle_3_2_2 b_Needs_gentle_3_2_3)) ((lvR P w k).map rwD) [some (objN P), some (.int w), some .non, some (.lst ((lvR P w k).map rwD)), some (.ref S.length), x5, x6, none] (S ++ [.lst []]) =
    .nx [some (objN P), some (.int w), some (bestD ((lvR P w k).foldl (bestS P) none)), some (.lst ((lvR P w k).map rwD)), some (.ref S.length), y5, y6, none] (S ++ [.lst ((lvR P w (k + 1)).map rwD)]) := by
  have gl := g.g.len
  obtain ⟨ε2, S2, e, ⟨y5, y6, rfl⟩, rfl, hl, _⟩ := forL_acc (emb := rwD) (g := .name 5) (b := sSeq b_Needs_gentle_3_2_1 (sSeq b_Needs_gentle_3_2_2 b_Needs_gentle_3_2_3)) (s := (([], none) : List (List Int) × Option (List Int))) (ε := [some (objN P), some (.int w), some .non, some (.lst ((lvR P w k).map rwD)), some (.ref S.length), x5, x6, none]) (S := S ++ [.lst []])
    (fun i s ε S' => (∃ x5 x6, ε = [some (objN P), some (.int w), some (bestD s.2), some (.lst ((lvR P w k).map rwD)), some (.ref S.length), x5, x6, none]) ∧ S' = S ++ [.lst (s.1.map rwD)] ∧ s.1.length ≤ i * 5 ∧ ∀ y, s.2 = some y → y.length = k) (fun s r => (s.1 ++ extG P w r, bestS P s.2 r)) (lvR P w k) ⟨⟨_, _, rfl⟩, rfl, by simp, fun y hy => nomatch hy⟩ fun i r s ε S' hi hr ⟨⟨x5, x6, e1⟩, e2, hl, hb⟩ => by
    subst e1; subst e2
    obtain ⟨acc, b⟩ := s
    dsimp only at hl hb ⊢
    obtain ⟨rl, rm⟩ := lv_in g w0 hr
    have ll := lv_len g w0 k (P := P)
    have lp := pow5 hk
    have el : (extG P w r).length ≤ 5 := by unfold extG; rw [List.length_map]; exact (tr_sub g w0).1
    have tl := (tr_sub (r := r) g w0).1
    have us := unserved_ok (S := S ++ [.lst (acc.map rwD)]) (P := P) (L := r) (by omega) (by omega)
    have tr := tries_ok (S := S ++ [.lst (acc.map rwD)]) (P := P) (L := r) g.g (left := unsF P r) (fun k hk => (uns_lt hk).1) (by have := uns_len (P := P) (r := r); omega) rm w0 w9
    have s1 : r.length + 1 ≤ sizeLine := by rw [sizeLine_eq]; omega
    have c : eComp [7] (iVal (eMeth 4 "tries" d_Needs_tries (eVar 0) (esCons (eVar 5) (esCons (eVar 6) (esCons (eVar 1) esNil))))) (.name 7) tYesD (eOp2 dAdd (eVar 5) (eOpN dTup (esCons (eVar 7) esNil))) [some (objN P), some (.int w), some (bestD (bestS P b r)), some (.lst ((lvR P w k).map rwD)), some (.ref S.length), some (rwD r), some (.tup ((unsF P r).map natD)), none] (S ++ [.lst (acc.map rwD)]) = .ok (.lst ((extG P w r).map rwD)) (S ++ [.lst (acc.map rwD)]) := by
      unfold extG
      rw [List.map_map]
      refine eComp_m (emb := Da.int) (v := fun t => rwD (r ++ [t])) (trF P r (unsF P r) w) (by dsimp? only [nl_tries, Option.isNone, tr]) (by omega) fun t ht => ⟨_, rfl, ?_⟩
      dsimp? only [s1]
      show _ = Rs.ok (Da.tup ((r ++ [t]).map Da.int)) _
      rw [List.map_append]; rfl
    have sl : acc.length + (extG P w r).length ≤ sizeLine := by rw [sizeLine_eq]; omega
    refine ⟨_, [some (objN P), some (.int w), some (bestD (bestS P b r)), some (.lst ((lvR P w k).map rwD)), some (.ref S.length), some (rwD r), some (.tup ((unsF P r).map natD)), none], S ++ [.lst ((acc ++ extG P w r).map rwD)], rfl, ?_, ⟨_, _, rfl⟩, rfl, by simp; omega, fun y hy => ?_⟩
    · have st2 : b_Needs_gentle_3_2_2 [some (objN P), some (.int w), some (bestD b), some (.lst ((lvR P w k).map rwD)), some (.ref S.length), some (rwD r), some (.tup ((unsF P r).map natD)), none] (S ++ [.lst (acc.map rwD)]) = .nx [some (objN P), some (.int w), some (bestD (bestS P b r)), some (.lst ((lvR P w k).map rwD)), some (.ref S.length), some (rwD r), some (.tup ((unsF P r).map natD)), none] (S ++ [.lst (acc.map rwD)]) := by
        unfold b_Needs_gentle_3_2_2 b_Needs_gentle_3_2_2_1 bestS
        cases q : unsF P r with
        | cons j l =>
          have ne : (((l.length + 1 : Nat) : Int) == 0) = false := by simp; omega
          dsimp? only [ne, List.isEmpty]
        | nil =>
          cases b with
          | none => dsimp? only [bestD, List.isEmpty, btB]
          | some y =>
            have dl := dLtD_row (xs := r) (ys := y) (S := S ++ [.lst (acc.map rwD)]) (by rw [rl, hb y rfl])
            cases z : ltR r y with
            | true => rw [z] at dl; dsimp? only [bestD, dl, List.isEmpty, btB, z]
            | false => rw [z] at dl; dsimp? only [bestD, dl, List.isEmpty, btB, z]
      unfold b_Needs_gentle_3_2_1 b_Needs_gentle_3_2_3
      dsimp? only [nl_unserved, Option.isNone, us, st2, c, dExtend]
      rw [if_pos sl]
      dsimp? only [List.map_append]
    · unfold bestS at hy
      split at hy
      · cases hy; exact rl
      · exact hb y hy
  have f1 : ∀ (R : List (List Int)) (s : List (List Int) × Option (List Int)), R.foldl (fun s r => (s.1 ++ extG P w r, bestS P s.2 r)) s = (s.1 ++ R.flatMap (extG P w), R.foldl (bestS P) s.2) := fun R => by
    induction R with
    | nil => intro s; simp
    | cons r R ih => intro s; rw [List.foldl_cons, ih, List.flatMap_cons, List.foldl_cons]; simp [List.append_assoc]
  rw [f1] at e
  refine ⟨y5, y6, ?_⟩
  rw [List.nil_append] at e
  exact e
abbrev gnT : TeE := (tAnd (tBl (eOp2 dGt (eOpN dLen (esCons (eVar 3) esNil)) (eC (.int 0)))) ((tBl (eOp2 dIs (eVar 2) (eC .non)))))
noncomputable abbrev gnB : Sm := (sSeq b_Needs_gentle_3_1 (sSeq b_Needs_gentle_3_2 b_Needs_gentle_3_3))
abbrev hbF (P : List Spn) (w : Int) (k : Nat) : Option (List Int) := (lvR P w k).foldl (bestS P) none
theorem gen_body (g : GS P) {w : Int} (w0 : 0 ≤ w) (w9 : w ≤ 9999) {k : Nat} (hk : k ≤ 6) {x4 x5 x6 : Option Da} : ∃ y4 y5 y6, gnB [some (objN P), some (.int w), some .non, some (.lst ((lvR P w k).map rwD)), x4, x5, x6, none] S = .nx [some (objN P), some (.int w), some (bestD (hbF P w k)), some (.lst ((lvR P w (k + 1)).map rwD)), y4, y5, y6, none] (S ++ [.gone]) := by
  obtain ⟨y5, y6, e⟩ := gen_in (S := S) g w0 w9 hk (x5 := x5) (x6 := x6)
  refine ⟨some (.ref S.length), y5, y6, ?_⟩
  unfold gnB b_Needs_gentle_3_1 b_Needs_gentle_3_2 b_Needs_gentle_3_3 eFrz
  dsimp? only [e]
theorem lv_uns {w : Int} (g : GS P) (hw : 0 ≤ w) : ∀ {k : Nat} {r : List Int}, r ∈ lvR P w k → (unsF P r).length + k ≤ P.length
  | 0, r, h => by have := uns_len (P := P) (r := r); omega
  | k + 1, r, h => by
    rw [lvR, List.mem_flatMap] at h
    obtain ⟨q, hq, hr⟩ := h
    have ih := lv_uns g hw hq
    obtain ⟨t, ht, rfl⟩ := List.mem_map.mp hr
    have sub : ∀ j, j ∈ unsF P (q ++ [t]) → j ∈ unsF P q := fun j hj => by
      rw [uns_iff] at hj ⊢
      rw [List.any_append, Bool.or_eq_false_iff] at hj
      exact ⟨hj.1, hj.2.1⟩
    unfold trF at ht
    cases e : trS P (unsF P q) with
    | none => rw [e] at ht; exact nomatch ht
    | some z =>
      rw [e] at ht
      dsimp only at ht
      obtain ⟨zm, ⟨j, hj, ej⟩, _⟩ := trS_mem (fun k hk => (uns_lt hk).1) e
      rw [mem_whl] at ht
      have tin : inB (gp P (j : Nat)) t = true := by
        rw [← ej]
        unfold inB
        rw [decide_eq_true_eq]
        split at ht
        · omega
        · split at ht <;> omega
      have hj' : j ∉ unsF P (q ++ [t]) := fun z => by
        have := (uns_lt z).2
        rw [List.any_append, Bool.or_eq_false_iff] at this
        have := this.2
        simp [tin] at this
      have nd : (unsF P q).Nodup := by
        unfold unsF
        refine List.Nodup.sublist (List.filter_sublist.map _) ?_
        have : P.zipIdx.map (·.2) = List.range P.length := by
          refine List.ext_getElem (by simp) fun i h1 h2 => by simp
        rw [this]; exact List.nodup_range
      have nd2 : (unsF P (q ++ [t])).Nodup := by
        unfold unsF
        refine List.Nodup.sublist (List.filter_sublist.map _) ?_
        have : P.zipIdx.map (·.2) = List.range P.length := by
          refine List.ext_getElem (by simp) fun i h1 h2 => by simp
        rw [this]; exact List.nodup_range
      have := nodup_le (L := j :: unsF P (q ++ [t])) (M := unsF P q) (List.nodup_cons.mpr ⟨hj', nd2⟩) fun x hx => by
        rcases List.mem_cons.mp hx with z | z
        · rw [z]; exact hj
        · exact sub x z
      rw [List.length_cons] at this
      omega
theorem hb_none {w : Int} {k : Nat} : hbF P w k = none ↔ ∀ r ∈ lvR P w k, srvB P r = false := by
  unfold hbF
  generalize lvR P w k = R
  have key : ∀ (R : List (List Int)) (b : Option (List Int)), R.foldl (bestS P) b = none ↔ b = none ∧ ∀ r ∈ R, srvB P r = false := fun R => by
    induction R with
    | nil => intro b; simp
    | cons r R ih =>
      intro b
      rw [List.foldl_cons, ih]
      unfold bestS
      rw [uns_nil]
      constructor
      · rintro ⟨h1, h2⟩
        split at h1
        · cases h1
        · rename_i c
          subst h1
          refine ⟨rfl, fun x hx => ?_⟩
          rcases List.mem_cons.mp hx with z | z
          · rw [z]; simpa [btB] using c
          · exact h2 x z
      · rintro ⟨rfl, h2⟩
        have a := h2 r List.mem_cons_self
        rw [a]
        exact ⟨rfl, fun x hx => h2 x (List.mem_cons_of_mem _ hx)⟩
  rw [key]
  simp
theorem hb_some {w : Int} {k : Nat} {r : List Int} (h : hbF P w k = some r) : r ∈ lvR P w k ∧ srvB P r = true := by
  unfold hbF at h
  generalize lvR P w k = R at h
  have key : ∀ (R : List (List Int)) (b : Option (List Int)), R.foldl (bestS P) b = some r → b = some r ∨ (r ∈ R ∧ srvB P r = true) := fun R => by
    induction R with
    | nil => intro b h; exact .inl h
    | cons x R ih =>
      intro b h
      rw [List.foldl_cons] at h
      rcases ih _ h with z | ⟨z1, z2⟩
      · unfold bestS at z
        rw [uns_nil] at z
        split at z
        · rename_i c
          cases z
          rw [Bool.and_eq_true] at c
          exact .inr ⟨List.mem_cons_self, c.1⟩
        · exact .inl z
      · exact .inr ⟨List.mem_cons_of_mem _ z1, z2⟩
  rcases key R none h with z | z
  · cases z
  · exact z
/-- what the search ends with -/
def GenEnd (P : List Spn) (w : Int) (b : Option (List Int)) : Prop := match b with
  | some r => ∃ k, r ∈ lvR P w k ∧ srvB P r = true ∧ ∀ j < k, ∀ q ∈ lvR P w j, srvB P q = false
  | none => ∀ j, ∀ q ∈ lvR P w j, srvB P q = false
theorem gen_loop (g : GS P) {w : Int} (w0 : 0 ≤ w) (w9 : w ≤ 9999) : ∀ (n k : Nat), n + k = P.length + 1 → (∀ j < k, hbF P w j = none) → ∀ (S : Sto) (x4 x5 x6 : Option Da), ∃ m b x3 y4 y5 y6 G, GenEnd P w b ∧
    whileN gnT gnB m [some (objN P), some (.int w), some .non, some (.lst ((lvR P w k).map rwD)), x4, x5, x6, none] S = .nx [some (objN P), some (.int w), some (bestD b), x3, y4, y5, y6, none] (S ++ G) := by
  intro n
  have stop : ∀ (k : Nat) (S : Sto) (x4 x5 x6 : Option Da), lvR P w k = [] → (∀ j < k, hbF P w j = none) → ∃ m b x3 y4 y5 y6 G, GenEnd P w b ∧
    whileN gnT gnB m [some (objN P), some (.int w), some .non, some (.lst ((lvR P w k).map rwD)), x4, x5, x6, none] S = .nx [some (objN P), some (.int w), some (bestD b), x3, y4, y5, y6, none] (S ++ G) := fun k S x4 x5 x6 hk hb => by
    refine ⟨1, none, some (.lst []), x4, x5, x6, [], fun j q hq => ?_, ?_⟩
    · by_cases c : j < k
      · exact hb_none.mp (hb j c) q hq
      · have : ∀ i, lvR P w (k + i) = [] := fun i => by
          induction i with
          | zero => exact hk
          | succ i ih => rw [← Nat.add_assoc, lvR, ih]; rfl
        have := this (j - k)
        rw [show k + (j - k) = j by omega] at this
        rw [this] at hq
        exact nomatch hq
    · rw [hk]
      unfold whileN
      dsimp? only [bestD, Int.lt_irrefl, List.append_nil]
  induction n with
  | zero =>
    intro k hk hb S x4 x5 x6
    refine stop k S x4 x5 x6 ?_ hb
    cases e : lvR P w k with
    | nil => rfl
    | cons r R =>
      have := lv_uns g w0 (r := r) (k := k) (by rw [e]; exact List.mem_cons_self)
      omega
  | succ n ih =>
    intro k hk hb S x4 x5 x6
    by_cases e : lvR P w k = []
    · exact stop k S x4 x5 x6 e hb
    · have k6 : k ≤ 6 := by have := g.six; omega
      have pos : (0 : Int) < ((lvR P w k).length : Int) := by have := List.length_pos_iff.mpr e; omega
      obtain ⟨z4, z5, z6, bd⟩ := gen_body (S := S) g w0 w9 k6 (x4 := x4) (x5 := x5) (x6 := x6)
      have te : gnT [some (objN P), some (.int w), some .non, some (.lst ((lvR P w k).map rwD)), x4, x5, x6, none] S = .ok true S := by dsimp? only [pos]
      cases q : hbF P w k with
      | none =>
        rw [q] at bd
        obtain ⟨m, b, x3, y4, y5, y6, G, ge, wl⟩ := ih (k + 1) (by omega) (fun j hj => by
          by_cases c : j = k
          · subst c; exact q
          · exact hb j (by omega)) (S ++ [.gone]) z4 z5 z6
        refine ⟨m + 1, b, x3, y4, y5, y6, .gone :: G, ge, ?_⟩
        unfold whileN
        rw [te]
        simp only [lft_ok, if_true, bd]
        have e0 : bestD none = .non := rfl
        rw [e0, wl, List.append_assoc]; rfl
      | some r =>
        rw [q] at bd
        obtain ⟨h1, h2⟩ := hb_some q
        refine ⟨2, some r, some (.lst ((lvR P w (k + 1)).map rwD)), z4, z5, z6, [.gone], ⟨k, h1, h2, fun j hj => hb_none.mp (hb j hj)⟩, ?_⟩
        unfold whileN
        rw [te]
        simp only [lft_ok, if_true, bd]
        unfold whileN
        by_cases c : (0 : Int) < ((lvR P w (k + 1)).length : Int)
        · dsimp? only [c, bestD]
        · dsimp? only [c, bestD]
theorem gentle_ok (g : GS P) {w : Int} (w0 : 0 ≤ w) (w9 : w ≤ 9999) : ∃ b, GenEnd P w b ∧ d_Needs_gentle [objN P, .int w] S = .ok (bestD b) S := by
  obtain ⟨m, b, x3, y4, y5, y6, X, ge, wl⟩ := gen_loop g w0 w9 (P.length + 1) 0 rfl (fun j hj => absurd hj (Nat.not_lt_zero _)) S none none none
  refine ⟨b, ge, fn_more (b := b_Needs_gentle) (X := X) ?_ (by cases b <;> first | rfl | exact shps_below (n := 1) (shps_ints 1 _))⟩
  have hw := sWhile_of (n := m) (by rw [wl]; intro z; cases z)
  rw [wl] at hw
  unfold b_Needs_gentle b_Needs_gentle_1 b_Needs_gentle_2 b_Needs_gentle_3 b_Needs_gentle_4
  have e0 : (lvR P w 0).map rwD = [.tup []] := rfl
  rw [e0] at hw
  dsimp? only [hw, xv_best]
end
open PySem PySem.Spec PyProof.Rows L2
open Qk21
section
variable {P : List Spn} {L : List Int}
/-! ### the greedy choice -/
section
variable {β : Type} {f : β → Spn}
def greS (f : β → Spn) (s : List β) (x : β) : List β := match s.getLast? with
  | none => s ++ [x]
  | some l => if (f l).2.2 < (f x).2.1 then s ++ [x] else s
theorem gre_inv : ∀ (M D : List β) (s : List β), (∀ c ∈ s, c ∈ D) → s.Pairwise (fun a b => (f a).2.2 < (f b).2.1) → (∀ x ∈ D, ∃ c ∈ s, (f x).2.1 ≤ (f c).2.2 ∧ (f c).2.2 ≤ (f x).2.2) → (∀ x ∈ D ++ M, (f x).2.1 ≤ (f x).2.2) → (D ++ M).Pairwise (fun a b => (f a).2.2 ≤ (f b).2.2) →
    (∀ c ∈ M.foldl (greS f) s, c ∈ D ++ M) ∧ (M.foldl (greS f) s).Pairwise (fun a b => (f a).2.2 < (f b).2.1) ∧ (∀ x ∈ D ++ M, ∃ c ∈ M.foldl (greS f) s, (f x).2.1 ≤ (f c).2.2 ∧ (f c).2.2 ≤ (f x).2.2)
  | [], D, s, h1, h2, h3, _, _ => by
    rw [List.append_nil]
    exact ⟨h1, h2, h3⟩
  | x :: M, D, s, h1, h2, h3, h4, h5 => by
    rw [List.foldl_cons]
    have e : D ++ x :: M = (D ++ [x]) ++ M := by simp
    rw [e] at h4 h5 ⊢
    have ox := h4 x (by simp)
    have add : (∀ c ∈ s, (f c).2.2 < (f x).2.1) → (∀ c ∈ s ++ [x], c ∈ D ++ [x]) ∧ (s ++ [x]).Pairwise (fun a b => (f a).2.2 < (f b).2.1) ∧ (∀ y ∈ D ++ [x], ∃ c ∈ s ++ [x], (f y).2.1 ≤ (f c).2.2 ∧ (f c).2.2 ≤ (f y).2.2) := fun hs => by
      refine ⟨fun c hc => ?_, ?_, fun y hy => ?_⟩
      · rcases List.mem_append.mp hc with z | z
        · exact List.mem_append_left _ (h1 c z)
        · exact List.mem_append_right _ z
      · rw [List.pairwise_append]
        exact ⟨h2, List.pairwise_singleton _ _, fun a ha b hb => by rw [List.mem_singleton.mp hb]; exact hs a ha⟩
      · rcases List.mem_append.mp hy with z | z
        · obtain ⟨c, hc, a⟩ := h3 y z
          exact ⟨c, List.mem_append_left _ hc, a⟩
        · rw [List.mem_singleton.mp z]
          exact ⟨x, by simp, ox, Int.le_refl _⟩
    unfold greS
    cases q : s.getLast? with
    | none =>
      have := List.getLast?_eq_none_iff.mp q
      subst this
      obtain ⟨a, b, c⟩ := add fun c hc => nomatch hc
      exact gre_inv M (D ++ [x]) ([] ++ [x]) a b c h4 h5
    | some l =>
      dsimp only
      obtain ⟨s0, rfl⟩ : ∃ s0, s = s0 ++ [l] := by
        have := List.getLast?_eq_some_iff.mp q
        obtain ⟨ys, hy⟩ := this
        exact ⟨ys, hy⟩
      by_cases c : (f l).2.2 < (f x).2.1
      · rw [if_pos c]
        obtain ⟨a, b, d⟩ := add fun y hy => by
          rcases List.mem_append.mp hy with z | z
          · have a := (List.pairwise_append.mp h2).2.2 y z l (by simp)
            have b := h4 l (List.mem_append_left _ (List.mem_append_left _ (h1 l (by simp))))
            omega
          · rw [List.mem_singleton.mp z]; exact c
        exact gre_inv M (D ++ [x]) _ a b d h4 h5
      · rw [if_neg c]
        refine gre_inv M (D ++ [x]) _ (fun y hy => List.mem_append_left _ (h1 y hy)) h2 (fun y hy => ?_) h4 h5
        rcases List.mem_append.mp hy with z | z
        · exact h3 y z
        · rw [List.mem_singleton.mp z]
          refine ⟨l, by simp, by omega, ?_⟩
          have := (List.pairwise_append.mp (List.pairwise_append.mp h5).1).2.2 l (h1 l (by simp)) x (by simp)
          exact this
theorem gre_spec {M : List β} (h4 : ∀ x ∈ M, (f x).2.1 ≤ (f x).2.2) (h5 : M.Pairwise (fun a b => (f a).2.2 ≤ (f b).2.2)) :
    (∀ c ∈ M.foldl (greS f) [], c ∈ M) ∧ (M.foldl (greS f) []).Pairwise (fun a b => (f a).2.2 < (f b).2.1) ∧ (∀ x ∈ M, ∃ c ∈ M.foldl (greS f) [], (f x).2.1 ≤ (f c).2.2 ∧ (f c).2.2 ≤ (f x).2.2) := by
  have := gre_inv (f := f) M [] [] (fun _ h => h) .nil (fun _ h => nomatch h) h4 h5
  exact this
/-- as many ticks as spans that do not meet -/
theorem low_bd : ∀ (C : List β) (T : List Int), C.Pairwise (fun a b => (f a).2.2 < (f b).2.1) → (∀ c ∈ C, ∃ t ∈ T, (f c).2.1 ≤ t ∧ t ≤ (f c).2.2) → C.length ≤ T.length
  | [], T, _, _ => Nat.zero_le _
  | a :: C, T, hp, hs => by
    obtain ⟨h1, h2⟩ := List.pairwise_cons.mp hp
    obtain ⟨t, ht, t1, t2⟩ := hs a List.mem_cons_self
    have ih := low_bd C (T.erase t) h2 fun c hc => by
      obtain ⟨u, hu, u1, u2⟩ := hs c (List.mem_cons_of_mem _ hc)
      have := h1 c hc
      exact ⟨u, (List.mem_erase_of_ne (by omega)).mpr hu, u1, u2⟩
    have := List.length_erase_of_mem ht
    have := List.length_pos_of_mem ht
    rw [List.length_cons]
    omega
end
theorem srtV_sorted : (srtV P).Pairwise fun a b => a.2.2 ≤ b.2.2 := (sorted_K (key := kV) (n := 2) (fun _ => rfl) P).imp fun {a b} h => by
  unfold leK at h
  simp only [kV, ltR, Bool.not_eq_true'] at h
  split at h
  · omega
  · simp only [decide_eq_false_iff_not] at h; omega
theorem srtP_sorted : (srtP P).Pairwise fun a b => a.1.2.2 ≤ b.1.2.2 := (sorted_K (key := kP) (n := 3) (fun _ => rfl) P.zipIdx).imp fun {a b} h => by
  unfold leK at h
  simp only [kP, ltR, Bool.not_eq_true'] at h
  split at h
  · omega
  · simp only [decide_eq_false_iff_not] at h; omega
def chV (P : List Spn) : List Spn := (srtV P).foldl (greS fun p => p) []
def chP (P : List Spn) : List (Spn × Nat) := (srtP P).foldl (greS fun q => q.1) []
theorem vis_ch : visF P = (chV P).map fun p => p.2.2 := by
  have key : ∀ (M : List Spn) (s : List Spn), M.foldl visS (s.map fun p => p.2.2) = (M.foldl (greS fun p => p) s).map fun p => p.2.2 := fun M => by
    induction M with
    | nil => intro s; rfl
    | cons x M ih =>
      intro s
      rw [List.foldl_cons, List.foldl_cons, ← ih]
      congr 1
      unfold visS greS
      rw [List.getLast?_map]
      cases s.getLast? with
      | none => simp
      | some l =>
        simp only [Option.map_some]
        split <;> simp
  exact key _ []
theorem pap_ch (h : ∀ p ∈ P, 0 ≤ p.2.1) : papF P = (chP P).map (·.2) := by
  have key : ∀ (M : List (Spn × Nat)) (s : List (Spn × Nat)), (∀ q ∈ M, 0 ≤ q.1.2.1) → M.foldl papS (s.map (·.2), match s.getLast? with | none => -1 | some l => l.1.2.2) = ((M.foldl (greS fun q => q.1) s).map (·.2), match (M.foldl (greS fun q => q.1) s).getLast? with | none => -1 | some l => l.1.2.2) := fun M => by
    induction M with
    | nil => intro s _; rfl
    | cons x M ih =>
      intro s hM
      rw [List.foldl_cons, List.foldl_cons, ← ih _ fun q hq => hM q (List.mem_cons_of_mem _ hq)]
      congr 1
      have hx := hM x List.mem_cons_self
      unfold papS greS
      cases e : s.getLast? with
      | none =>
        simp only
        rw [if_pos (by omega)]
        simp
      | some l =>
        simp only
        split
        · simp
        · simp [e]
  have := key (srtP P) [] fun q hq => h q.1 (List.mem_of_getElem? (zip_mem (x := q.1) (i := q.2) (List.mem_mergeSort.mp hq)).1)
  unfold papF
  have e := congrArg Prod.fst this
  exact e
theorem chV_spec (h : ∀ p ∈ P, p.2.1 ≤ p.2.2) : (∀ c ∈ chV P, c ∈ P) ∧ (chV P).Pairwise (fun a b => a.2.2 < b.2.1) ∧ (∀ x ∈ P, ∃ c ∈ chV P, x.2.1 ≤ c.2.2 ∧ c.2.2 ≤ x.2.2) := by
  have mm : ∀ x, x ∈ srtV P ↔ x ∈ P := fun x => List.mem_mergeSort
  obtain ⟨a, b, c⟩ := gre_spec (f := fun p : Spn => p) (M := srtV P) (fun x hx => h x ((mm x).mp hx)) srtV_sorted
  exact ⟨fun c hc => (mm c).mp (a c hc), b, fun x hx => c x ((mm x).mpr hx)⟩
theorem chP_spec (h : ∀ p ∈ P, p.2.1 ≤ p.2.2) : (∀ c ∈ chP P, c ∈ P.zipIdx) ∧ (chP P).Pairwise (fun a b => a.1.2.2 < b.1.2.1) ∧ (∀ x ∈ P, ∃ c ∈ chP P, x.2.1 ≤ c.1.2.2 ∧ c.1.2.2 ≤ x.2.2) := by
  have mm : ∀ x, x ∈ srtP P ↔ x ∈ P.zipIdx := fun x => List.mem_mergeSort
  have inP : ∀ q ∈ P.zipIdx, q.1 ∈ P := fun q hq => List.mem_of_getElem? (zip_mem (x := q.1) (i := q.2) hq).1
  obtain ⟨a, b, c⟩ := gre_spec (f := fun q : Spn × Nat => q.1) (M := srtP P) (fun x hx => h x.1 (inP x ((mm x).mp hx))) srtP_sorted
  refine ⟨fun c hc => (mm c).mp (a c hc), b, fun x hx => ?_⟩
  obtain ⟨i, hi, e⟩ := List.getElem_of_mem hx
  exact c (x, i) ((mm _).mpr (by rw [List.mem_zipIdx_iff_getElem?, List.getElem?_eq_getElem hi, e]))
theorem srv_iff {T : List Int} : srvB P T = true ↔ ∀ p ∈ P, ∃ t ∈ T, p.2.1 ≤ t ∧ t ≤ p.2.2 := by
  unfold srvB
  simp only [List.all_eq_true, List.any_eq_true, inB, decide_eq_true_eq]
theorem vis_serve (h : ∀ p ∈ P, p.2.1 ≤ p.2.2) : srvB P (visF P) = true := by
  rw [srv_iff, vis_ch]
  intro p hp
  obtain ⟨c, hc, a⟩ := (chV_spec h).2.2 p hp
  exact ⟨c.2.2, List.mem_map.mpr ⟨c, hc, rfl⟩, a⟩
theorem vis_low (h : ∀ p ∈ P, p.2.1 ≤ p.2.2) {T : List Int} (hT : srvB P T = true) : (visF P).length ≤ T.length := by
  rw [vis_ch, List.length_map]
  have s := chV_spec h
  exact low_bd (f := fun p : Spn => p) (chV P) T s.2.1 fun c hc => srv_iff.mp hT c (s.1 c hc)
theorem pap_len (h0 : ∀ p ∈ P, 0 ≤ p.2.1) (h : ∀ p ∈ P, p.2.1 ≤ p.2.2) : (papF P).length = (visF P).length := by
  have s := chP_spec h
  rw [pap_ch h0, List.length_map]
  refine Nat.le_antisymm ?_ ?_
  · have v := vis_serve h
    exact low_bd (f := fun q : Spn × Nat => q.1) (chP P) _ s.2.1 fun c hc => srv_iff.mp v c.1 (List.mem_of_getElem? (zip_mem (x := c.1) (i := c.2) (s.1 c hc)).1)
  · have : srvB P ((chP P).map fun q => q.1.2.2) = true := by
      rw [srv_iff]
      intro p hp
      obtain ⟨c, hc, a⟩ := s.2.2 p hp
      exact ⟨c.1.2.2, List.mem_map.mpr ⟨c, hc, rfl⟩, a⟩
    have := vis_low h this
    rwa [List.length_map] at this
theorem vis_rise (h : ∀ p ∈ P, p.2.1 ≤ p.2.2) : (visF P).Pairwise fun a b => ltI a b = true := by
  rw [vis_ch, List.pairwise_map]
  have s := chV_spec h
  refine List.Pairwise.imp_of_mem (fun {a b} ha hb hab => ?_) s.2.1
  have := h b (s.1 b hb)
  unfold ltI
  rw [decide_eq_true_eq]; omega
theorem vis_srt (h : ∀ p ∈ P, p.2.1 ≤ p.2.2) : usrt ltI (visF P) = visF P := srt_uniq lin_I (usrt_srt lin_I) (vis_rise h) fun z => usrt_mem lin_I
theorem vis_mem {t : Int} (h : ∀ p ∈ P, p.2.1 ≤ p.2.2) (ht : t ∈ visF P) : ∃ p ∈ P, t = p.2.2 := by
  rw [vis_ch] at ht
  obtain ⟨c, hc, rfl⟩ := List.mem_map.mp ht
  exact ⟨c, (chV_spec h).1 c hc, rfl⟩
theorem vis_len (h : ∀ p ∈ P, p.2.1 ≤ p.2.2) : (visF P).length ≤ P.length := by
  have := vis_low (P := P) (T := P.map fun p => p.2.2) h (by
    rw [srv_iff]
    exact fun p hp => ⟨p.2.2, List.mem_map.mpr ⟨p, hp, rfl⟩, h p hp, Int.le_refl _⟩)
  rwa [List.length_map] at this
/-- indexes of the paper: spans that do not meet -/
theorem pap_pw (h0 : ∀ p ∈ P, 0 ≤ p.2.1) (h : ∀ p ∈ P, p.2.1 ≤ p.2.2) : (∀ k ∈ papF P, k < P.length) ∧ (papF P).Pairwise fun a b => (gp P (a : Nat)).2.2 < (gp P (b : Nat)).2.1 := by
  have s := chP_spec h
  have ge : ∀ q ∈ P.zipIdx, gp P (q.2 : Nat) = q.1 := fun q hq => by
    have := (zip_mem (x := q.1) (i := q.2) hq).1
    unfold gp
    rw [List.getD_eq_getElem?_getD, Int.toNat_natCast, this]; rfl
  rw [pap_ch h0]
  refine ⟨fun k hk => ?_, ?_⟩
  · obtain ⟨c, hc, rfl⟩ := List.mem_map.mp hk
    exact (zip_mem (x := c.1) (i := c.2) (s.1 c hc)).2
  · rw [List.pairwise_map]
    refine List.Pairwise.imp_of_mem (fun {a b} ha hb hab => ?_) s.2.1
    rw [ge a (s.1 a ha), ge b (s.1 b hb)]; exact hab
theorem meet_no {p q : Spn} (h : p.2.2 < q.2.1) : meetB p q = false ∧ meetB q p = false := by
  unfold meetB
  constructor
  · rw [decide_eq_false (p := q.2.1 ≤ p.2.2) (by omega), Bool.and_false]
  · rw [decide_eq_false (p := q.2.1 ≤ p.2.2) (by omega), Bool.false_and]
theorem pap_ip (h0 : ∀ p ∈ P, 0 ≤ p.2.1) (h : ∀ p ∈ P, p.2.1 ≤ p.2.2) : ipB P ((papF P).map fun k : Nat => (k : Int)) = true := by
  obtain ⟨a, b⟩ := pap_pw h0 h
  unfold ipB
  rw [Bool.and_eq_true]
  refine ⟨?_, ?_⟩
  · rw [List.all_eq_true]
    intro k hk
    obtain ⟨j, hj, rfl⟩ := List.mem_map.mp hk
    have := a j hj
    unfold okI
    rw [decide_eq_true_eq]; omega
  · rw [Option.isNone_iff_eq_none, List.find?_eq_none]
    intro q hq
    obtain ⟨e, hl⟩ := zip_mem (x := q.1) (i := q.2) hq
    rw [List.length_map] at hl
    unfold ipBad
    rw [Bool.not_eq_true, List.any_eq_false]
    intro o ho
    obtain ⟨i, hi, ei⟩ := List.getElem_of_mem ho
    rw [List.length_take, List.length_map] at hi
    rw [List.getElem_take, List.getElem_map] at ei
    rw [List.getElem?_map, List.getElem?_eq_getElem hl, Option.map_some, Option.some.injEq] at e
    have := List.pairwise_iff_getElem.mp b i q.2 (by omega) hl (by omega)
    rw [← ei, ← e, (meet_no this).2]
    decide
end
open PySem PySem.Spec PyProof.Rows L2
open Qk21
section
variable {P : List Spn} {L : List Int}
def gapF (w : Int) (r : List Int) : List Int := (whl 1 r.length).filter fun k => decide (r.getD k.toNat 0 - r.getD (k - 1).toNat 0 < w)
theorem gap_iff {w : Int} (hw : 0 ≤ w) {r : List Int} : (gapF w r).isEmpty = true ↔ r.Pairwise fun a b => a + w ≤ b := by
  have key : (gapF w r).isEmpty = true ↔ ∀ k : Nat, 1 ≤ k → k < r.length → r.getD (k - 1) 0 + w ≤ r.getD k 0 := by
    unfold gapF
    rw [filt_emp, Bool.not_eq_true', List.any_eq_false]
    constructor
    · intro h k k1 k2
      have := h (k : Int) (mem_whl.mpr (by omega))
      rw [decide_eq_true_eq, Int.toNat_natCast, show ((k : Int) - 1).toNat = k - 1 by omega] at this
      omega
    · intro h k hk
      rw [mem_whl] at hk
      have := h k.toNat (by omega) (by omega)
      rw [decide_eq_true_eq, show (k - 1).toNat = k.toNat - 1 by omega]
      omega
  rw [key, List.pairwise_iff_getElem]
  constructor
  · intro h i j hi hj hij
    have e : ∀ k (hk : k < r.length), r.getD k 0 = r[k] := fun k hk => by rw [List.getD_eq_getElem?_getD, List.getElem?_eq_getElem hk]; rfl
    have main : ∀ d : Nat, i + (d + 1) < r.length → r.getD i 0 + w ≤ r.getD (i + (d + 1)) 0 := fun d => by
      induction d with
      | zero => intro hd; have := h (i + 1) (by omega) (by omega); simpa using this
      | succ d ih =>
        intro hd
        have a := ih (by omega)
        have b := h (i + (d + 1 + 1)) (by omega) (by omega)
        rw [show i + (d + 1 + 1) - 1 = i + (d + 1) by omega] at b
        omega
    have := main (j - i - 1) (by omega)
    rw [show i + (j - i - 1 + 1) = j by omega, e i hi, e j hj] at this
    exact this
  · intro h k k1 k2
    have := h (k - 1) k (by omega) k2 (by omega)
    rw [List.getD_eq_getElem?_getD, List.getElem?_eq_getElem (by omega : k - 1 < r.length), List.getD_eq_getElem?_getD, List.getElem?_eq_getElem k2]
    exact this
theorem lv_gap {w : Int} (g : GS P) (hw : 1 ≤ w) {T : Int} (hT : ∀ p ∈ P, p.2.2 ≤ T) : ∀ {k : Nat} {r : List Int}, r ∈ lvR P w k → (r.Pairwise fun a b => a + w ≤ b) ∧ ∀ t ∈ r, t ≤ T
  | 0, r, h => by
    have : r = [] := by simpa [lvR] using h
    subst this
    exact ⟨.nil, fun t ht => nomatch ht⟩
  | k + 1, r, h => by
    rw [lvR, List.mem_flatMap] at h
    obtain ⟨q, hq, hr⟩ := h
    obtain ⟨h1, h2⟩ := lv_gap g hw hT hq
    obtain ⟨t, ht, rfl⟩ := List.mem_map.mp hr
    unfold trF at ht
    cases e : trS P (unsF P q) with
    | none => rw [e] at ht; exact nomatch ht
    | some z =>
      rw [e] at ht
      dsimp only at ht
      have zm := (trS_mem (fun k hk => (uns_lt hk).1) e).1
      have zT := hT z zm
      rw [mem_whl] at ht
      refine ⟨?_, fun x hx => ?_⟩
      · rw [List.pairwise_append]
        refine ⟨h1, List.pairwise_singleton _ _, fun a ha b hb => ?_⟩
        rw [List.mem_singleton.mp hb]
        cases el : q.getLast? with
        | none => have := List.getLast?_eq_none_iff.mp el; subst this; exact nomatch ha
        | some p =>
          rw [el] at ht
          dsimp only at ht
          obtain ⟨q0, rfl⟩ := List.getLast?_eq_some_iff.mp el
          have : a ≤ p := by
            rcases List.mem_append.mp ha with y | y
            · have := (List.pairwise_append.mp h1).2.2 a y p (by simp)
              omega
            · rw [List.mem_singleton.mp y]; exact Int.le_refl _
          split at ht <;> omega
      · rcases List.mem_append.mp hx with y | y
        · exact h2 x y
        · rw [List.mem_singleton.mp y]; omega
theorem rise_in {top : Int} : ∀ {k : Nat} {r : List Int}, r.length = k → r.Pairwise (fun a b => a < b) → (∀ t ∈ r, 0 ≤ t ∧ t ≤ top) → r ∈ rowsF top k
  | 0, r, h, _, _ => by
    have := List.eq_nil_of_length_eq_zero h
    subst this
    simp [rowsF]
  | k + 1, r, h, hp, ht => by
    obtain ⟨q, t, rfl⟩ : ∃ q t, r = q ++ [t] := by
      cases e : r.getLast? with
      | none => have := List.getLast?_eq_none_iff.mp e; subst this; simp at h
      | some t => obtain ⟨q, hq⟩ := List.getLast?_eq_some_iff.mp e; exact ⟨q, t, hq⟩
    have a := List.pairwise_append.mp hp
    have ih := rise_in (top := top) (k := k) (r := q) (by simpa using h) a.1 fun x hx => ht x (List.mem_append_left _ hx)
    rw [rowsF, List.mem_flatMap]
    refine ⟨q, ih, ?_⟩
    unfold extR
    refine List.mem_map.mpr ⟨t, mem_whl.mpr ⟨?_, ?_⟩, rfl⟩
    · unfold lstR
      cases e : q.getLast? with
      | none => have := (ht t (by simp)).1; simp; omega
      | some x =>
        have := a.2.2 x (List.mem_of_getLast? e) t (by simp)
        simp; omega
    · have := (ht t (by simp)).2; omega
/-- the search finds all that a row of ticks can -/
theorem search_all {w : Int} (hw : 1 ≤ w) {V : List Int} (hV : V.Pairwise fun a b => a + w ≤ b) (hs : srvB P V = true) : ∀ (d k : Nat) (r : List Int), V.length ≤ k + d → r ∈ lvR P w k → r.length = k → (∀ t ∈ r, t ∈ V) → r.Pairwise (fun a b => a < b) →
    (∀ j ∈ unsF P r, ∀ p, r.getLast? = some p → p < (gp P (j : Nat)).2.1) → ∃ k2 r2, k2 ≤ V.length ∧ r2 ∈ lvR P w k2 ∧ srvB P r2 = true := by
  have nodup : ∀ {r : List Int}, r.Pairwise (fun a b => a < b) → r.Nodup := fun h => h.imp fun {a b} hab => by omega
  intro d
  induction d with
  | zero =>
    intro k r hd hr hl hin hp hu
    refine ⟨k, r, ?_, hr, ?_⟩
    · have := nodup_le (nodup hp) hin; omega
    · rw [srv_iff] at hs ⊢
      intro p hpP
      obtain ⟨t, ht, a⟩ := hs p hpP
      refine ⟨t, ?_, a⟩
      by_cases c : t ∈ r
      · exact c
      · have := nodup_le (L := t :: r) (M := V) (List.nodup_cons.mpr ⟨c, nodup hp⟩) fun x hx => by
          rcases List.mem_cons.mp hx with z | z
          · rw [z]; exact ht
          · exact hin x z
        rw [List.length_cons] at this
        omega
  | succ d ih =>
    intro k r hd hr hl hin hp hu
    by_cases c : srvB P r = true
    · exact ⟨k, r, by have := nodup_le (nodup hp) hin; omega, hr, c⟩
    · cases e : trS P (unsF P r) with
      | none =>
        exfalso
        cases q : unsF P r with
        | nil => have := uns_nil (P := P) (r := r); rw [q] at this; exact c this.symm
        | cons a l => rw [q] at e; cases e
      | some z =>
        obtain ⟨zm, ⟨j, hj, ej⟩, hmin⟩ := trS_mem (fun k hk => (uns_lt hk).1) e
        obtain ⟨t, ht, t1, t2⟩ := srv_iff.mp hs z zm
        have big : ∀ p, r.getLast? = some p → p + w ≤ t := fun p hpl => by
          have a := hu j hj p hpl
          rw [← ej] at a
          have pV := hin p (List.mem_of_getLast? hpl)
          obtain ⟨i1, h1, e1⟩ := List.getElem_of_mem pV
          obtain ⟨i2, h2, e2⟩ := List.getElem_of_mem ht
          rw [List.pairwise_iff_getElem] at hV
          by_cases c1 : i1 < i2
          · have := hV i1 i2 h1 h2 c1
            omega
          · by_cases c2 : i1 = i2
            · subst c2; omega
            · have := hV i2 i1 h2 h1 (by omega)
              omega
        have tin : t ∈ trF P r (unsF P r) w := by
          unfold trF
          rw [e]
          dsimp only
          rw [mem_whl]
          cases q : r.getLast? with
          | none => dsimp only; omega
          | some p =>
            dsimp only
            have := big p q
            split <;> omega
        have hr2 : r ++ [t] ∈ lvR P w (k + 1) := by
          rw [lvR, List.mem_flatMap]
          exact ⟨r, hr, List.mem_map.mpr ⟨t, tin, rfl⟩⟩
        refine ih (k + 1) (r ++ [t]) (by omega) hr2 (by simp [hl]) (fun x hx => ?_) ?_ fun i hi p hpl => ?_
        · rcases List.mem_append.mp hx with y | y
          · exact hin x y
          · rw [List.mem_singleton.mp y]; exact ht
        · rw [List.pairwise_append]
          refine ⟨hp, List.pairwise_singleton _ _, fun a ha b hb => ?_⟩
          rw [List.mem_singleton.mp hb]
          cases q : r.getLast? with
          | none => have := List.getLast?_eq_none_iff.mp q; subst this; exact nomatch ha
          | some p =>
            have bp := big p q
            obtain ⟨q0, rfl⟩ := List.getLast?_eq_some_iff.mp q
            rcases List.mem_append.mp ha with y | y
            · have := (List.pairwise_append.mp hp).2.2 a y p (by simp)
              omega
            · rw [List.mem_singleton.mp y]; omega
        · have : p = t := by simpa using hpl.symm
          subst this
          rw [uns_iff, List.any_append, Bool.or_eq_false_iff] at hi
          have ho : i ∈ unsF P r := uns_iff.mpr ⟨hi.1, hi.2.1⟩
          have := hmin i ho
          have nt := hi.2.2
          simp only [List.any_cons, List.any_nil, Bool.or_false, inB, decide_eq_false_iff_not] at nt
          omega
/-! ### fewest by all rows -/
def goodR (P : List Spn) (w : Int) (r : List Int) : Bool := srvB P r && (gapF w r).isEmpty
def fewS (P : List Spn) (w : Int) (F : List (List Int)) (s : Nat) : List (List Int) := F ++ (if F.isEmpty = true then (rowsF 16 s).filter (goodR P w) else [])
def fewF (P : List Spn) (w : Int) (n : Nat) : List (List Int) := (List.range n).foldl (fewS P w) []
theorem few_spec {w : Int} : ∀ n : Nat, (fewF P w n = [] ∧ ∀ s < n, (rowsF 16 s).filter (goodR P w) = []) ∨ ∃ s < n, fewF P w n = (rowsF 16 s).filter (goodR P w) ∧ fewF P w n ≠ [] ∧ ∀ j < s, (rowsF 16 j).filter (goodR P w) = []
  | 0 => .inl ⟨rfl, fun s hs => absurd hs (Nat.not_lt_zero _)⟩
  | n + 1 => by
    have e : fewF P w (n + 1) = fewS P w (fewF P w n) n := by unfold fewF; rw [List.range_succ, List.foldl_append]; rfl
    rw [e]
    rcases few_spec (w := w) n with ⟨h1, h2⟩ | ⟨s, hs, h1, h2, h3⟩
    · rw [h1]
      have e2 : fewS P w [] n = (rowsF 16 n).filter (goodR P w) := by unfold fewS; rfl
      rw [e2]
      by_cases c : (rowsF 16 n).filter (goodR P w) = []
      · refine .inl ⟨c, fun s hs => ?_⟩
        by_cases d : s = n
        · rw [d]; exact c
        · exact h2 s (by omega)
      · exact .inr ⟨n, by omega, rfl, c, h2⟩
    · have e2 : fewS P w (fewF P w n) n = fewF P w n := by
        unfold fewS
        rw [if_neg (by rw [List.isEmpty_iff]; exact h2), List.append_nil]
      rw [e2]
      exact .inr ⟨s, by omega, h1, h2, h3⟩
theorem few_len (w : Int) {n : Nat} (hn : n ≤ 4) : (fewF P w n).length ≤ 5832 := by
  rcases few_spec (P := P) (w := w) n with ⟨h1, _⟩ | ⟨s, hs, h1, _, _⟩
  · rw [h1]; simp
  · rw [h1]
    have a := List.length_filter_le (goodR P w) (rowsF 16 s)
    have b := rows_len (top := 16) (by decide) (by decide) s
    have c := pow18 (k := s) (by omega)
    omega
theorem good_iff {w : Int} (hw : 0 ≤ w) {r : List Int} : goodR P w r = true ↔ srvB P r = true ∧ r.Pairwise fun a b => a + w ≤ b := by
  unfold goodR
  rw [Bool.and_eq_true, gap_iff hw]
theorem lv_row {w : Int} (g : GS P) (hw : 1 ≤ w) (h16 : ∀ p ∈ P, p.2.2 ≤ 16) {k : Nat} {r : List Int} (h : r ∈ lvR P w k) (hs : srvB P r = true) : r ∈ (rowsF 16 k).filter (goodR P w) := by
  obtain ⟨a, b⟩ := lv_gap g hw h16 h
  obtain ⟨c, d⟩ := lv_in g (by omega) h
  rw [List.mem_filter, good_iff (by omega)]
  exact ⟨rise_in c (a.imp fun {x y} z => by omega) fun t ht => ⟨(d t ht).1, b t ht⟩, hs, a⟩
/-- the law's two looks at the search -/
theorem gen_ok1 {w : Int} (g : GS P) (hw : 1 ≤ w) {r : List Int} (h : GenEnd P w (some r)) : srvB P r = true ∧ (gapF w r).isEmpty = true ∧ (visF P).length ≤ r.length ∧ r.length ≤ 6 := by
  obtain ⟨k, h1, h2, h3⟩ := h
  have b := g.g.ok
  refine ⟨h2, ?_, vis_low (fun p hp => (b p hp).b.1) h2, ?_⟩
  · rw [gap_iff (by omega)]
    exact (lv_gap g hw (T := 9999) (fun p hp => (b p hp).b.2) h1).1
  · have := lv_uns g (by omega) h1
    have := (lv_in g (by omega) h1).1
    have := g.six
    omega
theorem gen_ok2 {w : Int} (g : GS P) (hw : 1 ≤ w) (h16 : ∀ p ∈ P, p.2.2 ≤ 16) {b : Option (List Int)} (h : GenEnd P w b) :
    (∀ V F, fewF P w 4 = V :: F → ∃ r, b = some r ∧ r.length = V.length) ∧ (fewF P w 4 = [] → ∀ r, b = some r → 4 ≤ r.length) := by
  constructor
  · intro V F e
    rcases few_spec (P := P) (w := w) 4 with ⟨h1, _⟩ | ⟨s, hs, h1, h2, h3⟩
    · rw [h1] at e; cases e
    · have vin : V ∈ (rowsF 16 s).filter (goodR P w) := by rw [← h1, e]; exact List.mem_cons_self
      obtain ⟨v1, v2⟩ := List.mem_filter.mp vin
      rw [good_iff (by omega)] at v2
      have vl := (rows_in v1).1
      obtain ⟨k2, r2, k2l, r2m, r2s⟩ := search_all hw v2.2 v2.1 V.length 0 [] (by omega) (by simp [lvR]) rfl (fun t ht => nomatch ht) .nil fun j hj p hp => nomatch hp
      cases b with
      | none =>
        have := h k2 r2 r2m
        rw [r2s] at this; cases this
      | some r =>
        obtain ⟨k, q1, q2, q3⟩ := h
        have kk : k ≤ k2 := by
          rcases Nat.lt_or_ge k2 k with z | z
          · have := q3 k2 z r2 r2m
            rw [r2s] at this; cases this
          · exact z
        have lr := lv_row g hw h16 q1 q2
        have ks : s ≤ k := by
          rcases Nat.lt_or_ge k s with z | z
          · have := h3 k z
            rw [this] at lr; exact nomatch lr
          · exact z
        refine ⟨r, rfl, ?_⟩
        have := (lv_in g (by omega) q1).1
        omega
  · intro e r er
    subst er
    obtain ⟨k, q1, q2, q3⟩ := h
    have lr := lv_row g hw h16 q1 q2
    have l := (lv_in g (by omega) q1).1
    rcases few_spec (P := P) (w := w) 4 with ⟨_, h1⟩ | ⟨s, hs, h1, h2, h3⟩
    · rcases Nat.lt_or_ge k 4 with z | z
      · have := h1 k z
        rw [this] at lr; exact nomatch lr
      · omega
    · exact absurd e h2
end
open PySem PySem.Spec PyProof.Rows L2
open Qk21
section
variable {S : Sto} {P : List Spn} {L : List Int}
abbrev Ch := Nm × Int
abbrev chL (c : Ch) : Da := .lst [nmD c.1, .int c.2]
abbrev chT (c : Ch) : Da := .tup [nmD c.1, .int c.2]
def soR (p e : Int) (c : Ch) : Spn := (c.1, c.2, if c.2 + p < e then c.2 + p else e)
def soF (p e : Int) (C : List Ch) : List Spn := (C.filter fun c => decide (c.2 ≤ e)).map (soR p e)
theorem wn_ok {v a b : Int} (h : a ≤ v ∧ v ≤ b) : d_want_number [.int v, .int a, .int b] S = .ok (.int v) S := want_number_ok (by rw [is_number_int, decide_eq_true h]) rfl rfl
theorem wn_bad {v a b : Int} (h : ¬ (a ≤ v ∧ v ≤ b)) : d_want_number [.int v, .int a, .int b] S = .exc 1 [("value", .int v)] S := want_number_bad (by rw [is_number_int, decide_eq_false h]) rfl rfl
abbrev soE (v : Da) (p e : Int) (n : Nat) (x4 x5 : Option Da) : Env := [some v, some (.int p), some (.int e), some (.ref n), x4, x5]
theorem so_body {v : Da} {p e : Int} {c : Ch} {d : Da} (hd : d = chL c ∨ d = chT c) (hn : NmOk c.1) (hc : 0 ≤ c.2 ∧ c.2 ≤ 9999) {acc : List Spn} (hl : acc.length ≤ 1000) {i : Nat} : sSeq b_spans_of_4_1 b_spans_of_4_2 (soE v p e S.length (some (.int (i : Nat))) (some d)) (S ++ [.lst (acc.map spD)]) =
    .nx (soE v p e S.length (some (.int (i : Nat))) (some d)) (S ++ [.lst ((if c.2 ≤ e then acc ++ [soR p e c] else acc).map spD)]) := by
  have row : ∀ S, d_is_row [d] S = .ok (.bl true) S := fun S => by rcases hd with rfl | rfl <;> first | exact is_row_lst | exact is_row_tup
  have nm := fun S => is_name_ok (S := S) hn
  have nu : ∀ S, d_is_number [.int c.2, .int 0, .int 9999] S = .ok (.bl true) S := fun S => by rw [is_number_int, decide_eq_true hc]
  have sl : acc.length < sizeLine := by rw [sizeLine_eq]; omega
  unfold b_spans_of_4_1 b_spans_of_4_1_1 b_spans_of_4_2 b_spans_of_4_2_1
  have two : ((2 : Int) == 2) = true := rfl
  rcases hd with rfl | rfl
  · by_cases q : c.2 ≤ e
    · rw [if_pos q]
      by_cases r : c.2 + p < e
      · dsimp? only [row, nm, nu, two, q, dMin2, r, sl, List.map_append, soR]
      · dsimp? only [row, nm, nu, two, q, dMin2, r, sl, List.map_append, soR]
    · rw [if_neg q]
      dsimp? only [row, nm, nu, two, q]
  · by_cases q : c.2 ≤ e
    · rw [if_pos q]
      by_cases r : c.2 + p < e
      · dsimp? only [row, nm, nu, two, q, dMin2, r, sl, List.map_append, soR]
      · dsimp? only [row, nm, nu, two, q, dMin2, r, sl, List.map_append, soR]
    · rw [if_neg q]
      dsimp? only [row, nm, nu, two, q]
theorem spans_of_ok {p e : Int} (hp : 0 ≤ p ∧ p ≤ 9999) (he : 0 ≤ e ∧ e ≤ 9999) {C : List Ch} (hC : ∀ c ∈ C, NmOk c.1 ∧ 0 ≤ c.2 ∧ c.2 ≤ 9999) (hl : C.length ≤ 100) : d_spans_of [.lst (C.map chL), .int p, .int e] S = .ok (sps (soF p e C)) S := by
  obtain ⟨ε2, S2, lp, ⟨x4, x5, rfl⟩, rfl, _⟩ := forL_acc (emb := fun q : Ch × Nat => Da.tup [.int (q.2 : Nat), chL q.1]) (g := .tup [.name 4, .name 5]) (b := sSeq b_spans_of_4_1 b_spans_of_4_2) (s := ([] : List Spn)) (ε := soE (.lst (C.map chL)) p e S.length none none) (S := S ++ [.lst []])
    (fun i acc ε S' => (∃ x4 x5, ε = soE (.lst (C.map chL)) p e S.length x4 x5) ∧ S' = S ++ [.lst (acc.map spD)] ∧ acc.length ≤ i) (fun acc q => if decide (q.1.2 ≤ e) = true then acc ++ [soR p e q.1] else acc) C.zipIdx ⟨⟨_, _, rfl⟩, rfl, Nat.le_refl _⟩ fun i q acc ε S' hi hq ⟨⟨x4, x5, e1⟩, e2, hl2⟩ => by
    subst e1; subst e2
    rw [zip_len] at hi
    obtain ⟨a, b⟩ := hC q.1 (List.mem_of_getElem? (zip_mem (x := q.1) (i := q.2) hq).1)
    have bd := so_body (S := S) (v := .lst (C.map chL)) (p := p) (e := e) (c := q.1) (.inl rfl) a b (acc := acc) (by omega) (i := q.2)
    refine ⟨_, _, _, rfl, bd, ⟨_, _, rfl⟩, ?_, ?_⟩
    · simp only [decide_eq_true_eq]
    · simp only [decide_eq_true_eq]
      split <;> (try simp) <;> omega
  rw [foldl_app (fun q : Ch × Nat => decide (q.1.2 ≤ e)) (fun q => soR p e q.1), List.nil_append] at lp
  have ee : (C.zipIdx.filter fun q => decide (q.1.2 ≤ e)).map (fun q => soR p e q.1) = soF p e C := by
    have z1 : ∀ M : List (Ch × Nat), (M.filter fun q => decide (q.1.2 ≤ e)).map (fun q => soR p e q.1) = ((M.map (·.1)).filter fun c => decide (c.2 ≤ e)).map (soR p e) := fun M => by
      induction M with
      | nil => rfl
      | cons x M ih =>
        rw [List.filter_cons, List.map_cons, List.filter_cons]
        split <;> simp_all
    have z2 : C.zipIdx.map (·.1) = C := by refine List.ext_getElem (by simp) fun i h1 h2 => by simp
    rw [z1, z2]; rfl
  rw [ee] at lp
  refine fn_more (b := b_spans_of) (X := [.lst ((soF p e C).map spD)]) ?_ (below_sps _)
  unfold b_spans_of b_spans_of_1 b_spans_of_2 b_spans_of_3 b_spans_of_4 b_spans_of_5
  have w1 := wn_ok (S := S) (v := p) (a := 0) (b := 9999) hp
  have w2 := wn_ok (S := S) (v := e) (a := 0) (b := 9999) he
  dsimp? only [w1, w2]
  rw [iEnum_at (ds := C.map chL) (by dsimp? only []; rfl) (.inl rfl), enum_zip]
  dsimp? only []
  rw [lp]
  dsimp? only [dTup_r app_get]
/-! refused -/
theorem so_num1 : d_spans_of [.lst [], .int (-1), .int 1] S = .exc 1 [("value", .int (-1))] S := fn_exc (b := b_spans_of) (by
  have w1 := wn_bad (S := S) (v := -1) (a := 0) (b := 9999) (by decide)
  unfold b_spans_of b_spans_of_1
  dsimp? only [w1]) rfl
theorem so_num2 : d_spans_of [.lst [], .int 1, .int 10000] S = .exc 1 [("value", .int 10000)] S := fn_exc (b := b_spans_of) (by
  have w1 := wn_ok (S := S) (v := 1) (a := 0) (b := 9999) (by decide)
  have w2 := wn_bad (S := S) (v := 10000) (a := 0) (b := 9999) (by decide)
  unfold b_spans_of b_spans_of_1 b_spans_of_2
  dsimp? only [w1, w2]) rfl
theorem so_exc {v : Da} {ds : List Da} (hv : v = .lst ds) {i : Int} {S2 : Sto} {ε2 : Env} (h : forL (.tup [.name 4, .name 5]) (sSeq b_spans_of_4_1 b_spans_of_4_2) (enumL ds) (soE v 1 9 S.length none none) (S ++ [.lst []]) = .ex 2 [("index", .int i)] ε2 (S ++ S2)) : d_spans_of [v, .int 1, .int 9] S = .exc 2 [("index", .int i)] S := fn_exc_more (b := b_spans_of) (X := S2) (by
  have w1 := wn_ok (S := S) (v := 1) (a := 0) (b := 9999) (by decide)
  have w2 := wn_ok (S := S) (v := 9) (a := 0) (b := 9999) (by decide)
  subst hv
  unfold b_spans_of b_spans_of_1 b_spans_of_2 b_spans_of_3 b_spans_of_4 b_spans_of_5
  dsimp? only [w1, w2]
  rw [iEnum_at (ds := ds) (by dsimp? only []; rfl) (.inl rfl)]
  dsimp? only [h]) rfl
theorem so_bad1 : d_spans_of [.lst [chT ([0], 1), chT ([0], -1)], .int 1, .int 9] S = .exc 2 [("index", .int 1)] S := by
  have b1 := so_body (S := S) (v := .lst [chT ([0], 1), chT ([0], -1)]) (p := 1) (e := 9) (c := ([0], 1)) (d := chT ([0], 1)) (.inr rfl) a_ok (by decide) (acc := []) (by simp) (i := 0)
  have b1 : sSeq b_spans_of_4_1 b_spans_of_4_2 (soE (.lst [chT ([0], 1), chT ([0], -1)]) 1 9 S.length (some (.int 0)) (some (chT ([0], 1)))) (S ++ [.lst []]) = .nx (soE (.lst [chT ([0], 1), chT ([0], -1)]) 1 9 S.length (some (.int 0)) (some (chT ([0], 1)))) (S ++ [.lst ([soR 1 9 ([0], 1)].map spD)]) := b1
  refine so_exc (S := S) (S2 := [.lst ([soR 1 9 ([0], 1)].map spD)]) (ε2 := soE (.lst [chT ([0], 1), chT ([0], -1)]) 1 9 S.length (some (.int 1)) (some (chT ([0], -1)))) rfl ?_
  have en : enumL [chT ([0], 1), chT ([0], -1)] = [.tup [.int 0, chT ([0], 1)], .tup [.int 1, chT ([0], -1)]] := rfl
  rw [en, forL_cons (ε1 := soE (.lst [chT ([0], 1), chT ([0], -1)]) 1 9 S.length (some (.int 0)) (some (chT ([0], 1)))) rfl b1]
  refine forL_stop (ε1 := soE (.lst [chT ([0], 1), chT ([0], -1)]) 1 9 S.length (some (.int 1)) (some (chT ([0], -1)))) rfl ?_
  have row := fun S => is_row_tup (S := S) (ds := [nmD [0], .int (-1)])
  have nm := fun S => is_name_ok (S := S) a_ok
  have nu : ∀ S, d_is_number [.int (-1), .int 0, .int 9999] S = .ok (.bl false) S := fun S => by rw [is_number_int, decide_eq_false (by decide)]
  unfold b_spans_of_4_1 b_spans_of_4_1_1
  dsimp? only [row, nm, nu, sRaise, show ((2 : Int) == 2) = true from rfl]
theorem so_bad2 : d_spans_of [.lst [.tup [.str "A", .int 1]], .int 1, .int 9] S = .exc 2 [("index", .int 0)] S := by
  refine so_exc (S := S) (S2 := [.lst []]) (ε2 := soE (.lst [.tup [.str "A", .int 1]]) 1 9 S.length (some (.int 0)) (some (.tup [.str "A", .int 1]))) rfl ?_
  have en : enumL [.tup [.str "A", .int 1]] = [.tup [.int 0, .tup [.str "A", .int 1]]] := rfl
  rw [en]
  refine forL_stop (ε1 := soE (.lst [.tup [.str "A", .int 1]]) 1 9 S.length (some (.int 0)) (some (.tup [.str "A", .int 1]))) rfl ?_
  unfold b_spans_of_4_1 b_spans_of_4_1_1
  dsimp? only [is_row_tup, is_name_A, sRaise, show ((2 : Int) == 2) = true from rfl]
theorem so_bad3 : d_spans_of [.lst [.int 5], .int 1, .int 9] S = .exc 2 [("index", .int 0)] S := by
  refine so_exc (S := S) (S2 := [.lst []]) (ε2 := soE (.lst [.int 5]) 1 9 S.length (some (.int 0)) (some (.int 5))) rfl ?_
  have en : enumL [Da.int 5] = [.tup [.int 0, .int 5]] := rfl
  rw [en]
  refine forL_stop (ε1 := soE (.lst [.int 5]) 1 9 S.length (some (.int 0)) (some (.int 5))) rfl ?_
  have row : ∀ S, d_is_row [.int 5] S = .ok (.bl false) S := fun S => fn_same (b := b_is_row) (by rw [b_is_row_eq]; simp? only []) rfl
  unfold b_spans_of_4_1 b_spans_of_4_1_1
  dsimp? only [row, sRaise]
end
open PySem PySem.Spec PyProof.Rows L2
open Qk21
section
variable {S : Sto} {P : List Spn} {L : List Int} {r : Nat} {M : List Nm} {w : Int} {b : Option (List Int)} {x6 x8 x10 x14 x18 x19 : Option Da}
theorem dNeO_N {Q : List Spn} : dNeO 4 d_Needs___eq__ (objN P) (objN Q) S = some (.bl (!decide (P = Q)), S) := by
  unfold dNeO
  rw [if_pos ⟨rfl, rfl⟩, eq_objN]
  rfl
theorem eq_tupN {ds : List Da} : d_Needs___eq__ [objN P, .tup ds] S = .ok (.bl false) S := fn_same (b := b_Needs___eq__) (by
  rw [b_Needs___eq___eq]
  dsimp? only [dIsC, isIns]) rfl
theorem dEqO_tN {ds : List Da} : dEqO 4 d_Needs___eq__ (objN P) (.tup ds) S = some (.bl false, S) := by
  unfold dEqO
  rw [if_pos ⟨rfl, .inr rfl⟩, eq_tupN]
  rfl
theorem gaps_comp {q : List Int} (hq : q.length ≤ 1000) {ε : Env} {t : E} {j : E}
    (hc : ∀ k : Int, 1 ≤ k → k < q.length → ∃ ε1, put (.name 8) (.int k) (wipeE ε [8]) = some ε1 ∧ t ε1 S = .ok (rwD q) S ∧ ε1[8]? = some (some (.int k)) ∧ ε1[5]? = some (some (.int w)))
    (hi : j ε S = .ok (.int (q.length : Nat)) S) : eComp [8] (iRange2 (esCons (eC (.int 1)) (esCons j esNil))) (.name 8) (tBl (eOp2 dLt (eOp2 dSub (eOp2 dIx t (eVar 8)) (eOp2 dIx t (eOp2 dSub (eVar 8) (eC (.int 1))))) (eVar 5))) (eVar 8) ε S = .ok (.lst ((gapF w q).map Da.int)) S := by
  refine eComp_t (emb := Da.int) (f := fun k => decide (q.getD k.toNat 0 - q.getD (k - 1).toNat 0 < w)) (v := Da.int) (whl 1 (q.length : Nat)) (by rw [rng2_at (i := 1) (j := (q.length : Nat)) (S2 := S) (S3 := S) (by dsimp? only []) hi (by omega) (by omega)]) (by rw [len_whl]; omega) fun k hk => ?_
  obtain ⟨k1, k2⟩ := mem_whl.mp hk
  obtain ⟨ε1, e1, e2, e3, e4⟩ := hc k k1 k2
  have a1 := at_row (r := q) (k := k) (by omega) k2
  have a2 := at_row (r := q) (k := k - 1) (by omega) (by omega)
  refine ⟨ε1, e1, ?_, fun _ => ?_⟩
  · dsimp? only [e2, e3, e4, a1, a2]
  · dsimp? only [e3]

theorem ic_gap (c : Bool) (F : List (List Int)) (hF : F.isEmpty = c) : True := trivial
theorem r3_body (hP : P.length ≤ 1000) (w0 : 0 ≤ w) {n : Nat} (hn : n ≤ 3) {F : List (List Int)} (hF : F.length ≤ 10000) : b__law_rest_3_1 [some (.ref r), some (objN P), some (sps P), some (rwD (visF P)), some (.lst (M.map nmD)), some (.int w), some (.int (n : Nat)), none, none, none, none, none, some (bestD b), some (.lst (F.map rwD)), none, none, none, none, none, none, none, none, none, none, none, none] S = .nx [some (.ref r), some (objN P), some (sps P), some (rwD (visF P)), some (.lst (M.map nmD)), some (.int w), some (.int (n : Nat)), none, none, none, none, none, some (bestD b), some (.lst ((fewS P w F n).map rwD)), none, none, none, none, none, none, none, none, none, none, none, none] S := by
  have ro := rows_ok' (S := S) (top := 16) (by decide) (by decide) (n := n) hn
  have rl := rows_len (top := 16) (by decide) (by decide) n
  have rp := pow18 (k := n) hn
  have e0 := dEq_nilL (S := S) (ds := F.map rwD) (shps_rows 63 (by decide) _)
  rw [List.isEmpty_map] at e0
  have c : eComp [23] (iVal (eCall d__law_rows (esCons (eVar 6) (esCons (eC (.int 16)) esNil)))) (.name 23) (tAnd (tBl (eOp2 dEq (eVar 13) (eOpN dLst esNil))) (tAnd (tOf (eCall d__law_good (esCons (eVar 2) (esCons (eVar 23) esNil)))) ((tBl (eOp2 dEq (eComp [8] (iRange2 (esCons (eC (.int 1)) (esCons (eVar 6) esNil))) (.name 8) (tBl (eOp2 dLt (eOp2 dSub (eOp2 dIx (eVar 23) (eVar 8)) (eOp2 dIx (eVar 23) (eOp2 dSub (eVar 8) (eC (.int 1))))) (eVar 5))) (eVar 8)) (eOpN dLst esNil)))))) (eVar 23) [some (.ref r), some (objN P), some (sps P), some (rwD (visF P)), some (.lst (M.map nmD)), some (.int w), some (.int (n : Nat)), none, none, none, none, none, some (bestD b), some (.lst (F.map rwD)), none, none, none, none, none, none, none, none, none, none, none, none] S = .ok (.lst (((rowsF 16 n).filter fun q => F.isEmpty && goodR P w q).map rwD)) S := by
    refine eComp_t (emb := rwD) (f := fun q => F.isEmpty && goodR P w q) (v := rwD) (rowsF 16 n) (by dsimp? only [ro]) (by omega) fun q hq => ⟨[some (.ref r), some (objN P), some (sps P), some (rwD (visF P)), some (.lst (M.map nmD)), some (.int w), some (.int (n : Nat)), none, none, none, none, none, some (bestD b), some (.lst (F.map rwD)), none, none, none, none, none, none, none, none, none, some (rwD q), none, none], rfl, ?_, fun _ => by dsimp? only []⟩
    obtain ⟨ql, qm⟩ := rows_in hq
    have go := good_ok (S := S) (P := P) (L := q) (by omega) (by omega)
    have gc := gaps_comp (S := S) (w := w) (q := q) (by omega) (ε := [some (.ref r), some (objN P), some (sps P), some (rwD (visF P)), some (.lst (M.map nmD)), some (.int w), some (.int (n : Nat)), none, none, none, none, none, some (bestD b), some (.lst (F.map rwD)), none, none, none, none, none, none, none, none, none, some (rwD q), none, none]) (t := eVar 23) (j := eVar 6) (fun k k1 k2 => ⟨_, rfl, by dsimp? only [], by dsimp? only [], by dsimp? only []⟩) (by dsimp? only [ql])
    have e1 := dEq_nilL (S := S) (ds := (gapF w q).map Da.int) (shps_ints _ _)
    rw [List.isEmpty_map] at e1
    cases f0 : F.isEmpty with
    | false => rw [f0] at e0; dsimp? only [e0]
    | true =>
      rw [f0] at e0
      unfold goodR
      cases f1 : srvB P q with
      | false => rw [f1] at go; dsimp? only [e0, go]
      | true => rw [f1] at go; dsimp? only [e0, go, gc, e1]
  have ee : ((rowsF 16 n).filter fun q => F.isEmpty && goodR P w q) = (if F.isEmpty = true then (rowsF 16 n).filter (goodR P w) else []) := by
    cases F.isEmpty with
    | true => simp
    | false => simp
  rw [ee] at c
  have fl : (if F.isEmpty = true then (rowsF 16 n).filter (goodR P w) else []).length ≤ 5832 := by
    split
    · have := List.length_filter_le (goodR P w) (rowsF 16 n); omega
    · simp
  have sl : F.length + (if F.isEmpty = true then (rowsF 16 n).filter (goodR P w) else []).length ≤ sizeLine := by rw [sizeLine_eq]; omega
  unfold b__law_rest_3_1 fewS
  dsimp? only [c]
  rw [if_pos sl]
  dsimp? only [List.map_append]
theorem r3 (hP : P.length ≤ 1000) (w0 : 0 ≤ w) : ∃ y6, okX y6 = true ∧ b__law_rest_3 [some (.ref r), some (objN P), some (sps P), some (rwD (visF P)), some (.lst (M.map nmD)), some (.int w), none, none, none, none, none, none, some (bestD b), some (.lst (([] : List (List Int)).map rwD)), none, none, none, none, none, none, none, none, none, none, none, none] S = .nx [some (.ref r), some (objN P), some (sps P), some (rwD (visF P)), some (.lst (M.map nmD)), some (.int w), y6, none, none, none, none, none, some (bestD b), some (.lst ((fewF P w 4).map rwD)), none, none, none, none, none, none, none, none, none, none, none, none] S := by
  obtain ⟨ε2, S2, e, ⟨y6, k6, rfl⟩, rfl⟩ := forL_inv (emb := natD) (g := .name 6) (b := b__law_rest_3_1) (ε := [some (.ref r), some (objN P), some (sps P), some (rwD (visF P)), some (.lst (M.map nmD)), some (.int w), none, none, none, none, none, none, some (bestD b), some (.lst (([] : List (List Int)).map rwD)), none, none, none, none, none, none, none, none, none, none, none, none]) (S := S)
    (fun i ε S' => (∃ x6, okX x6 = true ∧ ε = [some (.ref r), some (objN P), some (sps P), some (rwD (visF P)), some (.lst (M.map nmD)), some (.int w), x6, none, none, none, none, none, some (bestD b), some (.lst ((fewF P w i).map rwD)), none, none, none, none, none, none, none, none, none, none, none, none]) ∧ S = S') (List.range 4) ⟨⟨_, rfl, rfl⟩, rfl⟩ fun i a ε S' hi ⟨⟨x6, _, e1⟩, e2⟩ => by
    subst e1; subst e2
    have hi2 : i < 4 := by have := (List.getElem?_eq_some_iff.mp hi).1; rwa [List.length_range] at this
    have ha : a = i := by
      rw [List.getElem?_range hi2] at hi; exact (Option.some.inj hi).symm
    subst ha
    have fl := few_len (P := P) w (n := a) (by omega)
    have bd := r3_body (S := S) (r := r) (M := M) (b := b) hP w0 (n := a) (by omega) (F := fewF P w a) (by omega)
    have e : fewF P w (a + 1) = fewS P w (fewF P w a) a := by unfold fewF; rw [List.range_succ, List.foldl_append]; rfl
    rw [← e] at bd
    exact ⟨_, _, _, rfl, bd, ⟨_, rfl, rfl⟩, rfl⟩
  rw [List.length_range] at e
  refine ⟨y6, k6, ?_⟩
  unfold b__law_rest_3
  dsimp? only []
  rw [rng1_at (j := (4 : Nat)) (S2 := S) (by dsimp? only []) (by omega) (by omega), whl_nat, List.map_map]
  exact e
theorem r4 (g : GS P) (hw : 1 ≤ w) (h : GenEnd P w b) {F : List (List Int)} : b__law_rest_4 [some (.ref r), some (objN P), some (sps P), some (rwD (visF P)), some (.lst (M.map nmD)), some (.int w), x6, none, none, none, none, none, some (bestD b), some (.lst (F.map rwD)), none, none, none, none, none, none, none, none, none, none, none, none] S = .nx [some (.ref r), some (objN P), some (sps P), some (rwD (visF P)), some (.lst (M.map nmD)), some (.int w), x6, none, none, none, none, none, some (bestD b), some (.lst (F.map rwD)), none, none, none, none, none, none, none, none, none, none, none, none] S := by
  unfold b__law_rest_4 b__law_rest_4_1
  have six := g.six
  cases b with
  | none => dsimp? only [bestD]
  | some q =>
    obtain ⟨h1, h2, h3, h4⟩ := gen_ok1 g hw h
    have go := good_ok (S := S) (P := P) (L := q) (by omega) (by omega)
    rw [h1] at go
    have gc := gaps_comp (S := S) (w := w) (q := q) (by omega) (ε := [some (.ref r), some (objN P), some (sps P), some (rwD (visF P)), some (.lst (M.map nmD)), some (.int w), x6, none, none, none, none, none, some (rwD q), some (.lst (F.map rwD)), none, none, none, none, none, none, none, none, none, none, none, none]) (t := eVar 12) (j := eOpN dLen (esCons (eVar 12) esNil)) (fun k k1 k2 => ⟨_, rfl, by dsimp? only [], by dsimp? only [], by dsimp? only []⟩) (by dsimp? only [])
    have ge : gapF w q = [] := List.isEmpty_iff.mp h2
    rw [ge] at gc
    have nl : ¬ ((q.length : Int) < ((visF P).length : Int)) := by omega
    dsimp? only [bestD, go, gc, dNe_l0, nl]
theorem r5 (g : GS P) (hw : 1 ≤ w) (h16 : ∀ p ∈ P, p.2.2 ≤ 16) (h : GenEnd P w b) : b__law_rest_5 [some (.ref r), some (objN P), some (sps P), some (rwD (visF P)), some (.lst (M.map nmD)), some (.int w), x6, none, none, none, none, none, some (bestD b), some (.lst ((fewF P w 4).map rwD)), none, none, none, none, none, none, none, none, none, none, none, none] S = .nx [some (.ref r), some (objN P), some (sps P), some (rwD (visF P)), some (.lst (M.map nmD)), some (.int w), x6, none, none, none, none, none, some (bestD b), some (.lst ((fewF P w 4).map rwD)), none, none, none, none, none, none, none, none, none, none, none, none] S := by
  obtain ⟨k1, k2⟩ := gen_ok2 g hw h16 h
  unfold b__law_rest_5 b__law_rest_5_1
  cases e : fewF P w 4 with
  | nil =>
    cases b with
    | none => dsimp? only [bestD, dNe_l0, dEq_l0]
    | some q =>
      have := k2 e q rfl
      have nl : ¬ ((q.length : Int) < 4) := by omega
      dsimp? only [bestD, dNe_l0, dEq_l0, nl]
  | cons V F =>
    obtain ⟨q, rfl, hl⟩ := k1 V F e
    have s1 := shps_rows 63 (by decide) (V :: F)
    rw [List.map_cons] at s1
    have d1 := dNe_nilL (S := S) s1
    have d2 := dEq_nilL (S := S) s1
    dsimp? only [bestD, d1, d2, List.isEmpty, hl]
abbrev R7 (needed : List Nat) (x8 x14 : Option Da) : True := trivial

theorem r7_body (g : GN P) {F : List (List Int)} {acc : List Nat} (ha : acc.length ≤ 1000) {k : Nat} : sSeq b__law_rest_7_1 (sSeq b__law_rest_7_2 b__law_rest_7_3) [some (.ref r), some (objN P), some (sps P), some (rwD (visF P)), some (.lst (M.map nmD)), some (.int w), x6, some (.lst (acc.map natD)), some (.int (k : Nat)), none, none, none, some (bestD b), some (.lst (F.map rwD)), x14, none, none, none, none, none, none, none, none, none, none, none] S = .nx [some (.ref r), some (objN P), some (sps P), some (rwD (visF P)), some (.lst (M.map nmD)), some (.int w), x6, some (.lst ((if ndB P k = true then acc ++ [k] else acc).map natD)), some (.int (k : Nat)), none, none, none, some (bestD b), some (.lst (F.map rwD)), some (sps (wtF P k)), none, none, none, none, none, none, none, none, none, none, none] S := by
  have gl := g.len
  have l1 := cut_len P none (some (k : Nat)) spD
  have l2 := cut_len P (some ((k : Int) + 1)) none spD
  have sl : (cutD (P.map spD) none (some (k : Nat))).length + (cutD (P.map spD) (some ((k : Int) + 1)) none).length ≤ sizeLine := by rw [sizeLine_eq]; omega
  have mk : mk1 4 d_Needs___init__ (.tup ((wtF P k).map spD)) S = .ok (objN (wtF P k)) S := mkN_t (wt_good g k)
  have wo := without_ok (S := S) g (k := k)
  have vi := visits_ok (S := S) (P := wtF P k) (by have := (wt_good g k).len; omega)
  have ne := dNeO_N (S := S) (P := wtF P k) (Q := wtF P k)
  rw [decide_eq_true rfl] at ne
  unfold b__law_rest_7_1 b__law_rest_7_2 b__law_rest_7_2_1 b__law_rest_7_3
  dsimp? only [sl, wt_cut, nl_without, wo, mk, ne]
  rw [compI (b := ndB P k) (d := natD k) (S2 := S) (by unfold ndB; dsimp? only [mk, nl_visits, vi, Int.ofNat_lt]) ⟨_, rfl, by dsimp? only []⟩]
  cases ndB P k with
  | true =>
    have s2 : acc.length + 1 ≤ sizeLine := by rw [sizeLine_eq]; omega
    dsimp? only [s2, List.map_append]
  | false =>
    have s2 : acc.length ≤ sizeLine := by rw [sizeLine_eq]; omega
    dsimp? only [s2, List.append_nil, Nat.add_zero]
theorem r7 (g : GN P) {F : List (List Int)} : ∃ y : Option Da × Option Da, (okX y.1 = true ∧ okX y.2 = true) ∧ b__law_rest_7 [some (.ref r), some (objN P), some (sps P), some (rwD (visF P)), some (.lst (M.map nmD)), some (.int w), x6, some (.lst (([] : List Nat).map natD)), none, none, none, none, some (bestD b), some (.lst (F.map rwD)), none, none, none, none, none, none, none, none, none, none, none, none] S = .nx [some (.ref r), some (objN P), some (sps P), some (rwD (visF P)), some (.lst (M.map nmD)), some (.int w), x6, some (.lst ((ndF P).map natD)), y.1, none, none, none, some (bestD b), some (.lst (F.map rwD)), y.2, none, none, none, none, none, none, none, none, none, none, none] S := by
  have gl := g.len
  obtain ⟨ε2, S2, e, ⟨x8, x14, k8, rfl⟩, rfl, _⟩ := forL_acc (emb := natD) (g := .name 8) (b := sSeq b__law_rest_7_1 (sSeq b__law_rest_7_2 b__law_rest_7_3)) (s := ([] : List Nat)) (ε := [some (.ref r), some (objN P), some (sps P), some (rwD (visF P)), some (.lst (M.map nmD)), some (.int w), x6, some (.lst (([] : List Nat).map natD)), none, none, none, none, some (bestD b), some (.lst (F.map rwD)), none, none, none, none, none, none, none, none, none, none, none, none]) (S := S)
    (fun i acc ε S' => (∃ x8 x14, (okX x8 = true ∧ okX x14 = true) ∧ ε = [some (.ref r), some (objN P), some (sps P), some (rwD (visF P)), some (.lst (M.map nmD)), some (.int w), x6, some (.lst (acc.map natD)), x8, none, none, none, some (bestD b), some (.lst (F.map rwD)), x14, none, none, none, none, none, none, none, none, none, none, none]) ∧ S = S' ∧ acc.length ≤ i) (fun acc k => if ndB P k = true then acc ++ [k] else acc) (List.range P.length) ⟨⟨_, _, ⟨rfl, rfl⟩, rfl⟩, rfl, Nat.le_refl _⟩ fun i k acc ε S' hi hk ⟨⟨x8, x14, _, e1⟩, e2, hl⟩ => by
    subst e1; subst e2
    rw [List.length_range] at hi
    have bd := r7_body (S := S) (r := r) (M := M) (w := w) (b := b) (x6 := x6) (x14 := x14) g (F := F) (acc := acc) (by omega) (k := k)
    exact ⟨_, _, _, rfl, bd, ⟨_, _, ⟨rfl, rfl⟩, rfl⟩, rfl, by split <;> (try simp) <;> omega⟩
  rw [foldl_app (ndB P) (fun k => k), List.nil_append, List.map_id'] at e
  refine ⟨(x8, x14), k8, ?_⟩
  unfold b__law_rest_7
  dsimp? only []
  rw [rng1_at (j := (P.length : Nat)) (S2 := S) (by dsimp? only []) (by omega) (by omega), whl_nat, List.map_map]
  exact e
end
open PySem PySem.Spec PyProof.Rows L2
open Qk21
section
variable {S : Sto} {P : List Spn} {L : List Int} {r : Nat} {M : List Nm} {w : Int} {b : Option (List Int)} {x6 x8 x10 x14 x18 x19 : Option Da} {F : List (List Int)} {C : List Ch} {p e : Int} {ns : List Int} {bad : Da}
theorem shrt_ints : ∀ L : List Int, shrts (L.map Da.int) = true
  | [] => rfl
  | x :: L => by rw [List.map_cons, shrts, shrt_ints L]; rfl
theorem shrt_nat (L : List Nat) : shrts (L.map natD) = true := by rw [nat_ints]; exact shrt_ints _

theorem r8 (g : GN P) : b__law_rest_8 [some (.ref r), some (objN P), some (sps P), some (rwD (visF P)), some (.lst (M.map nmD)), some (.int w), x6, some (.lst ((ndF P).map natD)), x8, none, none, none, some (bestD b), some (.lst (F.map rwD)), x14, none, none, none, none, none, none, none, none, none, none, none] S = .nx [some (.ref r), some (objN P), some (sps P), some (rwD (visF P)), some (.lst (M.map nmD)), some (.int w), x6, some (.lst ((ndF P).map natD)), x8, none, none, none, some (bestD b), some (.lst (F.map rwD)), x14, none, none, none, none, none, none, none, none, none, none, none] S := by
  have nd := needed_ok (S := S) g
  have gl := g.len
  have nl : (ndF P).length ≤ P.length := by unfold ndF; exact Nat.le_trans (List.length_filter_le ..) (by rw [List.length_range]; omega)
  unfold b__law_rest_8
  exact alike_stmt (d := .tup ((ndF P).map natD)) (S2 := S) (S3 := S) (by dsimp? only [nl_needed, nd]) (by dsimp? only []) (by show (decide (0 < 11) && shps 10 _) = true; rw [shps_nat]; rfl) (shrt_t (shrt_nat _) (by rw [List.length_map]; omega))
theorem r9 (h : RowOk S r ns) (hM : M.length ≤ 100) : ∃ (C : List Ch) (p e : Int) (S2 : Sto), b__law_rest_9 [some (.ref r), some (objN P), some (sps P), some (rwD (visF P)), some (.lst (M.map nmD)), some (.int w), x6, some (.lst ((ndF P).map natD)), x8, none, none, none, some (bestD b), some (.lst (F.map rwD)), x14, none, none, none, none, none, none, none, none, none, none, none] S = .nx [some (.ref r), some (objN P), some (sps P), some (rwD (visF P)), some (.lst (M.map nmD)), some (.int w), x6, some (.lst ((ndF P).map natD)), x8, none, none, none, some (bestD b), some (.lst (F.map rwD)), x14, some (.lst (C.map chT)), some (.int p), some (.int e), none, none, none, none, none, none, none, none] S2 ∧ C.map (·.1) = M ∧ (∀ c ∈ C, 0 ≤ c.2 ∧ c.2 < 20) ∧ (0 ≤ p ∧ p < 6) ∧ (0 ≤ e ∧ e < 20) ∧ RowOk S2 r ns ∧ OnlyAt r S S2 := by
  obtain ⟨Q, S1, e1, pq, r1, o1⟩ := eComp_drawT (emb := nmD) (out := fun q : {c : Ch // 0 ≤ c.2 ∧ c.2 < 20} => chT q.1) (pj := fun q => q.1.1) (R := fun S2 => RowOk S2 r ns ∧ OnlyAt r S S2) (own := [21]) (it := iVal (eVar 4)) (g := .name 21) (a := eOpN dTup (esCons (eVar 21) (esCons (eCall d__law_taken (esCons (eVar 0) (esCons (eC (.int 20)) esNil))) esNil)))
    (ε := [some (.ref r), some (objN P), some (sps P), some (rwD (visF P)), some (.lst (M.map nmD)), some (.int w), x6, some (.lst ((ndF P).map natD)), x8, none, none, none, some (bestD b), some (.lst (F.map rwD)), x14, none, none, none, none, none, none, none, none, none, none, none]) (S := S) (S1 := S) M (by dsimp? only []) (by omega) ⟨h, OnlyAt.refl _ _⟩ fun l hl S2 ⟨r2, o2⟩ => by
      obtain ⟨v, S3, e3, v0, v1, r3, o3⟩ := taken_spec (m := 20) r2 (by decide) (by decide)
      exact ⟨_, ⟨(l, v), v0, v1⟩, S3, rfl, by dsimp? only [e3], rfl, r3, o2.trans o3⟩
  obtain ⟨p, S2, e2, p0, p1, r2, o2⟩ := taken_spec (m := 6) r1 (by decide) (by decide)
  obtain ⟨e, S3, e3, q0, q1, r3, o3⟩ := taken_spec (m := 20) r2 (by decide) (by decide)
  refine ⟨Q.map (·.1), p, e, S3, ?_, ?_, fun c hc => ?_, ⟨p0, p1⟩, ⟨q0, q1⟩, r3, (o1.trans o2).trans o3⟩
  · have em : Q.map (fun q => chT q.1) = (Q.map (·.1)).map chT := by rw [List.map_map]; rfl
    rw [em] at e1
    unfold b__law_rest_9
    dsimp? only [e1, e2, e3]
  · rw [List.map_map]; exact pq
  · obtain ⟨q, hq, rfl⟩ := List.mem_map.mp hc
    exact q.2
theorem r10 (hC : C.length ≤ 1000) : b__law_rest_10 [some (.ref r), some (objN P), some (sps P), some (rwD (visF P)), some (.lst (M.map nmD)), some (.int w), x6, some (.lst ((ndF P).map natD)), x8, none, none, none, some (bestD b), some (.lst (F.map rwD)), x14, some (.lst (C.map chT)), some (.int p), some (.int e), none, none, none, none, none, none, none, none] S = .nx [some (.ref r), some (objN P), some (sps P), some (rwD (visF P)), some (.lst (M.map nmD)), some (.int w), x6, some (.lst ((ndF P).map natD)), x8, some (.lst ((soF p e C).map spD)), none, none, some (bestD b), some (.lst (F.map rwD)), x14, some (.lst (C.map chT)), some (.int p), some (.int e), none, none, none, none, none, none, none, none] S := by
  unfold b__law_rest_10
  dsimp? only []
  rw [eComp_t (emb := chT) (f := fun c => decide (c.2 ≤ e)) (v := fun c => spD (soR p e c)) C (by dsimp? only []) (by omega) fun c hc => ⟨_, rfl, by dsimp? only [], fun _ => by dsimp? only [dMin2]; rfl⟩]
  dsimp? only []
  unfold soF
  rw [List.map_map]; rfl
theorem r11 (hC : ∀ c ∈ C, NmOk c.1 ∧ 0 ≤ c.2 ∧ c.2 ≤ 9999) (hl : C.length ≤ 100) (hp : 0 ≤ p ∧ p < 6) (he : 0 ≤ e ∧ e < 20) : b__law_rest_11 [some (.ref r), some (objN P), some (sps P), some (rwD (visF P)), some (.lst (M.map nmD)), some (.int w), x6, some (.lst ((ndF P).map natD)), x8, some (.lst ((soF p e C).map spD)), none, none, some (bestD b), some (.lst (F.map rwD)), x14, some (.lst (C.map chT)), some (.int p), some (.int e), none, none, none, none, none, none, none, none] S = .nx [some (.ref r), some (objN P), some (sps P), some (rwD (visF P)), some (.lst (M.map nmD)), some (.int w), x6, some (.lst ((ndF P).map natD)), x8, some (.lst ((soF p e C).map spD)), none, none, some (bestD b), some (.lst (F.map rwD)), x14, some (.lst (C.map chT)), some (.int p), some (.int e), none, none, none, none, none, none, none, none] S := by
  have so := spans_of_ok (S := S) (p := p) (e := e) (by omega) (by omega) hC hl
  have sl : (soF p e C).length ≤ 1000 := by unfold soF; rw [List.length_map]; have := List.length_filter_le (fun c : Ch => decide (c.2 ≤ e)) C; omega
  unfold b__law_rest_11
  refine alike_stmt (d := sps (soF p e C)) (S2 := S) (S3 := S) ?_ (by dsimp? only []) (shp_sps 11 (by decide) _) (shrt_t (shrt_sps _) (by rw [List.length_map]; exact sl))
  dsimp? only []
  rw [eComp_m (emb := chT) (v := chL) C (by dsimp? only []) (by omega) fun c hc => ⟨_, rfl, by dsimp? only []⟩]
  dsimp? only [so]
theorem r12_t (k6 : okX x6 = true) (k8 : okX x8 = true) (k14 : okX x14 = true) {v : Da} {i : Int} (hx : isExv v = false) (h : d_spans_of [v, .int 1, .int 9] S = .exc 2 [("index", .int i)] S) : b__law_rest_12_1 [some (.ref r), some (objN P), some (sps P), some (rwD (visF P)), some (.lst (M.map nmD)), some (.int w), x6, some (.lst ((ndF P).map natD)), x8, some (.lst ((soF p e C).map spD)), none, none, some (bestD b), some (.lst (F.map rwD)), x14, some (.lst (C.map chT)), some (.int p), some (.int e), some (v), some (.int i), none, none, none, none, none, none] S = .nx [some (.ref r), some (objN P), some (sps P), some (rwD (visF P)), some (.lst (M.map nmD)), some (.int w), x6, some (.lst ((ndF P).map natD)), x8, some (.lst ((soF p e C).map spD)), none, none, some (bestD b), some (.lst (F.map rwD)), x14, some (.lst (C.map chT)), some (.int p), some (.int e), some (v), some (.int i), none, none, none, none, none, none] S := by
  unfold b__law_rest_12_1
  refine try_h (c := 2) (fs := [("index", .int i)]) (i := 20) (S1 := S) ?_ rfl ?_ ?_ rfl
  · unfold b__law_rest_12_1_1
    dsimp? only [hx, h]
  · unfold b__law_rest_12_1_0_1_1 b__law_rest_12_1_0_1_1_1
    dsimp? only [eXf, true_or, or_true]
  · dsimp? only [clean, okS, okN, List.all_cons, List.all_nil, xv_best, hx, k6, k8, k14]
theorem r12 (k6 : okX x6 = true) (k8 : okX x8 = true) (k14 : okX x14 = true) : b__law_rest_12 [some (.ref r), some (objN P), some (sps P), some (rwD (visF P)), some (.lst (M.map nmD)), some (.int w), x6, some (.lst ((ndF P).map natD)), x8, some (.lst ((soF p e C).map spD)), none, none, some (bestD b), some (.lst (F.map rwD)), x14, some (.lst (C.map chT)), some (.int p), some (.int e), none, none, none, none, none, none, none, none] S = .nx [some (.ref r), some (objN P), some (sps P), some (rwD (visF P)), some (.lst (M.map nmD)), some (.int w), x6, some (.lst ((ndF P).map natD)), x8, some (.lst ((soF p e C).map spD)), none, none, some (bestD b), some (.lst (F.map rwD)), x14, some (.lst (C.map chT)), some (.int p), some (.int e), some (.lst [.int 5]), some (.int 0), none, none, none, none, none, none] S := by
  have t1 := r12_t (S := S) (P := P) (r := r) (M := M) (w := w) (b := b) (x6 := x6) (x8 := x8) (x14 := x14) (F := F) (C := C) (p := p) (e := e) k6 k8 k14 rfl so_bad1
  have t2 := r12_t (S := S) (P := P) (r := r) (M := M) (w := w) (b := b) (x6 := x6) (x8 := x8) (x14 := x14) (F := F) (C := C) (p := p) (e := e) k6 k8 k14 rfl so_bad2
  have t3 := r12_t (S := S) (P := P) (r := r) (M := M) (w := w) (b := b) (x6 := x6) (x8 := x8) (x14 := x14) (F := F) (C := C) (p := p) (e := e) k6 k8 k14 rfl so_bad3
  unfold b__law_rest_12
  dsimp? only [a_nm]
  rw [forL_cons (ε1 := [some (.ref r), some (objN P), some (sps P), some (rwD (visF P)), some (.lst (M.map nmD)), some (.int w), x6, some (.lst ((ndF P).map natD)), x8, some (.lst ((soF p e C).map spD)), none, none, some (bestD b), some (.lst (F.map rwD)), x14, some (.lst (C.map chT)), some (.int p), some (.int e), some (.lst [chT ([0], 1), chT ([0], -1)]), some (.int 1), none, none, none, none, none, none]) (by dsimp? only []) t1, forL_cons (ε1 := [some (.ref r), some (objN P), some (sps P), some (rwD (visF P)), some (.lst (M.map nmD)), some (.int w), x6, some (.lst ((ndF P).map natD)), x8, some (.lst ((soF p e C).map spD)), none, none, some (bestD b), some (.lst (F.map rwD)), x14, some (.lst (C.map chT)), some (.int p), some (.int e), some (.lst [.tup [.str "A", .int 1]]), some (.int 0), none, none, none, none, none, none]) (by dsimp? only []) t2, forL_cons (ε1 := [some (.ref r), some (objN P), some (sps P), some (rwD (visF P)), some (.lst (M.map nmD)), some (.int w), x6, some (.lst ((ndF P).map natD)), x8, some (.lst ((soF p e C).map spD)), none, none, some (bestD b), some (.lst (F.map rwD)), x14, some (.lst (C.map chT)), some (.int p), some (.int e), some (.lst [.int 5]), some (.int 0), none, none, none, none, none, none]) (by dsimp? only []) t3, forL_nil]
theorem r13_t (k6 : okX x6 = true) (k8 : okX x8 = true) (k14 : okX x14 = true) (k18 : okX x18 = true) (k19 : okX x19 = true) {j : Int} (hj : j = 0 ∨ j = 1) : b__law_rest_13_1 [some (.ref r), some (objN P), some (sps P), some (rwD (visF P)), some (.lst (M.map nmD)), some (.int w), x6, some (.lst ((ndF P).map natD)), x8, some (.lst ((soF p e C).map spD)), some (.int j), none, some (bestD b), some (.lst (F.map rwD)), x14, some (.lst (C.map chT)), some (.int p), some (.int e), x18, x19, none, none, none, none, none, none] S = .nx [some (.ref r), some (objN P), some (sps P), some (rwD (visF P)), some (.lst (M.map nmD)), some (.int w), x6, some (.lst ((ndF P).map natD)), x8, some (.lst ((soF p e C).map spD)), some (.int j), none, some (bestD b), some (.lst (F.map rwD)), x14, some (.lst (C.map chT)), some (.int p), some (.int e), x18, x19, none, none, none, none, none, none] S := by
  have n1 := so_num1 (S := S)
  have n2 := so_num2 (S := S)
  unfold b__law_rest_13_1
  rcases hj with rfl | rfl
  · refine try_h (c := 1) (fs := [("value", .int (-1))]) (i := 20) (S1 := S) ?_ rfl ?_ ?_ rfl
    · unfold b__law_rest_13_1_1
      dsimp? only [n1]
    · unfold b__law_rest_13_1_0_1_1 b__law_rest_13_1_0_1_1_1
      dsimp? only [eXf, true_or, or_true]
    · dsimp? only [clean, okS, okN, List.all_cons, List.all_nil, xv_best, k6, k8, k14, k18, k19]
  · refine try_h (c := 1) (fs := [("value", .int 10000)]) (i := 20) (s := b__law_rest_13_1_0_1_1) (S1 := S) ?_ rfl ?_ ?_ rfl
    · unfold b__law_rest_13_1_1
      dsimp? only [n2]
    · unfold b__law_rest_13_1_0_1_1 b__law_rest_13_1_0_1_1_1
      dsimp? only [eXf, true_or, or_true]
    · dsimp? only [clean, okS, okN, List.all_cons, List.all_nil, xv_best, k6, k8, k14, k18, k19]
theorem r13 (k6 : okX x6 = true) (k8 : okX x8 = true) (k14 : okX x14 = true) (k18 : okX x18 = true) (k19 : okX x19 = true) : b__law_rest_13 [some (.ref r), some (objN P), some (sps P), some (rwD (visF P)), some (.lst (M.map nmD)), some (.int w), x6, some (.lst ((ndF P).map natD)), x8, some (.lst ((soF p e C).map spD)), none, none, some (bestD b), some (.lst (F.map rwD)), x14, some (.lst (C.map chT)), some (.int p), some (.int e), x18, x19, none, none, none, none, none, none] S = .nx [some (.ref r), some (objN P), some (sps P), some (rwD (visF P)), some (.lst (M.map nmD)), some (.int w), x6, some (.lst ((ndF P).map natD)), x8, some (.lst ((soF p e C).map spD)), some (.int 1), none, some (bestD b), some (.lst (F.map rwD)), x14, some (.lst (C.map chT)), some (.int p), some (.int e), x18, x19, none, none, none, none, none, none] S := by
  have t1 := r13_t (S := S) (P := P) (r := r) (M := M) (w := w) (b := b) (F := F) (C := C) (p := p) (e := e) k6 k8 k14 k18 k19 (.inl rfl)
  have t2 := r13_t (S := S) (P := P) (r := r) (M := M) (w := w) (b := b) (F := F) (C := C) (p := p) (e := e) k6 k8 k14 k18 k19 (.inr rfl)
  unfold b__law_rest_13
  dsimp? only []
  rw [rng1_at (j := 2) (S2 := S) (by dsimp? only []) (by omega) (by omega)]
  have w2 : whl 0 2 = [0, 1] := by decide +kernel
  rw [w2]
  dsimp? only []
  rw [forL_cons (ε1 := [some (.ref r), some (objN P), some (sps P), some (rwD (visF P)), some (.lst (M.map nmD)), some (.int w), x6, some (.lst ((ndF P).map natD)), x8, some (.lst ((soF p e C).map spD)), some (.int 0), none, some (bestD b), some (.lst (F.map rwD)), x14, some (.lst (C.map chT)), some (.int p), some (.int e), x18, x19, none, none, none, none, none, none]) (by dsimp? only []) t1, forL_cons (ε1 := [some (.ref r), some (objN P), some (sps P), some (rwD (visF P)), some (.lst (M.map nmD)), some (.int w), x6, some (.lst ((ndF P).map natD)), x8, some (.lst ((soF p e C).map spD)), some (.int 1), none, some (bestD b), some (.lst (F.map rwD)), x14, some (.lst (C.map chT)), some (.int p), some (.int e), x18, x19, none, none, none, none, none, none]) (by dsimp? only []) t2, forL_nil]
/-! ### refused spans -/
def BadS (d : Da) : Prop := d ∈ ([.tup [.str "", .int 1, .int 2], .tup [nmD [0], .int 2, .int 1], .tup [nmD [0], .int (-1), .int 2], .tup [nmD [0], .int 1], .non, .tup [nmD [0], .bl true, .int 2], .tup [nmD [0], .int 1, .int 10000]] : List Da)
theorem BadS.arg (h : BadS bad) : SpArg bad ∧ spanB bad = false := by
  have z := nm_ne a_ok
  simp only [BadS, List.mem_cons, List.not_mem_nil, or_false] at h
  rcases h with rfl | rfl | rfl | rfl | rfl | rfl | rfl
  · exact ⟨.e, by simp [spanB]⟩
  · exact ⟨.t _ a_ok _ _, by simp [spanB]⟩
  · exact ⟨.t _ a_ok _ _, by simp [spanB]⟩
  · exact ⟨.two, rfl⟩
  · exact ⟨.non, rfl⟩
  · exact ⟨.bl, rfl⟩
  · exact ⟨.t _ a_ok _ _, by simp [spanB]⟩
theorem BadS.xv (h : BadS bad) : isExv bad = false := shp_xv (spArg_shp h.arg.1).1
theorem sp_arg {q : Spn} (h : SpOk q) : SpArg (spD q) ∧ spanB (spD q) = true := spr_arg (q := (false, q)) h
theorem nk1 (g : GN P) (hb : BadS bad) : mk1 4 d_Needs___init__ (.tup (P.map spD ++ [bad])) S = .exc 2 [("index", .int (P.length : Nat))] S := by
  have gl := g.len
  refine mkN_exc (fun _ => rfl) rfl fun S => ?_
  have wn := want_spans (c := false) (ds := P.map spD ++ [bad]) (fun d hd => by
    rcases List.mem_append.mp hd with z | z
    · obtain ⟨q, hq, rfl⟩ := List.mem_map.mp z
      exact (sp_arg (g.ok q hq)).1
    · rw [List.mem_singleton.mp z]; exact hb.arg.1) (by simp; omega) S
  rw [firstBad_app (fun d hd => by
    obtain ⟨q, hq, rfl⟩ := List.mem_map.mp hd
    exact (sp_arg (g.ok q hq)).2) hb.arg.2] at wn
  rw [List.length_map] at wn
  exact wn
theorem nk2 : mk1 4 d_Needs___init__ .non S = .exc 2 [("index", .non)] S := mkN_exc (fun _ => rfl) rfl fun S => want_row_non
theorem nk3 : mk1 4 d_Needs___init__ (.lst (List.replicate 31 (.tup [nmD [0], .int 1, .int 2]))) S = .exc 3 [("limit", .int 30)] S := by
  have ok : SpOk ([0], 1, 2) := ⟨a_ok, by decide, by decide⟩
  refine mkN_exc (fun _ => rfl) rfl fun S => ?_
  have wn := want_spans (c := true) (ds := List.replicate 31 (spD ([0], 1, 2))) (fun d hd => by
    rw [List.eq_of_mem_replicate hd]; exact (sp_arg ok).1) (by rw [List.length_replicate]; decide) S
  rw [firstBad_none fun d hd => by rw [List.eq_of_mem_replicate hd]; exact (sp_arg ok).2] at wn
  dsimp only at wn
  rw [List.length_replicate, if_pos (by decide)] at wn
  exact wn
theorem r14 (h : RowOk S r ns) : ∃ (bad : Da) (S2 : Sto), b__law_rest_14 [some (.ref r), some (objN P), some (sps P), some (rwD (visF P)), some (.lst (M.map nmD)), some (.int w), x6, some (.lst ((ndF P).map natD)), x8, some (.lst ((soF p e C).map spD)), x10, none, some (bestD b), some (.lst (F.map rwD)), x14, some (.lst (C.map chT)), some (.int p), some (.int e), x18, x19, none, none, none, none, none, none] S = .nx [some (.ref r), some (objN P), some (sps P), some (rwD (visF P)), some (.lst (M.map nmD)), some (.int w), x6, some (.lst ((ndF P).map natD)), x8, some (.lst ((soF p e C).map spD)), x10, some (bad), some (bestD b), some (.lst (F.map rwD)), x14, some (.lst (C.map chT)), some (.int p), some (.int e), x18, x19, none, none, none, none, none, none] S2 ∧ BadS bad ∧ RowOk S2 r ns ∧ OnlyAt r S S2 := by
  obtain ⟨bad, S2, ep, hb, h2, o2⟩ := pick_spec (S := S) (ds := [.tup [.str "", .int 1, .int 2], .tup [nmD [0], .int 2, .int 1], .tup [nmD [0], .int (-1), .int 2], .tup [nmD [0], .int 1], .non, .tup [nmD [0], .bl true, .int 2], .tup [nmD [0], .int 1, .int 10000]]) h (by simp) (by simp) (by rfl)
  refine ⟨bad, S2, ?_, hb, h2, o2⟩
  unfold b__law_rest_14
  dsimp? only [a_nm, ep]
theorem r15_t (k6 : okX x6 = true) (k8 : okX x8 = true) (k14 : okX x14 = true) (k10 : okX x10 = true) (hb : BadS bad) {v d : Da} (hx : isExv v = false) (hs : shp 60 d = true)
    (h : mk1 4 d_Needs___init__ v S = .exc 2 [("index", d)] S ∨ mk1 4 d_Needs___init__ v S = .exc 3 [("limit", d)] S) : b__law_rest_15_1 [some (.ref r), some (objN P), some (sps P), some (rwD (visF P)), some (.lst (M.map nmD)), some (.int w), x6, some (.lst ((ndF P).map natD)), x8, some (.lst ((soF p e C).map spD)), x10, some (bad), some (bestD b), some (.lst (F.map rwD)), x14, some (.lst (C.map chT)), some (.int p), some (.int e), some (v), some (if (match mk1 4 d_Needs___init__ v S with | .exc 2 _ _ => true | _ => false) = true then .tup [.str "item", d] else .tup [.str "many", d]), none, none, none, none, none, none] S = .nx [some (.ref r), some (objN P), some (sps P), some (rwD (visF P)), some (.lst (M.map nmD)), some (.int w), x6, some (.lst ((ndF P).map natD)), x8, some (.lst ((soF p e C).map spD)), x10, some (bad), some (bestD b), some (.lst (F.map rwD)), x14, some (.lst (C.map chT)), some (.int p), some (.int e), some (v), some (if (match mk1 4 d_Needs___init__ v S with | .exc 2 _ _ => true | _ => false) = true then .tup [.str "item", d] else .tup [.str "many", d]), none, none, none, none, none, none] S := by
  have hbx := hb.xv
  have hdx := shp_xv hs
  have sh : ∀ z : Str, shp 1 (.str z) = true → shp 64 (.tup [.str z, d]) = true := fun z hz => by
    simp only [shp, shps, Bool.and_eq_true, decide_eq_true_eq] at hz ⊢
    exact ⟨by decide, hz, shp_mono (by decide) hs, trivial⟩
  rcases h with h | h
  · rw [h]
    simp only [if_true]
    unfold b__law_rest_15_1
    refine try_h (c := 2) (fs := [("index", d)]) (i := 20) (S1 := S) ?_ rfl ?_ ?_ rfl
    · unfold b__law_rest_15_1_1
      dsimp? only [hx, h]
    · have ne := dNe_self (S := S) (sh (Str.ofString "item") (by decide +kernel))
      unfold b__law_rest_15_1_0_1_1 b__law_rest_15_1_0_1_1_1
      dsimp? only [eXf, true_or, or_true, ne]
    · dsimp? only [clean, okS, okN, List.all_cons, List.all_nil, xv_best, hx, hbx, k6, k8, k14, k10]
  · rw [h]
    simp only [Bool.false_eq_true, if_false]
    unfold b__law_rest_15_1
    refine try_h (c := 3) (fs := [("limit", d)]) (i := 20) (S1 := S) ?_ rfl ?_ ?_ rfl
    · unfold b__law_rest_15_1_1
      dsimp? only [hx, h]
    · have ne := dNe_self (S := S) (sh (Str.ofString "many") (by decide +kernel))
      unfold b__law_rest_15_1_0_2_1 b__law_rest_15_1_0_2_1_1
      dsimp? only [eXf, true_or, or_true, ne]
    · dsimp? only [clean, okS, okN, List.all_cons, List.all_nil, xv_best, hx, hbx, k6, k8, k14, k10]
theorem r15 (g : GN P) (k6 : okX x6 = true) (k8 : okX x8 = true) (k14 : okX x14 = true) (k10 : okX x10 = true) (hb : BadS bad) : ∃ y : Option Da × Option Da, b__law_rest_15 [some (.ref r), some (objN P), some (sps P), some (rwD (visF P)), some (.lst (M.map nmD)), some (.int w), x6, some (.lst ((ndF P).map natD)), x8, some (.lst ((soF p e C).map spD)), x10, some (bad), some (bestD b), some (.lst (F.map rwD)), x14, some (.lst (C.map chT)), some (.int p), some (.int e), x18, x19, none, none, none, none, none, none] S = .nx [some (.ref r), some (objN P), some (sps P), some (rwD (visF P)), some (.lst (M.map nmD)), some (.int w), x6, some (.lst ((ndF P).map natD)), x8, some (.lst ((soF p e C).map spD)), x10, some (bad), some (bestD b), some (.lst (F.map rwD)), x14, some (.lst (C.map chT)), some (.int p), some (.int e), y.1, y.2, none, none, none, none, none, none] S := by
  have t1 := r15_t (S := S) (P := P) (r := r) (M := M) (w := w) (b := b) (F := F) (C := C) (p := p) (e := e) k6 k8 k14 k10 hb (d := .int (P.length : Nat)) rfl rfl (.inl (nk1 g hb))
  have t2 := r15_t (S := S) (P := P) (r := r) (M := M) (w := w) (b := b) (F := F) (C := C) (p := p) (e := e) k6 k8 k14 k10 hb (d := .non) rfl rfl (.inl nk2)
  have t3 := r15_t (S := S) (P := P) (r := r) (M := M) (w := w) (b := b) (F := F) (C := C) (p := p) (e := e) k6 k8 k14 k10 hb (d := .int 30) rfl rfl (.inr nk3)
  rw [nk1 g hb] at t1
  rw [nk2] at t2
  rw [nk3] at t3
  simp only [if_true, Bool.false_eq_true, if_false] at t1 t2 t3
  have gl := g.len
  have sl : P.length + 1 ≤ sizeLine := by rw [sizeLine_eq]; omega
  have mu : dMul (.lst [.tup [nmD [0], .int 1, .int 2]]) (.int 31) S = some (.lst (List.replicate 31 (.tup [nmD [0], .int 1, .int 2])), S) := by
    unfold dMul drf
    dsimp only
    rw [if_pos ⟨by rw [sizeLine_eq]; decide, cdec_of (by decide)⟩]
    rfl
  refine ⟨(some (.lst (List.replicate 31 (.tup [nmD [0], .int 1, .int 2]))), some (.tup [.str "many", .int 30])), ?_⟩
  unfold b__law_rest_15
  have it : iVal (eOpN dLst (esCons (eOpN dTup (esCons (eOp2 dAdd (eVar 2) (eOpN dTup (esCons (eVar 11) esNil))) (esCons (eOpN dTup (esCons (eC (.str "item")) (esCons (eOpN dLen (esCons (eVar 2) esNil)) esNil))) esNil))) (esCons (eOpN dTup (esCons (eC .non) (esCons (eOpN dTup (esCons (eC (.str "item")) (esCons (eC .non) esNil))) esNil))) (esCons (eOpN dTup (esCons (eOp2 dMul (eOpN dLst (esCons (eOpN dTup (esCons (eC (.str "a")) (esCons (eC (.int 1)) (esCons (eC (.int 2)) esNil)))) esNil)) (eC (.int 31))) (esCons (eOpN dTup (esCons (eC (.str "many")) (esCons (eC (.int 30)) esNil))) esNil))) esNil)))) [some (.ref r), some (objN P), some (sps P), some (rwD (visF P)), some (.lst (M.map nmD)), some (.int w), x6, some (.lst ((ndF P).map natD)), x8, some (.lst ((soF p e C).map spD)), x10, some (bad), some (bestD b), some (.lst (F.map rwD)), x14, some (.lst (C.map chT)), some (.int p), some (.int e), x18, x19, none, none, none, none, none, none] S = .ok [.tup [.tup (P.map spD ++ [bad]), .tup [.str "item", .int (P.length : Nat)]], .tup [.non, .tup [.str "item", .non]], .tup [.lst (List.replicate 31 (.tup [nmD [0], .int 1, .int 2])), .tup [.str "many", .int 30]]] S := by
    have hbx := hb.xv
    dsimp? only [hbx, sl, a_nm]
    rw [if_pos ⟨by rw [sizeLine_eq]; decide, cdec_of (by decide)⟩]
    have fl : (List.replicate (Int.toNat 31) [Da.tup [Da.str (nmS [0]), Da.int 1, Da.int 2]]).flatten = List.replicate 31 (.tup [nmD [0], .int 1, .int 2]) := rfl
    rw [fl]
    dsimp? only []
  rw [sFor, it]
  simp only [lft_ok]
  rw [forL_cons (ε1 := [some (.ref r), some (objN P), some (sps P), some (rwD (visF P)), some (.lst (M.map nmD)), some (.int w), x6, some (.lst ((ndF P).map natD)), x8, some (.lst ((soF p e C).map spD)), x10, some (bad), some (bestD b), some (.lst (F.map rwD)), x14, some (.lst (C.map chT)), some (.int p), some (.int e), some (.tup (P.map spD ++ [bad])), some (.tup [.str "item", .int (P.length : Nat)]), none, none, none, none, none, none]) (by dsimp? only []) t1, forL_cons (ε1 := [some (.ref r), some (objN P), some (sps P), some (rwD (visF P)), some (.lst (M.map nmD)), some (.int w), x6, some (.lst ((ndF P).map natD)), x8, some (.lst ((soF p e C).map spD)), x10, some (bad), some (bestD b), some (.lst (F.map rwD)), x14, some (.lst (C.map chT)), some (.int p), some (.int e), some (.non), some (.tup [.str "item", .non]), none, none, none, none, none, none]) (by dsimp? only []) t2, forL_cons (ε1 := [some (.ref r), some (objN P), some (sps P), some (rwD (visF P)), some (.lst (M.map nmD)), some (.int w), x6, some (.lst ((ndF P).map natD)), x8, some (.lst ((soF p e C).map spD)), x10, some (bad), some (bestD b), some (.lst (F.map rwD)), x14, some (.lst (C.map chT)), some (.int p), some (.int e), some (.lst (List.replicate 31 (.tup [nmD [0], .int 1, .int 2]))), some (.tup [.str "many", .int 30]), none, none, none, none, none, none]) (by dsimp? only []) t3, forL_nil]
theorem rest_ok (g : GS P) (h16 : ∀ p ∈ P, p.2.2 ≤ 16) (h : RowOk S r ns) (hM : M.length ≤ 100) (hk : ∀ m ∈ M, NmOk m) : ∃ S2, d__law_rest [.ref r, objN P, sps P, rwD (visF P), .lst (M.map nmD)] S = .ok (.bl true) S2 := by
  obtain ⟨v, S1, e1, v0, v1, r1, o1⟩ := taken_spec (m := 4) h (by decide) (by decide)
  obtain ⟨b, ge, e2⟩ := gentle_ok (S := S1) (P := P) g (w := 1 + v) (by omega) (by omega)
  have gl := g.g.len
  suffices ∃ S2, b__law_rest [some (.ref r), some (objN P), some (sps P), some (rwD (visF P)), some (.lst (M.map nmD)), none, none, none, none, none, none, none, none, none, none, none, none, none, none, none, none, none, none, none, none, none] S = .rt (.bl true) S2 ∧ (RowOk S2 r ns ∧ OnlyAt r S S2) by
    obtain ⟨S2, k, r2, o2⟩ := this
    exact ⟨S2, fn_row0 (b := b__law_rest) (by show fnRes (b__law_rest [some (.ref r), some (objN P), some (sps P), some (rwD (visF P)), some (.lst (M.map nmD)), none, none, none, none, none, none, none, none, none, none, none, none, none, none, none, none, none, none, none, none, none] S) = _; rw [k]; rfl) o2 r2 rfl⟩
  unfold b__law_rest
  refine run_q (by unfold b__law_rest_1; dsimp? only [e1]; rfl) ?_
  refine run_q (ε' := [some (.ref r), some (objN P), some (sps P), some (rwD (visF P)), some (.lst (M.map nmD)), some (.int (1 + v)), none, none, none, none, none, none, some (bestD b), some (.lst []), none, none, none, none, none, none, none, none, none, none, none, none]) (S' := S1) (by unfold b__law_rest_2; dsimp? only [nl_gentle, e2]) ?_
  obtain ⟨y6, k6, e3⟩ := r3 (S := S1) (P := P) (r := r) (M := M) (w := 1 + v) (b := b) (by omega) (by omega)
  refine run_q e3 ?_
  refine run_q (r4 g (by omega) ge) ?_
  refine run_q (r5 g (by omega) h16 ge) ?_
  refine run_q (ε' := [some (.ref r), some (objN P), some (sps P), some (rwD (visF P)), some (.lst (M.map nmD)), some (.int (1 + v)), y6, some (.lst (([] : List Nat).map natD)), none, none, none, none, some (bestD b), some (.lst ((fewF P (1 + v) 4).map rwD)), none, none, none, none, none, none, none, none, none, none, none, none]) (S' := S1) (by unfold b__law_rest_6; dsimp? only []) ?_
  obtain ⟨y, ⟨k8, k14⟩, e7⟩ := r7 (S := S1) (P := P) (r := r) (M := M) (w := 1 + v) (b := b) (x6 := y6) g.g (F := fewF P (1 + v) 4)
  refine run_q e7 ?_
  refine run_q (r8 g.g) ?_
  obtain ⟨C, p, e, S2, e9, cM, cb, pb, eb, r2, o2⟩ := r9 r1 hM
  refine run_q e9 ?_
  have cl : C.length ≤ 100 := by rw [← cM, List.length_map] at hM; exact hM
  refine run_q (r10 (by omega)) ?_
  have hC : ∀ c ∈ C, NmOk c.1 ∧ 0 ≤ c.2 ∧ c.2 ≤ 9999 := fun c hc => by
    have := cb c hc
    refine ⟨hk c.1 ?_, by omega, by omega⟩
    rw [← cM]; exact List.mem_map.mpr ⟨c, hc, rfl⟩
  refine run_q (r11 hC cl pb eb) ?_
  refine run_q (r12 k6 k8 k14) ?_
  refine run_q (r13 k6 k8 k14 rfl rfl) ?_
  obtain ⟨bad, S3, e14, hb, r3, o3⟩ := r14 r2
  refine run_q e14 ?_
  obtain ⟨y2, e15⟩ := r15 (S := S3) (P := P) (r := r) (M := M) (w := 1 + v) (b := b) (x6 := y6) (x8 := y.1) (x14 := y.2) (x10 := some (.int 1)) (F := fewF P (1 + v) 4) (C := C) (p := p) (e := e) g.g k6 k8 k14 rfl hb
  refine run_q e15 ?_
  exact ⟨S3, by unfold b__law_rest_16; dsimp? only [], r3, (o1.trans o2).trans o3⟩
end
open PySem PySem.Spec PyProof.Rows L2
open Qk21
section
variable {S : Sto} {P : List Spn} {L : List Int} {M : List Nm} {ns : List Int} {x2 x4 x5 x7 x12 x13 x14 x15 x16 x17 x18 x19 x20 x21 : Option Da}

theorem st1 : b_law_1 (some (.scr ns) :: List.replicate 22 none) [] = .nx [some (.scr ns), some (.ref 0), none, none, none, none, none, none, none, none, none, none, none, none, none, none, none, none, none, none, none, none, none] [.lst [.scr ns, .int 0, .int 73, .int 0]] := by
  unfold b_law_1
  dsimp? only []
theorem st2 (h : RowOk S 0 ns) (hS : S.length = 1) : ∃ (M : List Nm) (S2 : Sto), b_law_2 [some (.scr ns), some (.ref 0), none, none, none, none, none, none, none, none, none, none, none, none, none, none, none, none, none, none, none, none, none] S = .nx [some (.scr ns), some (.ref 0), none, some (.ref 1), none, none, some (.lst (M.map nmD)), none, none, none, none, none, none, none, none, none, none, none, none, none, none, none, none] (S2 ++ [.lst []]) ∧ M.length = 3 ∧ (∀ m ∈ M, NmOk m) ∧ RowOk S2 0 ns ∧ S2.length = 1 := by
  obtain ⟨M, S1, e1, l1, k1, n1, r1, o1⟩ := names_spec (S := S) (many := 3) h (by decide)
  have e1 : d__law_names [.ref 0, .int 3] S = .ok (.lst (M.map nmD)) S1 := e1
  have s1 : S1.length = 1 := by rw [o1.len, hS]
  refine ⟨M, S1, ?_, l1, k1, r1, s1⟩
  unfold b_law_2
  dsimp? only [e1, s1]
/-- what is drawn of a span -/
structure SpDr (M : List Nm) (p : Spn) : Prop where
  nm : p.1 ∈ M
  a : 0 ≤ p.2.1 ∧ p.2.1 < 12
  b : p.2.1 ≤ p.2.2 ∧ p.2.2 ≤ p.2.1 + 4
theorem st3 (h : RowOk S 0 ns) (hS : S.length = 2) (h1 : S[1]? = some (.lst [])) (hM : M.length = 3) : ∃ (P : List Spn) (x2 x7 : Option Da) (S2 : Sto), b_law_3 [some (.scr ns), some (.ref 0), none, some (.ref 1), none, none, some (.lst (M.map nmD)), none, none, none, none, none, none, none, none, none, none, none, none, none, none, none, none] S = .nx [some (.scr ns), some (.ref 0), x2, some (.ref 1), none, none, some (.lst (M.map nmD)), x7, none, none, none, none, none, none, none, none, none, none, none, none, none, none, none] S2 ∧ RowOk S2 0 ns ∧ S2.length = 2 ∧ S2[1]? = some (.lst (P.map spD)) ∧ P.length ≤ 6 ∧ ∀ p ∈ P, SpDr M p := by
  obtain ⟨c, S1, e1, c0, c1, r1, o1⟩ := taken_spec (m := 7) h (by decide) (by decide)
  obtain ⟨ε2, S2, e, ⟨P, x2, x7, rfl, r2, l2, q2, pl, pd⟩⟩ := forL_inv (emb := Da.int) (g := .name 2) (b := sSeq b_law_3_1 b_law_3_2) (ε := [some (.scr ns), some (.ref 0), none, some (.ref 1), none, none, some (.lst (M.map nmD)), none, none, none, none, none, none, none, none, none, none, none, none, none, none, none, none]) (S := S1)
    (fun i ε S' => ∃ (acc : List Spn) (x2 x7 : Option Da), ε = [some (.scr ns), some (.ref 0), x2, some (.ref 1), none, none, some (.lst (M.map nmD)), x7, none, none, none, none, none, none, none, none, none, none, none, none, none, none, none] ∧ RowOk S' 0 ns ∧ S'.length = 2 ∧ S'[1]? = some (.lst (acc.map spD)) ∧ acc.length = i ∧ ∀ p ∈ acc, SpDr M p) (whl 0 c)
    ⟨[], none, none, rfl, r1, by rw [o1.len, hS], by rw [o1.old 1 (by decide), h1]; rfl, rfl, fun p hp => nomatch hp⟩ fun i k ε S' hi ⟨acc, x2, x7, e1, r1, l1, q1, al, ad⟩ => by
    subst e1
    have il : i < (whl 0 c).length := (List.getElem?_eq_some_iff.mp hi).1
    rw [len_whl] at il
    obtain ⟨f, S2, e2, f0, f1, r2, o2⟩ := taken_spec (m := 12) r1 (by decide) (by decide)
    obtain ⟨d, S3, e3, hd, r3, o3⟩ := pick_spec (ds := M.map nmD) r2 (by intro z; rw [List.map_eq_nil_iff] at z; rw [z] at hM; simp at hM) (by rw [List.length_map]; omega) (below_nms _ _)
    obtain ⟨m, hm, rfl⟩ := List.mem_map.mp hd
    obtain ⟨s, S4, e4, s0, s1, r4, o4⟩ := taken_spec (m := 5) r3 (by decide) (by decide)
    have q2 : S2[1]? = some (.lst (acc.map spD)) := by rw [o2.old 1 (by decide), q1]
    have q4 : S4[1]? = some (.lst (acc.map spD)) := by rw [o4.old 1 (by decide), o3.old 1 (by decide), q2]
    have l4 : S4.length = 2 := by rw [o4.len, o3.len, o2.len, l1]
    refine ⟨_, [some (.scr ns), some (.ref 0), some (.int k), some (.ref 1), none, none, some (.lst (M.map nmD)), some (.int f), none, none, none, none, none, none, none, none, none, none, none, none, none, none, none], S4.set 1 (.lst ((acc ++ [(m, f, f + s)]).map spD)), rfl, ?_, acc ++ [(m, f, f + s)], _, _, rfl, r4.set (by decide), by rw [List.length_set, l4], by rw [List.getElem?_set_self (by omega)], by simp [al], fun p hp => ?_⟩
    · have ap := app_at (S := S2) (S2 := S4) (n := 1) (ds := acc.map spD) (d := spD (m, f, f + s)) (o := eVar 3) (a := eOpN dTup (esCons (eCall d__law_pick (esCons (eVar 1) (esCons (eVar 6) esNil))) (esCons (eVar 7) (esCons (eOp2 dAdd (eVar 7) (eCall d__law_taken (esCons (eVar 1) (esCons (eC (.int 5)) esNil)))) esNil)))) (ε := [some (.scr ns), some (.ref 0), some (.int k), some (.ref 1), none, none, some (.lst (M.map nmD)), some (.int f), none, none, none, none, none, none, none, none, none, none, none, none, none, none, none]) (by dsimp? only []) (by dsimp? only [e3, e4]) q2 q4 (by rw [List.length_map]; omega)
      unfold b_law_3_1 b_law_3_2
      rw [seq_nx (ε' := [some (.scr ns), some (.ref 0), some (.int k), some (.ref 1), none, none, some (.lst (M.map nmD)), some (.int f), none, none, none, none, none, none, none, none, none, none, none, none, none, none, none]) (S' := S2) (by dsimp? only [e2])]
      unfold sExpr
      rw [ap, List.map_append]
      rfl
    · rcases List.mem_append.mp hp with z | z
      · exact ad p z
      · rw [List.mem_singleton.mp z]
        exact ⟨hm, ⟨f0, f1⟩, ⟨by dsimp only; omega, by dsimp only; omega⟩⟩
  rw [len_whl] at pl
  refine ⟨P, x2, x7, S2, ?_, r2, l2, q2, by omega, pd⟩
  unfold b_law_3
  dsimp? only []
  rw [rng1_at (j := c) (S2 := S1) (by dsimp? only [e1]) (by omega) (by omega)]
  exact e
theorem st4 (h1 : S[1]? = some (.lst (P.map spD))) : b_law_4 [some (.scr ns), some (.ref 0), x2, some (.ref 1), none, none, some (.lst (M.map nmD)), x7, none, none, none, none, none, none, none, none, none, none, none, none, none, none, none] S = .nx [some (.scr ns), some (.ref 0), x2, some (sps P), none, none, some (.lst (M.map nmD)), x7, none, none, none, none, none, none, none, none, none, none, none, none, none, none, none] S := by
  unfold b_law_4
  dsimp? only [dTup_r h1]
theorem st5 (g : GN P) (h : RowOk S 0 ns) : ∃ S2, b_law_5 [some (.scr ns), some (.ref 0), x2, some (sps P), none, none, some (.lst (M.map nmD)), x7, none, none, none, none, none, none, none, none, none, none, none, none, none, none, none] S = .nx [some (.scr ns), some (.ref 0), x2, some (sps P), none, none, some (.lst (M.map nmD)), x7, some (objN P), some (.int 0), none, none, none, none, none, none, none, none, none, none, none, none, none] S2 ∧ RowOk S2 0 ns ∧ OnlyAt 0 S S2 := by
  have gl := g.len
  obtain ⟨Q, S1, e1, pq, r1, o1⟩ := eComp_drawT (emb := spD) (out := spr) (pj := fun q => q.2) (R := fun S2 => RowOk S2 0 ns ∧ OnlyAt 0 S S2) (own := [22]) (it := iVal (eVar 3)) (g := .name 22) (a := eCall d__law_mixed (esCons (eVar 1) (esCons (eVar 22) esNil))) (ε := [some (.scr ns), some (.ref 0), x2, some (sps P), none, none, some (.lst (M.map nmD)), x7, none, none, none, none, none, none, none, none, none, none, none, none, none, none, none]) (S := S) (S1 := S) P (by dsimp? only []) (by omega) ⟨h, OnlyAt.refl _ _⟩ fun p hp S2 ⟨r2, o2⟩ => by
    obtain ⟨c, S3, e3, r3, o3⟩ := mixed_spec (v := spD p) r2 (.inr rfl) (by rfl)
    exact ⟨_, (c, p), S3, rfl, by dsimp? only [e3]; cases c <;> rfl, rfl, r3, o2.trans o3⟩
  obtain ⟨c, S2, e2, r2, o2⟩ := mixed_spec (v := .lst (Q.map spr)) r1 (.inl rfl) (by
    have : ∀ (n : Nat) (Q : List (Bool × Spn)), belowDs n (Q.map spr) = true := fun n Q => by
      induction Q with
      | nil => rfl
      | cons q Q ih => simp only [List.map_cons, belowDs, Bool.and_eq_true]; exact ⟨by unfold spr; split <;> rfl, ih⟩
    exact this _ Q)
  have ql : Q.length ≤ 30 := by have := congrArg List.length pq; rw [List.length_map] at this; omega
  have mk := mkN_ok (S := S2) c Q (fun q hq => g.ok q.2 (by rw [← pq]; exact List.mem_map.mpr ⟨q, hq, rfl⟩)) ql
  rw [pq] at mk
  have mk : mk1 4 d_Needs___init__ (rowOf c (Q.map spr)) S2 = .ok (objN P) S2 := mk
  refine ⟨S2, ?_, r2, o1.trans o2⟩
  unfold b_law_5
  dsimp? only [e1, e2, mk]
theorem st6 (g : GN P) : b_law_6 [some (.scr ns), some (.ref 0), x2, some (sps P), none, none, some (.lst (M.map nmD)), x7, some (objN P), some (.int 0), none, none, none, none, none, none, none, none, none, none, none, none, none] S = .nx [some (.scr ns), some (.ref 0), x2, some (sps P), none, none, some (.lst (M.map nmD)), x7, some (objN P), some (.int 0), none, none, none, none, none, none, none, none, none, none, none, none, none] S := by
  have gl := g.len
  have al := alike_eq (x := sps P) (S := S) rfl (shp_sps 11 (by decide) P) (shrt_t (shrt_sps P) (by rw [List.length_map]; omega))
  have mk : mk1 4 d_Needs___init__ (.tup (P.map spD)) S = .ok (objN P) S := mkN_t g
  have ne := dNeO_N (S := S) (P := P) (Q := P)
  rw [decide_eq_true rfl] at ne
  have eq := dEqO_tN (S := S) (P := P) (ds := P.map spD)
  unfold b_law_6 b_law_6_1
  dsimp? only [al, mk, ne, eq]
theorem st7 (g : GN P) : b_law_7 [some (.scr ns), some (.ref 0), x2, some (sps P), none, none, some (.lst (M.map nmD)), x7, some (objN P), some (.int 0), none, none, none, none, none, none, none, none, none, none, none, none, none] S = .nx [some (.scr ns), some (.ref 0), x2, some (sps P), none, none, some (.lst (M.map nmD)), x7, some (objN P), some (.int 0), some (rwD (visF P)), some (.tup ((papF P).map natD)), none, none, none, none, none, none, none, none, none, none, none] S := by
  have gl := g.len
  have v := visits_ok (S := S) (P := P) (by omega)
  have p := paper_ok (S := S) (P := P) (by omega)
  unfold b_law_7
  dsimp? only [nl_visits, nl_paper, v, p]
theorem okb (g : GN P) : (∀ p ∈ P, 0 ≤ p.2.1) ∧ ∀ p ∈ P, p.2.1 ≤ p.2.2 := ⟨fun p hp => (g.ok p hp).a.1, fun p hp => (g.ok p hp).b.1⟩
theorem st8 (g : GS P) : b_law_8 [some (.scr ns), some (.ref 0), x2, some (sps P), none, none, some (.lst (M.map nmD)), x7, some (objN P), some (.int 0), some (rwD (visF P)), some (.tup ((papF P).map natD)), none, none, none, none, none, none, none, none, none, none, none] S = .nx [some (.scr ns), some (.ref 0), x2, some (sps P), none, none, some (.lst (M.map nmD)), x7, some (objN P), some (.int 0), some (rwD (visF P)), some (.tup ((papF P).map natD)), none, none, none, none, none, none, none, none, none, none, none] S := by
  have gl := g.g.len
  obtain ⟨h0, h1⟩ := okb g.g
  have vl := vis_len h1
  have s := served_ok (S := S) (P := P) (L := visF P) (by omega) (by omega)
  have sv : (P.all fun p => (visF P).any (inB p)) = true := vis_serve h1
  rw [sv] at s
  have pl := pap_len h0 h1
  have ip := is_paper_ok (S := S) (P := P) (L := (papF P).map fun k : Nat => (k : Int)) (v := .tup ((papF P).map natD)) (.inr (by rw [nat_ints])) (by omega) (by rw [List.length_map]; omega)
  rw [pap_ip h0 h1] at ip
  have us := unserved_ok (S := S) (P := P) (L := visF P) (by omega) (by omega)
  have un : unsF P (visF P) = [] := by rw [← List.isEmpty_iff, uns_nil]; exact sv
  rw [un] at us
  have ss : dSrtSetT [rwD (visF P)] S = some (.lst ((visF P).map Da.int), S) := by
    unfold dSrtSetT tupOf srtSetI
    simp only [Option.bind_some]
    have six := g.six
    rw [if_pos (by rw [List.length_map]; omega), intsOf_map]
    simp only [Option.map_some]
    rw [vis_srt h1]
  have ne := dNe_self (S := S) (d := .lst ((visF P).map Da.int)) (shp_ints (by decide) _)
  have nt : dNe (.tup []) (.tup []) S = some (.bl false, S) := rfl
  unfold b_law_8 b_law_8_1
  dsimp? only [nl_is_served, s, nl_is_paper, ip, pl, ss, ne, nl_unserved, us, nt]
end
open PySem PySem.Spec PyProof.Rows L2
open Qk21
section
variable {S : Sto} {P : List Spn} {L : List Int} {M : List Nm} {ns : List Int} {x2 x4 x5 x7 x12 x13 x14 x15 x16 x17 x18 x19 x20 x21 : Option Da}
theorem dNotIn_ints {k : Int} {ns : List Int} {S : Sto} : dNotIn (.int k) (.lst (ns.map Da.int)) S = some (.bl (!(ns.any (· == k))), S) := by
  have := dIn_ints (k := k) (ns := ns) (S := S)
  unfold dIn at this
  unfold dNotIn
  cases q : inSeq S (.int k) (.lst (ns.map Da.int)) with
  | none => rw [q] at this; cases this
  | some b =>
    rw [q] at this
    simp only [Option.map_some, Option.some.injEq, Prod.mk.injEq, Da.bl.injEq, and_true] at this
    rw [this]; rfl
theorem cut_wt {V : List Int} (k : Nat) : cutD (V.map Da.int) none (some (k : Nat)) ++ cutD (V.map Da.int) (some ((k : Int) + 1)) none = (V.take k ++ V.drop (k + 1)).map Da.int := by
  rw [cutD_map, cutD_map, cutG_take (by omega), cutG_drop (by omega), List.map_append, Int.toNat_natCast, show ((k : Int) + 1).toNat = k + 1 by omega]
theorem filter_none {α : Type} {f : α → Bool} : ∀ {L : List α}, (∀ x ∈ L, f x = false) → L.filter f = [] := fun {L} h => by
  rw [List.filter_eq_nil_iff]
  exact fun x hx => by rw [h x hx]; decide

theorem st9 (g : GS P) : b_law_9 [some (.scr ns), some (.ref 0), x2, some (sps P), none, none, some (.lst (M.map nmD)), x7, some (objN P), some (.int 0), some (rwD (visF P)), some (.tup ((papF P).map natD)), none, none, none, none, none, none, none, none, none, none, none] S = .nx [some (.scr ns), some (.ref 0), x2, some (sps P), none, none, some (.lst (M.map nmD)), x7, some (objN P), some (.int 0), some (rwD (visF P)), some (.tup ((papF P).map natD)), none, none, none, none, none, none, none, none, none, none, none] S := by
  have gl := g.g.len
  obtain ⟨h0, h1⟩ := okb g.g
  have vl := vis_len h1
  have six := g.six
  have c1 : eComp [2] (iRange1 (esCons (eOpN dLen (esCons (eVar 10) esNil)) esNil)) (.name 2) (tOf (eMeth 4 "is_served" d_Needs_is_served (eVar 8) (esCons (eOp2 dAdd (eSl (eVar 10) eoNone (eoSome (eVar 2))) (eSl (eVar 10) (eoSome (eOp2 dAdd (eVar 2) (eC (.int 1)))) eoNone)) esNil))) (eVar 2) [some (.scr ns), some (.ref 0), x2, some (sps P), none, none, some (.lst (M.map nmD)), x7, some (objN P), some (.int 0), some (rwD (visF P)), some (.tup ((papF P).map natD)), none, none, none, none, none, none, none, none, none, none, none] S = .ok (.lst []) S := by
    have z := eComp_t (emb := natD) (f := fun _ => false) (v := natD) (own := [2]) (it := iRange1 (esCons (eOpN dLen (esCons (eVar 10) esNil)) esNil)) (g := .name 2) (t := tOf (eMeth 4 "is_served" d_Needs_is_served (eVar 8) (esCons (eOp2 dAdd (eSl (eVar 10) eoNone (eoSome (eVar 2))) (eSl (eVar 10) (eoSome (eOp2 dAdd (eVar 2) (eC (.int 1)))) eoNone)) esNil))) (a := eVar 2) (ε := [some (.scr ns), some (.ref 0), x2, some (sps P), none, none, some (.lst (M.map nmD)), x7, some (objN P), some (.int 0), some (rwD (visF P)), some (.tup ((papF P).map natD)), none, none, none, none, none, none, none, none, none, none, none]) (S := S) (List.range (visF P).length) (by
      rw [rng1_at (j := ((visF P).length : Nat)) (S2 := S) (by dsimp? only []) (by omega) (by omega), whl_nat, List.map_map]; rfl) (by rw [List.length_range]; omega) fun k hk => ⟨_, rfl, by
      have hk := List.mem_range.mp hk
      have s := served_ok (S := S) (P := P) (L := (visF P).take k ++ (visF P).drop (k + 1)) (by omega) (by rw [List.length_append, List.length_take, List.length_drop]; omega)
      have nb : (P.all fun p => ((visF P).take k ++ (visF P).drop (k + 1)).any (inB p)) = false := by
        cases q : P.all fun p => ((visF P).take k ++ (visF P).drop (k + 1)).any (inB p) with
        | false => rfl
        | true =>
          have := vis_low h1 (T := (visF P).take k ++ (visF P).drop (k + 1)) q
          rw [List.length_append, List.length_take, List.length_drop] at this
          omega
      rw [nb] at s
      have l1 := cut_len (visF P) none (some (k : Nat)) Da.int
      have l2 := cut_len (visF P) (some ((k : Int) + 1)) none Da.int
      have sl : (cutD ((visF P).map Da.int) none (some (k : Nat))).length + (cutD ((visF P).map Da.int) (some ((k : Int) + 1)) none).length ≤ sizeLine := by rw [sizeLine_eq]; omega
      dsimp? only [nl_is_served, sl, cut_wt, s], fun z => nomatch z⟩
    rw [filter_none (fun _ _ => rfl)] at z
    exact z
  have c2 : eComp [5] (iVal (eVar 10)) (.name 5) (tBl (eOp2 dNotIn (eVar 5) (eComp [22] (iVal (eVar 3)) (.name 22) tYesD (eOp2 dIx (eVar 22) (eC (.int 2)))))) (eVar 5) [some (.scr ns), some (.ref 0), x2, some (sps P), none, none, some (.lst (M.map nmD)), x7, some (objN P), some (.int 0), some (rwD (visF P)), some (.tup ((papF P).map natD)), none, none, none, none, none, none, none, none, none, none, none] S = .ok (.lst []) S := by
    have z := eComp_t (emb := Da.int) (f := fun _ => false) (v := Da.int) (own := [5]) (it := iVal (eVar 10)) (g := .name 5) (t := tBl (eOp2 dNotIn (eVar 5) (eComp [22] (iVal (eVar 3)) (.name 22) tYesD (eOp2 dIx (eVar 22) (eC (.int 2)))))) (a := eVar 5) (ε := [some (.scr ns), some (.ref 0), x2, some (sps P), none, none, some (.lst (M.map nmD)), x7, some (objN P), some (.int 0), some (rwD (visF P)), some (.tup ((papF P).map natD)), none, none, none, none, none, none, none, none, none, none, none]) (S := S) (visF P) (by dsimp? only []) (by omega) fun t ht => ⟨_, rfl, by
      obtain ⟨p, hp, et⟩ := vis_mem h1 ht
      have di := dNotIn_ints (S := S) (k := t) (ns := P.map fun p => p.2.2)
      have ya : (P.map fun p => p.2.2).any (· == t) = true := by
        rw [List.any_eq_true]
        exact ⟨p.2.2, List.mem_map.mpr ⟨p, hp, rfl⟩, by rw [et]; simp⟩
      rw [ya, List.map_map] at di
      dsimp? only []
      rw [eComp_m (emb := spD) (v := fun p => .int p.2.2) P (by dsimp? only []) (by omega) fun p hp => ⟨_, rfl, by dsimp? only [spA]⟩]
      have di : dNotIn (.int t) (.lst (P.map fun p => Da.int p.2.2)) S = _ := di
      dsimp? only [di], fun z => nomatch z⟩
    rw [filter_none (fun _ _ => rfl)] at z
    exact z
  unfold b_law_9 b_law_9_1
  dsimp? only [c1, c2, dNe_l0]
theorem st10 (g : GN P) : ∃ y : Option Da × Option Da, b_law_10 [some (.scr ns), some (.ref 0), x2, some (sps P), none, none, some (.lst (M.map nmD)), x7, some (objN P), some (.int 0), some (rwD (visF P)), some (.tup ((papF P).map natD)), none, none, none, none, none, none, none, none, none, none, none] S = .nx [some (.scr ns), some (.ref 0), x2, some (sps P), none, none, some (.lst (M.map nmD)), x7, some (objN P), some (.int 0), some (rwD (visF P)), some (.tup ((papF P).map natD)), y.1, y.2, none, none, none, none, none, none, none, none, none] S := by
  have gl := g.len
  obtain ⟨h0, h1⟩ := okb g
  have vl := vis_len h1
  have pl := pap_len h0 h1
  obtain ⟨pi, pp⟩ := pap_pw h0 h1
  obtain ⟨ε2, S2, e, ⟨x12, x13, rfl⟩, rfl⟩ := forL_inv (emb := prD) (g := .tup [.name 12, .name 13]) (b := b_law_10_1) (ε := [some (.scr ns), some (.ref 0), x2, some (sps P), none, none, some (.lst (M.map nmD)), x7, some (objN P), some (.int 0), some (rwD (visF P)), some (.tup ((papF P).map natD)), none, none, none, none, none, none, none, none, none, none, none]) (S := S)
    (fun i ε S' => (∃ x12 x13, ε = [some (.scr ns), some (.ref 0), x2, some (sps P), none, none, some (.lst (M.map nmD)), x7, some (objN P), some (.int 0), some (rwD (visF P)), some (.tup ((papF P).map natD)), x12, x13, none, none, none, none, none, none, none, none, none]) ∧ S = S') (prsF (papF P).length (papF P).length) ⟨⟨_, _, rfl⟩, rfl⟩ fun i q ε S' hi ⟨⟨x12, x13, e1⟩, e2⟩ => by
    subst e1; subst e2
    have hq := prs_mem.mp (List.mem_of_getElem? hi)
    refine ⟨_, [some (.scr ns), some (.ref 0), x2, some (sps P), none, none, some (.lst (M.map nmD)), x7, some (objN P), some (.int 0), some (rwD (visF P)), some (.tup ((papF P).map natD)), some (.int (q.1 : Nat)), some (.int (q.2 : Nat)), none, none, none, none, none, none, none, none, none], S, rfl, ?_, ⟨_, _, rfl⟩, rfl⟩
    unfold b_law_10_1 b_law_10_1_1
    by_cases c : (q.1 : Int) < (q.2 : Int)
    · have a1 : atI ((papF P).map natD) (q.1 : Nat) = some (natD (papF P)[q.1]) := atI_t (by omega) (by rw [Int.toNat_natCast, List.getElem?_eq_getElem hq.1])
      have a2 : atI ((papF P).map natD) (q.2 : Nat) = some (natD (papF P)[q.2]) := atI_t (by omega) (by rw [Int.toNat_natCast, List.getElem?_eq_getElem hq.2])
      have b1 := gp_at (P := P) (k := ((papF P)[q.1] : Nat)) (by omega) (by have := pi _ (List.getElem_mem hq.1); omega)
      have b2 := gp_at (P := P) (k := ((papF P)[q.2] : Nat)) (by omega) (by have := pi _ (List.getElem_mem hq.2); omega)
      have mm := (meet_no (List.pairwise_iff_getElem.mp pp q.1 q.2 hq.1 hq.2 (by omega))).1
      have mo := meet_ok (S := S) (p := gp P ((papF P)[q.1] : Nat)) (q := gp P ((papF P)[q.2] : Nat))
      rw [mm] at mo
      dsimp? only [c, a1, a2, b1, b2, mo]
    · dsimp? only [c]
  refine ⟨(x12, x13), ?_⟩
  have pr := pairs_ok (S := S) (m := (papF P).length) (n := (papF P).length) (by omega) (by omega)
  unfold b_law_10
  dsimp? only [pr]
  exact e
theorem st11 (g : GS P) : b_law_11 [some (.scr ns), some (.ref 0), x2, some (sps P), none, none, some (.lst (M.map nmD)), x7, some (objN P), some (.int 0), some (rwD (visF P)), some (.tup ((papF P).map natD)), x12, x13, none, none, none, none, none, none, none, none, none] S = .nx [some (.scr ns), some (.ref 0), x2, some (sps P), none, none, some (.lst (M.map nmD)), x7, some (objN P), some (.int 0), some (rwD (visF P)), some (.tup ((papF P).map natD)), x12, x13, none, none, none, none, none, none, none, none, none] S := by
  have gl := g.g.len
  obtain ⟨h0, h1⟩ := okb g.g
  have vl := vis_len h1
  unfold b_law_11 b_law_11_1
  by_cases c : ((visF P).length : Int) < 3
  · have mx : dMax2 [.int 0, .int (((visF P).length : Int) - 1)] S = some (.int (((visF P).length - 1 : Nat) : Int), S) := by
      unfold dMax2
      by_cases z : (((visF P).length : Int) - 1) > 0
      · simp only [if_pos z]
        rw [show (((visF P).length : Int) - 1) = (((visF P).length - 1 : Nat) : Int) by omega]
      · simp only [if_neg z]
        rw [show (((visF P).length - 1 : Nat) : Int) = 0 by omega]
    have ro := rows_ok' (S := S) (top := 17) (by decide) (by decide) (n := (visF P).length - 1) (by omega)
    have rl := rows_len (top := 17) (by decide) (by decide) ((visF P).length - 1)
    have rp := pow18 (k := (visF P).length - 1) (by omega)
    have c1 : eComp [14] (iVal (eCall d__law_rows (esCons (eOpN dMax2 (esCons (eC (.int 0)) (esCons (eOp2 dSub (eOpN dLen (esCons (eVar 10) esNil)) (eC (.int 1))) esNil))) (esCons (eC (.int 17)) esNil)))) (.name 14) (tAnd (tBl (eOp2 dNe (eVar 10) (eOpN dTup esNil))) ((tOf (eCall d__law_good (esCons (eVar 3) (esCons (eVar 14) esNil)))))) (eVar 14) [some (.scr ns), some (.ref 0), x2, some (sps P), none, none, some (.lst (M.map nmD)), x7, some (objN P), some (.int 0), some (rwD (visF P)), some (.tup ((papF P).map natD)), x12, x13, none, none, none, none, none, none, none, none, none] S = .ok (.lst []) S := by
      have z := eComp_t (emb := rwD) (f := fun _ => false) (v := rwD) (own := [14]) (it := iVal (eCall d__law_rows (esCons (eOpN dMax2 (esCons (eC (.int 0)) (esCons (eOp2 dSub (eOpN dLen (esCons (eVar 10) esNil)) (eC (.int 1))) esNil))) (esCons (eC (.int 17)) esNil)))) (g := .name 14) (t := tAnd (tBl (eOp2 dNe (eVar 10) (eOpN dTup esNil))) ((tOf (eCall d__law_good (esCons (eVar 3) (esCons (eVar 14) esNil)))))) (a := eVar 14) (ε := [some (.scr ns), some (.ref 0), x2, some (sps P), none, none, some (.lst (M.map nmD)), x7, some (objN P), some (.int 0), some (rwD (visF P)), some (.tup ((papF P).map natD)), x12, x13, none, none, none, none, none, none, none, none, none]) (S := S) (rowsF 17 ((visF P).length - 1)) (by dsimp? only [mx, ro]) (by omega) fun q hq => ⟨_, rfl, by
        obtain ⟨ql, _⟩ := rows_in hq
        have ne := dNe_nilT (S := S) (ds := (visF P).map Da.int) (shps_ints _ _)
        rw [List.isEmpty_map] at ne
        have go := good_ok (S := S) (P := P) (L := q) (by omega) (by omega)
        cases v : visF P with
        | nil => rw [v] at ne; dsimp? only [ne, List.isEmpty]
        | cons a l =>
          have ng : srvB P q = false := by
            cases z : srvB P q with
            | false => rfl
            | true =>
              have := vis_low h1 z
              rw [v] at this ql
              simp only [List.length_cons] at this ql
              omega
          rw [ng] at go
          rw [v] at ne
          dsimp? only [ne, List.isEmpty, go], fun z => nomatch z⟩
      rw [filter_none (fun _ _ => rfl)] at z
      exact z
    dsimp? only [c, c1, dNe_l0]
  · dsimp? only [c]
/-! ### turns of drawn ticks -/
theorem meet_comm {p q : Spn} : meetB p q = meetB q p := by unfold meetB; rw [Bool.and_comm]
theorem ip_pairs {K : List Int} (h : K.all (okI P) = true) : (((prsF K.length K.length).filter fun q => decide ((q.1 : Int) < (q.2 : Int)) && meetB (gp P (K.getD q.1 0)) (gp P (K.getD q.2 0))).isEmpty) = ipB P K := by
  unfold ipB
  rw [h, Bool.true_and, Bool.eq_iff_iff, List.isEmpty_iff, List.filter_eq_nil_iff, Option.isNone_iff_eq_none, List.find?_eq_none]
  have gd : ∀ (i : Nat) (hi : i < K.length), K.getD i 0 = K[i] := fun i hi => by rw [List.getD_eq_getElem?_getD, List.getElem?_eq_getElem hi]; rfl
  constructor
  · intro hh q hq
    obtain ⟨e, hl⟩ := zip_mem (x := q.1) (i := q.2) hq
    unfold ipBad
    rw [List.any_eq_true]
    rintro ⟨o, ho, hm⟩
    obtain ⟨i, hi, ei⟩ := List.getElem_of_mem ho
    rw [List.length_take] at hi
    rw [List.getElem_take] at ei
    have := hh (i, q.2) (prs_mem.mpr ⟨by dsimp only; omega, hl⟩)
    apply this
    dsimp only
    rw [gd i (by omega), gd q.2 hl, ei, meet_comm]
    have e2 : K[q.2] = q.1 := (List.getElem?_eq_some_iff.mp e).2
    rw [e2, hm, decide_eq_true (by omega)]; rfl
  · intro hh q hq hm
    obtain ⟨h1, h2⟩ := prs_mem.mp hq
    rw [Bool.and_eq_true, decide_eq_true_eq] at hm
    refine hh (K[q.2], q.2) (by rw [List.mem_zipIdx_iff_getElem?, List.getElem?_eq_getElem h2]) ?_
    unfold ipBad
    rw [List.any_eq_true]
    refine ⟨K[q.1], ?_, ?_⟩
    · rw [List.mem_take_iff_getElem]
      exact ⟨q.1, by omega, rfl⟩
    · rw [gd q.1 h1, gd q.2 h2, meet_comm] at hm
      exact hm.2
theorem fine_ok {K : List Int} (h : ∀ k ∈ K, 0 ≤ k) (hK : K.length ≤ 100) (hP : P.length ≤ 1000) : b_law_12_8 [some (.scr ns), some (.ref 0), x2, some (sps P), x4, x5, some (.lst (M.map nmD)), x7, some (objN P), some (.int 0), some (rwD (visF P)), some (.tup ((papF P).map natD)), x12, x13, x14, x15, x16, some (.lst (K.map Da.int)), x18, x19, x20, x21, none] S = .nx [some (.scr ns), some (.ref 0), x2, some (sps P), x4, x5, some (.lst (M.map nmD)), x7, some (objN P), some (.int 0), some (rwD (visF P)), some (.tup ((papF P).map natD)), x12, x13, x14, x15, x16, some (.lst (K.map Da.int)), some (.bl (ipB P K)), x19, x20, x21, none] S := by
  unfold b_law_12_8
  dsimp? only []
  rw [eComp_t (emb := Da.int) (f := fun k => decide ((P.length : Int) ≤ k)) (v := Da.int) K (by dsimp? only []) (by omega) fun k hk => ⟨_, rfl, by dsimp? only [ge_iff_le], fun _ => by dsimp? only []⟩]
  have e1 := dEq_nilL (S := S) (ds := (K.filter fun k => decide ((P.length : Int) ≤ k)).map Da.int) (shps_ints _ _)
  rw [List.isEmpty_map, filt_emp] at e1
  dsimp? only [e1]
  cases q : K.any fun k => decide ((P.length : Int) ≤ k) with
  | true =>
    have : ipB P K = false := by
      unfold ipB
      have : K.all (okI P) = false := by
        rw [List.any_eq_true] at q
        obtain ⟨k, hk, h2⟩ := q
        rw [List.all_eq_false]
        refine ⟨k, hk, ?_⟩
        unfold okI
        rw [decide_eq_true_eq] at h2 ⊢
        omega
      rw [this]; rfl
    dsimp? only [this]
  | false =>
    have ok : ∀ k ∈ K, 0 ≤ k ∧ k < P.length := fun k hk => by
      have := List.any_eq_false.mp q k hk
      rw [decide_eq_true_eq] at this
      have := h k hk
      omega
    have al : K.all (okI P) = true := by
      rw [List.all_eq_true]
      intro k hk
      have := ok k hk
      unfold okI
      rw [decide_eq_true_eq]; omega
    dsimp? only []
    have pr := pairs_ok (S := S) (m := K.length) (n := K.length) (by omega) (by omega)
    rw [eComp_t (emb := prD) (f := fun q => decide ((q.1 : Int) < (q.2 : Int)) && meetB (gp P (K.getD q.1 0)) (gp P (K.getD q.2 0))) (v := fun _ => .int 1) (prsF K.length K.length) (by dsimp? only [pr]) (by rw [prs_len]; have := Nat.mul_le_mul hK hK; omega) fun q hq => ⟨_, rfl, by
      obtain ⟨q1, q2⟩ := prs_mem.mp hq
      have gd : ∀ (i : Nat) (hi : i < K.length), K.getD i 0 = K[i] := fun i hi => by rw [List.getD_eq_getElem?_getD, List.getElem?_eq_getElem hi]; rfl
      have a1 := at_row (r := K) (k := (q.1 : Nat)) (by omega) (by omega)
      have a2 := at_row (r := K) (k := (q.2 : Nat)) (by omega) (by omega)
      rw [Int.toNat_natCast] at a1 a2
      have k1 := ok _ (List.getElem_mem q1)
      have k2 := ok _ (List.getElem_mem q2)
      rw [← gd q.1 q1] at k1
      rw [← gd q.2 q2] at k2
      have b1 := gp_at (P := P) k1.1 k1.2
      have b2 := gp_at (P := P) k2.1 k2.2
      have mo := meet_ok (S := S) (p := gp P (K.getD q.1 0)) (q := gp P (K.getD q.2 0))
      by_cases c : (q.1 : Int) < (q.2 : Int)
      · dsimp? only [c, a1, a2, b1, b2, mo]
      · dsimp? only [c], fun _ => by dsimp? only []⟩]
    have s1 : shps 63 (((prsF K.length K.length).filter fun q => decide ((q.1 : Int) < (q.2 : Int)) && meetB (gp P (K.getD q.1 0)) (gp P (K.getD q.2 0))).map fun _ => Da.int 1) = true := by
      have : ∀ l : List (Nat × Nat), shps 63 (l.map fun _ => Da.int 1) = true := fun l => by
        induction l with
        | nil => rfl
        | cons x l ih => rw [List.map_cons, shps, ih]; rfl
      exact this _
    have e2 := dEq_nilL (S := S) s1
    rw [List.isEmpty_map, ip_pairs al] at e2
    dsimp? only [e2]
theorem sort_min {l : List Int} : atI ((sortI l).map Da.int ++ [Da.non]) 0 = some (minO l) := by
  have hm : ∀ x, x ∈ sortI l ↔ x ∈ l := fun x => mem_sortI
  have pw : (sortI l).Pairwise fun a b => a ≤ b := by
    have := List.pairwise_mergeSort (le := fun a b : Int => decide (a ≤ b)) (fun a b c h1 h2 => by simp at *; omega) (fun a b => by simp; omega) l
    exact this.imp fun h => by simpa using h
  cases l with
  | nil =>
    have : sortI [] = [] := by unfold sortI; exact List.mergeSort_nil
    rw [this]; rfl
  | cons x r =>
    cases e : sortI (x :: r) with
    | nil => have := (hm x).mpr List.mem_cons_self; rw [e] at this; exact nomatch this
    | cons y q =>
      have : minL (x :: r) = y := minL_eq ((hm y).mp (by rw [e]; exact List.mem_cons_self)) fun z hz => by
        have := (hm z).mpr hz
        rw [e] at this pw
        rcases List.mem_cons.mp this with rfl | z2
        · exact Int.le_refl _
        · exact (List.pairwise_cons.mp pw).1 z z2
      show _ = some (Da.int (minL (x :: r)))
      rw [this]
      exact atI_0
theorem late_ok {Tk : List Int} (hT : Tk.length ≤ 1000) (hP : P.length ≤ 1000) : ∃ y : Option Da × Option Da × Option Da × Option Da, sSeq b_law_12_4 b_law_12_5 [some (.scr ns), some (.ref 0), x2, some (sps P), x4, x5, some (.lst (M.map nmD)), x7, some (objN P), some (.int 0), some (rwD (visF P)), some (.tup ((papF P).map natD)), x12, x13, some (.tup (Tk.map Da.int)), x15, x16, x17, x18, x19, x20, x21, none] S = .nx [some (.scr ns), some (.ref 0), x2, some (sps P), x4, x5, some (.lst (M.map nmD)), y.2.1, some (objN P), some (.int 0), some (rwD (visF P)), some (.tup ((papF P).map natD)), x12, x13, some (.tup (Tk.map Da.int)), x15, some (.ref S.length), x17, x18, y.1, y.2.2.1, y.2.2.2, none] (S ++ [.lst (P.map (lateF Tk))]) := by
  obtain ⟨ε2, S2, e, ⟨y, rfl⟩, rfl, hl⟩ := forL_acc (emb := spD) (g := .tup [.name 19, .name 7, .name 20]) (b := sSeq b_law_12_5_1 b_law_12_5_2) (s := ([] : List Da)) (ε := [some (.scr ns), some (.ref 0), x2, some (sps P), x4, x5, some (.lst (M.map nmD)), x7, some (objN P), some (.int 0), some (rwD (visF P)), some (.tup ((papF P).map natD)), x12, x13, some (.tup (Tk.map Da.int)), x15, some (.ref S.length), x17, x18, x19, x20, x21, none]) (S := S ++ [.lst []])
    (fun i acc ε S' => (∃ y : Option Da × Option Da × Option Da × Option Da, ε = [some (.scr ns), some (.ref 0), x2, some (sps P), x4, x5, some (.lst (M.map nmD)), y.2.1, some (objN P), some (.int 0), some (rwD (visF P)), some (.tup ((papF P).map natD)), x12, x13, some (.tup (Tk.map Da.int)), x15, some (.ref S.length), x17, x18, y.1, y.2.2.1, y.2.2.2, none]) ∧ S' = S ++ [.lst acc] ∧ acc.length ≤ i) (fun acc p => acc ++ [lateF Tk p]) P ⟨⟨(x19, x7, x20, x21), rfl⟩, rfl, Nat.le_refl _⟩ fun i p acc ε S' hi hq ⟨⟨y, e1⟩, e2, hl⟩ => by
    subst e1; subst e2
    have sl : acc.length < sizeLine := by rw [sizeLine_eq]; omega
    refine ⟨_, [some (.scr ns), some (.ref 0), x2, some (sps P), x4, x5, some (.lst (M.map nmD)), some (.int p.2.1), some (objN P), some (.int 0), some (rwD (visF P)), some (.tup ((papF P).map natD)), x12, x13, some (.tup (Tk.map Da.int)), x15, some (.ref S.length), x17, x18, some (nmD p.1), some (.int p.2.2), some (.lst (((Tk.filter (inB p)).map fun t => t - p.2.1).map Da.int)), none], S ++ [.lst (acc ++ [lateF Tk p])], rfl, ?_, ⟨(_, _, _, _), rfl⟩, rfl, by simp; omega⟩
    unfold b_law_12_5_1 b_law_12_5_2
    dsimp? only []
    rw [eComp_t (emb := Da.int) (f := fun t => inB p t) (v := fun t => .int (t - p.2.1)) Tk (by dsimp? only []) (by omega) fun t ht => ⟨_, rfl, by
      unfold tBl
      rw [chain_le (by dsimp? only []; rfl) (by dsimp? only []; rfl) (by dsimp? only []; rfl)]; rfl, fun _ => by dsimp? only []⟩]
    have em : (Tk.filter fun t => inB p t).map (fun t => Da.int (t - p.2.1)) = ((Tk.filter (inB p)).map fun t => t - p.2.1).map Da.int := by rw [List.map_map]; rfl
    rw [em]
    have gl : ((Tk.filter (inB p)).map fun t => t - p.2.1).length ≤ 1000 := by rw [List.length_map]; have := List.length_filter_le (inB p) Tk; omega
    have so := dSorted_ints (ns := (Tk.filter (inB p)).map fun t => t - p.2.1) (S := S ++ [.lst acc]) (by omega)
    have sm := sort_min (l := (Tk.filter (inB p)).map fun t => t - p.2.1)
    have s2 : (sortI ((Tk.filter (inB p)).map fun t => t - p.2.1)).length + 1 ≤ sizeLine := by rw [len_sortI, sizeLine_eq]; omega
    dsimp? only [so, s2, sm, sl]
    rfl
  have fo : ∀ (Q : List Spn) (acc : List Da), Q.foldl (fun acc p => acc ++ [lateF Tk p]) acc = acc ++ Q.map (lateF Tk) := fun Q => by
    induction Q with
    | nil => intro acc; simp
    | cons p Q ih => intro acc; rw [List.foldl_cons, ih, List.map_cons]; simp
  rw [fo, List.nil_append] at e
  refine ⟨y, ?_⟩
  unfold b_law_12_4 b_law_12_5
  dsimp? only []
  exact e
theorem st12_b (g : GS P) (h : RowOk S 0 ns) : ∃ (y : Option Da × Option Da × Option Da × Option Da) (z : Option Da × Option Da × Option Da × Option Da × Option Da) (S2 : Sto), sSeq b_law_12_1 (sSeq b_law_12_2 (sSeq b_law_12_3 (sSeq b_law_12_4 (sSeq b_law_12_5 (sSeq b_law_12_6 (sSeq b_law_12_7 (sSeq b_law_12_8 b_law_12_9))))))) [some (.scr ns), some (.ref 0), x2, some (sps P), x4, x5, some (.lst (M.map nmD)), x7, some (objN P), some (.int 0), some (rwD (visF P)), some (.tup ((papF P).map natD)), x12, x13, x14, x15, x16, x17, x18, x19, x20, x21, none] S = .nx [some (.scr ns), some (.ref 0), x2, some (sps P), x4, x5, some (.lst (M.map nmD)), y.2.1, some (objN P), some (.int 0), some (rwD (visF P)), some (.tup ((papF P).map natD)), x12, x13, z.1, z.2.1, z.2.2.1, z.2.2.2.1, z.2.2.2.2, y.1, y.2.2.1, y.2.2.2, none] S2 ∧ RowOk S2 0 ns := by
  have gl := g.g.len
  obtain ⟨c, S1, e1, c0, c1, r1, o1⟩ := taken_spec (m := 4) h (by decide) (by decide)
  obtain ⟨Q, S2, e2, pq, r2, o2⟩ := eComp_drawT (emb := Da.int) (out := fun q : {t : Int // 0 ≤ t ∧ t < 17} × Int => .int q.1.1) (pj := fun q => q.2) (R := fun S2 => RowOk S2 0 ns ∧ OnlyAt 0 S1 S2) (own := [2]) (it := iRange1 (esCons (eCall d__law_taken (esCons (eVar 1) (esCons (eC (.int 4)) esNil))) esNil)) (g := .name 2) (a := eCall d__law_taken (esCons (eVar 1) (esCons (eC (.int 17)) esNil))) (ε := [some (.scr ns), some (.ref 0), x2, some (sps P), x4, x5, some (.lst (M.map nmD)), x7, some (objN P), some (.int 0), some (rwD (visF P)), some (.tup ((papF P).map natD)), x12, x13, x14, x15, x16, x17, x18, x19, x20, x21, none]) (S := S) (S1 := S1) (whl 0 c) (by rw [rng1_at (j := c) (S2 := S1) (by dsimp? only [e1]) (by omega) (by omega)]) (by rw [len_whl]; omega) ⟨r1, OnlyAt.refl _ _⟩ fun k hk S2 ⟨r2, o2⟩ => by
    obtain ⟨v, S3, e3, v0, v1, r3, o3⟩ := taken_spec (m := 17) r2 (by decide) (by decide)
    exact ⟨_, (⟨v, v0, v1⟩, k), S3, rfl, by dsimp? only [e3], rfl, r3, o2.trans o3⟩
  have ql : Q.length ≤ 3 := by have := congrArg List.length pq; rw [List.length_map, len_whl] at this; omega
  have em : Q.map (fun q => Da.int q.1.1) = (Q.map fun q => q.1.1).map Da.int := by rw [List.map_map]; rfl
  rw [em] at e2
  have so := dSorted_ints (ns := Q.map fun q => q.1.1) (S := S2) (by rw [List.length_map]; omega)
  have Tl : (sortI (Q.map fun q => q.1.1)).length ≤ 3 := by rw [len_sortI, List.length_map]; omega
  generalize hTk : sortI (Q.map fun q => q.1.1) = Tk at so Tl
  have s1 : b_law_12_1 [some (.scr ns), some (.ref 0), x2, some (sps P), x4, x5, some (.lst (M.map nmD)), x7, some (objN P), some (.int 0), some (rwD (visF P)), some (.tup ((papF P).map natD)), x12, x13, x14, x15, x16, x17, x18, x19, x20, x21, none] S = .nx [some (.scr ns), some (.ref 0), x2, some (sps P), x4, x5, some (.lst (M.map nmD)), x7, some (objN P), some (.int 0), some (rwD (visF P)), some (.tup ((papF P).map natD)), x12, x13, some (.tup (Tk.map Da.int)), x15, x16, x17, x18, x19, x20, x21, none] S2 := by
    unfold b_law_12_1
    dsimp? only [e2, so]
  have s2 : b_law_12_2 [some (.scr ns), some (.ref 0), x2, some (sps P), x4, x5, some (.lst (M.map nmD)), x7, some (objN P), some (.int 0), some (rwD (visF P)), some (.tup ((papF P).map natD)), x12, x13, some (.tup (Tk.map Da.int)), x15, x16, x17, x18, x19, x20, x21, none] S2 = .nx [some (.scr ns), some (.ref 0), x2, some (sps P), x4, x5, some (.lst (M.map nmD)), x7, some (objN P), some (.int 0), some (rwD (visF P)), some (.tup ((papF P).map natD)), x12, x13, some (.tup (Tk.map Da.int)), some (.lst ((unsF P Tk).map natD)), x16, x17, x18, x19, x20, x21, none] S2 := by
    unfold b_law_12_2
    dsimp? only []
    rw [eComp_t (emb := zsD) (f := unsP Tk) (v := fun q => natD q.2) P.zipIdx (by rw [iEnum_at (ds := P.map spD) (S2 := S2) (by dsimp? only []) (.inr rfl), enum_zip]) (by rw [zip_len]; omega) fun q hq => ⟨_, rfl, by
      dsimp? only []
      rw [eComp_t (emb := Da.int) (f := fun t => inB q.1 t) (v := Da.int) Tk (by dsimp? only []) (by omega) fun t ht => ⟨_, rfl, by
        unfold tBl
        rw [chain_le (by dsimp? only [spA]; rfl) (by dsimp? only []; rfl) (by dsimp? only [spA]; rfl)]; rfl, fun _ => by dsimp? only []⟩]
      have e := dEq_nilL (S := S2) (ds := (Tk.filter fun t => inB q.1 t).map Da.int) (shps_ints _ _)
      have e2 := filt_emp (inB q.1) Tk
      dsimp? only [e, List.isEmpty_map, e2, unsP], fun _ => by dsimp? only []⟩]
    dsimp? only []
    unfold unsF
    rw [List.map_map]; rfl
  have ul := uns_len (P := P) (r := Tk)
  have s3 : b_law_12_3 [some (.scr ns), some (.ref 0), x2, some (sps P), x4, x5, some (.lst (M.map nmD)), x7, some (objN P), some (.int 0), some (rwD (visF P)), some (.tup ((papF P).map natD)), x12, x13, some (.tup (Tk.map Da.int)), some (.lst ((unsF P Tk).map natD)), x16, x17, x18, x19, x20, x21, none] S2 = .nx [some (.scr ns), some (.ref 0), x2, some (sps P), x4, x5, some (.lst (M.map nmD)), x7, some (objN P), some (.int 0), some (rwD (visF P)), some (.tup ((papF P).map natD)), x12, x13, some (.tup (Tk.map Da.int)), some (.lst ((unsF P Tk).map natD)), x16, x17, x18, x19, x20, x21, none] S2 := by
    have sv := served_ok (S := S2) (P := P) (L := Tk) (by omega) (by omega)
    have us := unserved_ok (S := S2) (P := P) (L := Tk) (by omega) (by omega)
    have e := dEq_nilL (S := S2) (ds := (unsF P Tk).map natD) (shps_nat _ _)
    rw [List.isEmpty_map, uns_nil] at e
    have sv : d_Needs_is_served [objN P, .tup (Tk.map Da.int)] S2 = .ok (.bl (srvB P Tk)) S2 := sv
    have tr := truth_ok (S := S2) (b := srvB P Tk)
    have al := alike_eq (x := .tup ((unsF P Tk).map natD)) (S := S2) rfl (by show (decide (0 < 11) && shps 10 _) = true; rw [shps_nat]; rfl) (shrt_t (shrt_nat _) (by rw [List.length_map]; omega))
    unfold b_law_12_3 b_law_12_3_1
    dsimp? only [nl_is_served, sv, e, tr, nl_unserved, us, al]
  obtain ⟨y, s45⟩ := late_ok (S := S2) (P := P) (M := M) (ns := ns) (x2 := x2) (x4 := x4) (x5 := x5) (x7 := x7) (x12 := x12) (x13 := x13) (x15 := some (.lst ((unsF P Tk).map natD))) (x17 := x17) (x18 := x18) (x19 := x19) (x20 := x20) (x21 := x21) (Tk := Tk) (by omega) (by omega)
  have r3 : RowOk (S2 ++ [.lst (P.map (lateF Tk))]) 0 ns := r2.app
  generalize hS3 : S2 ++ [.lst (P.map (lateF Tk))] = S3 at s45 r3
  have g3 : S3[S2.length]? = some (.lst (P.map (lateF Tk))) := by rw [← hS3]; exact app_get
  have s6 : b_law_12_6 [some (.scr ns), some (.ref 0), x2, some (sps P), x4, x5, some (.lst (M.map nmD)), y.2.1, some (objN P), some (.int 0), some (rwD (visF P)), some (.tup ((papF P).map natD)), x12, x13, some (.tup (Tk.map Da.int)), some (.lst ((unsF P Tk).map natD)), some (.ref S2.length), x17, x18, y.1, y.2.2.1, y.2.2.2, none] S3 = .nx [some (.scr ns), some (.ref 0), x2, some (sps P), x4, x5, some (.lst (M.map nmD)), y.2.1, some (objN P), some (.int 0), some (rwD (visF P)), some (.tup ((papF P).map natD)), x12, x13, some (.tup (Tk.map Da.int)), some (.lst ((unsF P Tk).map natD)), some (.ref S2.length), x17, x18, y.1, y.2.2.1, y.2.2.2, none] S3 := by
    have lb := late_by_ok (S := S3) (P := P) (L := Tk) (by omega) (by omega)
    have shl : ∀ n p, shp (n + 1) (lateF Tk p) = true := fun n p => by
      have := shp_nm 0 p.1
      simp only [nmD, shp] at this
      unfold lateF minO
      split <;> (simp only [shp, shps, Bool.and_eq_true, decide_eq_true_eq]; exact ⟨by omega, this, trivial, trivial⟩)
    have sa : ∀ Q : List Spn, shps 63 (Q.map (lateF Tk)) = true := fun Q => by
      induction Q with
      | nil => rfl
      | cons p Q ih => rw [List.map_cons, shps, ih, shl 62 p]; rfl
    have ne := dNe_self (S := S3) (d := .tup (P.map (lateF Tk))) (by show (decide (0 < 64) && shps 63 _) = true; rw [sa]; rfl)
    have dt := dTup_r g3
    unfold b_law_12_6 b_law_12_6_1
    dsimp? only [nl_late_by, lb, dt, ne]
  obtain ⟨c2, S4, e4, d0, d1, r4, o4⟩ := taken_spec (m := 3) r3 (by decide) (by decide)
  obtain ⟨K, S5, e5, pk, r5, o5⟩ := eComp_drawT (emb := Da.int) (out := fun q : {t : Int // 0 ≤ t} × Int => .int q.1.1) (pj := fun q => q.2) (R := fun S2 => RowOk S2 0 ns ∧ OnlyAt 0 S4 S2) (own := [2]) (it := iRange1 (esCons (eCall d__law_taken (esCons (eVar 1) (esCons (eC (.int 3)) esNil))) esNil)) (g := .name 2) (a := eCall d__law_taken (esCons (eVar 1) (esCons (eOp2 dAdd (eOpN dLen (esCons (eVar 3) esNil)) (eC (.int 1))) esNil))) (ε := [some (.scr ns), some (.ref 0), x2, some (sps P), x4, x5, some (.lst (M.map nmD)), y.2.1, some (objN P), some (.int 0), some (rwD (visF P)), some (.tup ((papF P).map natD)), x12, x13, some (.tup (Tk.map Da.int)), some (.lst ((unsF P Tk).map natD)), some (.ref S2.length), x17, x18, y.1, y.2.2.1, y.2.2.2, none]) (S := S3) (S1 := S4) (whl 0 c2) (by rw [rng1_at (j := c2) (S2 := S4) (by dsimp? only [e4]) (by omega) (by omega)]) (by rw [len_whl]; omega) ⟨r4, OnlyAt.refl _ _⟩ fun k hk S2 ⟨r2, o2⟩ => by
    obtain ⟨v, S3, e3, v0, v1, r3, o3⟩ := taken_spec (m := (P.length : Int) + 1) r2 (by omega) (by omega)
    exact ⟨_, (⟨v, v0⟩, k), S3, rfl, by dsimp? only [e3], rfl, r3, o2.trans o3⟩
  have kl : K.length ≤ 2 := by have := congrArg List.length pk; rw [List.length_map, len_whl] at this; omega
  have em2 : K.map (fun q => Da.int q.1.1) = (K.map fun q => q.1.1).map Da.int := by rw [List.map_map]; rfl
  rw [em2] at e5
  have k0 : ∀ k ∈ K.map (fun q => q.1.1), 0 ≤ k := fun k hk => by
    obtain ⟨q, _, rfl⟩ := List.mem_map.mp hk
    exact q.1.2
  have kl2 : (K.map fun q => q.1.1).length ≤ 2 := by rw [List.length_map]; exact kl
  generalize (K.map fun q => q.1.1) = Kk at e5 k0 kl2
  have fi := fine_ok (S := S5) (P := P) (M := M) (ns := ns) (K := Kk) k0 (by omega) (by omega) (x2 := x2) (x4 := x4) (x5 := x5) (x7 := y.2.1) (x12 := x12) (x13 := x13) (x14 := some (.tup (Tk.map Da.int))) (x15 := some (.lst ((unsF P Tk).map natD))) (x16 := some (.ref S2.length)) (x18 := x18) (x19 := y.1) (x20 := y.2.2.1) (x21 := y.2.2.2)
  have ip := is_paper_ok (S := S5) (P := P) (L := Kk) (v := .lst (Kk.map Da.int)) (.inl rfl) (by omega) (by omega)
  have tr := truth_ok (S := S5) (b := ipB P Kk)
  refine ⟨y, (some (.tup (Tk.map Da.int)), some (.lst ((unsF P Tk).map natD)), some (.ref S2.length), some (.lst (Kk.map Da.int)), some (.bl (ipB P Kk))), S5, ?_, r5⟩
  rw [seq_nx s1, seq_nx s2, seq_nx s3]
  have s45' : ∀ (r : Sm), sSeq b_law_12_4 (sSeq b_law_12_5 r) [some (.scr ns), some (.ref 0), x2, some (sps P), x4, x5, some (.lst (M.map nmD)), x7, some (objN P), some (.int 0), some (rwD (visF P)), some (.tup ((papF P).map natD)), x12, x13, some (.tup (Tk.map Da.int)), some (.lst ((unsF P Tk).map natD)), x16, x17, x18, x19, x20, x21, none] S2 = r [some (.scr ns), some (.ref 0), x2, some (sps P), x4, x5, some (.lst (M.map nmD)), y.2.1, some (objN P), some (.int 0), some (rwD (visF P)), some (.tup ((papF P).map natD)), x12, x13, some (.tup (Tk.map Da.int)), some (.lst ((unsF P Tk).map natD)), some (.ref S2.length), x17, x18, y.1, y.2.2.1, y.2.2.2, none] S3 := fun r => by
    have a : ∀ (p q r : Sm) ε S, sSeq p (sSeq q r) ε S = sSeq (sSeq p q) r ε S := fun p q r ε S => by
      unfold sSeq
      cases p ε S <;> rfl
    rw [a, seq_nx s45]
  rw [s45', seq_nx s6]
  rw [seq_nx (ε' := [some (.scr ns), some (.ref 0), x2, some (sps P), x4, x5, some (.lst (M.map nmD)), y.2.1, some (objN P), some (.int 0), some (rwD (visF P)), some (.tup ((papF P).map natD)), x12, x13, some (.tup (Tk.map Da.int)), some (.lst ((unsF P Tk).map natD)), some (.ref S2.length), some (.lst (Kk.map Da.int)), x18, y.1, y.2.2.1, y.2.2.2, none]) (S' := S5) (by unfold b_law_12_7; dsimp? only [e5])]
  rw [seq_nx fi]
  unfold b_law_12_9 b_law_12_9_1
  dsimp? only [nl_is_paper, ip, tr]
theorem st12 (g : GS P) (h : RowOk S 0 ns) : ∃ (y : Option Da × Option Da × Option Da × Option Da) (z : Option Da × Option Da × Option Da × Option Da × Option Da) (w : Option Da) (S2 : Sto), b_law_12 [some (.scr ns), some (.ref 0), x2, some (sps P), x4, x5, some (.lst (M.map nmD)), x7, some (objN P), some (.int 0), some (rwD (visF P)), some (.tup ((papF P).map natD)), x12, x13, x14, x15, x16, x17, x18, x19, x20, x21, none] S = .nx [some (.scr ns), some (.ref 0), x2, some (sps P), w, x5, some (.lst (M.map nmD)), y.2.1, some (objN P), some (.int 0), some (rwD (visF P)), some (.tup ((papF P).map natD)), x12, x13, z.1, z.2.1, z.2.2.1, z.2.2.2.1, z.2.2.2.2, y.1, y.2.2.1, y.2.2.2, none] S2 ∧ RowOk S2 0 ns := by
  obtain ⟨ε2, S2, e, y, z, w, rfl, r2⟩ := forL_inv (emb := Da.int) (g := .name 4) (b := sSeq b_law_12_1 (sSeq b_law_12_2 (sSeq b_law_12_3 (sSeq b_law_12_4 (sSeq b_law_12_5 (sSeq b_law_12_6 (sSeq b_law_12_7 (sSeq b_law_12_8 b_law_12_9)))))))) (ε := [some (.scr ns), some (.ref 0), x2, some (sps P), x4, x5, some (.lst (M.map nmD)), x7, some (objN P), some (.int 0), some (rwD (visF P)), some (.tup ((papF P).map natD)), x12, x13, x14, x15, x16, x17, x18, x19, x20, x21, none]) (S := S)
    (fun i ε S' => ∃ (y : Option Da × Option Da × Option Da × Option Da) (z : Option Da × Option Da × Option Da × Option Da × Option Da) (w : Option Da), ε = [some (.scr ns), some (.ref 0), x2, some (sps P), w, x5, some (.lst (M.map nmD)), y.2.1, some (objN P), some (.int 0), some (rwD (visF P)), some (.tup ((papF P).map natD)), x12, x13, z.1, z.2.1, z.2.2.1, z.2.2.2.1, z.2.2.2.2, y.1, y.2.2.1, y.2.2.2, none] ∧ RowOk S' 0 ns) (whl 0 3) ⟨(x19, x7, x20, x21), (x14, x15, x16, x17, x18), x4, rfl, h⟩ fun i k ε S' hi ⟨y, z, w, e1, r1⟩ => by
    subst e1
    obtain ⟨y2, z2, S3, e3, r3⟩ := st12_b (S := S') (P := P) (M := M) (ns := ns) g r1 (x2 := x2) (x4 := some (.int k)) (x5 := x5) (x7 := y.2.1) (x12 := x12) (x13 := x13) (x14 := z.1) (x15 := z.2.1) (x16 := z.2.2.1) (x17 := z.2.2.2.1) (x18 := z.2.2.2.2) (x19 := y.1) (x20 := y.2.2.1) (x21 := y.2.2.2)
    exact ⟨_, _, _, rfl, e3, y2, z2, some (.int k), rfl, r3⟩
  refine ⟨y, z, w, S2, ?_, r2⟩
  unfold b_law_12
  dsimp? only []
  rw [rng1_at (j := 3) (S2 := S) (by dsimp? only []) (by omega) (by omega)]
  exact e
theorem st13 (g : GN P) : ∃ y, b_law_13 [some (.scr ns), some (.ref 0), x2, some (sps P), x4, x5, some (.lst (M.map nmD)), x7, some (objN P), some (.int 0), some (rwD (visF P)), some (.tup ((papF P).map natD)), x12, x13, x14, x15, x16, x17, x18, x19, x20, x21, none] S = .nx [some (.scr ns), some (.ref 0), x2, some (sps P), x4, y, some (.lst (M.map nmD)), x7, some (objN P), some (.int 0), some (rwD (visF P)), some (.tup ((papF P).map natD)), x12, x13, x14, x15, x16, x17, x18, x19, x20, x21, none] S := by
  have gl := g.len
  obtain ⟨ε2, S2, e, ⟨y, rfl⟩, rfl⟩ := forL_inv (emb := Da.int) (g := .name 5) (b := b_law_13_1) (ε := [some (.scr ns), some (.ref 0), x2, some (sps P), x4, x5, some (.lst (M.map nmD)), x7, some (objN P), some (.int 0), some (rwD (visF P)), some (.tup ((papF P).map natD)), x12, x13, x14, x15, x16, x17, x18, x19, x20, x21, none]) (S := S)
    (fun i ε S' => (∃ x5, ε = [some (.scr ns), some (.ref 0), x2, some (sps P), x4, x5, some (.lst (M.map nmD)), x7, some (objN P), some (.int 0), some (rwD (visF P)), some (.tup ((papF P).map natD)), x12, x13, x14, x15, x16, x17, x18, x19, x20, x21, none]) ∧ S = S') (whl 0 17) ⟨⟨_, rfl⟩, rfl⟩ fun i t ε S' hi ⟨⟨x5, e1⟩, e2⟩ => by
    subst e1; subst e2
    refine ⟨_, [some (.scr ns), some (.ref 0), x2, some (sps P), x4, some (.int t), some (.lst (M.map nmD)), x7, some (objN P), some (.int 0), some (rwD (visF P)), some (.tup ((papF P).map natD)), x12, x13, x14, x15, x16, x17, x18, x19, x20, x21, none], S, rfl, ?_, ⟨_, rfl⟩, rfl⟩
    have sb := served_by_ok (S := S) (P := P) (t := t) (by omega)
    have fl : ((P.zipIdx.filter fun q => inB q.1 t).map (·.2)).length ≤ 100 := by
      rw [List.length_map]
      have := List.length_filter_le (fun q : Spn × Nat => inB q.1 t) P.zipIdx
      rw [zip_len] at this; omega
    unfold b_law_13_1
    refine alike_stmt (d := .tup (((P.zipIdx.filter fun q => inB q.1 t).map (·.2)).map natD)) (S2 := S) (S3 := S) (by dsimp? only [nl_served_by, sb]) ?_ (by show (decide (0 < 11) && shps 10 _) = true; rw [shps_nat]; rfl) (shrt_t (shrt_nat _) (by rw [List.length_map]; omega))
    dsimp? only []
    rw [eComp_t (emb := zsD) (f := fun q => inB q.1 t) (v := fun q => natD q.2) P.zipIdx (by rw [iEnum_at (ds := P.map spD) (S2 := S) (by dsimp? only []) (.inr rfl), enum_zip]) (by rw [zip_len]; omega) fun q hq => ⟨_, rfl, by
      unfold tBl
      rw [chain_le (by dsimp? only [spA]; rfl) (by dsimp? only []; rfl) (by dsimp? only [spA]; rfl)]
      rfl, fun _ => by dsimp? only []⟩]
    dsimp? only [List.map_map]
    rfl
  refine ⟨y, ?_⟩
  unfold b_law_13
  dsimp? only []
  rw [rng1_at (j := 17) (S2 := S) (by dsimp? only []) (by omega) (by omega)]
  exact e
theorem st14 (g : GS P) (h16 : ∀ p ∈ P, p.2.2 ≤ 16) (h : RowOk S 0 ns) (hM : M.length ≤ 100) (hk : ∀ m ∈ M, NmOk m) : ∃ S2, b_law_14 [some (.scr ns), some (.ref 0), x2, some (sps P), x4, x5, some (.lst (M.map nmD)), x7, some (objN P), some (.int 0), some (rwD (visF P)), some (.tup ((papF P).map natD)), x12, x13, x14, x15, x16, x17, x18, x19, x20, x21, none] S = .rt (.bl true) S2 := by
  obtain ⟨S2, e⟩ := rest_ok g h16 h hM hk
  refine ⟨S2, ?_⟩
  unfold b_law_14
  dsimp? only [e]
theorem law_run {ns : List Int} : ∃ S, b_law (some (.scr ns) :: List.replicate 22 none) [] = .rt (.bl true) S := by
  unfold b_law
  refine run_nx st1 ?_
  obtain ⟨M, S2, e2, hM, hk, r2, l2⟩ := st2 (ns := ns) (S := [.lst [.scr ns, .int 0, .int 73, .int 0]]) ⟨0, 73, 0, rfl, by decide, by decide, by decide⟩ rfl
  refine run_nx e2 ?_
  obtain ⟨P, x2, x7, S3, e3, r3, l3, q3, pl, pd⟩ := st3 (S := S2 ++ [.lst []]) r2.app (by simp [l2]) (by rw [List.getElem?_append_right (by omega), l2]; rfl) hM
  refine run_nx e3 ?_
  have g : GS P := ⟨⟨fun p hp => ⟨hk _ (pd p hp).nm, by have := (pd p hp).a; omega, by have := (pd p hp).a; have := (pd p hp).b; omega⟩, by omega⟩, fun p hp => (pd p hp).b.2, pl⟩
  have h16 : ∀ p ∈ P, p.2.2 ≤ 16 := fun p hp => by have := (pd p hp).a; have := (pd p hp).b; omega
  refine run_nx (st4 q3) ?_
  obtain ⟨S5, e5, r5, o5⟩ := st5 g.g r3
  refine run_nx e5 ?_
  refine run_nx (st6 g.g) ?_
  refine run_nx (st7 g.g) ?_
  refine run_nx (st8 g) ?_
  refine run_nx (st9 g) ?_
  obtain ⟨y, e10⟩ := st10 (S := S5) (P := P) (M := M) (ns := ns) (x2 := x2) (x7 := x7) g.g
  refine run_nx e10 ?_
  refine run_nx (st11 g) ?_
  obtain ⟨y1, z1, w1, S12, e12, r12⟩ := st12 (S := S5) (P := P) (M := M) (ns := ns) g r5 (x2 := x2) (x4 := none) (x5 := none) (x7 := x7) (x12 := y.1) (x13 := y.2) (x14 := none) (x15 := none) (x16 := none) (x17 := none) (x18 := none) (x19 := none) (x20 := none) (x21 := none)
  refine run_nx e12 ?_
  obtain ⟨w5, e13⟩ := st13 (S := S12) (P := P) (M := M) (ns := ns) g.g (x2 := x2) (x4 := w1) (x5 := none) (x7 := y1.2.1) (x12 := y.1) (x13 := y.2) (x14 := z1.1) (x15 := z1.2.1) (x16 := z1.2.2.1) (x17 := z1.2.2.2.1) (x18 := z1.2.2.2.2) (x19 := y1.1) (x20 := y1.2.2.1) (x21 := y1.2.2.2)
  refine run_nx e13 ?_
  exact st14 g h16 r12 (by omega) hk
end
end G
namespace Qk21
open PySem PySem.Spec PyProof.Rows L2 G
theorem law_true (ns : List Int) (h : ns.length ≤ 63) : ∃ S, d_law [.scr ns] [] = .ok (.bl true) S := by
  obtain ⟨S, e⟩ := G.law_run (ns := ns)
  refine ⟨S.take 0, ?_⟩
  show scp [] (runU 1 23 b_law [.scr ns] []) = _
  have e1 : runU 1 23 b_law [.scr ns] [] = .ok (.bl true) S := by
    unfold runU
    show fnRes (b_law (some (.scr ns) :: List.replicate 22 none) []) = _
    rw [e]; rfl
  rw [e1, scp_ok, if_pos ⟨rfl, Nat.zero_le _, fun i hi => absurd hi (Nat.not_lt_zero _)⟩]
  rfl
end Qk21

namespace Qk21
open PySem PySem.Spec PyProof.Rows L2 G
def spLaw (K : PySem.W.Frag) : Sp := fun vs H Q _ => ∃ (a : Addr) (ns : List Int), vs = [.ref a] ∧ SqL K H a (ns.map V.int) ∧ ns.length ≤ 63 ∧ ∀ H', Q (.bl true) H'
theorem law_sp {K : PySem.W.Frag} {T : Tab} (vs : List V) (H : Hp) (Q : VK) (E : XK) (h : spLaw K vs H Q E) : spI K T d_law vs H Q E := by
  obtain ⟨a, ns, rfl, hs, hl, k⟩ := h
  have s : SL K ⟨[], [], H⟩ a (ns.map V.int) := by
    rcases hs with r | w
    · exact .inl ⟨r, by simp [Hv.free]⟩
    · exact .inr w
  obtain ⟨S, e⟩ := law_true ns hl
  refine ⟨⟨[], [], H⟩, [], [.scr ns], rfl, ⟨rfl, fun i j a e => by simp at e, fun n a ob e => by simp at e, fun n e => by simp at e, fun a e => by simp at e⟩, .cons (.scr s) .nil, ?_⟩
  rw [e]
  intro v h' _ r _
  cases r
  exact k _
theorem all_mk {P : Program} {w : World} {K : PySem.W.Frag} {h : Heap} {mg : Str → Option Value} {fa : Addr} (X : K.In h) (G : h.Ns mainGlobals mg) (hfa : mg "law" = some (.ref fa))
    {f__law_taken f__law_pick f__law_name f__law_names f_is_row f_is_name f_is_whole f_is_number f_is_span f_frozen f_want_row f__law_mixed f__law_alike f_meet f__law_pairs f__law_rows f__law_good f__law_truth f_want_number f_spans_of f__law_rest f_law O_Needs fm_Needs___init__ fm_Needs___eq__ fm_Needs_visits fm_Needs_paper fm_Needs_is_served fm_Needs_is_paper fm_Needs_unserved fm_Needs_late_by fm_Needs_served_by fm_Needs_tries fm_Needs_gentle fm_Needs_without fm_Needs_needed nO_Needs CW C_BadItem fi_BadItem nsA_BadItem cda_BadItem cc_BadItem C_BadNumber fi_BadNumber nsA_BadNumber cda_BadNumber cc_BadNumber C_TooMany fi_TooMany nsA_TooMany cda_TooMany cc_TooMany : Addr} {od__law_taken an__law_taken od__law_pick an__law_pick od__law_name an__law_name od__law_names an__law_names od_is_row an_is_row od_is_name an_is_name od_is_whole an_is_whole od_is_number an_is_number od_is_span an_is_span od_frozen an_frozen od_want_row an_want_row od__law_mixed an__law_mixed od__law_alike an__law_alike od_meet an_meet od__law_pairs an__law_pairs od__law_rows an__law_rows od__law_good an__law_good od__law_truth an__law_truth od_want_number an_want_number od_spans_of an_spans_of od__law_rest an__law_rest od_law an_law od_Needs___init__ an_Needs___init__ od_Needs___eq__ an_Needs___eq__ od_Needs_visits an_Needs_visits od_Needs_paper an_Needs_paper od_Needs_is_served an_Needs_is_served od_Needs_is_paper an_Needs_is_paper od_Needs_unserved an_Needs_unserved od_Needs_late_by an_Needs_late_by od_Needs_served_by an_Needs_served_by od_Needs_tries an_Needs_tries od_Needs_gentle an_Needs_gentle od_Needs_without an_Needs_without od_Needs_needed an_Needs_needed dd_Needs dd_BadItem xo_BadItem xa_BadItem xd_BadItem xe_BadItem dd_BadNumber xo_BadNumber xa_BadNumber xd_BadNumber xe_BadNumber dd_TooMany xo_TooMany xa_TooMany xd_TooMany xe_TooMany : Option Addr} {sl__law_taken sl__law_pick sl__law_name sl__law_names sl_is_row sl_is_name sl_is_whole sl_is_number sl_is_span sl_frozen sl_want_row sl__law_mixed sl__law_alike sl_meet sl__law_pairs sl__law_rows sl__law_good sl__law_truth sl_want_number sl_spans_of sl__law_rest sl_law sl_Needs___init__ sl_Needs___eq__ sl_Needs_visits sl_Needs_paper sl_Needs_is_served sl_Needs_is_paper sl_Needs_unserved sl_Needs_late_by sl_Needs_served_by sl_Needs_tries sl_Needs_gentle sl_Needs_without sl_Needs_needed xs_BadItem xcs_BadItem xes_BadItem xs_BadNumber xcs_BadNumber xes_BadNumber xs_TooMany xcs_TooMany xes_TooMany : Array (Option Value)} {oc__law_taken kV__law_taken dc__law_taken pm__law_taken cd__law_taken ct__law_taken oc__law_pick kV__law_pick dc__law_pick pm__law_pick cd__law_pick ct__law_pick oc__law_name kV__law_name dc__law_name pm__law_name cd__law_name ct__law_name oc__law_names kV__law_names dc__law_names pm__law_names cd__law_names ct__law_names oc_is_row kV_is_row dc_is_row pm_is_row cd_is_row ct_is_row oc_is_name kV_is_name dc_is_name pm_is_name cd_is_name ct_is_name oc_is_whole kV_is_whole dc_is_whole pm_is_whole cd_is_whole ct_is_whole oc_is_number kV_is_number dc_is_number pm_is_number cd_is_number ct_is_number oc_is_span kV_is_span dc_is_span pm_is_span cd_is_span ct_is_span oc_frozen kV_frozen dc_frozen pm_frozen cd_frozen ct_frozen oc_want_row kV_want_row dc_want_row pm_want_row cd_want_row ct_want_row oc__law_mixed kV__law_mixed dc__law_mixed pm__law_mixed cd__law_mixed ct__law_mixed oc__law_alike kV__law_alike dc__law_alike pm__law_alike cd__law_alike ct__law_alike oc_meet kV_meet dc_meet pm_meet cd_meet ct_meet oc__law_pairs kV__law_pairs dc__law_pairs pm__law_pairs cd__law_pairs ct__law_pairs oc__law_rows kV__law_rows dc__law_rows pm__law_rows cd__law_rows ct__law_rows oc__law_good kV__law_good dc__law_good pm__law_good cd__law_good ct__law_good oc__law_truth kV__law_truth dc__law_truth pm__law_truth cd__law_truth ct__law_truth oc_want_number kV_want_number dc_want_number pm_want_number cd_want_number ct_want_number oc_spans_of kV_spans_of dc_spans_of pm_spans_of cd_spans_of ct_spans_of oc__law_rest kV__law_rest dc__law_rest pm__law_rest cd__law_rest ct__law_rest oc_law kV_law dc_law pm_law cd_law ct_law oc_Needs___init__ kV_Needs___init__ dc_Needs___init__ pm_Needs___init__ cd_Needs___init__ ct_Needs___init__ oc_Needs___eq__ kV_Needs___eq__ dc_Needs___eq__ pm_Needs___eq__ cd_Needs___eq__ ct_Needs___eq__ oc_Needs_visits kV_Needs_visits dc_Needs_visits pm_Needs_visits cd_Needs_visits ct_Needs_visits oc_Needs_paper kV_Needs_paper dc_Needs_paper pm_Needs_paper cd_Needs_paper ct_Needs_paper oc_Needs_is_served kV_Needs_is_served dc_Needs_is_served pm_Needs_is_served cd_Needs_is_served ct_Needs_is_served oc_Needs_is_paper kV_Needs_is_paper dc_Needs_is_paper pm_Needs_is_paper cd_Needs_is_paper ct_Needs_is_paper oc_Needs_unserved kV_Needs_unserved dc_Needs_unserved pm_Needs_unserved cd_Needs_unserved ct_Needs_unserved oc_Needs_late_by kV_Needs_late_by dc_Needs_late_by pm_Needs_late_by cd_Needs_late_by ct_Needs_late_by oc_Needs_served_by kV_Needs_served_by dc_Needs_served_by pm_Needs_served_by cd_Needs_served_by ct_Needs_served_by oc_Needs_tries kV_Needs_tries dc_Needs_tries pm_Needs_tries cd_Needs_tries ct_Needs_tries oc_Needs_gentle kV_Needs_gentle dc_Needs_gentle pm_Needs_gentle cd_Needs_gentle ct_Needs_gentle oc_Needs_without kV_Needs_without dc_Needs_without pm_Needs_without cd_Needs_without ct_Needs_without oc_Needs_needed kV_Needs_needed dc_Needs_needed pm_Needs_needed cd_Needs_needed ct_Needs_needed xc_BadItem xdc_BadItem xpm_BadItem xct_BadItem xcl_BadItem xce_BadItem xc_BadNumber xdc_BadNumber xpm_BadNumber xct_BadNumber xcl_BadNumber xce_BadNumber xc_TooMany xdc_TooMany xpm_TooMany xct_TooMany xcl_TooMany xce_TooMany : Value} {nm_Needs qn_Needs nm_BadItem qn_BadItem nm_BadNumber qn_BadNumber nm_TooMany qn_TooMany : Str} {bs_Needs sub_Needs bs_BadItem sub_BadItem bs_BadNumber sub_BadNumber bs_TooMany sub_TooMany : List Value} {sn_Needs sn_BadItem sn_BadNumber sn_TooMany : List Str} {ab_Needs ab_BadItem ab_BadNumber ab_TooMany : Bool} {col_Needs col_BadItem col_BadNumber col_TooMany : Option Bool} {m0_Needs m1_Needs m2_Needs m3_Needs m5_Needs m0_BadItem m1_BadItem m2_BadItem m3_BadItem m5_BadItem m0_BadNumber m1_BadNumber m2_BadNumber m3_BadNumber m5_BadNumber m0_TooMany m1_TooMany m2_TooMany m3_TooMany m5_TooMany : Option Value} {r1_BadItem r2_BadItem p0_BadItem p1_BadItem p2_BadItem p3_BadItem p4_BadItem p5_BadItem q1_BadItem q2_BadItem q3_BadItem q4_BadItem r1_BadNumber r2_BadNumber p0_BadNumber p1_BadNumber p2_BadNumber p3_BadNumber p4_BadNumber p5_BadNumber q1_BadNumber q2_BadNumber q3_BadNumber q4_BadNumber r1_TooMany r2_TooMany p0_TooMany p1_TooMany p2_TooMany p3_TooMany p4_TooMany p5_TooMany q1_TooMany q2_TooMany q3_TooMany q4_TooMany : Pos} {xv_BadItem xv_BadNumber xv_TooMany : Array Value} {xf_BadItem xf_BadNumber xf_TooMany : Str} {tk_FIGURES tk_LAST_TICK tk_LETTERS tk_LONGEST_NAME tk_MOST_SPANS xt_BadItem xt_BadNumber xt_TooMany : Tok} {nid_Needs : String}
    (a__law_taken : PySem.W.nsIn K mainGlobals "_law_taken" = some (some (.ref f__law_taken)))
    (l__law_taken : K.lookup f__law_taken = some ⟨oc__law_taken, od__law_taken, .func (PySem.W.fnOf "_law_taken" "_law_taken" (defArgs s__law_taken) (defBody s__law_taken) (defScope s__law_taken) .none kV__law_taken dc__law_taken pm__law_taken an__law_taken cd__law_taken ct__law_taken), sl__law_taken⟩)
    (c__law_taken : PySem.W.codeIn K cd__law_taken "_law_taken" = true)
    (k__law_taken : PySem.W.keepIn K (.ref f__law_taken) = true)
    (a__law_pick : PySem.W.nsIn K mainGlobals "_law_pick" = some (some (.ref f__law_pick)))
    (l__law_pick : K.lookup f__law_pick = some ⟨oc__law_pick, od__law_pick, .func (PySem.W.fnOf "_law_pick" "_law_pick" (defArgs s__law_pick) (defBody s__law_pick) (defScope s__law_pick) .none kV__law_pick dc__law_pick pm__law_pick an__law_pick cd__law_pick ct__law_pick), sl__law_pick⟩)
    (c__law_pick : PySem.W.codeIn K cd__law_pick "_law_pick" = true)
    (k__law_pick : PySem.W.keepIn K (.ref f__law_pick) = true)
    (a__law_name : PySem.W.nsIn K mainGlobals "_law_name" = some (some (.ref f__law_name)))
    (l__law_name : K.lookup f__law_name = some ⟨oc__law_name, od__law_name, .func (PySem.W.fnOf "_law_name" "_law_name" (defArgs s__law_name) (defBody s__law_name) (defScope s__law_name) .none kV__law_name dc__law_name pm__law_name an__law_name cd__law_name ct__law_name), sl__law_name⟩)
    (c__law_name : PySem.W.codeIn K cd__law_name "_law_name" = true)
    (k__law_name : PySem.W.keepIn K (.ref f__law_name) = true)
    (a__law_names : PySem.W.nsIn K mainGlobals "_law_names" = some (some (.ref f__law_names)))
    (l__law_names : K.lookup f__law_names = some ⟨oc__law_names, od__law_names, .func (PySem.W.fnOf "_law_names" "_law_names" (defArgs s__law_names) (defBody s__law_names) (defScope s__law_names) .none kV__law_names dc__law_names pm__law_names an__law_names cd__law_names ct__law_names), sl__law_names⟩)
    (c__law_names : PySem.W.codeIn K cd__law_names "_law_names" = true)
    (k__law_names : PySem.W.keepIn K (.ref f__law_names) = true)
    (a_is_row : PySem.W.nsIn K mainGlobals "is_row" = some (some (.ref f_is_row)))
    (l_is_row : K.lookup f_is_row = some ⟨oc_is_row, od_is_row, .func (PySem.W.fnOf "is_row" "is_row" (defArgs s_is_row) (defBody s_is_row) (defScope s_is_row) .none kV_is_row dc_is_row pm_is_row an_is_row cd_is_row ct_is_row), sl_is_row⟩)
    (c_is_row : PySem.W.codeIn K cd_is_row "is_row" = true)
    (k_is_row : PySem.W.keepIn K (.ref f_is_row) = true)
    (a_is_name : PySem.W.nsIn K mainGlobals "is_name" = some (some (.ref f_is_name)))
    (l_is_name : K.lookup f_is_name = some ⟨oc_is_name, od_is_name, .func (PySem.W.fnOf "is_name" "is_name" (defArgs s_is_name) (defBody s_is_name) (defScope s_is_name) .none kV_is_name dc_is_name pm_is_name an_is_name cd_is_name ct_is_name), sl_is_name⟩)
    (c_is_name : PySem.W.codeIn K cd_is_name "is_name" = true)
    (k_is_name : PySem.W.keepIn K (.ref f_is_name) = true)
    (a_is_whole : PySem.W.nsIn K mainGlobals "is_whole" = some (some (.ref f_is_whole)))
    (l_is_whole : K.lookup f_is_whole = some ⟨oc_is_whole, od_is_whole, .func (PySem.W.fnOf "is_whole" "is_whole" (defArgs s_is_whole) (defBody s_is_whole) (defScope s_is_whole) .none kV_is_whole dc_is_whole pm_is_whole an_is_whole cd_is_whole ct_is_whole), sl_is_whole⟩)
    (c_is_whole : PySem.W.codeIn K cd_is_whole "is_whole" = true)
    (k_is_whole : PySem.W.keepIn K (.ref f_is_whole) = true)
    (a_is_number : PySem.W.nsIn K mainGlobals "is_number" = some (some (.ref f_is_number)))
    (l_is_number : K.lookup f_is_number = some ⟨oc_is_number, od_is_number, .func (PySem.W.fnOf "is_number" "is_number" (defArgs s_is_number) (defBody s_is_number) (defScope s_is_number) .none kV_is_number dc_is_number pm_is_number an_is_number cd_is_number ct_is_number), sl_is_number⟩)
    (c_is_number : PySem.W.codeIn K cd_is_number "is_number" = true)
    (k_is_number : PySem.W.keepIn K (.ref f_is_number) = true)
    (a_is_span : PySem.W.nsIn K mainGlobals "is_span" = some (some (.ref f_is_span)))
    (l_is_span : K.lookup f_is_span = some ⟨oc_is_span, od_is_span, .func (PySem.W.fnOf "is_span" "is_span" (defArgs s_is_span) (defBody s_is_span) (defScope s_is_span) .none kV_is_span dc_is_span pm_is_span an_is_span cd_is_span ct_is_span), sl_is_span⟩)
    (c_is_span : PySem.W.codeIn K cd_is_span "is_span" = true)
    (k_is_span : PySem.W.keepIn K (.ref f_is_span) = true)
    (a_frozen : PySem.W.nsIn K mainGlobals "frozen" = some (some (.ref f_frozen)))
    (l_frozen : K.lookup f_frozen = some ⟨oc_frozen, od_frozen, .func (PySem.W.fnOf "frozen" "frozen" (defArgs s_frozen) (defBody s_frozen) (defScope s_frozen) .none kV_frozen dc_frozen pm_frozen an_frozen cd_frozen ct_frozen), sl_frozen⟩)
    (c_frozen : PySem.W.codeIn K cd_frozen "frozen" = true)
    (k_frozen : PySem.W.keepIn K (.ref f_frozen) = true)
    (a_want_row : PySem.W.nsIn K mainGlobals "want_row" = some (some (.ref f_want_row)))
    (l_want_row : K.lookup f_want_row = some ⟨oc_want_row, od_want_row, .func (PySem.W.fnOf "want_row" "want_row" (defArgs s_want_row) (defBody s_want_row) (defScope s_want_row) .none kV_want_row dc_want_row pm_want_row an_want_row cd_want_row ct_want_row), sl_want_row⟩)
    (c_want_row : PySem.W.codeIn K cd_want_row "want_row" = true)
    (k_want_row : PySem.W.keepIn K (.ref f_want_row) = true)
    (a__law_mixed : PySem.W.nsIn K mainGlobals "_law_mixed" = some (some (.ref f__law_mixed)))
    (l__law_mixed : K.lookup f__law_mixed = some ⟨oc__law_mixed, od__law_mixed, .func (PySem.W.fnOf "_law_mixed" "_law_mixed" (defArgs s__law_mixed) (defBody s__law_mixed) (defScope s__law_mixed) .none kV__law_mixed dc__law_mixed pm__law_mixed an__law_mixed cd__law_mixed ct__law_mixed), sl__law_mixed⟩)
    (c__law_mixed : PySem.W.codeIn K cd__law_mixed "_law_mixed" = true)
    (k__law_mixed : PySem.W.keepIn K (.ref f__law_mixed) = true)
    (a__law_alike : PySem.W.nsIn K mainGlobals "_law_alike" = some (some (.ref f__law_alike)))
    (l__law_alike : K.lookup f__law_alike = some ⟨oc__law_alike, od__law_alike, .func (PySem.W.fnOf "_law_alike" "_law_alike" (defArgs s__law_alike) (defBody s__law_alike) (defScope s__law_alike) .none kV__law_alike dc__law_alike pm__law_alike an__law_alike cd__law_alike ct__law_alike), sl__law_alike⟩)
    (c__law_alike : PySem.W.codeIn K cd__law_alike "_law_alike" = true)
    (k__law_alike : PySem.W.keepIn K (.ref f__law_alike) = true)
    (a_meet : PySem.W.nsIn K mainGlobals "meet" = some (some (.ref f_meet)))
    (l_meet : K.lookup f_meet = some ⟨oc_meet, od_meet, .func (PySem.W.fnOf "meet" "meet" (defArgs s_meet) (defBody s_meet) (defScope s_meet) .none kV_meet dc_meet pm_meet an_meet cd_meet ct_meet), sl_meet⟩)
    (c_meet : PySem.W.codeIn K cd_meet "meet" = true)
    (k_meet : PySem.W.keepIn K (.ref f_meet) = true)
    (a__law_pairs : PySem.W.nsIn K mainGlobals "_law_pairs" = some (some (.ref f__law_pairs)))
    (l__law_pairs : K.lookup f__law_pairs = some ⟨oc__law_pairs, od__law_pairs, .func (PySem.W.fnOf "_law_pairs" "_law_pairs" (defArgs s__law_pairs) (defBody s__law_pairs) (defScope s__law_pairs) .none kV__law_pairs dc__law_pairs pm__law_pairs an__law_pairs cd__law_pairs ct__law_pairs), sl__law_pairs⟩)
    (c__law_pairs : PySem.W.codeIn K cd__law_pairs "_law_pairs" = true)
    (k__law_pairs : PySem.W.keepIn K (.ref f__law_pairs) = true)
    (a__law_rows : PySem.W.nsIn K mainGlobals "_law_rows" = some (some (.ref f__law_rows)))
    (l__law_rows : K.lookup f__law_rows = some ⟨oc__law_rows, od__law_rows, .func (PySem.W.fnOf "_law_rows" "_law_rows" (defArgs s__law_rows) (defBody s__law_rows) (defScope s__law_rows) .none kV__law_rows dc__law_rows pm__law_rows an__law_rows cd__law_rows ct__law_rows), sl__law_rows⟩)
    (c__law_rows : PySem.W.codeIn K cd__law_rows "_law_rows" = true)
    (k__law_rows : PySem.W.keepIn K (.ref f__law_rows) = true)
    (a__law_good : PySem.W.nsIn K mainGlobals "_law_good" = some (some (.ref f__law_good)))
    (l__law_good : K.lookup f__law_good = some ⟨oc__law_good, od__law_good, .func (PySem.W.fnOf "_law_good" "_law_good" (defArgs s__law_good) (defBody s__law_good) (defScope s__law_good) .none kV__law_good dc__law_good pm__law_good an__law_good cd__law_good ct__law_good), sl__law_good⟩)
    (c__law_good : PySem.W.codeIn K cd__law_good "_law_good" = true)
    (k__law_good : PySem.W.keepIn K (.ref f__law_good) = true)
    (a__law_truth : PySem.W.nsIn K mainGlobals "_law_truth" = some (some (.ref f__law_truth)))
    (l__law_truth : K.lookup f__law_truth = some ⟨oc__law_truth, od__law_truth, .func (PySem.W.fnOf "_law_truth" "_law_truth" (defArgs s__law_truth) (defBody s__law_truth) (defScope s__law_truth) .none kV__law_truth dc__law_truth pm__law_truth an__law_truth cd__law_truth ct__law_truth), sl__law_truth⟩)
    (c__law_truth : PySem.W.codeIn K cd__law_truth "_law_truth" = true)
    (k__law_truth : PySem.W.keepIn K (.ref f__law_truth) = true)
    (a_want_number : PySem.W.nsIn K mainGlobals "want_number" = some (some (.ref f_want_number)))
    (l_want_number : K.lookup f_want_number = some ⟨oc_want_number, od_want_number, .func (PySem.W.fnOf "want_number" "want_number" (defArgs s_want_number) (defBody s_want_number) (defScope s_want_number) .none kV_want_number dc_want_number pm_want_number an_want_number cd_want_number ct_want_number), sl_want_number⟩)
    (c_want_number : PySem.W.codeIn K cd_want_number "want_number" = true)
    (k_want_number : PySem.W.keepIn K (.ref f_want_number) = true)
    (a_spans_of : PySem.W.nsIn K mainGlobals "spans_of" = some (some (.ref f_spans_of)))
    (l_spans_of : K.lookup f_spans_of = some ⟨oc_spans_of, od_spans_of, .func (PySem.W.fnOf "spans_of" "spans_of" (defArgs s_spans_of) (defBody s_spans_of) (defScope s_spans_of) .none kV_spans_of dc_spans_of pm_spans_of an_spans_of cd_spans_of ct_spans_of), sl_spans_of⟩)
    (c_spans_of : PySem.W.codeIn K cd_spans_of "spans_of" = true)
    (k_spans_of : PySem.W.keepIn K (.ref f_spans_of) = true)
    (a__law_rest : PySem.W.nsIn K mainGlobals "_law_rest" = some (some (.ref f__law_rest)))
    (l__law_rest : K.lookup f__law_rest = some ⟨oc__law_rest, od__law_rest, .func (PySem.W.fnOf "_law_rest" "_law_rest" (defArgs s__law_rest) (defBody s__law_rest) (defScope s__law_rest) .none kV__law_rest dc__law_rest pm__law_rest an__law_rest cd__law_rest ct__law_rest), sl__law_rest⟩)
    (c__law_rest : PySem.W.codeIn K cd__law_rest "_law_rest" = true)
    (k__law_rest : PySem.W.keepIn K (.ref f__law_rest) = true)
    (a_law : PySem.W.nsIn K mainGlobals "law" = some (some (.ref f_law)))
    (l_law : K.lookup f_law = some ⟨oc_law, od_law, .func (PySem.W.fnOf "law" "law" (defArgs s_law) (defBody s_law) (defScope s_law) .none kV_law dc_law pm_law an_law cd_law ct_law), sl_law⟩)
    (c_law : PySem.W.codeIn K cd_law "law" = true)
    (k_law : PySem.W.keepIn K (.ref f_law) = true)
    (og_Needs : PySem.W.nsIn K mainGlobals "Needs" = some (some (.ref O_Needs)))
    (opg_Needs : PySem.W.plainGet K O_Needs Str.empty = true)
    (ohd_Needs : PySem.W.hasDictIn K O_Needs = true)
    (opo_Needs : PySem.W.plainOver K O_Needs = true)
    (osa_Needs : PySem.W.findIn K (.ref O_Needs) "__setattr__" = some (some (.builtin "object.__setattr__")))
    (ona_Needs_spans : PySem.W.findIn K (.ref O_Needs) "spans" = some none)
    (ma_Needs___init__ : PySem.W.findIn K (.ref O_Needs) "__init__" = some (some (.ref fm_Needs___init__)))
    (mi_Needs___init__ : PySem.W.isFn K (.ref fm_Needs___init__) = true)
    (ml_Needs___init__ : K.lookup fm_Needs___init__ = some ⟨oc_Needs___init__, od_Needs___init__, .func (PySem.W.fnOf "__init__" "Needs.__init__" (defArgs s_Needs___init__) (defBody s_Needs___init__) (defScope s_Needs___init__) .none kV_Needs___init__ dc_Needs___init__ pm_Needs___init__ an_Needs___init__ cd_Needs___init__ ct_Needs___init__), sl_Needs___init__⟩)
    (mc_Needs___init__ : PySem.W.codeIn K cd_Needs___init__ "Needs.__init__" = true)
    (mk_Needs___init__ : PySem.W.keepIn K (.ref fm_Needs___init__) = true)
    (omk_Needs : PySem.W.makesIn K O_Needs = true)
    (okp_Needs : PySem.W.keepIn K (.ref O_Needs) = true)
    (ma_Needs___eq__ : PySem.W.findIn K (.ref O_Needs) "__eq__" = some (some (.ref fm_Needs___eq__)))
    (mi_Needs___eq__ : PySem.W.isFn K (.ref fm_Needs___eq__) = true)
    (ml_Needs___eq__ : K.lookup fm_Needs___eq__ = some ⟨oc_Needs___eq__, od_Needs___eq__, .func (PySem.W.fnOf "__eq__" "Needs.__eq__" (defArgs s_Needs___eq__) (defBody s_Needs___eq__) (defScope s_Needs___eq__) .none kV_Needs___eq__ dc_Needs___eq__ pm_Needs___eq__ an_Needs___eq__ cd_Needs___eq__ ct_Needs___eq__), sl_Needs___eq__⟩)
    (mc_Needs___eq__ : PySem.W.codeIn K cd_Needs___eq__ "Needs.__eq__" = true)
    (mk_Needs___eq__ : PySem.W.keepIn K (.ref fm_Needs___eq__) = true)
    (ma_Needs_visits : PySem.W.findIn K (.ref O_Needs) "visits" = some (some (.ref fm_Needs_visits)))
    (mi_Needs_visits : PySem.W.isFn K (.ref fm_Needs_visits) = true)
    (ml_Needs_visits : K.lookup fm_Needs_visits = some ⟨oc_Needs_visits, od_Needs_visits, .func (PySem.W.fnOf "visits" "Needs.visits" (defArgs s_Needs_visits) (defBody s_Needs_visits) (defScope s_Needs_visits) .none kV_Needs_visits dc_Needs_visits pm_Needs_visits an_Needs_visits cd_Needs_visits ct_Needs_visits), sl_Needs_visits⟩)
    (mc_Needs_visits : PySem.W.codeIn K cd_Needs_visits "Needs.visits" = true)
    (mk_Needs_visits : PySem.W.keepIn K (.ref fm_Needs_visits) = true)
    (ma_Needs_paper : PySem.W.findIn K (.ref O_Needs) "paper" = some (some (.ref fm_Needs_paper)))
    (mi_Needs_paper : PySem.W.isFn K (.ref fm_Needs_paper) = true)
    (ml_Needs_paper : K.lookup fm_Needs_paper = some ⟨oc_Needs_paper, od_Needs_paper, .func (PySem.W.fnOf "paper" "Needs.paper" (defArgs s_Needs_paper) (defBody s_Needs_paper) (defScope s_Needs_paper) .none kV_Needs_paper dc_Needs_paper pm_Needs_paper an_Needs_paper cd_Needs_paper ct_Needs_paper), sl_Needs_paper⟩)
    (mc_Needs_paper : PySem.W.codeIn K cd_Needs_paper "Needs.paper" = true)
    (mk_Needs_paper : PySem.W.keepIn K (.ref fm_Needs_paper) = true)
    (ma_Needs_is_served : PySem.W.findIn K (.ref O_Needs) "is_served" = some (some (.ref fm_Needs_is_served)))
    (mi_Needs_is_served : PySem.W.isFn K (.ref fm_Needs_is_served) = true)
    (ml_Needs_is_served : K.lookup fm_Needs_is_served = some ⟨oc_Needs_is_served, od_Needs_is_served, .func (PySem.W.fnOf "is_served" "Needs.is_served" (defArgs s_Needs_is_served) (defBody s_Needs_is_served) (defScope s_Needs_is_served) .none kV_Needs_is_served dc_Needs_is_served pm_Needs_is_served an_Needs_is_served cd_Needs_is_served ct_Needs_is_served), sl_Needs_is_served⟩)
    (mc_Needs_is_served : PySem.W.codeIn K cd_Needs_is_served "Needs.is_served" = true)
    (mk_Needs_is_served : PySem.W.keepIn K (.ref fm_Needs_is_served) = true)
    (ma_Needs_is_paper : PySem.W.findIn K (.ref O_Needs) "is_paper" = some (some (.ref fm_Needs_is_paper)))
    (mi_Needs_is_paper : PySem.W.isFn K (.ref fm_Needs_is_paper) = true)
    (ml_Needs_is_paper : K.lookup fm_Needs_is_paper = some ⟨oc_Needs_is_paper, od_Needs_is_paper, .func (PySem.W.fnOf "is_paper" "Needs.is_paper" (defArgs s_Needs_is_paper) (defBody s_Needs_is_paper) (defScope s_Needs_is_paper) .none kV_Needs_is_paper dc_Needs_is_paper pm_Needs_is_paper an_Needs_is_paper cd_Needs_is_paper ct_Needs_is_paper), sl_Needs_is_paper⟩)
    (mc_Needs_is_paper : PySem.W.codeIn K cd_Needs_is_paper "Needs.is_paper" = true)
    (mk_Needs_is_paper : PySem.W.keepIn K (.ref fm_Needs_is_paper) = true)
    (ma_Needs_unserved : PySem.W.findIn K (.ref O_Needs) "unserved" = some (some (.ref fm_Needs_unserved)))
    (mi_Needs_unserved : PySem.W.isFn K (.ref fm_Needs_unserved) = true)
    (ml_Needs_unserved : K.lookup fm_Needs_unserved = some ⟨oc_Needs_unserved, od_Needs_unserved, .func (PySem.W.fnOf "unserved" "Needs.unserved" (defArgs s_Needs_unserved) (defBody s_Needs_unserved) (defScope s_Needs_unserved) .none kV_Needs_unserved dc_Needs_unserved pm_Needs_unserved an_Needs_unserved cd_Needs_unserved ct_Needs_unserved), sl_Needs_unserved⟩)
    (mc_Needs_unserved : PySem.W.codeIn K cd_Needs_unserved "Needs.unserved" = true)
    (mk_Needs_unserved : PySem.W.keepIn K (.ref fm_Needs_unserved) = true)
    (ma_Needs_late_by : PySem.W.findIn K (.ref O_Needs) "late_by" = some (some (.ref fm_Needs_late_by)))
    (mi_Needs_late_by : PySem.W.isFn K (.ref fm_Needs_late_by) = true)
    (ml_Needs_late_by : K.lookup fm_Needs_late_by = some ⟨oc_Needs_late_by, od_Needs_late_by, .func (PySem.W.fnOf "late_by" "Needs.late_by" (defArgs s_Needs_late_by) (defBody s_Needs_late_by) (defScope s_Needs_late_by) .none kV_Needs_late_by dc_Needs_late_by pm_Needs_late_by an_Needs_late_by cd_Needs_late_by ct_Needs_late_by), sl_Needs_late_by⟩)
    (mc_Needs_late_by : PySem.W.codeIn K cd_Needs_late_by "Needs.late_by" = true)
    (mk_Needs_late_by : PySem.W.keepIn K (.ref fm_Needs_late_by) = true)
    (ma_Needs_served_by : PySem.W.findIn K (.ref O_Needs) "served_by" = some (some (.ref fm_Needs_served_by)))
    (mi_Needs_served_by : PySem.W.isFn K (.ref fm_Needs_served_by) = true)
    (ml_Needs_served_by : K.lookup fm_Needs_served_by = some ⟨oc_Needs_served_by, od_Needs_served_by, .func (PySem.W.fnOf "served_by" "Needs.served_by" (defArgs s_Needs_served_by) (defBody s_Needs_served_by) (defScope s_Needs_served_by) .none kV_Needs_served_by dc_Needs_served_by pm_Needs_served_by an_Needs_served_by cd_Needs_served_by ct_Needs_served_by), sl_Needs_served_by⟩)
    (mc_Needs_served_by : PySem.W.codeIn K cd_Needs_served_by "Needs.served_by" = true)
    (mk_Needs_served_by : PySem.W.keepIn K (.ref fm_Needs_served_by) = true)
    (ma_Needs_tries : PySem.W.findIn K (.ref O_Needs) "tries" = some (some (.ref fm_Needs_tries)))
    (mi_Needs_tries : PySem.W.isFn K (.ref fm_Needs_tries) = true)
    (ml_Needs_tries : K.lookup fm_Needs_tries = some ⟨oc_Needs_tries, od_Needs_tries, .func (PySem.W.fnOf "tries" "Needs.tries" (defArgs s_Needs_tries) (defBody s_Needs_tries) (defScope s_Needs_tries) .none kV_Needs_tries dc_Needs_tries pm_Needs_tries an_Needs_tries cd_Needs_tries ct_Needs_tries), sl_Needs_tries⟩)
    (mc_Needs_tries : PySem.W.codeIn K cd_Needs_tries "Needs.tries" = true)
    (mk_Needs_tries : PySem.W.keepIn K (.ref fm_Needs_tries) = true)
    (ma_Needs_gentle : PySem.W.findIn K (.ref O_Needs) "gentle" = some (some (.ref fm_Needs_gentle)))
    (mi_Needs_gentle : PySem.W.isFn K (.ref fm_Needs_gentle) = true)
    (ml_Needs_gentle : K.lookup fm_Needs_gentle = some ⟨oc_Needs_gentle, od_Needs_gentle, .func (PySem.W.fnOf "gentle" "Needs.gentle" (defArgs s_Needs_gentle) (defBody s_Needs_gentle) (defScope s_Needs_gentle) .none kV_Needs_gentle dc_Needs_gentle pm_Needs_gentle an_Needs_gentle cd_Needs_gentle ct_Needs_gentle), sl_Needs_gentle⟩)
    (mc_Needs_gentle : PySem.W.codeIn K cd_Needs_gentle "Needs.gentle" = true)
    (mk_Needs_gentle : PySem.W.keepIn K (.ref fm_Needs_gentle) = true)
    (ma_Needs_without : PySem.W.findIn K (.ref O_Needs) "without" = some (some (.ref fm_Needs_without)))
    (mi_Needs_without : PySem.W.isFn K (.ref fm_Needs_without) = true)
    (ml_Needs_without : K.lookup fm_Needs_without = some ⟨oc_Needs_without, od_Needs_without, .func (PySem.W.fnOf "without" "Needs.without" (defArgs s_Needs_without) (defBody s_Needs_without) (defScope s_Needs_without) .none kV_Needs_without dc_Needs_without pm_Needs_without an_Needs_without cd_Needs_without ct_Needs_without), sl_Needs_without⟩)
    (mc_Needs_without : PySem.W.codeIn K cd_Needs_without "Needs.without" = true)
    (mk_Needs_without : PySem.W.keepIn K (.ref fm_Needs_without) = true)
    (ma_Needs_needed : PySem.W.findIn K (.ref O_Needs) "needed" = some (some (.ref fm_Needs_needed)))
    (mi_Needs_needed : PySem.W.isFn K (.ref fm_Needs_needed) = true)
    (ml_Needs_needed : K.lookup fm_Needs_needed = some ⟨oc_Needs_needed, od_Needs_needed, .func (PySem.W.fnOf "needed" "Needs.needed" (defArgs s_Needs_needed) (defBody s_Needs_needed) (defScope s_Needs_needed) .none kV_Needs_needed dc_Needs_needed pm_Needs_needed an_Needs_needed cd_Needs_needed ct_Needs_needed), sl_Needs_needed⟩)
    (mc_Needs_needed : PySem.W.codeIn K cd_Needs_needed "Needs.needed" = true)
    (mk_Needs_needed : PySem.W.keepIn K (.ref fm_Needs_needed) = true)
    (oxl_Needs : K.lookup O_Needs = some (excClassObj nm_Needs qn_Needs O_Needs nO_Needs bs_Needs [.type "object"] true sn_Needs sub_Needs ab_Needs col_Needs dd_Needs m0_Needs m1_Needs m2_Needs m3_Needs m5_Needs nid_Needs))
    (ook_Needs : PySem.W.nsOkIn K nO_Needs = true)
    (oe1_Needs : PySem.W.nsIn K nO_Needs "__eq__" = some (some (.ref fm_Needs___eq__)))
    (oe2_Needs : PySem.W.nsIn K nO_Needs "__ne__" = some none)
    (oic_Needs : PySem.W.isClsIn K O_Needs = true)
    (oty_Needs : PySem.W.typeIn K (.ref O_Needs) = some (.type "type"))
    (ocl_Needs : PySem.W.findIn K (.ref O_Needs) "__class__" = some (some (.builtin "object.__class__")))
    (omr_Needs : PySem.W.mroIn K O_Needs (.type "object") = some true)
    (osp : PySem.W.specialIn K (.builtin "object.__class__") "__get__" = some (some (.builtin "getset_descriptor.__get__")))
    (otk : PySem.W.takesIn K (.builtin "object.__class__") = some true)
    (z_all : PySem.W.nsIn K mainGlobals "all" = some none)
    (z_any : PySem.W.nsIn K mainGlobals "any" = some none)
    (z_bool : PySem.W.nsIn K mainGlobals "bool" = some none)
    (z_enumerate : PySem.W.nsIn K mainGlobals "enumerate" = some none)
    (z_int : PySem.W.nsIn K mainGlobals "int" = some none)
    (z_isinstance : PySem.W.nsIn K mainGlobals "isinstance" = some none)
    (z_len : PySem.W.nsIn K mainGlobals "len" = some none)
    (z_list : PySem.W.nsIn K mainGlobals "list" = some none)
    (z_max : PySem.W.nsIn K mainGlobals "max" = some none)
    (z_min : PySem.W.nsIn K mainGlobals "min" = some none)
    (z_range : PySem.W.nsIn K mainGlobals "range" = some none)
    (z_set : PySem.W.nsIn K mainGlobals "set" = some none)
    (z_sorted : PySem.W.nsIn K mainGlobals "sorted" = some none)
    (z_str : PySem.W.nsIn K mainGlobals "str" = some none)
    (z_tuple : PySem.W.nsIn K mainGlobals "tuple" = some none)
    (n_FIGURES : PySem.W.nsIn K mainGlobals "FIGURES" = some (some (.str "0123456789" tk_FIGURES)))
    (n_LAST_TICK : PySem.W.nsIn K mainGlobals "LAST_TICK" = some (some (.int (9999) tk_LAST_TICK)))
    (n_LETTERS : PySem.W.nsIn K mainGlobals "LETTERS" = some (some (.str "abcdefghijklmnopqrstuvwxyz" tk_LETTERS)))
    (n_LONGEST_NAME : PySem.W.nsIn K mainGlobals "LONGEST_NAME" = some (some (.int (12) tk_LONGEST_NAME)))
    (n_MOST_SPANS : PySem.W.nsIn K mainGlobals "MOST_SPANS" = some (some (.int (30) tk_MOST_SPANS)))
    (op : PySem.W.nsIn K cStatics "thirdparty.any" = some none)
    (zsup : PySem.W.nsIn K mainGlobals "super" = some none)
    (tops : (P.main.scope.names.lookup ("super" : Str)).isSome = false)
    (g_BadItem : PySem.W.nsIn K mainGlobals "BadItem" = some (some (.ref C_BadItem)))
    (xl_BadItem : K.lookup C_BadItem = some (excClassObj nm_BadItem qn_BadItem C_BadItem nsA_BadItem bs_BadItem [.ref CW, .type "ValueError", .type "Exception", .type "BaseException", .type "object"] true sn_BadItem sub_BadItem ab_BadItem col_BadItem dd_BadItem m0_BadItem m1_BadItem m2_BadItem m3_BadItem m5_BadItem "ValueError.__new__"))
    (xsa_BadItem : PySem.W.findIn K (.ref C_BadItem) "__setattr__" = some (some (.builtin "object.__setattr__")))
    (xga_BadItem : PySem.W.findIn K (.ref C_BadItem) "__getattribute__" = some (some (.builtin "BaseException.__getattribute__")))
    (xgg_BadItem : PySem.W.findIn K (.ref C_BadItem) "__getattr__" = some none)
    (xn_BadItem_index : PySem.W.findIn K (.ref C_BadItem) "index" = some none)
    (xi_BadItem : PySem.W.findIn K (.ref C_BadItem) "__init__" = some (some (.ref fi_BadItem)))
    (xt1_BadItem : PySem.W.typeIn K (.ref fi_BadItem) = some (.type "function"))
    (xk_BadItem : PySem.W.keepIn K (.ref C_BadItem) = true)
    (xb_BadItem : PySem.W.subIn K (.ref C_BadItem) (.type "BaseException") = some true)
    (xty_BadItem : PySem.W.typeIn K (.ref C_BadItem) = some (.type "type"))
    (xh_BadItem : PySem.W.hasDictIn K C_BadItem = true)
    (xic_BadItem : PySem.W.isClsIn K C_BadItem = true)
    (xsu_BadItem : PySem.W.ks_superIn K C_BadItem C_BadItem "__init__" = some (some (.builtin "ValueError.__init__")))
    (xmc_BadItem : PySem.W.mroIn K C_BadItem (.ref C_BadItem) = some true)
    (xmv_BadItem : PySem.W.mroIn K C_BadItem (.type "ValueError") = some true)
    (xf1_BadItem : K.lookup fi_BadItem = some ⟨xc_BadItem, xo_BadItem, .func (PySem.W.ksFn "__init__" "BadItem.__init__" (PySem.GX.iA "index" r1_BadItem r2_BadItem) (PySem.GX.iB "index" p0_BadItem p1_BadItem p2_BadItem p3_BadItem p4_BadItem p5_BadItem q1_BadItem q2_BadItem q3_BadItem q4_BadItem) (PySem.GX.iS "index") .none .none xdc_BadItem xpm_BadItem xa_BadItem (.ref cda_BadItem) xct_BadItem cc_BadItem), xs_BadItem⟩)
    (xcd_BadItem : PySem.W.codeIn K (.ref cda_BadItem) "BadItem.__init__" = true)
    (xhl_BadItem : (p2_BadItem.endLine == p4_BadItem.line) = true)
    (xlc_BadItem : K.lookup cda_BadItem = some ⟨xcl_BadItem, xd_BadItem, .fields xv_BadItem, xcs_BadItem⟩)
    (xv2_BadItem : xv_BadItem[2]? = some (.str xf_BadItem xt_BadItem))
    (xfl_BadItem : ((P.main.file : Str) == xf_BadItem) = true)
    (xlcc_BadItem : K.lookup cc_BadItem = some ⟨xce_BadItem, xe_BadItem, .cell (some (.ref C_BadItem)), xes_BadItem⟩)
    (g_BadNumber : PySem.W.nsIn K mainGlobals "BadNumber" = some (some (.ref C_BadNumber)))
    (xl_BadNumber : K.lookup C_BadNumber = some (excClassObj nm_BadNumber qn_BadNumber C_BadNumber nsA_BadNumber bs_BadNumber [.ref CW, .type "ValueError", .type "Exception", .type "BaseException", .type "object"] true sn_BadNumber sub_BadNumber ab_BadNumber col_BadNumber dd_BadNumber m0_BadNumber m1_BadNumber m2_BadNumber m3_BadNumber m5_BadNumber "ValueError.__new__"))
    (xsa_BadNumber : PySem.W.findIn K (.ref C_BadNumber) "__setattr__" = some (some (.builtin "object.__setattr__")))
    (xga_BadNumber : PySem.W.findIn K (.ref C_BadNumber) "__getattribute__" = some (some (.builtin "BaseException.__getattribute__")))
    (xgg_BadNumber : PySem.W.findIn K (.ref C_BadNumber) "__getattr__" = some none)
    (xn_BadNumber_value : PySem.W.findIn K (.ref C_BadNumber) "value" = some none)
    (xi_BadNumber : PySem.W.findIn K (.ref C_BadNumber) "__init__" = some (some (.ref fi_BadNumber)))
    (xt1_BadNumber : PySem.W.typeIn K (.ref fi_BadNumber) = some (.type "function"))
    (xk_BadNumber : PySem.W.keepIn K (.ref C_BadNumber) = true)
    (xb_BadNumber : PySem.W.subIn K (.ref C_BadNumber) (.type "BaseException") = some true)
    (xty_BadNumber : PySem.W.typeIn K (.ref C_BadNumber) = some (.type "type"))
    (xh_BadNumber : PySem.W.hasDictIn K C_BadNumber = true)
    (xic_BadNumber : PySem.W.isClsIn K C_BadNumber = true)
    (xsu_BadNumber : PySem.W.ks_superIn K C_BadNumber C_BadNumber "__init__" = some (some (.builtin "ValueError.__init__")))
    (xmc_BadNumber : PySem.W.mroIn K C_BadNumber (.ref C_BadNumber) = some true)
    (xmv_BadNumber : PySem.W.mroIn K C_BadNumber (.type "ValueError") = some true)
    (xf1_BadNumber : K.lookup fi_BadNumber = some ⟨xc_BadNumber, xo_BadNumber, .func (PySem.W.ksFn "__init__" "BadNumber.__init__" (PySem.GX.iA "value" r1_BadNumber r2_BadNumber) (PySem.GX.iB "value" p0_BadNumber p1_BadNumber p2_BadNumber p3_BadNumber p4_BadNumber p5_BadNumber q1_BadNumber q2_BadNumber q3_BadNumber q4_BadNumber) (PySem.GX.iS "value") .none .none xdc_BadNumber xpm_BadNumber xa_BadNumber (.ref cda_BadNumber) xct_BadNumber cc_BadNumber), xs_BadNumber⟩)
    (xcd_BadNumber : PySem.W.codeIn K (.ref cda_BadNumber) "BadNumber.__init__" = true)
    (xhl_BadNumber : (p2_BadNumber.endLine == p4_BadNumber.line) = true)
    (xlc_BadNumber : K.lookup cda_BadNumber = some ⟨xcl_BadNumber, xd_BadNumber, .fields xv_BadNumber, xcs_BadNumber⟩)
    (xv2_BadNumber : xv_BadNumber[2]? = some (.str xf_BadNumber xt_BadNumber))
    (xfl_BadNumber : ((P.main.file : Str) == xf_BadNumber) = true)
    (xlcc_BadNumber : K.lookup cc_BadNumber = some ⟨xce_BadNumber, xe_BadNumber, .cell (some (.ref C_BadNumber)), xes_BadNumber⟩)
    (g_TooMany : PySem.W.nsIn K mainGlobals "TooMany" = some (some (.ref C_TooMany)))
    (xl_TooMany : K.lookup C_TooMany = some (excClassObj nm_TooMany qn_TooMany C_TooMany nsA_TooMany bs_TooMany [.ref CW, .type "ValueError", .type "Exception", .type "BaseException", .type "object"] true sn_TooMany sub_TooMany ab_TooMany col_TooMany dd_TooMany m0_TooMany m1_TooMany m2_TooMany m3_TooMany m5_TooMany "ValueError.__new__"))
    (xsa_TooMany : PySem.W.findIn K (.ref C_TooMany) "__setattr__" = some (some (.builtin "object.__setattr__")))
    (xga_TooMany : PySem.W.findIn K (.ref C_TooMany) "__getattribute__" = some (some (.builtin "BaseException.__getattribute__")))
    (xgg_TooMany : PySem.W.findIn K (.ref C_TooMany) "__getattr__" = some none)
    (xn_TooMany_limit : PySem.W.findIn K (.ref C_TooMany) "limit" = some none)
    (xi_TooMany : PySem.W.findIn K (.ref C_TooMany) "__init__" = some (some (.ref fi_TooMany)))
    (xt1_TooMany : PySem.W.typeIn K (.ref fi_TooMany) = some (.type "function"))
    (xk_TooMany : PySem.W.keepIn K (.ref C_TooMany) = true)
    (xb_TooMany : PySem.W.subIn K (.ref C_TooMany) (.type "BaseException") = some true)
    (xty_TooMany : PySem.W.typeIn K (.ref C_TooMany) = some (.type "type"))
    (xh_TooMany : PySem.W.hasDictIn K C_TooMany = true)
    (xic_TooMany : PySem.W.isClsIn K C_TooMany = true)
    (xsu_TooMany : PySem.W.ks_superIn K C_TooMany C_TooMany "__init__" = some (some (.builtin "ValueError.__init__")))
    (xmc_TooMany : PySem.W.mroIn K C_TooMany (.ref C_TooMany) = some true)
    (xmv_TooMany : PySem.W.mroIn K C_TooMany (.type "ValueError") = some true)
    (xf1_TooMany : K.lookup fi_TooMany = some ⟨xc_TooMany, xo_TooMany, .func (PySem.W.ksFn "__init__" "TooMany.__init__" (PySem.GX.iA "limit" r1_TooMany r2_TooMany) (PySem.GX.iB "limit" p0_TooMany p1_TooMany p2_TooMany p3_TooMany p4_TooMany p5_TooMany q1_TooMany q2_TooMany q3_TooMany q4_TooMany) (PySem.GX.iS "limit") .none .none xdc_TooMany xpm_TooMany xa_TooMany (.ref cda_TooMany) xct_TooMany cc_TooMany), xs_TooMany⟩)
    (xcd_TooMany : PySem.W.codeIn K (.ref cda_TooMany) "TooMany.__init__" = true)
    (xhl_TooMany : (p2_TooMany.endLine == p4_TooMany.line) = true)
    (xlc_TooMany : K.lookup cda_TooMany = some ⟨xcl_TooMany, xd_TooMany, .fields xv_TooMany, xcs_TooMany⟩)
    (xv2_TooMany : xv_TooMany[2]? = some (.str xf_TooMany xt_TooMany))
    (xfl_TooMany : ((P.main.file : Str) == xf_TooMany) = true)
    (xlcc_TooMany : K.lookup cc_TooMany = some ⟨xce_TooMany, xe_TooMany, .cell (some (.ref C_TooMany)), xes_TooMany⟩)
    (xs_BadItem_BadItem : PySem.W.subIn K (.ref C_BadItem) (.ref C_BadItem) = some true)
    (xs_BadItem_BadNumber : PySem.W.subIn K (.ref C_BadItem) (.ref C_BadNumber) = some false)
    (xs_BadItem_TooMany : PySem.W.subIn K (.ref C_BadItem) (.ref C_TooMany) = some false)
    (xs_BadNumber_BadItem : PySem.W.subIn K (.ref C_BadNumber) (.ref C_BadItem) = some false)
    (xs_BadNumber_BadNumber : PySem.W.subIn K (.ref C_BadNumber) (.ref C_BadNumber) = some true)
    (xs_BadNumber_TooMany : PySem.W.subIn K (.ref C_BadNumber) (.ref C_TooMany) = some false)
    (xs_TooMany_BadItem : PySem.W.subIn K (.ref C_TooMany) (.ref C_BadItem) = some false)
    (xs_TooMany_BadNumber : PySem.W.subIn K (.ref C_TooMany) (.ref C_BadNumber) = some false)
    (xs_TooMany_TooMany : PySem.W.subIn K (.ref C_TooMany) (.ref C_TooMany) = some true)
    : ∃ fd : FuncData, (∀ (s : Shared) (v : Value), BindsTo s fd ⟨[v], []⟩ [("script", v)]) ∧ ∀ base : Heap, K.In base → base.Ns mainGlobals mg → FnG P w K mg base 20 fa fd ["script"] (spLaw K) := by
  have e := hfa.symm.trans (PySem.W.mg_of X G a_law)
  cases e
  let T : Tab := ⟨fun n => ([CW, C_BadNumber, C_BadItem, C_TooMany, O_Needs] : List Addr).getD n 0, fun n => ([f_is_span, 0, 0, 0, 0, 0, 0, 0, 0, 0, 0, 0, 0, 0, 0, 0, 0, 0, 0, 0, 0, 0, 0, 0, 0, 0, 0, 0, 0, 0, 0, 0, 0, 0, 0, 0, 0, 0, 0, 0, 0, 0, 0, 0, 0, 0, 0, 0, 0, 0, 0, 0, 0, 0, 0, 0, 0, 0, 0, 0, 0, 0, 0, 0, 0, 0, 0, 0, 0, 0, 0, 0, 0, 0, 0, 0, 0, 0, 0, 0, 0, 0, 0, 0, 0, 0, 0, 0, 0, 0, 0, 0, 0, 0, 0, 0, 0, 0, 0, 0, 0, fi_BadNumber, fi_BadItem, fi_TooMany] : List Addr).getD n 0, none⟩
  have F__law_taken := fun_mk (st := s__law_taken) l__law_taken c__law_taken k__law_taken
  have b__law_taken := F__law_taken.binds (ps := ["row", "many"]) fun _ _ _ _ _ _ us hl => match us, hl with | [_, _], _ => rfl
  have F__law_pick := fun_mk (st := s__law_pick) l__law_pick c__law_pick k__law_pick
  have b__law_pick := F__law_pick.binds (ps := ["row", "kinds"]) fun _ _ _ _ _ _ us hl => match us, hl with | [_, _], _ => rfl
  have F__law_name := fun_mk (st := s__law_name) l__law_name c__law_name k__law_name
  have b__law_name := F__law_name.binds (ps := ["row"]) fun _ _ _ _ _ _ us hl => match us, hl with | [_], _ => rfl
  have F__law_names := fun_mk (st := s__law_names) l__law_names c__law_names k__law_names
  have b__law_names := F__law_names.binds (ps := ["row", "many"]) fun _ _ _ _ _ _ us hl => match us, hl with | [_, _], _ => rfl
  have F_is_row := fun_mk (st := s_is_row) l_is_row c_is_row k_is_row
  have b_is_row := F_is_row.binds (ps := ["value"]) fun _ _ _ _ _ _ us hl => match us, hl with | [_], _ => rfl
  have F_is_name := fun_mk (st := s_is_name) l_is_name c_is_name k_is_name
  have b_is_name := F_is_name.binds (ps := ["value"]) fun _ _ _ _ _ _ us hl => match us, hl with | [_], _ => rfl
  have F_is_whole := fun_mk (st := s_is_whole) l_is_whole c_is_whole k_is_whole
  have b_is_whole := F_is_whole.binds (ps := ["value"]) fun _ _ _ _ _ _ us hl => match us, hl with | [_], _ => rfl
  have F_is_number := fun_mk (st := s_is_number) l_is_number c_is_number k_is_number
  have b_is_number := F_is_number.binds (ps := ["value", "least", "most"]) fun _ _ _ _ _ _ us hl => match us, hl with | [_, _, _], _ => rfl
  have F_is_span := fun_mk (st := s_is_span) l_is_span c_is_span k_is_span
  have b_is_span := F_is_span.binds (ps := ["value"]) fun _ _ _ _ _ _ us hl => match us, hl with | [_], _ => rfl
  have F_frozen := fun_mk (st := s_frozen) l_frozen c_frozen k_frozen
  have b_frozen := F_frozen.binds (ps := ["value"]) fun _ _ _ _ _ _ us hl => match us, hl with | [_], _ => rfl
  have F_want_row := fun_mk (st := s_want_row) l_want_row c_want_row k_want_row
  have b_want_row := F_want_row.binds (ps := ["value", "is_item", "most"]) fun _ _ _ _ _ _ us hl => match us, hl with | [_, _, _], _ => rfl
  have F__law_mixed := fun_mk (st := s__law_mixed) l__law_mixed c__law_mixed k__law_mixed
  have b__law_mixed := F__law_mixed.binds (ps := ["row", "value"]) fun _ _ _ _ _ _ us hl => match us, hl with | [_, _], _ => rfl
  have F__law_alike := fun_mk (st := s__law_alike) l__law_alike c__law_alike k__law_alike
  have b__law_alike := F__law_alike.binds (ps := ["found", "due"]) fun _ _ _ _ _ _ us hl => match us, hl with | [_, _], _ => rfl
  have F_meet := fun_mk (st := s_meet) l_meet c_meet k_meet
  have b_meet := F_meet.binds (ps := ["one", "other"]) fun _ _ _ _ _ _ us hl => match us, hl with | [_, _], _ => rfl
  have F__law_pairs := fun_mk (st := s__law_pairs) l__law_pairs c__law_pairs k__law_pairs
  have b__law_pairs := F__law_pairs.binds (ps := ["firsts", "seconds"]) fun _ _ _ _ _ _ us hl => match us, hl with | [_, _], _ => rfl
  have F__law_rows := fun_mk (st := s__law_rows) l__law_rows c__law_rows k__law_rows
  have b__law_rows := F__law_rows.binds (ps := ["many", "top"]) fun _ _ _ _ _ _ us hl => match us, hl with | [_, _], _ => rfl
  have F__law_good := fun_mk (st := s__law_good) l__law_good c__law_good k__law_good
  have b__law_good := F__law_good.binds (ps := ["spans", "ticks"]) fun _ _ _ _ _ _ us hl => match us, hl with | [_, _], _ => rfl
  have F__law_truth := fun_mk (st := s__law_truth) l__law_truth c__law_truth k__law_truth
  have b__law_truth := F__law_truth.binds (ps := ["found", "due"]) fun _ _ _ _ _ _ us hl => match us, hl with | [_, _], _ => rfl
  have F_want_number := fun_mk (st := s_want_number) l_want_number c_want_number k_want_number
  have b_want_number := F_want_number.binds (ps := ["value", "least", "most"]) fun _ _ _ _ _ _ us hl => match us, hl with | [_, _, _], _ => rfl
  have F_spans_of := fun_mk (st := s_spans_of) l_spans_of c_spans_of k_spans_of
  have b_spans_of := F_spans_of.binds (ps := ["changes", "patience", "end"]) fun _ _ _ _ _ _ us hl => match us, hl with | [_, _, _], _ => rfl
  have F__law_rest := fun_mk (st := s__law_rest) l__law_rest c__law_rest k__law_rest
  have b__law_rest := F__law_rest.binds (ps := ["row", "made", "spans", "visits", "names"]) fun _ _ _ _ _ _ us hl => match us, hl with | [_, _, _, _, _], _ => rfl
  have F_law := fun_mk (st := s_law) l_law c_law k_law
  have b_law := F_law.binds (ps := ["script"]) fun _ _ _ _ _ _ us hl => match us, hl with | [_], _ => rfl
  have F_Needs___init__ := fun_mk (st := s_Needs___init__) ml_Needs___init__ mc_Needs___init__ mk_Needs___init__
  have b_Needs___init__ := F_Needs___init__.binds (ps := ["self", "spans"]) fun _ _ _ _ _ _ us hl => match us, hl with | [_, _], _ => rfl
  have F_Needs___eq__ := fun_mk (st := s_Needs___eq__) ml_Needs___eq__ mc_Needs___eq__ mk_Needs___eq__
  have b_Needs___eq__ := F_Needs___eq__.binds (ps := ["self", "other"]) fun _ _ _ _ _ _ us hl => match us, hl with | [_, _], _ => rfl
  have F_Needs_visits := fun_mk (st := s_Needs_visits) ml_Needs_visits mc_Needs_visits mk_Needs_visits
  have b_Needs_visits := F_Needs_visits.binds (ps := ["self"]) fun _ _ _ _ _ _ us hl => match us, hl with | [_], _ => rfl
  have F_Needs_paper := fun_mk (st := s_Needs_paper) ml_Needs_paper mc_Needs_paper mk_Needs_paper
  have b_Needs_paper := F_Needs_paper.binds (ps := ["self"]) fun _ _ _ _ _ _ us hl => match us, hl with | [_], _ => rfl
  have F_Needs_is_served := fun_mk (st := s_Needs_is_served) ml_Needs_is_served mc_Needs_is_served mk_Needs_is_served
  have b_Needs_is_served := F_Needs_is_served.binds (ps := ["self", "ticks"]) fun _ _ _ _ _ _ us hl => match us, hl with | [_, _], _ => rfl
  have F_Needs_is_paper := fun_mk (st := s_Needs_is_paper) ml_Needs_is_paper mc_Needs_is_paper mk_Needs_is_paper
  have b_Needs_is_paper := F_Needs_is_paper.binds (ps := ["self", "value"]) fun _ _ _ _ _ _ us hl => match us, hl with | [_, _], _ => rfl
  have F_Needs_unserved := fun_mk (st := s_Needs_unserved) ml_Needs_unserved mc_Needs_unserved mk_Needs_unserved
  have b_Needs_unserved := F_Needs_unserved.binds (ps := ["self", "ticks"]) fun _ _ _ _ _ _ us hl => match us, hl with | [_, _], _ => rfl
  have F_Needs_late_by := fun_mk (st := s_Needs_late_by) ml_Needs_late_by mc_Needs_late_by mk_Needs_late_by
  have b_Needs_late_by := F_Needs_late_by.binds (ps := ["self", "ticks"]) fun _ _ _ _ _ _ us hl => match us, hl with | [_, _], _ => rfl
  have F_Needs_served_by := fun_mk (st := s_Needs_served_by) ml_Needs_served_by mc_Needs_served_by mk_Needs_served_by
  have b_Needs_served_by := F_Needs_served_by.binds (ps := ["self", "tick"]) fun _ _ _ _ _ _ us hl => match us, hl with | [_, _], _ => rfl
  have F_Needs_tries := fun_mk (st := s_Needs_tries) ml_Needs_tries mc_Needs_tries mk_Needs_tries
  have b_Needs_tries := F_Needs_tries.binds (ps := ["self", "row", "left", "wait"]) fun _ _ _ _ _ _ us hl => match us, hl with | [_, _, _, _], _ => rfl
  have F_Needs_gentle := fun_mk (st := s_Needs_gentle) ml_Needs_gentle mc_Needs_gentle mk_Needs_gentle
  have b_Needs_gentle := F_Needs_gentle.binds (ps := ["self", "wait"]) fun _ _ _ _ _ _ us hl => match us, hl with | [_, _], _ => rfl
  have F_Needs_without := fun_mk (st := s_Needs_without) ml_Needs_without mc_Needs_without mk_Needs_without
  have b_Needs_without := F_Needs_without.binds (ps := ["self", "at"]) fun _ _ _ _ _ _ us hl => match us, hl with | [_, _], _ => rfl
  have F_Needs_needed := fun_mk (st := s_Needs_needed) ml_Needs_needed mc_Needs_needed mk_Needs_needed
  have b_Needs_needed := F_Needs_needed.binds (ps := ["self"]) fun _ _ _ _ _ _ us hl => match us, hl with | [_], _ => rfl
  have Tx : Txt P K mg T := by
    constructor
    · exact PySem.W.mg_none_of X G z_all
    · exact PySem.W.mg_none_of X G z_any
    · exact PySem.W.mg_none_of X G z_bool
    · exact PySem.W.mg_none_of X G z_enumerate
    · exact PySem.W.mg_none_of X G z_int
    · exact PySem.W.mg_none_of X G z_isinstance
    · exact PySem.W.mg_none_of X G z_len
    · exact PySem.W.mg_none_of X G z_list
    · exact PySem.W.mg_none_of X G z_max
    · exact PySem.W.mg_none_of X G z_min
    · exact PySem.W.mg_none_of X G z_range
    · exact PySem.W.mg_none_of X G z_set
    · exact PySem.W.mg_none_of X G z_sorted
    · exact PySem.W.mg_none_of X G z_str
    · exact PySem.W.mg_none_of X G z_tuple
    · exact ⟨_, PySem.W.mg_of X G n_FIGURES⟩
    · exact ⟨_, PySem.W.mg_of X G n_LAST_TICK⟩
    · exact ⟨_, PySem.W.mg_of X G n_LETTERS⟩
    · exact ⟨_, PySem.W.mg_of X G n_LONGEST_NAME⟩
    · exact ⟨_, PySem.W.mg_of X G n_MOST_SPANS⟩
    · exact ⟨_, _, F__law_taken, PySem.W.mg_of X G a__law_taken, b__law_taken⟩
    · exact ⟨_, _, F__law_pick, PySem.W.mg_of X G a__law_pick, b__law_pick⟩
    · exact ⟨_, _, F__law_name, PySem.W.mg_of X G a__law_name, b__law_name⟩
    · exact ⟨_, _, F__law_names, PySem.W.mg_of X G a__law_names, b__law_names⟩
    · exact ⟨_, _, F_is_row, PySem.W.mg_of X G a_is_row, b_is_row⟩
    · exact ⟨_, _, F_is_name, PySem.W.mg_of X G a_is_name, b_is_name⟩
    · exact ⟨_, _, F_is_whole, PySem.W.mg_of X G a_is_whole, b_is_whole⟩
    · exact ⟨_, _, F_is_number, PySem.W.mg_of X G a_is_number, b_is_number⟩
    · exact ⟨_, _, F_is_span, PySem.W.mg_of X G a_is_span, b_is_span⟩
    · exact ⟨_, _, F_frozen, PySem.W.mg_of X G a_frozen, b_frozen⟩
    · exact ⟨_, _, F_want_row, PySem.W.mg_of X G a_want_row, b_want_row⟩
    · exact ⟨_, _, F_Needs___init__, ⟨omk_Needs, ma_Needs___init__, mi_Needs___init__, okp_Needs⟩, b_Needs___init__⟩
    · exact ⟨_, _, F__law_mixed, PySem.W.mg_of X G a__law_mixed, b__law_mixed⟩
    · exact ⟨_, _, F__law_alike, PySem.W.mg_of X G a__law_alike, b__law_alike⟩
    · exact ⟨_, _, F_Needs___eq__, ⟨ma_Needs___eq__, mi_Needs___eq__, mk_Needs___eq__⟩, b_Needs___eq__, ⟨_, _, _, _, _, _, _, _, _, _, _, _, _, _, _, oxl_Needs, ook_Needs, oe1_Needs, oe2_Needs⟩⟩
    · exact ⟨_, _, F_Needs_visits, ⟨ma_Needs_visits, mi_Needs_visits, mk_Needs_visits⟩, b_Needs_visits⟩
    · exact ⟨_, _, F_Needs_paper, ⟨ma_Needs_paper, mi_Needs_paper, mk_Needs_paper⟩, b_Needs_paper⟩
    · exact ⟨_, _, F_Needs_is_served, ⟨ma_Needs_is_served, mi_Needs_is_served, mk_Needs_is_served⟩, b_Needs_is_served⟩
    · exact ⟨_, _, F_meet, PySem.W.mg_of X G a_meet, b_meet⟩
    · exact ⟨_, _, F_Needs_is_paper, ⟨ma_Needs_is_paper, mi_Needs_is_paper, mk_Needs_is_paper⟩, b_Needs_is_paper⟩
    · exact ⟨_, _, F_Needs_unserved, ⟨ma_Needs_unserved, mi_Needs_unserved, mk_Needs_unserved⟩, b_Needs_unserved⟩
    · exact ⟨_, _, F__law_pairs, PySem.W.mg_of X G a__law_pairs, b__law_pairs⟩
    · exact ⟨_, _, F__law_rows, PySem.W.mg_of X G a__law_rows, b__law_rows⟩
    · exact ⟨_, _, F__law_good, PySem.W.mg_of X G a__law_good, b__law_good⟩
    · exact ⟨_, _, F__law_truth, PySem.W.mg_of X G a__law_truth, b__law_truth⟩
    · exact ⟨_, _, F_Needs_late_by, ⟨ma_Needs_late_by, mi_Needs_late_by, mk_Needs_late_by⟩, b_Needs_late_by⟩
    · exact ⟨_, _, F_Needs_served_by, ⟨ma_Needs_served_by, mi_Needs_served_by, mk_Needs_served_by⟩, b_Needs_served_by⟩
    · exact ⟨_, _, F_Needs_tries, ⟨ma_Needs_tries, mi_Needs_tries, mk_Needs_tries⟩, b_Needs_tries⟩
    · exact ⟨_, _, F_Needs_gentle, ⟨ma_Needs_gentle, mi_Needs_gentle, mk_Needs_gentle⟩, b_Needs_gentle⟩
    · exact ⟨_, _, F_Needs_without, ⟨ma_Needs_without, mi_Needs_without, mk_Needs_without⟩, b_Needs_without⟩
    · exact ⟨_, _, F_Needs_needed, ⟨ma_Needs_needed, mi_Needs_needed, mk_Needs_needed⟩, b_Needs_needed⟩
    · exact ⟨_, _, F_want_number, PySem.W.mg_of X G a_want_number, b_want_number⟩
    · exact ⟨_, _, F_spans_of, PySem.W.mg_of X G a_spans_of, b_spans_of⟩
    · exact ⟨_, _, F__law_rest, PySem.W.mg_of X G a__law_rest, b__law_rest⟩
    · exact ⟨_, _, F_law, PySem.W.mg_of X G a_law, b_law⟩
    · exact ⟨opg_Needs, ohd_Needs, opo_Needs, osa_Needs⟩
    · exact PySem.W.mg_of X G og_Needs
    · exact ona_Needs_spans
    · refine ⟨fun c hc => ?_, osp, otk, fun c hc c2 hc2 ne => ?_⟩
      · simp only [List.mem_cons, List.not_mem_nil, or_false] at hc
        rcases hc with rfl
        · exact ⟨oic_Needs, oty_Needs, ⟨opg_Needs, ohd_Needs, opo_Needs, osa_Needs⟩, ocl_Needs, omr_Needs⟩
      · simp only [List.mem_cons, List.not_mem_nil, or_false] at hc hc2
        rcases hc with rfl <;> rcases hc2 with rfl
        · exact absurd rfl ne
    · exact PySem.W.mg_of X G a_is_span
    · exact ⟨PySem.W.mg_of X G g_BadItem, { cls := ⟨_, _, _, _, _, _, _, _, _, _, _, _, _, _, _, xl_BadItem, rfl⟩, sa := xsa_BadItem, noN := xn_BadItem_index, iC := xi_BadItem, tC := xt1_BadItem, kC := xk_BadItem, exC := xb_BadItem, tyC := xty_BadItem, hdC := xh_BadItem, gS := PySem.W.mg_none_of X G zsup, op := op, su := xsu_BadItem, mC := xmc_BadItem, mV := xmv_BadItem, fn := ⟨_, _, _, _, _, _, _, _, _, _, _, _, _, _, _, _, _, _, _, _, _, _, xf1_BadItem, xcd_BadItem, xhl_BadItem, ⟨_, _, _, _, _, _, xlc_BadItem, xv2_BadItem, xfl_BadItem⟩, ⟨_, _, _, xlcc_BadItem⟩⟩, top := tops }⟩
    · exact ⟨xga_BadItem, xgg_BadItem, xb_BadItem, xh_BadItem⟩
    · exact xn_BadItem_index
    · exact ⟨PySem.W.mg_of X G g_BadNumber, { cls := ⟨_, _, _, _, _, _, _, _, _, _, _, _, _, _, _, xl_BadNumber, rfl⟩, sa := xsa_BadNumber, noN := xn_BadNumber_value, iC := xi_BadNumber, tC := xt1_BadNumber, kC := xk_BadNumber, exC := xb_BadNumber, tyC := xty_BadNumber, hdC := xh_BadNumber, gS := PySem.W.mg_none_of X G zsup, op := op, su := xsu_BadNumber, mC := xmc_BadNumber, mV := xmv_BadNumber, fn := ⟨_, _, _, _, _, _, _, _, _, _, _, _, _, _, _, _, _, _, _, _, _, _, xf1_BadNumber, xcd_BadNumber, xhl_BadNumber, ⟨_, _, _, _, _, _, xlc_BadNumber, xv2_BadNumber, xfl_BadNumber⟩, ⟨_, _, _, xlcc_BadNumber⟩⟩, top := tops }⟩
    · exact ⟨xga_BadNumber, xgg_BadNumber, xb_BadNumber, xh_BadNumber⟩
    · exact xn_BadNumber_value
    · exact ⟨PySem.W.mg_of X G g_TooMany, { cls := ⟨_, _, _, _, _, _, _, _, _, _, _, _, _, _, _, xl_TooMany, rfl⟩, sa := xsa_TooMany, noN := xn_TooMany_limit, iC := xi_TooMany, tC := xt1_TooMany, kC := xk_TooMany, exC := xb_TooMany, tyC := xty_TooMany, hdC := xh_TooMany, gS := PySem.W.mg_none_of X G zsup, op := op, su := xsu_TooMany, mC := xmc_TooMany, mV := xmv_TooMany, fn := ⟨_, _, _, _, _, _, _, _, _, _, _, _, _, _, _, _, _, _, _, _, _, _, xf1_TooMany, xcd_TooMany, xhl_TooMany, ⟨_, _, _, _, _, _, xlc_TooMany, xv2_TooMany, xfl_TooMany⟩, ⟨_, _, _, xlcc_TooMany⟩⟩, top := tops }⟩
    · exact ⟨xga_TooMany, xgg_TooMany, xb_TooMany, xh_TooMany⟩
    · exact xn_TooMany_limit
    · simp only [List.mem_cons, List.not_mem_nil, or_false]
      rintro p (rfl | rfl | rfl)
      · exact exm_of xb_BadItem xic_BadItem xty_BadItem xs_BadNumber_BadItem
      · exact exm_of xb_BadItem xic_BadItem xty_BadItem xs_BadItem_BadItem
      · exact exm_of xb_BadItem xic_BadItem xty_BadItem xs_TooMany_BadItem
    · simp only [List.mem_cons, List.not_mem_nil, or_false]
      rintro p (rfl | rfl | rfl)
      · exact exm_of xb_BadNumber xic_BadNumber xty_BadNumber xs_BadNumber_BadNumber
      · exact exm_of xb_BadNumber xic_BadNumber xty_BadNumber xs_BadItem_BadNumber
      · exact exm_of xb_BadNumber xic_BadNumber xty_BadNumber xs_TooMany_BadNumber
    · simp only [List.mem_cons, List.not_mem_nil, or_false]
      rintro p (rfl | rfl | rfl)
      · exact exm_of xb_TooMany xic_TooMany xty_TooMany xs_BadNumber_TooMany
      · exact exm_of xb_TooMany xic_TooMany xty_TooMany xs_BadItem_TooMany
      · exact exm_of xb_TooMany xic_TooMany xty_TooMany xs_TooMany_TooMany
  refine ⟨PySem.W.fnOf "law" "law" (defArgs s_law) (defBody s_law) (defScope s_law) .none kV_law dc_law pm_law an_law cd_law ct_law, fun s v => .of_eq rfl, fun base _ _ => ?_⟩
  exact (FnOk_law Tx F_law).imp law_sp
theorem walk {l : PySem.W.OpenLaw} {qq : Program} {loose : List Str} {XP : (Str → Option Value) → Heap → Prop} {YP : World → Heap → Prop} {d : DefRec} {K : Params → PySem.W.Frag} (hn : l.most = some 63) (hdf : d.params.defaults = [])
    (hY : ∀ (w : World) (h : Heap), YP w h → (K w.params).In h)
    (F : ∀ (w : World) (mg : Str → Option Value) (fa : Addr) (h : Heap), (K w.params).In h → h.Ns mainGlobals mg → mg d.name = some (.ref fa) →
      ∃ fd : FuncData, (∀ (s : Shared) (u : Value), BindsTo s fd ⟨[u], []⟩ [("script", u)]) ∧ ∀ base : Heap, (K w.params).In base → base.Ns mainGlobals mg → FnG l.prog w (K w.params) mg base 20 fa fd ["script"] (spLaw (K w.params))) :
    PySem.W.WalkO qq loose XP YP l.row.toRowW d [] (fun f vs => PySem.call f vs) :=
  walk_ofG (n := 63) (k := 20) (x := "script") (sp := fun w => spLaw (K w.params)) hn (by decide) hdf ⟨⟨rfl, by decide, by decide⟩, rfl⟩ hY F (fun _ _ a ns hl _ hS => ⟨a, ns, rfl, hS, hl, fun _ => rfl⟩)
end Qk21
open PySem PySem.W PyProof.Rows
set_option maxRecDepth 100000 in
set_option maxHeartbeats 0 in
theorem PySem.Challenge.cw_gentleweb_k21_whole_visits_holds : PySem.Challenge.rw_gentleweb_k21_whole_visits.Holds := by
  w_on; o_law; k_head; (case hw => w_witness2)
  k_fill
  refine Qk21.walk (l := PySem.Challenge.rw_gentleweb_k21_whole_visits) rfl rfl (fun w h Y => PySem.W.kIn_of Y) ?F
  case F =>
    intro w mg fa h KX G hmg
    refine' Qk21.all_mk KX G hmg ?a__law_taken ?l__law_taken ?c__law_taken ?k__law_taken ?a__law_pick ?l__law_pick ?c__law_pick ?k__law_pick ?a__law_name ?l__law_name ?c__law_name ?k__law_name ?a__law_names ?l__law_names ?c__law_names ?k__law_names ?a_is_row ?l_is_row ?c_is_row ?k_is_row ?a_is_name ?l_is_name ?c_is_name ?k_is_name ?a_is_whole ?l_is_whole ?c_is_whole ?k_is_whole ?a_is_number ?l_is_number ?c_is_number ?k_is_number ?a_is_span ?l_is_span ?c_is_span ?k_is_span ?a_frozen ?l_frozen ?c_frozen ?k_frozen ?a_want_row ?l_want_row ?c_want_row ?k_want_row ?a__law_mixed ?l__law_mixed ?c__law_mixed ?k__law_mixed ?a__law_alike ?l__law_alike ?c__law_alike ?k__law_alike ?a_meet ?l_meet ?c_meet ?k_meet ?a__law_pairs ?l__law_pairs ?c__law_pairs ?k__law_pairs ?a__law_rows ?l__law_rows ?c__law_rows ?k__law_rows ?a__law_good ?l__law_good ?c__law_good ?k__law_good ?a__law_truth ?l__law_truth ?c__law_truth ?k__law_truth ?a_want_number ?l_want_number ?c_want_number ?k_want_number ?a_spans_of ?l_spans_of ?c_spans_of ?k_spans_of ?a__law_rest ?l__law_rest ?c__law_rest ?k__law_rest ?a_law ?l_law ?c_law ?k_law ?og_Needs ?opg_Needs ?ohd_Needs ?opo_Needs ?osa_Needs ?ona_Needs_spans ?ma_Needs___init__ ?mi_Needs___init__ ?ml_Needs___init__ ?mc_Needs___init__ ?mk_Needs___init__ ?omk_Needs ?okp_Needs ?ma_Needs___eq__ ?mi_Needs___eq__ ?ml_Needs___eq__ ?mc_Needs___eq__ ?mk_Needs___eq__ ?ma_Needs_visits ?mi_Needs_visits ?ml_Needs_visits ?mc_Needs_visits ?mk_Needs_visits ?ma_Needs_paper ?mi_Needs_paper ?ml_Needs_paper ?mc_Needs_paper ?mk_Needs_paper ?ma_Needs_is_served ?mi_Needs_is_served ?ml_Needs_is_served ?mc_Needs_is_served ?mk_Needs_is_served ?ma_Needs_is_paper ?mi_Needs_is_paper ?ml_Needs_is_paper ?mc_Needs_is_paper ?mk_Needs_is_paper ?ma_Needs_unserved ?mi_Needs_unserved ?ml_Needs_unserved ?mc_Needs_unserved ?mk_Needs_unserved ?ma_Needs_late_by ?mi_Needs_late_by ?ml_Needs_late_by ?mc_Needs_late_by ?mk_Needs_late_by ?ma_Needs_served_by ?mi_Needs_served_by ?ml_Needs_served_by ?mc_Needs_served_by ?mk_Needs_served_by ?ma_Needs_tries ?mi_Needs_tries ?ml_Needs_tries ?mc_Needs_tries ?mk_Needs_tries ?ma_Needs_gentle ?mi_Needs_gentle ?ml_Needs_gentle ?mc_Needs_gentle ?mk_Needs_gentle ?ma_Needs_without ?mi_Needs_without ?ml_Needs_without ?mc_Needs_without ?mk_Needs_without ?ma_Needs_needed ?mi_Needs_needed ?ml_Needs_needed ?mc_Needs_needed ?mk_Needs_needed ?oxl_Needs ?ook_Needs ?oe1_Needs ?oe2_Needs ?oic_Needs ?oty_Needs ?ocl_Needs ?omr_Needs ?osp ?otk ?z_all ?z_any ?z_bool ?z_enumerate ?z_int ?z_isinstance ?z_len ?z_list ?z_max ?z_min ?z_range ?z_set ?z_sorted ?z_str ?z_tuple ?n_FIGURES ?n_LAST_TICK ?n_LETTERS ?n_LONGEST_NAME ?n_MOST_SPANS ?op ?zsup ?tops ?g_BadItem ?xl_BadItem ?xsa_BadItem ?xga_BadItem ?xgg_BadItem ?xn_BadItem_index ?xi_BadItem ?xt1_BadItem ?xk_BadItem ?xb_BadItem ?xty_BadItem ?xh_BadItem ?xic_BadItem ?xsu_BadItem ?xmc_BadItem ?xmv_BadItem ?xf1_BadItem ?xcd_BadItem ?xhl_BadItem ?xlc_BadItem ?xv2_BadItem ?xfl_BadItem ?xlcc_BadItem ?g_BadNumber ?xl_BadNumber ?xsa_BadNumber ?xga_BadNumber ?xgg_BadNumber ?xn_BadNumber_value ?xi_BadNumber ?xt1_BadNumber ?xk_BadNumber ?xb_BadNumber ?xty_BadNumber ?xh_BadNumber ?xic_BadNumber ?xsu_BadNumber ?xmc_BadNumber ?xmv_BadNumber ?xf1_BadNumber ?xcd_BadNumber ?xhl_BadNumber ?xlc_BadNumber ?xv2_BadNumber ?xfl_BadNumber ?xlcc_BadNumber ?g_TooMany ?xl_TooMany ?xsa_TooMany ?xga_TooMany ?xgg_TooMany ?xn_TooMany_limit ?xi_TooMany ?xt1_TooMany ?xk_TooMany ?xb_TooMany ?xty_TooMany ?xh_TooMany ?xic_TooMany ?xsu_TooMany ?xmc_TooMany ?xmv_TooMany ?xf1_TooMany ?xcd_TooMany ?xhl_TooMany ?xlc_TooMany ?xv2_TooMany ?xfl_TooMany ?xlcc_TooMany ?xs_BadItem_BadItem ?xs_BadItem_BadNumber ?xs_BadItem_TooMany ?xs_BadNumber_BadItem ?xs_BadNumber_BadNumber ?xs_BadNumber_TooMany ?xs_TooMany_BadItem ?xs_TooMany_BadNumber ?xs_TooMany_TooMany
    (case a__law_taken => k_is)
    (case l__law_taken => k_is)
    (case c__law_taken => k_is)
    (case k__law_taken => k_is)
    (case a__law_pick => k_is)
    (case l__law_pick => k_is)
    (case c__law_pick => k_is)
    (case k__law_pick => k_is)
    (case a__law_name => k_is)
    (case l__law_name => k_is)
    (case c__law_name => k_is)
    (case k__law_name => k_is)
    (case a__law_names => k_is)
    (case l__law_names => k_is)
    (case c__law_names => k_is)
    (case k__law_names => k_is)
    (case a_is_row => k_is)
    (case l_is_row => k_is)
    (case c_is_row => k_is)
    (case k_is_row => k_is)
    (case a_is_name => k_is)
    (case l_is_name => k_is)
    (case c_is_name => k_is)
    (case k_is_name => k_is)
    (case a_is_whole => k_is)
    (case l_is_whole => k_is)
    (case c_is_whole => k_is)
    (case k_is_whole => k_is)
    (case a_is_number => k_is)
    (case l_is_number => k_is)
    (case c_is_number => k_is)
    (case k_is_number => k_is)
    (case a_is_span => k_is)
    (case l_is_span => k_is)
    (case c_is_span => k_is)
    (case k_is_span => k_is)
    (case a_frozen => k_is)
    (case l_frozen => k_is)
    (case c_frozen => k_is)
    (case k_frozen => k_is)
    (case a_want_row => k_is)
    (case l_want_row => k_is)
    (case c_want_row => k_is)
    (case k_want_row => k_is)
    (case a__law_mixed => k_is)
    (case l__law_mixed => k_is)
    (case c__law_mixed => k_is)
    (case k__law_mixed => k_is)
    (case a__law_alike => k_is)
    (case l__law_alike => k_is)
    (case c__law_alike => k_is)
    (case k__law_alike => k_is)
    (case a_meet => k_is)
    (case l_meet => k_is)
    (case c_meet => k_is)
    (case k_meet => k_is)
    (case a__law_pairs => k_is)
    (case l__law_pairs => k_is)
    (case c__law_pairs => k_is)
    (case k__law_pairs => k_is)
    (case a__law_rows => k_is)
    (case l__law_rows => k_is)
    (case c__law_rows => k_is)
    (case k__law_rows => k_is)
    (case a__law_good => k_is)
    (case l__law_good => k_is)
    (case c__law_good => k_is)
    (case k__law_good => k_is)
    (case a__law_truth => k_is)
    (case l__law_truth => k_is)
    (case c__law_truth => k_is)
    (case k__law_truth => k_is)
    (case a_want_number => k_is)
    (case l_want_number => k_is)
    (case c_want_number => k_is)
    (case k_want_number => k_is)
    (case a_spans_of => k_is)
    (case l_spans_of => k_is)
    (case c_spans_of => k_is)
    (case k_spans_of => k_is)
    (case a__law_rest => k_is)
    (case l__law_rest => k_is)
    (case c__law_rest => k_is)
    (case k__law_rest => k_is)
    (case a_law => k_is)
    (case l_law => k_is)
    (case c_law => k_is)
    (case k_law => k_is)
    (case og_Needs => k_is)
    (case opg_Needs => k_is)
    (case ohd_Needs => k_is)
    (case opo_Needs => k_is)
    (case osa_Needs => k_is)
    (case ona_Needs_spans => k_is)
    (case ma_Needs___init__ => k_is)
    (case mi_Needs___init__ => k_is)
    (case ml_Needs___init__ => k_is)
    (case mc_Needs___init__ => k_is)
    (case mk_Needs___init__ => k_is)
    (case omk_Needs => k_is)
    (case okp_Needs => k_is)
    (case ma_Needs___eq__ => k_is)
    (case mi_Needs___eq__ => k_is)
    (case ml_Needs___eq__ => k_is)
    (case mc_Needs___eq__ => k_is)
    (case mk_Needs___eq__ => k_is)
    (case ma_Needs_visits => k_is)
    (case mi_Needs_visits => k_is)
    (case ml_Needs_visits => k_is)
    (case mc_Needs_visits => k_is)
    (case mk_Needs_visits => k_is)
    (case ma_Needs_paper => k_is)
    (case mi_Needs_paper => k_is)
    (case ml_Needs_paper => k_is)
    (case mc_Needs_paper => k_is)
    (case mk_Needs_paper => k_is)
    (case ma_Needs_is_served => k_is)
    (case mi_Needs_is_served => k_is)
    (case ml_Needs_is_served => k_is)
    (case mc_Needs_is_served => k_is)
    (case mk_Needs_is_served => k_is)
    (case ma_Needs_is_paper => k_is)
    (case mi_Needs_is_paper => k_is)
    (case ml_Needs_is_paper => k_is)
    (case mc_Needs_is_paper => k_is)
    (case mk_Needs_is_paper => k_is)
    (case ma_Needs_unserved => k_is)
    (case mi_Needs_unserved => k_is)
    (case ml_Needs_unserved => k_is)
    (case mc_Needs_unserved => k_is)
    (case mk_Needs_unserved => k_is)
    (case ma_Needs_late_by => k_is)
    (case mi_Needs_late_by => k_is)
    (case ml_Needs_late_by => k_is)
    (case mc_Needs_late_by => k_is)
    (case mk_Needs_late_by => k_is)
    (case ma_Needs_served_by => k_is)
    (case mi_Needs_served_by => k_is)
    (case ml_Needs_served_by => k_is)
    (case mc_Needs_served_by => k_is)
    (case mk_Needs_served_by => k_is)
    (case ma_Needs_tries => k_is)
    (case mi_Needs_tries => k_is)
    (case ml_Needs_tries => k_is)
    (case mc_Needs_tries => k_is)
    (case mk_Needs_tries => k_is)
    (case ma_Needs_gentle => k_is)
    (case mi_Needs_gentle => k_is)
    (case ml_Needs_gentle => k_is)
    (case mc_Needs_gentle => k_is)
    (case mk_Needs_gentle => k_is)
    (case ma_Needs_without => k_is)
    (case mi_Needs_without => k_is)
    (case ml_Needs_without => k_is)
    (case mc_Needs_without => k_is)
    (case mk_Needs_without => k_is)
    (case ma_Needs_needed => k_is)
    (case mi_Needs_needed => k_is)
    (case ml_Needs_needed => k_is)
    (case mc_Needs_needed => k_is)
    (case mk_Needs_needed => k_is)
    (case oxl_Needs => k_is)
    (case ook_Needs => kernel_rfl)
    (case oe1_Needs => k_is)
    (case oe2_Needs => k_is)
    (case oic_Needs => k_is)
    (case oty_Needs => k_is)
    (case ocl_Needs => k_is)
    (case omr_Needs => k_is)
    (case osp => k_is)
    (case otk => k_is)
    (case z_all => k_is)
    (case z_any => k_is)
    (case z_bool => k_is)
    (case z_enumerate => k_is)
    (case z_int => k_is)
    (case z_isinstance => k_is)
    (case z_len => k_is)
    (case z_list => k_is)
    (case z_max => k_is)
    (case z_min => k_is)
    (case z_range => k_is)
    (case z_set => k_is)
    (case z_sorted => k_is)
    (case z_str => k_is)
    (case z_tuple => k_is)
    (case n_FIGURES => k_is)
    (case n_LAST_TICK => k_is)
    (case n_LETTERS => k_is)
    (case n_LONGEST_NAME => k_is)
    (case n_MOST_SPANS => k_is)
    (case op => k_is)
    (case zsup => k_is)
    (case tops => rfl)
    (case g_BadItem => k_is)
    (case xl_BadItem => k_is)
    (case xsa_BadItem => k_is)
    (case xga_BadItem => k_is)
    (case xgg_BadItem => k_is)
    (case xn_BadItem_index => k_is)
    (case xi_BadItem => k_is)
    (case xt1_BadItem => k_is)
    (case xk_BadItem => k_is)
    (case xb_BadItem => k_is)
    (case xty_BadItem => k_is)
    (case xh_BadItem => k_is)
    (case xic_BadItem => k_is)
    (case xsu_BadItem => kernel_rfl)
    (case xmc_BadItem => k_is)
    (case xmv_BadItem => k_is)
    (case xf1_BadItem => k_is)
    (case xcd_BadItem => k_is)
    (case xhl_BadItem => rfl)
    (case xlc_BadItem => k_is)
    (case xv2_BadItem => rfl)
    (case xfl_BadItem => kernel_rfl)
    (case xlcc_BadItem => k_is)
    (case g_BadNumber => k_is)
    (case xl_BadNumber => k_is)
    (case xsa_BadNumber => k_is)
    (case xga_BadNumber => k_is)
    (case xgg_BadNumber => k_is)
    (case xn_BadNumber_value => k_is)
    (case xi_BadNumber => k_is)
    (case xt1_BadNumber => k_is)
    (case xk_BadNumber => k_is)
    (case xb_BadNumber => k_is)
    (case xty_BadNumber => k_is)
    (case xh_BadNumber => k_is)
    (case xic_BadNumber => k_is)
    (case xsu_BadNumber => kernel_rfl)
    (case xmc_BadNumber => k_is)
    (case xmv_BadNumber => k_is)
    (case xf1_BadNumber => k_is)
    (case xcd_BadNumber => k_is)
    (case xhl_BadNumber => rfl)
    (case xlc_BadNumber => k_is)
    (case xv2_BadNumber => rfl)
    (case xfl_BadNumber => kernel_rfl)
    (case xlcc_BadNumber => k_is)
    (case g_TooMany => k_is)
    (case xl_TooMany => k_is)
    (case xsa_TooMany => k_is)
    (case xga_TooMany => k_is)
    (case xgg_TooMany => k_is)
    (case xn_TooMany_limit => k_is)
    (case xi_TooMany => k_is)
    (case xt1_TooMany => k_is)
    (case xk_TooMany => k_is)
    (case xb_TooMany => k_is)
    (case xty_TooMany => k_is)
    (case xh_TooMany => k_is)
    (case xic_TooMany => k_is)
    (case xsu_TooMany => kernel_rfl)
    (case xmc_TooMany => k_is)
    (case xmv_TooMany => k_is)
    (case xf1_TooMany => k_is)
    (case xcd_TooMany => k_is)
    (case xhl_TooMany => rfl)
    (case xlc_TooMany => k_is)
    (case xv2_TooMany => rfl)
    (case xfl_TooMany => kernel_rfl)
    (case xlcc_TooMany => k_is)
    (case xs_BadItem_BadItem => k_is)
    (case xs_BadItem_BadNumber => k_is)
    (case xs_BadItem_TooMany => k_is)
    (case xs_BadNumber_BadItem => k_is)
    (case xs_BadNumber_BadNumber => k_is)
    (case xs_BadNumber_TooMany => k_is)
    (case xs_TooMany_BadItem => k_is)
    (case xs_TooMany_BadNumber => k_is)
    (case xs_TooMany_TooMany => k_is)
