import PyProof.Rows.All
import HandS.ForMost
import HandS.ForExc
import HandS.CallSlots
import HandS.TryMany
import HandS.TryOnly
import HandS.Wide
import HandS.Deep
import HandS.Flow
import HandS.ExcField
import HandS.TupAny
import HandS.IsInst
import HandS.Conv
import HandS.Small
import KE.KExcSuper
import KE.KSuper
import HandS.ExcInit
import HandS.Words
import HandS.WordsExc
import HandS.ExcOwn
import HandS.More
import HandS.Style
import PySem.Challenge.RW_gentleweb_k10_whole_fractions
set_option Elab.async false
set_option linter.all false
set_option maxRecDepth 100000
set_option maxHeartbeats 4000000
namespace G
open PySem PySem.Spec PyProof.Rows L2

/-! ## data, objects, stores, results -/
/-- the built-in classes -/
inductive BT where
  | none | bool | int | str | list | tuple | dict
  deriving DecidableEq, Inhabited
def BT.name : BT → String
  | .none => "NoneType" | .bool => "bool" | .int => "int" | .str => "str" | .list => "list" | .tuple => "tuple" | .dict => "dict"
inductive Da where
  | non | bl (b : Bool) | int (i : Int) | str (x : Str)
  | lst (ds : List Da) | tup (ds : List Da)
  | scr (ns : List Int)
  | ins (c : Nat) (fs : List (Str × Da))
  | fn (k : Nat)
  | ty (b : BT)
  | cls (k : Nat)
  | exv (c : Nat) (fs : List (Str × Da))
  | ref (n : Nat)
  deriving Inhabited
inductive Ob where
  | lst (ds : List Da)
  | ins (c : Nat) (fs : List (Str × Da))
  | gone
  deriving Inhabited
abbrev Sto := List Ob
abbrev Env := List (Option Da)
inductive Rs (α : Type) where
  | ok (a : α) (S : Sto)
  | exc (c : Nat) (fs : List (Str × Da)) (S : Sto)
  | bad
def Rs.bind {α β : Type} (r : Rs α) (k : α → Sto → Rs β) : Rs β := match r with
  | .ok a S => k a S
  | .exc c fs S => .exc c fs S
  | .bad => .bad
inductive Fl where
  | nx (ε : Env) (S : Sto)
  | rt (d : Da) (S : Sto)
  | bk (ε : Env) (S : Sto)
  | ct (ε : Env) (S : Sto)
  | ex (c : Nat) (fs : List (Str × Da)) (ε : Env) (S : Sto)
  | bad
abbrev E := Env → Sto → Rs Da
abbrev TeE := Env → Sto → Rs Bool
abbrev Es := Env → Sto → Rs (List Da)
abbrev Sm := Env → Sto → Fl

/-- classes and functions by number -/
structure Tab where
  cls : Nat → Addr
  fnA : Nat → Addr
  /-- the exception that is handled: where it stands, its class, its dict -/
  cur : Option (Addr × Value × Option Addr) := none
/-- a view of the heap: the addresses of the store's objects, the hidden ones, the abstract heap -/
structure Hv where
  m : List (Option Addr)
  B : List Addr
  H : Hp
def Hv.free (h : Hv) (a : Addr) : Prop := some a ∉ h.m ∧ a ∉ h.B
def SL (K : PySem.W.Frag) (h : Hv) (a : Addr) (xs : List V) : Prop :=
  (Rd h.H a (.lst xs) ∧ h.free a) ∨ ∃ (o : Obj) (its : Array Value) (n : Nat), K.lookup a = some o ∧ o.cls = .type "list" ∧ o.dict = none ∧ o.data = .seq its n ∧ its.size ≤ sizeLine ∧ Vals xs its.toList
def ST (K : PySem.W.Frag) (h : Hv) (a : Addr) (xs : List V) : Prop :=
  (Rd h.H a (.tup xs) ∧ h.free a) ∨ ∃ (o : Obj) (its : Array Value) (n : Nat), K.lookup a = some o ∧ o.cls = .type "tuple" ∧ o.data = .seq its n ∧ its.size ≤ sizeLine ∧ Vals xs its.toList
mutual
inductive RV (K : PySem.W.Frag) (T : Tab) (h : Hv) : V → Da → Prop
  | non : RV K T h .non .non
  | bl (b : Bool) : RV K T h (.bl b) (.bl b)
  | int (i : Int) : RV K T h (.int i) (.int i)
  | str (x : Str) : RV K T h (.str x) (.str x)
  | lst {a : Addr} {xs : List V} {ds : List Da} : h.H a = some (.lst xs) → h.free a → RVs K T h xs ds → RV K T h (.ref a) (.lst ds)
  | scr {a : Addr} {ns : List Int} : SL K h a (ns.map V.int) → RV K T h (.ref a) (.scr ns)
  | tup {a : Addr} {xs : List V} {ds : List Da} : ST K h a xs → RVs K T h xs ds → RV K T h (.ref a) (.tup ds)
  | ins {a dx : Addr} {gs : List (Str × V)} {c : Nat} {fs : List (Str × Da)} : h.H a = some (.ins (T.cls c) dx gs) → h.free a → RVf K T h gs fs → RV K T h (.ref a) (.ins c fs)
  | fn (k : Nat) : RV K T h (.ref (T.fnA k)) (.fn k)
  | ty (b : BT) : RV K T h (.ty b.name) (.ty b)
  | cls (k : Nat) : RV K T h (.ref (T.cls k)) (.cls k)
  | ref {v : V} {n : Nat} {o : Option Addr} : h.m[n]? = some o → (∀ a, o = some a → v = .ref a) → RV K T h v (.ref n)
inductive RVs (K : PySem.W.Frag) (T : Tab) (h : Hv) : List V → List Da → Prop
  | nil : RVs K T h [] []
  | cons {v : V} {vs : List V} {d : Da} {ds : List Da} : RV K T h v d → RVs K T h vs ds → RVs K T h (v :: vs) (d :: ds)
inductive RVf (K : PySem.W.Frag) (T : Tab) (h : Hv) : List (Str × V) → List (Str × Da) → Prop
  | nil : RVf K T h [] []
  | cons {f : Str} {v : V} {vs : List (Str × V)} {d : Da} {ds : List (Str × Da)} : RV K T h v d → RVf K T h vs ds → RVf K T h ((f, v) :: vs) ((f, d) :: ds)
end
structure Grow (h h' : Hv) : Prop where
  B : h'.B = h.B
  slot : ∀ (n : Nat) (o : Option Addr), h.m[n]? = some o → h'.m[n]? = some o ∨ h'.m[n]? = some none
  keep : ∀ (a : Addr) (o : HO), h.H a = some o → some a ∉ h.m → h'.H a = some o ∧ some a ∉ h'.m
theorem Grow.refl (h : Hv) : Grow h h := ⟨rfl, fun _ _ e => .inl e, fun _ _ e n => ⟨e, n⟩⟩
theorem Grow.trans {h1 h2 h3 : Hv} (a : Grow h1 h2) (b : Grow h2 h3) : Grow h1 h3 where
  B := b.B.trans a.B
  slot := fun n o e => by
    rcases a.slot n o e with e1 | e1
    · exact b.slot n o e1
    · rcases b.slot n _ e1 with e2 | e2 <;> exact .inr e2
  keep := fun a' o e n => let ⟨e1, n1⟩ := a.keep a' o e n; b.keep a' o e1 n1
theorem Grow.free {h h' : Hv} (g : Grow h h') {a : Addr} {o : HO} (e : h.H a = some o) (f : h.free a) : h'.H a = some o ∧ h'.free a :=
  let ⟨e1, n1⟩ := g.keep a o e f.1; ⟨e1, n1, by rw [g.B]; exact f.2⟩
/-- what stands by itself stays -/
structure Ext (h h' : Hv) : Prop where
  slot : ∀ (n : Nat) (o : Option Addr), h.m[n]? = some o → h'.m[n]? = some o ∨ h'.m[n]? = some none
  keep : ∀ (a : Addr) (o : HO), h.H a = some o → h.free a → h'.H a = some o ∧ h'.free a
theorem Grow.ext {h h' : Hv} (g : Grow h h') : Ext h h' := ⟨g.slot, fun _ _ e f => g.free e f⟩
instance {h h' : Hv} : Coe (Grow h h') (Ext h h') := ⟨Grow.ext⟩
theorem Ext.refl (h : Hv) : Ext h h := ⟨fun _ _ e => .inl e, fun _ _ e n => ⟨e, n⟩⟩
theorem Ext.trans {h1 h2 h3 : Hv} (a : Ext h1 h2) (b : Ext h2 h3) : Ext h1 h3 where
  slot := fun n o e => by
    rcases a.slot n o e with e1 | e1
    · exact b.slot n o e1
    · rcases b.slot n _ e1 with e2 | e2 <;> exact .inr e2
  keep := fun a' o e n => let ⟨e1, n1⟩ := a.keep a' o e n; b.keep a' o e1 n1
theorem SL.mono {K : PySem.W.Frag} {h h' : Hv} {a : Addr} {xs : List V} (g : Ext h h') : SL K h a xs → SL K h' a xs
  | .inl ⟨.inl e, f⟩ => let ⟨e1, f1⟩ := g.keep _ _ e f; .inl ⟨.inl e1, f1⟩
  | .inl ⟨.inr ⟨o, e⟩, f⟩ => let ⟨e1, f1⟩ := g.keep _ _ e f; .inl ⟨.inr ⟨o, e1⟩, f1⟩
  | .inr w => .inr w
theorem ST.mono {K : PySem.W.Frag} {h h' : Hv} {a : Addr} {xs : List V} (g : Ext h h') : ST K h a xs → ST K h' a xs
  | .inl ⟨.inl e, f⟩ => let ⟨e1, f1⟩ := g.keep _ _ e f; .inl ⟨.inl e1, f1⟩
  | .inl ⟨.inr ⟨o, e⟩, f⟩ => let ⟨e1, f1⟩ := g.keep _ _ e f; .inl ⟨.inr ⟨o, e1⟩, f1⟩
  | .inr w => .inr w
theorem SL.sq {K : PySem.W.Frag} {h : Hv} {a : Addr} {xs : List V} : SL K h a xs → SqL K h.H a xs
  | .inl ⟨r, _⟩ => .inl r
  | .inr w => .inr w
theorem ST.sq {K : PySem.W.Frag} {h : Hv} {a : Addr} {xs : List V} : ST K h a xs → SqT K h.H a xs
  | .inl ⟨r, _⟩ => .inl r
  | .inr w => .inr w
section
variable {K : PySem.W.Frag} {T : Tab} {h h' : Hv}
mutual
theorem RV.mono (g : Ext h h') : ∀ {v : V} {d : Da}, RV K T h v d → RV K T h' v d
  | _, _, .non => .non
  | _, _, .bl b => .bl b
  | _, _, .int i => .int i
  | _, _, .str x => .str x
  | _, _, .lst e f r => let ⟨e1, f1⟩ := g.keep _ _ e f; .lst e1 f1 (RVs.mono g r)
  | _, _, .scr s => .scr (s.mono g)
  | _, _, .tup s r => .tup (s.mono g) (RVs.mono g r)
  | _, _, .ins e f r => let ⟨e1, f1⟩ := g.keep _ _ e f; .ins e1 f1 (RVf.mono g r)
  | _, _, .fn k => .fn k
  | _, _, .ty k => .ty k
  | _, _, .cls k => .cls k
  | _, _, .ref (n := n) (o := o) e q => by
    rcases g.slot n o e with e1 | e1
    · exact .ref e1 q
    · exact .ref e1 fun a z => by cases z
theorem RVs.mono (g : Ext h h') : ∀ {vs : List V} {ds : List Da}, RVs K T h vs ds → RVs K T h' vs ds
  | _, _, .nil => .nil
  | _, _, .cons r t => .cons (RV.mono g r) (RVs.mono g t)
theorem RVf.mono (g : Ext h h') : ∀ {vs : List (Str × V)} {ds : List (Str × Da)}, RVf K T h vs ds → RVf K T h' vs ds
  | _, _, .nil => .nil
  | _, _, .cons r t => .cons (RV.mono g r) (RVf.mono g t)
end
theorem RVs.length : ∀ {vs : List V} {ds : List Da}, RVs K T h vs ds → vs.length = ds.length
  | _, _, .nil => rfl
  | _, _, .cons _ t => congrArg (· + 1) (RVs.length t)
theorem RVs.get : ∀ {vs : List V} {ds : List Da} {i : Nat} {d : Da}, RVs K T h vs ds → ds[i]? = some d → ∃ v, vs[i]? = some v ∧ RV K T h v d
  | _, _, _, _, .nil, e => by simp at e
  | _, _, 0, _, .cons r _, e => by simp at e; subst e; exact ⟨_, rfl, r⟩
  | _, _, i + 1, d, .cons _ t, e => by
    obtain ⟨v, h1, h2⟩ := RVs.get (i := i) (d := d) t (by simpa using e)
    exact ⟨v, by simpa using h1, h2⟩
theorem RVs.get' : ∀ {vs : List V} {ds : List Da} {i : Nat} {v : V}, RVs K T h vs ds → vs[i]? = some v → ∃ d, ds[i]? = some d ∧ RV K T h v d
  | _, _, _, _, .nil, e => by simp at e
  | _, _, 0, _, .cons r _, e => by simp at e; subst e; exact ⟨_, rfl, r⟩
  | _, _, i + 1, d, .cons _ t, e => by
    obtain ⟨v, h1, h2⟩ := RVs.get' (i := i) (v := d) t (by simpa using e)
    exact ⟨v, by simpa using h1, h2⟩
theorem RVs.append : ∀ {vs ws : List V} {ds es : List Da}, RVs K T h vs ds → RVs K T h ws es → RVs K T h (vs ++ ws) (ds ++ es)
  | _, _, _, _, .nil, s => s
  | _, _, _, _, .cons r t, s => .cons r (RVs.append t s)
theorem RVs.take : ∀ {vs : List V} {ds : List Da} (n : Nat), RVs K T h vs ds → RVs K T h (vs.take n) (ds.take n)
  | _, _, 0, _ => .nil
  | _, _, _ + 1, .nil => .nil
  | _, _, n + 1, .cons r t => .cons r (RVs.take n t)
theorem RVs.drop : ∀ {vs : List V} {ds : List Da} (n : Nat), RVs K T h vs ds → RVs K T h (vs.drop n) (ds.drop n)
  | _, _, 0, r => r
  | _, _, _ + 1, .nil => .nil
  | _, _, n + 1, .cons _ t => RVs.drop n t
theorem RVs.set {v : V} {d : Da} (r : RV K T h v d) : ∀ {vs : List V} {ds : List Da} (i : Nat), RVs K T h vs ds → RVs K T h (vs.set i v) (ds.set i d)
  | _, _, _, .nil => .nil
  | _, _, 0, .cons _ t => .cons r t
  | _, _, i + 1, .cons q t => .cons q (RVs.set r i t)
theorem RVs.snoc {vs : List V} {ds : List Da} {v : V} {d : Da} (a : RVs K T h vs ds) (b : RV K T h v d) : RVs K T h (vs ++ [v]) (ds ++ [d]) := a.append (.cons b .nil)
theorem RVs.ints : ∀ {vs : List V} {ns : List Int}, RVs K T h vs (ns.map Da.int) → vs = ns.map V.int
  | _, [], .nil => rfl
  | _, n :: ns, .cons r t => by cases r; rw [RVs.ints t]; rfl
theorem RVs.of_ints : ∀ (ns : List Int), RVs K T h (ns.map V.int) (ns.map Da.int)
  | [] => .nil
  | n :: ns => .cons (.int n) (RVs.of_ints ns)
end

def ObR (K : PySem.W.Frag) (T : Tab) (h : Hv) (a : Addr) : Ob → Prop
  | .lst ds => ∃ xs, h.H a = some (.lst xs) ∧ RVs K T h xs ds
  | .ins c fs => ∃ dx gs, h.H a = some (.ins (T.cls c) dx gs) ∧ RVf K T h gs fs
  | .gone => False
structure HeapR (K : PySem.W.Frag) (T : Tab) (h : Hv) (S : Sto) : Prop where
  len : h.m.length = S.length
  nd : ∀ (i j : Nat) (a : Addr), h.m[i]? = some (some a) → h.m[j]? = some (some a) → i = j
  ob : ∀ (n : Nat) (a : Addr) (ob : Ob), h.m[n]? = some (some a) → S[n]? = some ob → ObR K T h a ob
  gone : ∀ (n : Nat), h.m[n]? = some none → S[n]? = some .gone
  hid : ∀ a ∈ h.B, some a ∉ h.m ∧ h.H a ≠ none
theorem ObR.some {K : PySem.W.Frag} {T : Tab} {h : Hv} {a : Addr} {ob : Ob} (r : ObR K T h a ob) : ∃ o, h.H a = some o := by
  cases ob with
  | lst ds => obtain ⟨xs, e, _⟩ := r; exact ⟨_, e⟩
  | ins c fs => obtain ⟨dx, gs, e, _⟩ := r; exact ⟨_, e⟩
  | gone => exact r.elim
section
variable {K : PySem.W.Frag} {T : Tab} {h h' : Hv} {S : Sto}
theorem HeapR.tracked (r : HeapR K T h S) {a : Addr} (e : some a ∈ h.m) : ∃ o, h.H a = some o := by
  obtain ⟨n, hn⟩ := List.getElem?_of_mem e
  have hl : n < S.length := by rw [← r.len]; exact (List.getElem?_eq_some_iff.mp hn).1
  exact (r.ob n a S[n] hn (by simp [hl])).some
/-- a fresh address is free -/
theorem HeapR.fresh (r : HeapR K T h S) {p : Addr} (hp : h.H p = none) : h.free p := by
  refine ⟨fun e => ?_, fun e => (r.hid p e).2 hp⟩
  obtain ⟨o, q⟩ := r.tracked e
  rw [hp] at q; cases q
/-- a new object that is a value -/
theorem grow_new (hp : h.H p = none) (o : HO) : Grow h { h with H := upd h.H p o } where
  B := rfl
  slot := fun _ _ e => .inl e
  keep := fun a u e n => ⟨by show upd h.H p o a = _; rw [upd_ne (ne_of_none e hp)]; exact e, n⟩
theorem ObR.mono {a : Addr} {ob : Ob} (g : Ext h h') (e : h'.H a = h.H a) (r : ObR K T h a ob) : ObR K T h' a ob := by
  cases ob with
  | lst ds => obtain ⟨xs, q, t⟩ := r; exact ⟨xs, e.trans q, t.mono g⟩
  | ins c fs => obtain ⟨dx, gs, q, t⟩ := r; exact ⟨dx, gs, e.trans q, t.mono g⟩
  | gone => exact r
theorem HeapR.new (r : HeapR K T h S) {p : Addr} (hp : h.H p = none) (o : HO) : HeapR K T { h with H := upd h.H p o } S where
  len := r.len
  nd := r.nd
  ob := fun n a ob e s => (r.ob n a ob e s).mono (grow_new hp o) (by
    obtain ⟨u, q⟩ := (r.ob n a ob e s).some
    exact upd_ne (ne_of_none q hp))
  gone := r.gone
  hid := fun a e => ⟨(r.hid a e).1, by
    show upd h.H p o a ≠ none
    by_cases z : a = p
    · subst z; rw [upd_same]; exact fun q => nomatch q
    · rw [upd_ne z]; exact (r.hid a e).2⟩
/-- .. and a mutable one -/
theorem grow_alloc (hp : h.H p = none) (o : HO) : Grow h { m := h.m ++ [some p], B := h.B, H := upd h.H p o } where
  B := rfl
  slot := fun n u e => .inl (by
    show (h.m ++ [some p])[n]? = some u
    rw [List.getElem?_append_left (List.getElem?_eq_some_iff.mp e).1]; exact e)
  keep := fun a u e n => by
    have ne := ne_of_none e hp
    refine ⟨by show upd h.H p o a = _; rw [upd_ne ne]; exact e, fun z => ?_⟩
    have z' : some a ∈ h.m ++ [some p] := z
    rcases List.mem_append.mp z' with z | z
    · exact n z
    · simp at z; exact ne z
theorem HeapR.alloc (r : HeapR K T h S) {p : Addr} (hp : h.H p = none) (o : HO) {ob : Ob} (q : ObR K T { m := h.m ++ [some p], B := h.B, H := upd h.H p o } p ob) :
    HeapR K T { m := h.m ++ [some p], B := h.B, H := upd h.H p o } (S ++ [ob]) where
  len := by simp [r.len]
  nd := fun i j a e1 e2 => by
    have key : ∀ k, (h.m ++ [some p])[k]? = some (some a) → h.m[k]? = some (some a) ∨ (k = h.m.length ∧ a = p) := fun k e => by
      by_cases hk : k < h.m.length
      · rw [List.getElem?_append_left hk] at e; exact .inl e
      · rw [List.getElem?_append_right (Nat.le_of_not_lt hk)] at e
        by_cases hk0 : k - h.m.length = 0
        · rw [hk0] at e; simp at e; exact .inr ⟨by omega, e.symm⟩
        · obtain ⟨t, ht⟩ : ∃ t, k - h.m.length = t + 1 := ⟨k - h.m.length - 1, by omega⟩
          rw [ht] at e; simp at e
    have nop : ∀ k, h.m[k]? = some (some a) → a ≠ p := fun k e z => by
      have := (r.fresh hp).1; rw [← z] at this; exact this (List.mem_of_getElem? e)
    rcases key i e1 with h1 | ⟨h1, h1'⟩ <;> rcases key j e2 with h2 | ⟨h2, h2'⟩
    · exact r.nd i j a h1 h2
    · exact absurd h2' (nop i h1)
    · exact absurd h1' (nop j h2)
    · rw [h1, h2]
  ob := fun n a ob' e s => by
    by_cases hn : n < h.m.length
    · have e' : h.m[n]? = some (some a) := by
        have e'' : (h.m ++ [some p])[n]? = some (some a) := e
        rw [List.getElem?_append_left hn] at e''; exact e''
      have s' : S[n]? = some ob' := by rw [List.getElem?_append_left (by rw [← r.len]; exact hn)] at s; exact s
      have x := r.ob n a ob' e' s'
      obtain ⟨u, qu⟩ := x.some
      exact x.mono (grow_alloc hp o) (upd_ne (ne_of_none qu hp))
    · have e' : (h.m ++ [some p])[n]? = some (some a) := e
      rw [List.getElem?_append_right (Nat.le_of_not_lt hn)] at e'
      rw [List.getElem?_append_right (by rw [← r.len]; exact Nat.le_of_not_lt hn), ← r.len] at s
      cases hk : n - h.m.length with
      | zero => rw [hk] at e' s; simp at e' s; subst e'; subst s; exact q
      | succ t => rw [hk] at e'; simp at e'
  gone := fun n e => by
    have e' : (h.m ++ [some p])[n]? = some none := e
    by_cases hn : n < h.m.length
    · rw [List.getElem?_append_left hn] at e'
      rw [List.getElem?_append_left (by rw [← r.len]; exact hn)]
      exact r.gone n e'
    · rw [List.getElem?_append_right (Nat.le_of_not_lt hn)] at e'
      cases hk : n - h.m.length with
      | zero => rw [hk] at e'; simp at e'
      | succ t => rw [hk] at e'; simp at e'
  hid := fun a e => by
    obtain ⟨h1, h2⟩ := r.hid a e
    have ne : a ≠ p := fun z => by subst z; exact h2 hp
    refine ⟨fun z => ?_, by show upd h.H p o a ≠ none; rw [upd_ne ne]; exact h2⟩
    rcases List.mem_append.mp (show some a ∈ h.m ++ [some p] from z) with z | z
    · exact h1 z
    · simp at z; exact ne z
/-- a mutable object changes -/
theorem grow_write (r : HeapR K T h S) {n : Nat} {a : Addr} (hn : h.m[n]? = some (some a)) (o : HO) : Grow h { h with H := upd h.H a o } where
  B := rfl
  slot := fun _ _ e => .inl e
  keep := fun b u e nb => ⟨by
    show upd h.H a o b = _
    rw [upd_ne (fun z => by subst z; exact nb (List.mem_of_getElem? hn))]; exact e, nb⟩
theorem HeapR.write (r : HeapR K T h S) {n : Nat} {a : Addr} (hn : h.m[n]? = some (some a)) (o : HO) {ob : Ob} (q : ObR K T { h with H := upd h.H a o } a ob) :
    HeapR K T { h with H := upd h.H a o } (S.set n ob) where
  len := by simp [r.len]
  nd := r.nd
  ob := fun k b ob' e s => by
    by_cases hk : k = n
    · subst hk
      have e' : h.m[k]? = some (some b) := e
      rw [hn] at e'; cases e'
      have hl : k < S.length := by rw [← r.len]; exact (List.getElem?_eq_some_iff.mp hn).1
      rw [List.getElem?_set_self hl] at s; cases s
      exact q
    · rw [List.getElem?_set_ne (Ne.symm hk)] at s
      have ne : b ≠ a := fun z => by subst z; exact hk (r.nd k n b e hn)
      exact (r.ob k b ob' e s).mono (grow_write r hn o) (upd_ne ne)
  gone := fun k e => by
    by_cases hk : k = n
    · subst hk
      have e' : h.m[k]? = some none := e
      rw [hn] at e'; cases e'
    · rw [List.getElem?_set_ne (Ne.symm hk)]
      exact r.gone k e
  hid := fun b e => ⟨(r.hid b e).1, by
    show upd h.H a o b ≠ none
    rw [upd_ne (fun z => by subst z; exact (r.hid b e).1 (List.mem_of_getElem? hn))]
    exact (r.hid b e).2⟩
end
/-- the record of an exception -/
def XR (K : PySem.W.Frag) (T : Tab) (h : Hv) (cls : Value) (dd : Option Addr) (c : Nat) (fs : List (Str × Da)) : Prop :=
  cls = .ref (T.cls c) ∧ ((dd = none ∧ fs = []) ∨ ∃ d gs, dd = some d ∧ h.H d = some (.xd gs) ∧ h.free d ∧ RVf K T h gs fs)
theorem XR.mono {K : PySem.W.Frag} {T : Tab} {h h' : Hv} {cls : Value} {dd : Option Addr} {c : Nat} {fs : List (Str × Da)} (g : Ext h h') (x : XR K T h cls dd c fs) : XR K T h' cls dd c fs := by
  obtain ⟨e, r⟩ := x
  refine ⟨e, ?_⟩
  rcases r with r | ⟨d, gs, e1, e2, f, r⟩
  · exact .inl r
  · obtain ⟨e3, f3⟩ := g.keep _ _ e2 f
    exact .inr ⟨d, gs, e1, e3, f3, r.mono g⟩
def isExv : Da → Bool
  | .exv _ _ => true
  | _ => false
/-- what a slot holds -/
def SlotR (K : PySem.W.Frag) (T : Tab) (h : Hv) (o : Option (Option V)) (d : Da) : Prop :=
  (isExv d = false ∧ ∃ v, o = some (some v) ∧ RV K T h v d) ∨ ∃ a cls dd c fs, d = .exv c fs ∧ T.cur = some (a, cls, dd) ∧ o = some (some (.ref a)) ∧ XR K T h cls dd c fs
theorem SlotR.mono {K : PySem.W.Frag} {T : Tab} {h h' : Hv} {o : Option (Option V)} {d : Da} (g : Ext h h') : SlotR K T h o d → SlotR K T h' o d
  | .inl ⟨n, v, e, r⟩ => .inl ⟨n, v, e, r.mono g⟩
  | .inr ⟨a, cls, dd, c, fs, e, e1, e2, x⟩ => .inr ⟨a, cls, dd, c, fs, e, e1, e2, x.mono g⟩
theorem RV.notX {K : PySem.W.Frag} {T : Tab} {h : Hv} {v : V} {d : Da} (r : RV K T h v d) : isExv d = false := by cases r <;> rfl
def EnvR (K : PySem.W.Frag) (T : Tab) (h : Hv) (σ : L2.St) (ε : Env) : Prop :=
  σ.length = ε.length ∧ ∀ (i : Nat) (d : Da), ε[i]? = some (some d) → SlotR K T h σ[i]? d
theorem EnvR.mono {K : PySem.W.Frag} {T : Tab} {h h' : Hv} {σ : L2.St} {ε : Env} (g : Ext h h') (e : EnvR K T h σ ε) : EnvR K T h' σ ε :=
  ⟨e.1, fun i d q => (e.2 i d q).mono g⟩
theorem EnvR.put {K : PySem.W.Frag} {T : Tab} {h : Hv} {σ : L2.St} {ε : Env} (e : EnvR K T h σ ε) {v : V} {d : Da} (i : Nat) (r : SlotR K T h (some (some v)) d) : EnvR K T h (σ.set i (some v)) (ε.set i (some d)) := by
  refine ⟨by simp [e.1], fun j d' q => ?_⟩
  by_cases hj : j = i
  · subst hj
    by_cases hl : j < ε.length
    · rw [List.getElem?_set_self hl] at q; cases q
      rw [List.getElem?_set_self (by rw [e.1]; exact hl)]; exact r
    · rw [List.getElem?_eq_none (by simpa using hl)] at q; cases q
  · rw [List.getElem?_set_ne (Ne.symm hj)] at q
    rw [List.getElem?_set_ne (Ne.symm hj)]
    exact e.2 j d' q
theorem EnvR.set {K : PySem.W.Frag} {T : Tab} {h : Hv} {σ : L2.St} {ε : Env} (e : EnvR K T h σ ε) {v : V} {d : Da} (r : RV K T h v d) (i : Nat) : EnvR K T h (σ.set i (some v)) (ε.set i (some d)) :=
  e.put i (.inl ⟨r.notX, v, rfl, r⟩)
theorem EnvR.unset {K : PySem.W.Frag} {T : Tab} {h : Hv} {σ : L2.St} {ε : Env} (e : EnvR K T h σ ε) (i : Nat) (o : Option V) : EnvR K T h (σ.set i o) (ε.set i none) := by
  refine ⟨by simp [e.1], fun j d' q => ?_⟩
  by_cases hj : j = i
  · subst hj
    by_cases hl : j < ε.length
    · rw [List.getElem?_set_self hl] at q; cases q
    · rw [List.getElem?_eq_none (by simpa using hl)] at q; cases q
  · rw [List.getElem?_set_ne (Ne.symm hj)] at q
    rw [List.getElem?_set_ne (Ne.symm hj)]
    exact e.2 j d' q
/-! ### another exception at hand: values don't see it -/
section
variable {K : PySem.W.Frag} {T T' : Tab} {h : Hv}
mutual
theorem RV.retab (c : T'.cls = T.cls) (f : T'.fnA = T.fnA) : ∀ {v : V} {d : Da}, RV K T h v d → RV K T' h v d
  | _, _, .non => .non
  | _, _, .bl b => .bl b
  | _, _, .int i => .int i
  | _, _, .str x => .str x
  | _, _, .lst e g r => .lst e g (RVs.retab c f r)
  | _, _, .scr s => .scr s
  | _, _, .tup s r => .tup s (RVs.retab c f r)
  | _, _, .ins e g r => .ins (by rw [c]; exact e) g (RVf.retab c f r)
  | _, _, .fn k => by rw [← f]; exact .fn k
  | _, _, .ty k => .ty k
  | _, _, .cls k => by rw [← c]; exact .cls k
  | _, _, .ref e q => .ref e q
theorem RVs.retab (c : T'.cls = T.cls) (f : T'.fnA = T.fnA) : ∀ {vs : List V} {ds : List Da}, RVs K T h vs ds → RVs K T' h vs ds
  | _, _, .nil => .nil
  | _, _, .cons r t => .cons (RV.retab c f r) (RVs.retab c f t)
theorem RVf.retab (c : T'.cls = T.cls) (f : T'.fnA = T.fnA) : ∀ {vs : List (Str × V)} {ds : List (Str × Da)}, RVf K T h vs ds → RVf K T' h vs ds
  | _, _, .nil => .nil
  | _, _, .cons r t => .cons (RV.retab c f r) (RVf.retab c f t)
end
theorem HeapR.retab {S : Sto} (c : T'.cls = T.cls) (f : T'.fnA = T.fnA) (r : HeapR K T h S) : HeapR K T' h S :=
  ⟨r.len, r.nd, fun n a ob e s => by
    have x := r.ob n a ob e s
    cases ob with
    | lst ds => obtain ⟨xs, q, t⟩ := x; exact ⟨xs, q, t.retab c f⟩
    | ins k fs => obtain ⟨dx, gs, q, t⟩ := x; exact ⟨dx, gs, by rw [c]; exact q, t.retab c f⟩
    | gone => exact x, r.gone, r.hid⟩
theorem XR.retab {cls : Value} {dd : Option Addr} {k : Nat} {fs : List (Str × Da)} (c : T'.cls = T.cls) (f : T'.fnA = T.fnA) (x : XR K T h cls dd k fs) : XR K T' h cls dd k fs := by
  obtain ⟨e, r⟩ := x
  refine ⟨by rw [c]; exact e, ?_⟩
  rcases r with r | ⟨d, gs, e1, e2, f', r⟩
  · exact .inl r
  · exact .inr ⟨d, gs, e1, e2, f', r.retab c f⟩
end
/-! ### freezing, and leaving a scope -/
section
variable {K : PySem.W.Frag} {T : Tab} {h h' : Hv} {S S' : Sto}
theorem grow_freeze {n : Nat} : Grow h { h with m := h.m.set n none } where
  B := rfl
  slot := fun k o e => by
    by_cases hk : k = n
    · subst hk; right
      exact List.getElem?_set_self (List.getElem?_eq_some_iff.mp e).1
    · left; exact (List.getElem?_set_ne (Ne.symm hk)).trans e
  keep := fun a o e f => ⟨e, fun z => by
    rcases List.mem_or_eq_of_mem_set (show some a ∈ h.m.set n none from z) with z | z
    · exact f z
    · cases z⟩
theorem HeapR.freeze (r : HeapR K T h S) (n : Nat) : HeapR K T { h with m := h.m.set n none } (S.set n .gone) where
  len := by simp [r.len]
  nd := fun i j a e1 e2 => by
    have key : ∀ k, (h.m.set n none)[k]? = some (some a) → h.m[k]? = some (some a) := fun k e => by
      by_cases hk : k = n
      · subst hk
        by_cases hl : k < h.m.length
        · rw [List.getElem?_set_self hl] at e; cases e
        · rw [List.getElem?_eq_none (by simpa using hl)] at e; cases e
      · rw [List.getElem?_set_ne (Ne.symm hk)] at e; exact e
    exact r.nd i j a (key i e1) (key j e2)
  ob := fun k a ob e s => by
    by_cases hk : k = n
    · subst hk
      have e' : (h.m.set k none)[k]? = some (some a) := e
      by_cases hl : k < h.m.length
      · rw [List.getElem?_set_self hl] at e'; cases e'
      · rw [List.getElem?_eq_none (by simpa using hl)] at e'; cases e'
    · have e' : (h.m.set n none)[k]? = some (some a) := e
      rw [List.getElem?_set_ne (Ne.symm hk)] at e' s
      exact (r.ob k a ob e' s).mono (h' := { h with m := h.m.set n none }) grow_freeze.ext rfl
  gone := fun k e => by
    by_cases hk : k = n
    · subst hk
      have e' : (h.m.set k none)[k]? = some none := e
      by_cases hl : k < h.m.length
      · exact List.getElem?_set_self (by rw [← r.len]; exact hl)
      · rw [List.getElem?_eq_none (by simpa using hl)] at e'; cases e'
    · have e' : (h.m.set n none)[k]? = some none := e
      rw [List.getElem?_set_ne (Ne.symm hk)] at e' ⊢
      exact r.gone k e'
  hid := fun a e => by
    refine ⟨fun z => ?_, (r.hid a e).2⟩
    rcases List.mem_or_eq_of_mem_set (show some a ∈ h.m.set n none from z) with z | z
    · exact (r.hid a e).1 z
    · cases z
end
mutual
/-- no object of the store at n or behind it -/
def belowD (n : Nat) : Da → Bool
  | .lst ds => belowDs n ds
  | .tup ds => belowDs n ds
  | .ins _ fs => belowDf n fs
  | .ref k => decide (k < n)
  | .exv _ _ => false
  | _ => true
def belowDs (n : Nat) : List Da → Bool
  | [] => true
  | d :: ds => belowD n d && belowDs n ds
def belowDf (n : Nat) : List (Str × Da) → Bool
  | [] => true
  | d :: ds => belowD n d.2 && belowDf n ds
end
def belowO (n : Nat) : Ob → Bool
  | .lst ds => belowDs n ds
  | .ins _ fs => belowDf n fs
  | .gone => true
section
variable {K : PySem.W.Frag} {T : Tab} {h h' : Hv} {S S' : Sto}
mutual
theorem RV.belo : ∀ {d : Da} {v : V}, RV K T h v d → belowD h.m.length d = true
  | _, _, .non => rfl
  | _, _, .bl b => rfl
  | _, _, .int i => rfl
  | _, _, .str x => rfl
  | _, _, .lst e g r => RVs.belo r
  | _, _, .scr s => rfl
  | _, _, .tup s r => RVs.belo r
  | _, _, .ins e g r => RVf.belo r
  | _, _, .fn k => rfl
  | _, _, .ty k => rfl
  | _, _, .cls k => rfl
  | _, _, .ref e q => decide_eq_true (List.getElem?_eq_some_iff.mp e).1
theorem RVs.belo : ∀ {ds : List Da} {vs : List V}, RVs K T h vs ds → belowDs h.m.length ds = true
  | _, _, .nil => rfl
  | _, _, .cons r t => by simp only [belowDs, Bool.and_eq_true]; exact ⟨RV.belo r, RVs.belo t⟩
theorem RVf.belo : ∀ {ds : List (Str × Da)} {vs : List (Str × V)}, RVf K T h vs ds → belowDf h.m.length ds = true
  | _, _, .nil => rfl
  | _, _, .cons r t => by simp only [belowDf, Bool.and_eq_true]; exact ⟨RV.belo r, RVf.belo t⟩
end
theorem SL.cut {n : Nat} {a : Addr} {xs : List V} : SL K h a xs → SL K { h with m := h.m.take n } a xs
  | .inl ⟨e, f1, f2⟩ => .inl ⟨e, fun z => f1 (List.mem_of_mem_take z), f2⟩
  | .inr w => .inr w
theorem ST.cut {n : Nat} {a : Addr} {xs : List V} : ST K h a xs → ST K { h with m := h.m.take n } a xs
  | .inl ⟨e, f1, f2⟩ => .inl ⟨e, fun z => f1 (List.mem_of_mem_take z), f2⟩
  | .inr w => .inr w
mutual
theorem RV.cut {n : Nat} : ∀ {d : Da} {v : V}, RV K T h v d → belowD n d = true → RV K T { h with m := h.m.take n } v d
  | _, _, .non, _ => .non
  | _, _, .bl b, _ => .bl b
  | _, _, .int i, _ => .int i
  | _, _, .str x, _ => .str x
  | _, _, .lst e g r, b => .lst e ⟨fun z => g.1 (List.mem_of_mem_take z), g.2⟩ (RVs.cut r (by simpa [belowD] using b))
  | _, _, .scr s, _ => .scr s.cut
  | _, _, .tup s r, b => .tup s.cut (RVs.cut r (by simpa [belowD] using b))
  | _, _, .ins e g r, b => .ins e ⟨fun z => g.1 (List.mem_of_mem_take z), g.2⟩ (RVf.cut r (by simpa [belowD] using b))
  | _, _, .fn k, _ => .fn k
  | _, _, .ty k, _ => .ty k
  | _, _, .cls k, _ => .cls k
  | _, _, .ref (n := k) e q, b => .ref (by
      have hk : k < n := by simpa [belowD] using b
      show (h.m.take n)[k]? = _
      rw [List.getElem?_take_of_lt hk]; exact e) q
theorem RVs.cut {n : Nat} : ∀ {ds : List Da} {vs : List V}, RVs K T h vs ds → belowDs n ds = true → RVs K T { h with m := h.m.take n } vs ds
  | _, _, .nil, _ => .nil
  | _, _, .cons r t, b => by
    simp only [belowDs, Bool.and_eq_true] at b
    exact .cons (RV.cut r b.1) (RVs.cut t b.2)
theorem RVf.cut {n : Nat} : ∀ {ds : List (Str × Da)} {vs : List (Str × V)}, RVf K T h vs ds → belowDf n ds = true → RVf K T { h with m := h.m.take n } vs ds
  | _, _, .nil, _ => .nil
  | _, _, .cons r t, b => by
    simp only [belowDf, Bool.and_eq_true] at b
    exact .cons (RV.cut r b.1) (RVf.cut t b.2)
end
def ScopeOk (S S' : Sto) : Prop := S.length ≤ S'.length ∧ ∀ i, i < S.length → S'[i]? = S[i]? ∨ ∃ ob, S'[i]? = some ob ∧ belowO S.length ob = true
theorem grow_cut (r : HeapR K T h S) (g : Grow h h') : Grow h { h' with m := h'.m.take S.length } where
  B := g.B
  slot := fun n o e => by
    have hn : n < S.length := by rw [← r.len]; exact (List.getElem?_eq_some_iff.mp e).1
    have t : (h'.m.take S.length)[n]? = h'.m[n]? := List.getElem?_take_of_lt hn
    rcases g.slot n o e with z | z
    · exact .inl (t.trans z)
    · exact .inr (t.trans z)
  keep := fun a o e n => let ⟨e1, n1⟩ := g.keep a o e n; ⟨e1, fun z => n1 (List.mem_of_mem_take z)⟩
theorem HeapR.cut (r : HeapR K T h S) (g : Grow h h') (r' : HeapR K T h' S') (sc : ScopeOk S S') : HeapR K T { h' with m := h'.m.take S.length } (S'.take S.length) where
  len := by show (h'.m.take S.length).length = _; rw [List.length_take, List.length_take, r'.len]
  nd := fun i j a e1 e2 => r'.nd i j a (by
      have e : (h'.m.take S.length)[i]? = some (some a) := e1
      rw [List.getElem?_take] at e; split at e <;> first | exact e | cases e) (by
      have e : (h'.m.take S.length)[j]? = some (some a) := e2
      rw [List.getElem?_take] at e; split at e <;> first | exact e | cases e)
  ob := fun n a ob e s => by
    have e' : (h'.m.take S.length)[n]? = some (some a) := e
    rw [List.getElem?_take] at e' s
    split at e'
    · rename_i hn
      rw [if_pos hn] at s
      have x := r'.ob n a ob e' s
      have bl : belowO S.length ob = true := by
        rcases sc.2 n hn with z | ⟨ob', z1, z2⟩
        · have hl : n < h.m.length := by rw [r.len]; exact hn
          rw [z] at s
          cases q : h.m[n]? with
          | none => rw [List.getElem?_eq_none_iff] at q; omega
          | some o =>
            cases o with
            | none => have := r.gone n q; rw [this] at s; cases s; rfl
            | some b =>
              have y := r.ob n b ob q s
              cases ob with
              | lst ds => obtain ⟨xs, _, t⟩ := y; rw [← r.len]; exact t.belo
              | ins c fs => obtain ⟨dx, gs, _, t⟩ := y; rw [← r.len]; exact t.belo
              | gone => exact y.elim
        · rw [s] at z1; cases z1; exact z2
      cases ob with
      | lst ds => obtain ⟨xs, q, t⟩ := x; exact ⟨xs, q, t.cut bl⟩
      | ins c fs => obtain ⟨dx, gs, q, t⟩ := x; exact ⟨dx, gs, q, t.cut bl⟩
      | gone => exact x.elim
    · cases e'
  gone := fun n e => by
    have e' : (h'.m.take S.length)[n]? = some none := e
    rw [List.getElem?_take] at e' ⊢
    split at e'
    · rename_i hn; rw [if_pos hn]; exact r'.gone n e'
    · cases e'
  hid := fun a e => ⟨fun z => (r'.hid a e).1 (List.mem_of_mem_take z), (r'.hid a e).2⟩
end
end G

namespace G
open PySem PySem.Spec PyProof.Rows L2
abbrev St := L2.St

/-! ## readings -/
section
variable {α β γ δ : Type}
def Post (K : PySem.W.Frag) (T : Tab) (W : WX) (R : Hv → β → α → Prop) (σ : St) (h : Hv) (r : Rs α) (Q : β → Hp → Prop) : Prop :=
  match r with
  | .ok a S => ∀ v h', Grow h h' → R h' v a → HeapR K T h' S → Q v h'.H
  | .exc c fs S => ∀ cls dd h', Grow h h' → XR K T h' cls dd c fs → HeapR K T h' S → W cls dd σ h'.H
  | .bad => False
def tG (K : PySem.W.Frag) (T : Tab) (W : WX) (R : Hv → β → α → Prop) (f : Env → Sto → Rs α) : St → Hp → (β → Hp → Prop) → Prop := fun σ H Q =>
  ∃ h S ε, h.H = H ∧ EnvR K T h σ ε ∧ HeapR K T h S ∧ Post K T W R σ h (f ε S) Q
variable {K : PySem.W.Frag} {T : Tab} {W : WX} {R : Hv → β → α → Prop} {R2 : Hv → δ → γ → Prop} {σ : St} {h h' : Hv} {r : Rs α} {Q Q' : β → Hp → Prop}
theorem Post.grow (g : Grow h h') (p : Post K T W R σ h r Q) : Post K T W R σ h' r Q := by
  cases r with
  | ok a S => exact fun v h2 g2 => p v h2 (g.trans g2)
  | exc c fs S => exact fun cls dd h2 g2 => p cls dd h2 (g.trans g2)
  | bad => exact p
theorem Post.imp (p : Post K T W R σ h r Q) (w : ∀ v H, Q v H → Q' v H) : Post K T W R σ h r Q' := by
  cases r with
  | ok a S => exact fun v h2 g2 r2 s2 => w _ _ (p v h2 g2 r2 s2)
  | exc c fs S => exact p
  | bad => exact p
theorem Post.bind {k : α → Sto → Rs γ} {P : δ → Hp → Prop} (p : Post K T W R2 σ h (r.bind k) P) :
    Post K T W R σ h r (fun v H1 => ∃ h1 S1 a, h1.H = H1 ∧ Grow h h1 ∧ R h1 v a ∧ HeapR K T h1 S1 ∧ Post K T W R2 σ h1 (k a S1) P) := by
  cases r with
  | ok a S => exact fun v h2 g2 r2 s2 => ⟨h2, S, a, rfl, g2, r2, s2, Post.grow g2 p⟩
  | exc c fs S => exact p
  | bad => exact p
theorem Post.ret {a : α} {S : Sto} {v : β} (p : Post K T W R σ h (.ok a S) Q) (rr : R h v a) (s : HeapR K T h S) : Q v h.H := p v h (Grow.refl h) rr s
end
abbrev REq {α : Type} : Hv → α → α → Prop := fun _ x y => x = y

abbrev EI (X : Cx) (T : Tab) (W : WX) (e : Expr) (f : E) : Prop := PE X e (tG X.K T W (RV X.K T) f)
abbrev TI' (X : Cx) (T : Tab) (W : WX) (e : Expr) (f : TeE) : Prop := PT X e (tG X.K T W REq f)
abbrev WI (X : Cx) (T : Tab) (W : WX) (e : Expr) (f : TeE) : Prop := PW X e (tG X.K T W REq f)
abbrev AI (X : Cx) (T : Tab) (W : WX) (es : List Expr) (f : Es) : Prop := PA X es (tG X.K T W (RVs X.K T) f)

theorem wkE {X : Cx} {e : Expr} {t t' : TE} (h : PE X e t) (w : ∀ σ H Q, t' σ H Q → t σ H Q) : PE X e t' := ⟨fun pins s σ H Q I q => h.run pins s σ H Q I (w σ H Q q)⟩
theorem wkT {X : Cx} {e : Expr} {t t' : TT} (h : PT X e t) (w : ∀ σ H Q, t' σ H Q → t σ H Q) : PT X e t' := ⟨fun pins s σ H Q I q => h.run pins s σ H Q I (w σ H Q q)⟩
theorem wkW {X : Cx} {e : Expr} {t t' : TT} (h : PW X e t) (w : ∀ σ H Q, t' σ H Q → t σ H Q) : PW X e t' := ⟨fun wh pins s σ H Q I q => h.run wh pins s σ H Q I (w σ H Q q)⟩
theorem wkA {X : Cx} {es : List Expr} {t t' : TA} (h : PA X es t) (w : ∀ σ H Q, t' σ H Q → t σ H Q) : PA X es t' := ⟨fun pos pins s σ H Q I q => h.run pos pins s σ H Q I (w σ H Q q)⟩
theorem wkS {X : Cx} {st : Stmt} {t t' : TS} (h : PS X st t) (w : ∀ D σ H, t' D σ H → t D σ H) : PS X st t' := ⟨fun pins s σ H D I q => h.run pins s σ H D I (w D σ H q)⟩
theorem wkSs {X : Cx} {st : List Stmt} {t t' : TS} (h : PSs X st t) (w : ∀ D σ H, t' D σ H → t D σ H) : PSs X st t' := ⟨fun pins s σ H D I q => h.run pins s σ H D I (w D σ H q)⟩

/-! ## the meanings -/
def eVar (i : Nat) : E := fun ε S => match ε[i]? with | some (some d) => (if isExv d then .bad else .ok d S) | _ => .bad
def eC (d : Da) : E := fun _ S => .ok d S
def Rs.of {α : Type} : Option (α × Sto) → Rs α
  | some (a, S) => .ok a S
  | none => .bad
/-- a value operation that changes no store -/
def pur1 (f : Da → Option Da) : Da → Sto → Option (Da × Sto) := fun x S => (f x).map fun d => (d, S)
def pur2 (f : Da → Da → Option Da) : Da → Da → Sto → Option (Da × Sto) := fun x y S => (f x y).map fun d => (d, S)
def eOp1 (g : Da → Sto → Option (Da × Sto)) (a : E) : E := fun ε S => (a ε S).bind fun x S => Rs.of (g x S)
def eOp2 (g : Da → Da → Sto → Option (Da × Sto)) (a b : E) : E := fun ε S => (a ε S).bind fun x S => (b ε S).bind fun y S => Rs.of (g x y S)
def esNil : Es := fun _ S => .ok [] S
def esCons (a : E) (b : Es) : Es := fun ε S => (a ε S).bind fun x S => (b ε S).bind fun xs S => .ok (x :: xs) S
def eOpN (g : List Da → Sto → Option (Da × Sto)) (a : Es) : E := fun ε S => (a ε S).bind fun xs S => Rs.of (g xs S)
def truth : Da → Option Bool
  | .non => some false
  | .bl b => some b
  | .int i => some (i != 0)
  | .str x => if x.length ≤ sizeLine then some ((x.length : Int) != 0) else none
  | .lst ds => some (!ds.isEmpty)
  | .tup ds => some (!ds.isEmpty)
  | .scr ns => some (!ns.isEmpty)
  | _ => none
def tOf (a : E) : TeE := fun ε S => (a ε S).bind fun x S => match truth x with | some b => .ok b S | none => .bad
def asB : Da → Option Bool
  | .bl b => some b
  | _ => none
def tBl (a : E) : TeE := fun ε S => (a ε S).bind fun x S => match asB x with | some b => .ok b S | none => .bad
def tAnd (a b : TeE) : TeE := fun ε S => (a ε S).bind fun x S => if x then b ε S else .ok false S
def tOr (a b : TeE) : TeE := fun ε S => (a ε S).bind fun x S => if x then .ok true S else b ε S
def tNot (a : TeE) : TeE := fun ε S => (a ε S).bind fun x S => .ok (!x) S
def eAnd (a b : E) : E := fun ε S => (a ε S).bind fun x S => match truth x with | some c => (if c then b ε S else .ok x S) | none => .bad
def eOr (a b : E) : E := fun ε S => (a ε S).bind fun x S => match truth x with | some c => (if c then .ok x S else b ε S) | none => .bad
def eNot (a : E) : E := fun ε S => (a ε S).bind fun x S => match truth x with | some c => .ok (.bl (!c)) S | none => .bad
def eIf (t : TeE) (a b : E) : E := fun ε S => (t ε S).bind fun x S => if x then a ε S else b ε S

section
variable {X : Cx} {T : Tab} {W : WX} {e a b c : Expr} {pos : Pos} {f g : E}
theorem i_var {i : Nat} {x : Str} (hN : X.N[i]? = some x) (hv : Vis X.env.scope x) (hd : (x == ("__debug__" : Str)) = false := by decide) (hcd : (x == ("__classdict__" : Str)) = false := by decide) : EI X T W (.Name x pos) (eVar i) :=
  wkE (pe_var hN hv hd hcd) fun σ H Q ⟨h, S, ε, e, er, hr, p⟩ => by
    cases q : ε[i]? with
    | none => simp only [eVar, q] at p; exact p.elim
    | some o =>
      cases o with
      | none => simp only [eVar, q] at p; exact p.elim
      | some d =>
        simp only [eVar, q] at p
        rcases er.2 i d q with ⟨nx, v, e1, rv⟩ | ⟨a, cls, dd, c, fs, e1, _⟩
        · rw [nx, if_neg Bool.false_ne_true] at p
          exact ⟨v, e1, by subst e; exact p.ret rv hr⟩
        · subst e1
          simp only [isExv, if_true] at p
          exact p.elim
theorem i_c {v : V} {d : Da} (h : PE X e (tC v)) (r : ∀ hv, RV X.K T hv v d) : EI X T W e (eC d) :=
  wkE h fun σ H Q ⟨h, S, ε, e, er, hr, p⟩ => by subst e; exact Post.ret (v := v) p (r h) hr
theorem i_int {i : Int} {j : Nat} : EI X T W (.Constant (.int i) j pos) (eC (.int i)) := i_c pe_int fun _ => .int i
theorem i_bl {i : Bool} {j : Nat} : EI X T W (.Constant (.bool i) j pos) (eC (.bl i)) := i_c pe_bl fun _ => .bl i
theorem i_non {j : Nat} : EI X T W (.Constant .none j pos) (eC .non) := i_c pe_non fun _ => .non
theorem i_str {x : Str} {j : Nat} : EI X T W (.Constant (.str x) j pos) (eC (.str x)) := i_c pe_str fun _ => .str x

/-! ### operators -/
def PostO (K : PySem.W.Frag) (T : Tab) (h : Hv) (o : Option (Da × Sto)) (Q : VK) : Prop :=
  match o with
  | some (d, S) => ∀ v h', Grow h h' → RV K T h' v d → HeapR K T h' S → Q v h'.H
  | none => False
theorem Post.of {K : PySem.W.Frag} {σ : St} {h : Hv} {o : Option (Da × Sto)} {Q : VK} (p : Post K T W (RV K T) σ h (Rs.of o) Q) : PostO K T h o Q := by
  cases o with
  | none => exact p
  | some q => exact p
theorem PostO.ret {K : PySem.W.Frag} {h : Hv} {d : Da} {S : Sto} {v : V} {Q : VK} (p : PostO K T h (some (d, S)) Q) (r : RV K T h v d) (s : HeapR K T h S) : Q v h.H := p v h (Grow.refl h) r s
def rD1 (K : PySem.W.Frag) (T : Tab) (g : Da → Sto → Option (Da × Sto)) : V → Hp → VK → Prop := fun x H Q => ∃ h S dx, h.H = H ∧ HeapR K T h S ∧ RV K T h x dx ∧ PostO K T h (g dx S) Q
def rD2 (K : PySem.W.Frag) (T : Tab) (g : Da → Da → Sto → Option (Da × Sto)) : R2 := fun x y H Q => ∃ h S dx dy, h.H = H ∧ HeapR K T h S ∧ RV K T h x dx ∧ RV K T h y dy ∧ PostO K T h (g dx dy S) Q
def rDN (K : PySem.W.Frag) (T : Tab) (g : List Da → Sto → Option (Da × Sto)) : List V → Hp → VK → Prop := fun xs H Q => ∃ h S ds, h.H = H ∧ HeapR K T h S ∧ RVs K T h xs ds ∧ PostO K T h (g ds S) Q
theorem OpR.imp {f : Value → Value → Sem Value} {r r' : R2} (h : OpR X f r) (w : ∀ x y H Q, r' x y H Q → r x y H Q) : OpR X f r' := fun pins s σ H x y v u Q I rx ry q => h pins s σ H x y v u Q I rx ry (w x y H Q q)
theorem UnR.imp {f : Value → Sem Value} {r r' : V → Hp → VK → Prop} (h : UnR X f r) (w : ∀ x H Q, r' x H Q → r x H Q) : UnR X f r' := fun pins s σ H x v Q I rx q => h pins s σ H x v Q I rx (w x H Q q)
theorem CallR.imp {f : Value} {r r' : List V → Hp → VK → Prop} (h : CallR X f r) (w : ∀ x H Q, r' x H Q → r x H Q) : CallR X f r' := fun pins s σ H x v Q I rx q => h pins s σ H x v Q I rx (w x H Q q)
theorem IxR.imp {r r' : R2} (h : IxR X r) (w : ∀ x y H Q, r' x y H Q → r x y H Q) : IxR X r' := fun A B pins s σ H x y v u Q I rx ry q => h A B pins s σ H x y v u Q I rx ry (w x y H Q q)

theorem lift2 {K : PySem.W.Frag} {r : R2} {ta tb : TE} {g2 : Da → Da → Sto → Option (Da × Sto)} (w : ∀ x y H Q, rD2 K T g2 x y H Q → r x y H Q) {fa fb : E} (ha : ta = tG K T W (RV K T) fa) (hb : tb = tG K T W (RV K T) fb) :
    ∀ σ H Q, tG K T W (RV K T) (eOp2 g2 fa fb) σ H Q → tOp r ta tb σ H Q := by
  subst ha; subst hb
  rintro σ H Q ⟨h, S, ε, e, er, hr, p⟩
  refine ⟨h, S, ε, e, er, hr, (Post.bind p).imp fun x H1 ⟨h1, S1, d1, e1, g1, r1, hr1, p1⟩ => ?_⟩
  refine ⟨h1, S1, ε, e1, er.mono g1, hr1, (Post.bind p1).imp fun y H2 ⟨h2, S2, d2, e2, g2, r2, hr2, p2⟩ => ?_⟩
  exact w _ _ _ _ ⟨h2, S2, d1, d2, e2, hr2, r1.mono g2, r2, p2.of⟩
theorem i_bin {op : Operator} {g2 : Da → Da → Sto → Option (Da × Sto)} (ho : OpR X (binaryOp op) (rD2 X.K T g2)) (ha : EI X T W a f) (hb : EI X T W b g) : EI X T W (.BinOp a op b pos) (eOp2 g2 f g) :=
  wkE (pe_op ho ha hb) (lift2 (fun _ _ _ _ q => q) rfl rfl)
theorem i_cmp {op : CmpOp} {g2 : Da → Da → Sto → Option (Da × Sto)} (ho : OpR X (compareOp op) (rD2 X.K T g2)) (ha : EI X T W a f) (hb : EI X T W b g) (hm : behindInMarks op b = false) : EI X T W (.Compare a [op] [b] pos) (eOp2 g2 f g) :=
  wkE (pe_cmpR ho ha hb hm) (lift2 (fun _ _ _ _ q => q) rfl rfl)
theorem i_ix {g2 : Da → Da → Sto → Option (Da × Sto)} (ho : IxR X (rD2 X.K T g2)) (ha : EI X T W a f) (hb : EI X T W b g) (hm : PlainIx b) : EI X T W (.Subscript a b pos) (eOp2 g2 f g) :=
  wkE (pe_ix ho ha hb hm) (lift2 (fun _ _ _ _ q => q) rfl rfl)
theorem i_un {op : UnaryOp} {g1 : Da → Sto → Option (Da × Sto)} (ho : UnR X (unaryOp op) (rD1 X.K T g1)) (ha : EI X T W a f) : EI X T W (.UnaryOp op a pos) (eOp1 g1 f) :=
  wkE (pe_un ho ha) fun σ H Q ⟨h, S, ε, e, er, hr, p⟩ => ⟨h, S, ε, e, er, hr, (Post.bind p).imp fun x H1 ⟨h1, S1, d1, e1, _, r1, hr1, p1⟩ => ⟨h1, S1, d1, e1, hr1, r1, p1.of⟩⟩

/-! ### tests -/
theorem i_tcmp {op : CmpOp} {g2 : Da → Da → Sto → Option (Da × Sto)} (ho : OpR X (compareOp op) (rD2 X.K T g2)) (ha : EI X T W a f) (hb : EI X T W b g) (hm : behindInMarks op b = false) : TI' X T W (.Compare a [op] [b] pos) (tBl (eOp2 g2 f g)) := by
  refine wkT (pt_cmpR ho ha hb hm) fun σ H Q ⟨h, S, ε, e, er, hr, p⟩ => ?_
  refine lift2 (K := X.K) (T := T) (W := W) (fun _ _ _ _ q => q) rfl rfl σ H _ ⟨h, S, ε, e, er, hr, (Post.bind p).imp fun x H1 ⟨h1, S1, d1, e1, _, r1, hr1, p1⟩ => ?_⟩
  cases r1 with
  | bl k => exact ⟨k, rfl, by subst e1; exact Post.ret p1 rfl hr1⟩
  | _ => exact (show False from p1).elim
theorem i_tblv (ha : EI X T W a f) (he : ∀ whole, isTrue a X.env whole = (do let v ← whole; standAt a.pos; holding [v] (truthy v)) := by intro _; rfl) : TI' X T W a (tBl f) :=
  wkT (pt_val ha he) fun σ H Q ⟨h, S, ε, e, er, hr, p⟩ => ⟨h, S, ε, e, er, hr, (Post.bind p).imp fun x H1 ⟨h1, S1, d1, e1, _, r1, hr1, p1⟩ => by
    cases r1 with
    | bl k => exact ⟨k, rfl, by subst e1; exact Post.ret p1 rfl hr1⟩
    | _ => exact (show False from p1).elim⟩
theorem truV_of {K : PySem.W.Frag} {h : Hv} {v : V} {d : Da} {k : Bool} (r : RV K T h v d) (t : truth d = some k) : TruV K v h.H k := by
  cases r with
  | non => simp only [truth, Option.some.injEq] at t; exact t.symm
  | bl b => simp only [truth, Option.some.injEq] at t; exact t.symm
  | int i => simp only [truth, Option.some.injEq] at t; exact t.symm
  | str x =>
    simp only [truth] at t
    split at t
    · rename_i hl; simp only [Option.some.injEq] at t; exact ⟨hl, t.symm⟩
    · cases t
  | lst e f rs =>
    simp only [truth, Option.some.injEq] at t
    refine .inl ⟨_, SqL.of e, ?_⟩
    rw [← t]; cases rs <;> rfl
  | scr s =>
    simp only [truth, Option.some.injEq] at t
    refine .inl ⟨_, s.sq, ?_⟩
    rw [← t]; simp
  | tup s rs =>
    simp only [truth, Option.some.injEq] at t
    refine .inr (.inl ⟨_, s.sq, ?_⟩)
    rw [← t]; cases rs <;> rfl
  | ins _ _ _ => cases t
  | fn _ => cases t
  | ty _ => cases t
  | cls _ => cases t
  | ref _ _ => cases t
theorem i_truth (ha : EI X T W a f) (he : ∀ whole, isTrue a X.env whole = (do let v ← whole; standAt a.pos; holding [v] (truthy v)) := by intro _; rfl) : TI' X T W a (tOf f) :=
  wkT (pt_truth ha he) fun σ H Q ⟨h, S, ε, e, er, hr, p⟩ => ⟨h, S, ε, e, er, hr, (Post.bind p).imp fun x H1 ⟨h1, S1, d1, e1, _, r1, hr1, p1⟩ => by
    cases q : truth d1 with
    | none => simp only [q] at p1; exact p1.elim
    | some k => simp only [q] at p1; subst e1; exact ⟨k, truV_of r1 q, Post.ret p1 rfl hr1⟩⟩
variable {t u : TeE} {rest : List Expr}
theorem i_and1 (ha : TI' X T W a t) : WI X T W (.BoolOp .And [a] pos) t := pw_and1 ha
theorem i_or1 (ha : TI' X T W a t) : WI X T W (.BoolOp .Or [a] pos) t := pw_or1 ha
theorem i_tand (ha : TI' X T W a t) (hb : WI X T W (.BoolOp .And (b :: rest) pos) u) : WI X T W (.BoolOp .And (a :: b :: rest) pos) (tAnd t u) :=
  wkW (pw_and ha hb) fun σ H Q ⟨h, S, ε, e, er, hr, p⟩ => ⟨h, S, ε, e, er, hr, (Post.bind p).imp fun x H1 ⟨h1, S1, d1, e1, g1, r1, hr1, p1⟩ => by
    have r1' : x = d1 := r1
    subst r1'
    cases x with
    | true => rw [if_pos rfl]; exact ⟨h1, S1, ε, e1, er.mono g1, hr1, p1⟩
    | false => rw [if_neg (by decide)]; subst e1; exact Post.ret p1 rfl hr1⟩
theorem i_tor (ha : TI' X T W a t) (hb : WI X T W (.BoolOp .Or (b :: rest) pos) u) : WI X T W (.BoolOp .Or (a :: b :: rest) pos) (tOr t u) :=
  wkW (pw_or ha hb) fun σ H Q ⟨h, S, ε, e, er, hr, p⟩ => ⟨h, S, ε, e, er, hr, (Post.bind p).imp fun x H1 ⟨h1, S1, d1, e1, g1, r1, hr1, p1⟩ => by
    have r1' : x = d1 := r1
    subst r1'
    cases x with
    | true => rw [if_pos rfl]; subst e1; exact Post.ret p1 rfl hr1
    | false => rw [if_neg (by decide)]; exact ⟨h1, S1, ε, e1, er.mono g1, hr1, p1⟩⟩
theorem i_tnot (ha : TI' X T W a t) : TI' X T W (.UnaryOp .Not a pos) (tNot t) :=
  wkT (pt_not ha) fun σ H Q ⟨h, S, ε, e, er, hr, p⟩ => ⟨h, S, ε, e, er, hr, (Post.bind p).imp fun x H1 ⟨h1, S1, d1, e1, g1, r1, hr1, p1⟩ => by
    have r1' : x = d1 := r1
    subst r1'; subst e1
    exact Post.ret p1 rfl hr1⟩
theorem i_w (h : WI X T W a t) : TI' X T W a t := PW.pt h
theorem i_one {op : BoolOp} (ha : EI X T W a f) : EI X T W (.BoolOp op [a] pos) f := pe_one ha
theorem i_and (ha : EI X T W a f) (hb : EI X T W (.BoolOp .And (b :: rest) pos) g) : EI X T W (.BoolOp .And (a :: b :: rest) pos) (eAnd f g) :=
  wkE (pe_andT ha hb) fun σ H Q ⟨h, S, ε, e, er, hr, p⟩ => ⟨h, S, ε, e, er, hr, (Post.bind p).imp fun x H1 ⟨h1, S1, d1, e1, g1, r1, hr1, p1⟩ => by
    cases q : truth d1 with
    | none => simp only [q] at p1; exact p1.elim
    | some k =>
      simp only [q] at p1
      refine ⟨k, by subst e1; exact truV_of r1 q, ?_⟩
      cases k with
      | true => rw [if_pos rfl]; exact ⟨h1, S1, ε, e1, er.mono g1, hr1, p1⟩
      | false => rw [if_neg (by decide)]; subst e1; exact Post.ret p1 r1 hr1⟩
theorem i_or (ha : EI X T W a f) (hb : EI X T W (.BoolOp .Or (b :: rest) pos) g) : EI X T W (.BoolOp .Or (a :: b :: rest) pos) (eOr f g) :=
  wkE (pe_orT ha hb) fun σ H Q ⟨h, S, ε, e, er, hr, p⟩ => ⟨h, S, ε, e, er, hr, (Post.bind p).imp fun x H1 ⟨h1, S1, d1, e1, g1, r1, hr1, p1⟩ => by
    cases q : truth d1 with
    | none => simp only [q] at p1; exact p1.elim
    | some k =>
      simp only [q] at p1
      refine ⟨k, by subst e1; exact truV_of r1 q, ?_⟩
      cases k with
      | true => rw [if_pos rfl]; subst e1; exact Post.ret p1 r1 hr1
      | false => rw [if_neg (by decide)]; exact ⟨h1, S1, ε, e1, er.mono g1, hr1, p1⟩⟩
theorem i_not (ha : EI X T W a f) : EI X T W (.UnaryOp .Not a pos) (eNot f) :=
  wkE (pe_notT ha) fun σ H Q ⟨h, S, ε, e, er, hr, p⟩ => ⟨h, S, ε, e, er, hr, (Post.bind p).imp fun x H1 ⟨h1, S1, d1, e1, g1, r1, hr1, p1⟩ => by
    cases q : truth d1 with
    | none => simp only [q] at p1; exact p1.elim
    | some k => simp only [q] at p1; subst e1; exact ⟨k, truV_of r1 q, Post.ret p1 (.bl _) hr1⟩⟩
theorem i_if (hc : TI' X T W c t) (ha : EI X T W a f) (hb : EI X T W b g) : EI X T W (.IfExp c a b pos) (eIf t f g) :=
  wkE (pe_ifExp hc ha hb) fun σ H Q ⟨h, S, ε, e, er, hr, p⟩ => ⟨h, S, ε, e, er, hr, (Post.bind p).imp fun x H1 ⟨h1, S1, d1, e1, g1, r1, hr1, p1⟩ => by
    have r1' : x = d1 := r1
    subst r1'
    cases x with
    | true => rw [if_pos rfl]; exact ⟨h1, S1, ε, e1, er.mono g1, hr1, p1⟩
    | false => rw [if_neg (by decide)]; exact ⟨h1, S1, ε, e1, er.mono g1, hr1, p1⟩⟩
variable {es : List Expr} {fs : Es}
theorem a_nil : AI X T W [] esNil := wkA pa_nil fun σ H Q ⟨h, S, ε, e, er, hr, p⟩ => by subst e; exact Post.ret p .nil hr
theorem a_cons (ha : EI X T W a f) (hb : AI X T W es fs) (hs : starEach (a :: es) X.env = (false, eval a X.env) :: starEach es X.env := by rfl) : AI X T W (a :: es) (esCons f fs) :=
  wkA (pa_cons ha hb hs) fun σ H Q ⟨h, S, ε, e, er, hr, p⟩ => ⟨h, S, ε, e, er, hr, (Post.bind p).imp fun x H1 ⟨h1, S1, d1, e1, g1, r1, hr1, p1⟩ =>
    ⟨h1, S1, ε, e1, er.mono g1, hr1, (Post.bind p1).imp fun y H2 ⟨h2, S2, d2, e2, g2, r2, hr2, p2⟩ => by subst e2; exact Post.ret p2 (.cons (r1.mono g2) r2) hr2⟩⟩
end
end G

namespace G
open PySem PySem.Spec PyProof.Rows L2

/-! ## == of data -/
mutual
def toPy : Da → Option PyData
  | .non => some .none
  | .bl b => some (.bool b)
  | .int i => some (.int i)
  | .str x => some (.str x)
  | .lst ds => (toPys ds).map .list
  | .tup ds => (toPys ds).map .tuple
  | _ => none
def toPys : List Da → Option (List PyData)
  | [] => some []
  | d :: ds => match toPy d, toPys ds with
    | some p, some ps => some (p :: ps)
    | _, _ => none
end
mutual
/-- Python's == of data -/
def eqv : Da → Da → Bool
  | .non, .non => true
  | .bl a, .bl b => a == b
  | .bl a, .int j => (if a then 1 else 0) == j
  | .int i, .bl b => i == (if b then 1 else 0)
  | .int i, .int j => i == j
  | .str x, .str y => x == y
  | .lst xs, .lst ys => eqvs xs ys
  | .tup xs, .tup ys => eqvs xs ys
  | _, _ => false
def eqvs : List Da → List Da → Bool
  | [], [] => true
  | x :: xs, y :: ys => eqv x y && eqvs xs ys
  | _, _ => false
end
mutual
/-- data without objects, texts in order, at most n deep -/
def shp : Nat → Da → Bool
  | _, .non => true
  | _, .bl _ => true
  | _, .int _ => true
  | _, .str x => x.cps.all (· < 0x110000)
  | n, .lst ds => decide (0 < n) && shps (n - 1) ds
  | n, .tup ds => decide (0 < n) && shps (n - 1) ds
  | _, _ => false
def shps : Nat → List Da → Bool
  | _, [] => true
  | n, d :: ds => shp n d && shps n ds
end
mutual
theorem toPy_shp : ∀ (n : Nat) (d : Da), shp n d = true → ∃ p, toPy d = some p ∧ p.canLay0 = true ∧ p.depth ≤ n
  | n, .non, _ => ⟨_, rfl, rfl, Nat.zero_le _⟩
  | n, .bl b, _ => ⟨_, rfl, rfl, Nat.zero_le _⟩
  | n, .int i, _ => ⟨_, rfl, rfl, Nat.zero_le _⟩
  | n, .str x, h => ⟨_, rfl, by simpa [PyData.canLay0, PyData.strOk, shp] using h, Nat.zero_le _⟩
  | n, .lst ds, h => by
    simp only [shp, Bool.and_eq_true, decide_eq_true_eq] at h
    obtain ⟨ps, e, c, l⟩ := toPys_shp (n - 1) ds h.2
    exact ⟨.list ps, by simp [toPy, e], by simpa [PyData.canLay0] using c, by simp only [PyData.depth]; omega⟩
  | n, .tup ds, h => by
    simp only [shp, Bool.and_eq_true, decide_eq_true_eq] at h
    obtain ⟨ps, e, c, l⟩ := toPys_shp (n - 1) ds h.2
    exact ⟨.tuple ps, by simp [toPy, e], by simpa [PyData.canLay0] using c, by simp only [PyData.depth]; omega⟩
  | n, .scr _, h => by simp [shp] at h
  | n, .ins _ _, h => by simp [shp] at h
  | n, .fn _, h => by simp [shp] at h
  | n, .ty _, h => by simp [shp] at h
  | n, .cls _, h => by simp [shp] at h
  | n, .exv _ _, h => by simp [shp] at h
  | n, .ref _, h => by simp [shp] at h
theorem toPys_shp : ∀ (n : Nat) (ds : List Da), shps n ds = true → ∃ ps, toPys ds = some ps ∧ PyData.canLayAll0 ps = true ∧ PyData.depthAll ps ≤ n
  | n, [], _ => ⟨[], rfl, rfl, Nat.zero_le _⟩
  | n, d :: ds, h => by
    simp only [shps, Bool.and_eq_true] at h
    obtain ⟨p, e, c, l⟩ := toPy_shp n d h.1
    obtain ⟨ps, e', c', l'⟩ := toPys_shp n ds h.2
    exact ⟨p :: ps, by simp [toPys, e, e'], by simp [PyData.canLayAll0, c, c'], by simp only [PyData.depthAll]; omega⟩
end
mutual
theorem eqv_toPy : ∀ (x y : Da) (p q : PyData), toPy x = some p → toPy y = some q → PyData.eqv p q = eqv x y
  | .lst xs, y, p, q, hp, hq => by
    simp only [toPy, Option.map_eq_some_iff] at hp
    obtain ⟨ps, e, rfl⟩ := hp
    cases y with
    | lst ys =>
      simp only [toPy, Option.map_eq_some_iff] at hq
      obtain ⟨qs, e', rfl⟩ := hq
      simp only [PyData.eqv, eqv]
      exact eqvs_toPy xs ys ps qs e e'
    | tup ys => simp only [toPy, Option.map_eq_some_iff] at hq; obtain ⟨qs, e', rfl⟩ := hq; simp [PyData.eqv, eqv]
    | _ => simp only [toPy] at hq <;> first | (cases hq; done) | (simp only [Option.some.injEq] at hq; subst hq; simp [PyData.eqv, eqv])
  | .tup xs, y, p, q, hp, hq => by
    simp only [toPy, Option.map_eq_some_iff] at hp
    obtain ⟨ps, e, rfl⟩ := hp
    cases y with
    | tup ys =>
      simp only [toPy, Option.map_eq_some_iff] at hq
      obtain ⟨qs, e', rfl⟩ := hq
      simp only [PyData.eqv, eqv]
      exact eqvs_toPy xs ys ps qs e e'
    | lst ys => simp only [toPy, Option.map_eq_some_iff] at hq; obtain ⟨qs, e', rfl⟩ := hq; simp [PyData.eqv, eqv]
    | _ => simp only [toPy] at hq <;> first | (cases hq; done) | (simp only [Option.some.injEq] at hq; subst hq; simp [PyData.eqv, eqv])
  | .non, y, p, q, hp, hq => by
    simp only [toPy, Option.some.injEq] at hp; subst hp
    cases y <;> simp only [toPy, Option.some.injEq, Option.map_eq_some_iff] at hq <;> first | (cases hq; done) | (subst hq; simp [PyData.eqv, eqv]; done) | (obtain ⟨qs, _, rfl⟩ := hq; simp [PyData.eqv, eqv])
  | .bl b, y, p, q, hp, hq => by
    simp only [toPy, Option.some.injEq] at hp; subst hp
    cases y <;> simp only [toPy, Option.some.injEq, Option.map_eq_some_iff] at hq <;> first | (cases hq; done) | (subst hq; simp [PyData.eqv, eqv]; done) | (obtain ⟨qs, _, rfl⟩ := hq; simp [PyData.eqv, eqv])
  | .int b, y, p, q, hp, hq => by
    simp only [toPy, Option.some.injEq] at hp; subst hp
    cases y <;> simp only [toPy, Option.some.injEq, Option.map_eq_some_iff] at hq <;> first | (cases hq; done) | (subst hq; simp [PyData.eqv, eqv]; done) | (obtain ⟨qs, _, rfl⟩ := hq; simp [PyData.eqv, eqv])
  | .str b, y, p, q, hp, hq => by
    simp only [toPy, Option.some.injEq] at hp; subst hp
    cases y <;> simp only [toPy, Option.some.injEq, Option.map_eq_some_iff] at hq <;> first | (cases hq; done) | (subst hq; simp [PyData.eqv, eqv]; done) | (obtain ⟨qs, _, rfl⟩ := hq; simp [PyData.eqv, eqv])
  | .scr _, _, _, _, hp, _ => by simp [toPy] at hp
  | .ins _ _, _, _, _, hp, _ => by simp [toPy] at hp
  | .fn _, _, _, _, hp, _ => by simp [toPy] at hp
  | .ty _, _, _, _, hp, _ => by simp [toPy] at hp
  | .cls _, _, _, _, hp, _ => by simp [toPy] at hp
  | .exv _ _, _, _, _, hp, _ => by simp [toPy] at hp
  | .ref _, _, _, _, hp, _ => by simp [toPy] at hp
theorem eqvs_toPy : ∀ (xs ys : List Da) (ps qs : List PyData), toPys xs = some ps → toPys ys = some qs → PyData.eqvAll ps qs = eqvs xs ys
  | [], ys, ps, qs, hp, hq => by
    simp only [toPys, Option.some.injEq] at hp; subst hp
    cases ys with
    | nil => simp only [toPys, Option.some.injEq] at hq; subst hq; simp [PyData.eqvAll, eqvs]
    | cons y ys =>
      simp only [toPys] at hq
      split at hq
      · simp only [Option.some.injEq] at hq; subst hq; simp [PyData.eqvAll, eqvs]
      · cases hq
  | x :: xs, ys, ps, qs, hp, hq => by
    simp only [toPys] at hp
    split at hp
    · rename_i p' ps' e1 e2
      simp only [Option.some.injEq] at hp; subst hp
      cases ys with
      | nil => simp only [toPys, Option.some.injEq] at hq; subst hq; simp [PyData.eqvAll, eqvs]
      | cons y ys =>
        simp only [toPys] at hq
        split at hq
        · rename_i q' qs' f1 f2
          simp only [Option.some.injEq] at hq; subst hq
          simp only [PyData.eqvAll, eqvs]
          rw [eqv_toPy x y p' q' e1 f1, eqvs_toPy xs ys ps' qs' e2 f2]
        · cases hq
    · cases hp
end
section
variable {K : PySem.W.Frag} {T : Tab} {h : Hv}
mutual
theorem RV.dp : ∀ {d : Da} {v : V} {p : PyData}, RV K T h v d → toPy d = some p → Dp K h.H v p
  | .non, _, _, r, e => by cases r; simp only [toPy, Option.some.injEq] at e; subst e; exact .non
  | .bl b, _, _, r, e => by cases r; simp only [toPy, Option.some.injEq] at e; subst e; exact .bl b
  | .int b, _, _, r, e => by cases r; simp only [toPy, Option.some.injEq] at e; subst e; exact .int b
  | .str b, _, _, r, e => by cases r; simp only [toPy, Option.some.injEq] at e; subst e; exact .str b
  | .lst ds, _, _, r, e => by
    simp only [toPy, Option.map_eq_some_iff] at e
    obtain ⟨ps, e, rfl⟩ := e
    cases r with
    | lst a b c => exact .lst (SqL.of a) (RVs.dp c e)
  | .tup ds, _, _, r, e => by
    simp only [toPy, Option.map_eq_some_iff] at e
    obtain ⟨ps, e, rfl⟩ := e
    cases r with
    | tup a c => exact .tup a.sq (RVs.dp c e)
  | .scr _, _, _, _, e => by simp [toPy] at e
  | .ins _ _, _, _, _, e => by simp [toPy] at e
  | .fn _, _, _, _, e => by simp [toPy] at e
  | .ty _, _, _, _, e => by simp [toPy] at e
  | .cls _, _, _, _, e => by simp [toPy] at e
  | .exv _ _, _, _, _, e => by simp [toPy] at e
  | .ref _, _, _, _, e => by simp [toPy] at e
theorem RVs.dp : ∀ {ds : List Da} {vs : List V} {ps : List PyData}, RVs K T h vs ds → toPys ds = some ps → DpAll K h.H vs ps
  | [], _, _, r, e => by cases r; simp only [toPys, Option.some.injEq] at e; subst e; exact .nil
  | d :: ds, _, _, r, e => by
    simp only [toPys] at e
    split at e
    · rename_i p ps e1 e2
      simp only [Option.some.injEq] at e; subst e
      cases r with
      | cons a b => exact .cons (RV.dp a e1) (RVs.dp b e2)
    · cases e
end
end
/-- a list in the store is read as it stands -/
def drf (S : Sto) : Da → Da
  | .ref n => match S[n]? with
    | some (.lst ds) => .lst ds
    | _ => .ref n
  | d => d
/-- a list that is in the store, by its view: read as a value (only within one step) -/
inductive RVd (K : PySem.W.Frag) (T : Tab) (h : Hv) : V → Da → Prop
  | of {v : V} {d : Da} : RV K T h v d → RVd K T h v d
  | lst {a : Addr} {xs : List V} {ds : List Da} : h.H a = some (.lst xs) → RVs K T h xs ds → RVd K T h (.ref a) (.lst ds)
theorem RV.drf {K : PySem.W.Frag} {T : Tab} {h : Hv} {S : Sto} {v : V} {d : Da} (r : RV K T h v d) (s : HeapR K T h S) : RVd K T h v (drf S d) := by
  cases r with
  | ref e q =>
    rename_i n o
    unfold G.drf
    dsimp only
    cases o with
    | none => rw [s.gone n e]; exact .of (.ref e q)
    | some a =>
      have hv := q a rfl
      subst hv
      cases e2 : S[n]? with
      | none => exact .of (.ref e q)
      | some ob =>
        have x := s.ob n a ob e e2
        cases ob with
        | lst ds => obtain ⟨xs, q1, q2⟩ := x; exact .lst q1 q2
        | ins c fs => exact .of (.ref e q)
        | gone => exact .of (.ref e q)
  | non => exact .of .non
  | bl b => exact .of (.bl b)
  | int b => exact .of (.int b)
  | str b => exact .of (.str b)
  | lst a b c => exact .of (.lst a b c)
  | tup a b => exact .of (.tup a b)
  | scr a => exact .of (.scr a)
  | ins a b c => exact .of (.ins a b c)
  | fn k => exact .of (.fn k)
  | ty k => exact .of (.ty k)
  | cls k => exact .of (.cls k)
theorem RVd.dp {K : PySem.W.Frag} {T : Tab} {h : Hv} {d : Da} {v : V} {p : PyData} (r : RVd K T h v d) (e : toPy d = some p) : Dp K h.H v p := by
  cases r with
  | of r => exact r.dp e
  | lst a c =>
    simp only [toPy, Option.map_eq_some_iff] at e
    obtain ⟨ps, e, rfl⟩ := e
    exact .lst (SqL.of a) (c.dp e)
def scalD : Da → Da → Bool
  | .non, .non => true | .non, .int _ => true | .int _, .non => true | .non, .bl _ => true | .bl _, .non => true | .non, .str _ => true | .str _, .non => true
  | .int _, .int _ => true | .bl _, .bl _ => true | .str _, .str _ => true
  | .int _, .str _ => true | .str _, .int _ => true | .bl _, .str _ => true | .str _, .bl _ => true
  | _, _ => false
def dEq (x y : Da) (S : Sto) : Option (Da × Sto) :=
  if scalD x y || (shp 64 (drf S x) && shp 64 (drf S y)) then some (.bl (eqv (drf S x) (drf S y)), S) else none
def dNe (x y : Da) (S : Sto) : Option (Da × Sto) :=
  if scalD x y || (shp 64 (drf S x) && shp 64 (drf S y)) then some (.bl (!eqv (drf S x) (drf S y)), S) else none
theorem scal_eqv {K : PySem.W.Frag} {T : Tab} {h : Hv} {x y : V} {dx dy : Da} (rx : RV K T h x dx) (ry : RV K T h y dy) (S : Sto) (hs : scalD dx dy = true) : scal x y = true ∧ decide (x = y) = eqv (drf S dx) (drf S dy) := by
  cases rx <;> cases ry <;> first | (simp [scalD] at hs; done) | skip
  all_goals (refine ⟨rfl, ?_⟩; simp only [drf, eqv]; try (first | rfl | exact dec_int | exact dec_bl | exact dec_str | simp))
theorem shaped_of {d : Da} {p : PyData} (h : shp 64 d = true) (e : toPy d = some p) : SeqAt.shaped p = true := by
  obtain ⟨p', e', c, l⟩ := toPy_shp 64 d h
  rw [e] at e'; cases e'
  simp [SeqAt.shaped, c, l]
section
variable {X : Cx} {T : Tab}
theorem o_eq (hu : X.A.units + 64 < cLine) : OpR X (compareOp .Eq) (rD2 X.K T dEq) := by
  refine OpR.imp (OpR.or op_eq (op_eqD hu)) fun x y H Q ⟨h, S, dx, dy, e, hr, r1, r2, p⟩ => ?_
  subst e
  unfold dEq at p
  split at p
  · rename_i hc
    by_cases hs : scalD dx dy = true
    · obtain ⟨e1, e2⟩ := scal_eqv r1 r2 S hs
      exact .inl ⟨e1, by rw [e2]; exact p.ret (.bl _) hr⟩
    · simp only [Bool.or_eq_true, Bool.and_eq_true] at hc
      obtain ⟨s1, s2⟩ := hc.resolve_left hs
      obtain ⟨p1, e1, _⟩ := toPy_shp _ _ s1
      obtain ⟨p2, e2, _⟩ := toPy_shp _ _ s2
      refine .inr ⟨p1, p2, (r1.drf hr).dp e1, (r2.drf hr).dp e2, shaped_of s1 e1, shaped_of s2 e2, ?_⟩
      rw [eqv_toPy _ _ _ _ e1 e2]
      exact p.ret (.bl _) hr
  · exact p.elim
theorem o_ne (hu : X.A.units + 64 < cLine) : OpR X (compareOp .NotEq) (rD2 X.K T dNe) := by
  refine OpR.imp (OpR.or op_ne (op_neD hu)) fun x y H Q ⟨h, S, dx, dy, e, hr, r1, r2, p⟩ => ?_
  subst e
  unfold dNe at p
  split at p
  · rename_i hc
    by_cases hs : scalD dx dy = true
    · obtain ⟨e1, e2⟩ := scal_eqv r1 r2 S hs
      exact .inl ⟨e1, by rw [e2]; exact p.ret (.bl _) hr⟩
    · simp only [Bool.or_eq_true, Bool.and_eq_true] at hc
      obtain ⟨s1, s2⟩ := hc.resolve_left hs
      obtain ⟨p1, e1, _⟩ := toPy_shp _ _ s1
      obtain ⟨p2, e2, _⟩ := toPy_shp _ _ s2
      refine .inr ⟨p1, p2, (r1.drf hr).dp e1, (r2.drf hr).dp e2, shaped_of s1 e1, shaped_of s2 e2, ?_⟩
      rw [eqv_toPy _ _ _ _ e1 e2]
      exact p.ret (.bl _) hr
  · exact p.elim
end
end G

namespace G
open PySem PySem.Spec PyProof.Rows L2

section
variable {K : PySem.W.Frag} {T : Tab} {h : Hv} {S : Sto} {Q : VK} {xs : List V} {ds : List Da}
theorem RV.newTup (hr : HeapR K T h S) (r : RVs K T h xs ds) {q : Addr} (hq : h.H q = none) : RV K T { h with H := upd h.H q (.tup xs) } (.ref q) (.tup ds) :=
  .tup (.inl ⟨.inl upd_same, hr.fresh hq⟩) (r.mono (grow_new hq _).ext)
theorem RV.newLst (hr : HeapR K T h S) (r : RVs K T h xs ds) {q : Addr} (hq : h.H q = none) : RV K T { h with H := upd h.H q (.lst xs) } (.ref q) (.lst ds) :=
  .lst upd_same (hr.fresh hq) (r.mono (grow_new hq _).ext)
theorem PostO.newTup (p : PostO K T h (some (.tup ds, S)) Q) (hr : HeapR K T h S) (r : RVs K T h xs ds) : ∀ q, h.H q = none → Q (.ref q) (upd h.H q (.tup xs)) := fun q hq =>
  p (.ref q) { h with H := upd h.H q (.tup xs) } (grow_new hq _) (.newTup hr r hq) (hr.new hq _)
theorem PostO.newLst (p : PostO K T h (some (.lst ds, S)) Q) (hr : HeapR K T h S) (r : RVs K T h xs ds) : ∀ q, h.H q = none → Q (.ref q) (upd h.H q (.lst xs)) := fun q hq =>
  p (.ref q) { h with H := upd h.H q (.lst xs) } (grow_new hq _) (.newLst hr r hq) (hr.new hq _)
end

/-! ## ints -/
def dAdd (x y : Da) (S : Sto) : Option (Da × Sto) := match drf S x, drf S y with
  | .int i, .int j => some (.int (i + j), S)
  | .int i, .bl k => some (.int (i + b2i k), S)
  | .str i, .str j => if i.length + j.length ≤ sizeLine then some (.str (i ++ j), S) else none
  | .lst i, .lst j => if i.length + j.length ≤ sizeLine then some (.lst (i ++ j), S) else none
  | .tup i, .tup j => if i.length + j.length ≤ sizeLine then some (.tup (i ++ j), S) else none
  | _, _ => none
def dSub (x y : Da) (S : Sto) : Option (Da × Sto) := match x, y with
  | .int i, .int j => some (.int (i - j), S)
  | _, _ => none
/-- a question that the kernel does not work out by itself -/
noncomputable def cdec (p : Prop) : Bool := @decide p (Classical.propDecidable p)
theorem cdec_of {p : Prop} (h : p) : cdec p = true := by unfold cdec; exact @decide_eq_true p (Classical.propDecidable p) h
theorem cdec_to {p : Prop} (h : cdec p = true) : p := by unfold cdec at h; exact @of_decide_eq_true p (Classical.propDecidable p) h
/-- small enough for an index -/
noncomputable def inW (k : Nat) (i : Int) : Bool := cdec (-(2 ^ k) ≤ i ∧ i < 2 ^ k)
theorem inW_to {k : Nat} {i : Int} (h : inW k i = true) : -(2 ^ k) ≤ i ∧ i < 2 ^ k := cdec_to h
theorem inW_62 {i : Int} (h1 : -1000000000000 ≤ i) (h2 : i ≤ 1000000000000) : inW 62 i = true := by
  have e : (2 : Int) ^ 62 = 4611686018427387904 := by decide
  unfold inW; rw [e]; exact cdec_of ⟨by omega, by omega⟩
theorem inW_63 {i : Int} (h1 : -1000000000000 ≤ i) (h2 : i ≤ 1000000000000) : inW 63 i = true := by
  have e : (2 : Int) ^ 63 = 9223372036854775808 := by decide
  unfold inW; rw [e]; exact cdec_of ⟨by omega, by omega⟩
noncomputable def mulOk (i j : Int) : Bool := cdec ((-(2 ^ 64) < i ∧ i < 2 ^ 64) ∨ (-(2 ^ 64) < j ∧ j < 2 ^ 64))
theorem mulOk_l {i j : Int} (h1 : -1000000000000 ≤ i) (h2 : i ≤ 1000000000000) : mulOk i j = true := by
  have e : (2 : Int) ^ 64 = 18446744073709551616 := by decide
  unfold mulOk; rw [e]; exact cdec_of (.inl ⟨by omega, by omega⟩)
theorem mulOk_r {i j : Int} (h1 : -1000000000000 ≤ j) (h2 : j ≤ 1000000000000) : mulOk i j = true := by
  have e : (2 : Int) ^ 64 = 18446744073709551616 := by decide
  unfold mulOk; rw [e]; exact cdec_of (.inr ⟨by omega, by omega⟩)
noncomputable def dMul (x y : Da) (S : Sto) : Option (Da × Sto) := match drf S x, y with
  | .int i, .int j => if mulOk i j then some (.int (i * j), S) else none
  | .lst i, .int j => if i.length * j.toNat ≤ sizeLine ∧ inW 63 j = true then some (.lst (List.replicate j.toNat i).flatten, S) else none
  | _, _ => none
def dDiv (x y : Da) (S : Sto) : Option (Da × Sto) := match x, y with
  | .int i, .int j => if 0 < j ∧ j < 1073741824 then some (.int (i / j), S) else none
  | _, _ => none
def dMod (x y : Da) (S : Sto) : Option (Da × Sto) := match x, y with
  | .int i, .int j => if 0 < j then some (.int (i % j), S) else none
  | _, _ => none
noncomputable def powOk (i j : Int) : Bool := cdec (0 ≤ j ∧ j ≤ 1000000 ∧ i.natAbs < 2 ^ 64)
noncomputable def dPow (x y : Da) (S : Sto) : Option (Da × Sto) := match x, y with
  | .int i, .int j => if powOk i j = true then some (.int (i ^ j.toNat), S) else none
  | _, _ => none
def dNeg (x : Da) (S : Sto) : Option (Da × Sto) := match x with
  | .int i => some (.int (-i), S)
  | _ => none
def strLt (x y : Str) : Bool := decide (x.cps.toList < y.cps.toList)
def dLt (x y : Da) (S : Sto) : Option (Da × Sto) := match x, y with
  | .int i, .int j => some (.bl (decide (i < j)), S)
  | .str i, .str j => some (.bl (strLt i j), S)
  | _, _ => none
def dLe (x y : Da) (S : Sto) : Option (Da × Sto) := match x, y with
  | .int i, .int j => some (.bl (decide (i ≤ j)), S)
  | .str i, .str j => some (.bl (!strLt j i), S)
  | _, _ => none
def dGt (x y : Da) (S : Sto) : Option (Da × Sto) := match x, y with
  | .int i, .int j => some (.bl (decide (j < i)), S)
  | .str i, .str j => some (.bl (strLt j i), S)
  | _, _ => none
def dGe (x y : Da) (S : Sto) : Option (Da × Sto) := match x, y with
  | .int i, .int j => some (.bl (decide (j ≤ i)), S)
  | .str i, .str j => some (.bl (!strLt i j), S)
  | _, _ => none
def isNon : Da → Bool
  | .non => true
  | _ => false
/-- x is None: the right side is None -/
def dIs (x y : Da) (S : Sto) : Option (Da × Sto) := match y, x with
  | .non, .ref _ => none
  | .non, x => some (.bl (isNon x), S)
  | _, _ => none
def dIsNot (x y : Da) (S : Sto) : Option (Da × Sto) := match y, x with
  | .non, .ref _ => none
  | .non, x => some (.bl (!isNon x), S)
  | _, _ => none
/-- what an item of a sequence is, by its number -/
def inSeq (S : Sto) (x y : Da) : Option Bool := match drf S y with
  | .lst ds => if shp 64 x && shp 64 (.lst ds) then some (ds.any fun z => eqv z x) else none
  | .tup ds => if shp 64 x && shp 64 (.tup ds) then some (ds.any fun z => eqv z x) else none
  | .str t => match x with
    | .str s => some (!(Builtin.Str.occurrences t s 0 t.length 1).isEmpty)
    | _ => none
  | _ => none
def dIn (x y : Da) (S : Sto) : Option (Da × Sto) := (inSeq S x y).map fun b => (.bl b, S)
def dNotIn (x y : Da) (S : Sto) : Option (Da × Sto) := (inSeq S x y).map fun b => (.bl (!b), S)
def dIx (x y : Da) (S : Sto) : Option (Da × Sto) := match drf S x, y with
  | .lst ds, .int i => (atI ds i).map fun d => (d, S)
  | .tup ds, .int i => (atI ds i).map fun d => (d, S)
  | .scr ns, .int i => (atI ns i).map fun d => (.int d, S)
  | .str z, .int i => if z.length ≤ sizeLine then (atI z.cps.toList i).map fun c => (.str ⟨#[c]⟩, S) else none
  | _, _ => none

theorem eqvs_any {K : PySem.W.Frag} (x : Da) (p : PyData) (hp : toPy x = some p) : ∀ (ds : List Da) (ps : List PyData), toPys ds = some ps → (ps.any fun z => PyData.eqv z p) = ds.any fun z => eqv z x
  | [], ps, e => by simp only [toPys, Option.some.injEq] at e; subst e; rfl
  | d :: ds, ps, e => by
    simp only [toPys] at e
    split at e
    · rename_i q qs e1 e2
      simp only [Option.some.injEq] at e; subst e
      rw [List.any_cons, List.any_cons, eqv_toPy d x q p e1 hp, eqvs_any (K := K) x p hp ds qs e2]
    · cases e
section
variable {X : Cx} {T : Tab}
theorem RVd.int_inv {K : PySem.W.Frag} {T : Tab} {h : Hv} {v : V} {i : Int} (r : RVd K T h v (.int i)) : v = .int i := by cases r with | of r => cases r; rfl
theorem RVd.str_inv {K : PySem.W.Frag} {T : Tab} {h : Hv} {v : V} {i : Str} (r : RVd K T h v (.str i)) : v = .str i := by cases r with | of r => cases r; rfl
theorem RVd.bl_inv {K : PySem.W.Frag} {T : Tab} {h : Hv} {v : V} {i : Bool} (r : RVd K T h v (.bl i)) : v = .bl i := by cases r with | of r => cases r; rfl
theorem RVd.lst_inv {K : PySem.W.Frag} {T : Tab} {h : Hv} {v : V} {ds : List Da} (r : RVd K T h v (.lst ds)) : ∃ a xs, v = .ref a ∧ h.H a = some (.lst xs) ∧ RVs K T h xs ds := by
  cases r with
  | of r => cases r with | lst a b c => exact ⟨_, _, rfl, a, c⟩
  | lst a c => exact ⟨_, _, rfl, a, c⟩
theorem RVd.tup_inv {K : PySem.W.Frag} {T : Tab} {h : Hv} {v : V} {ds : List Da} (r : RVd K T h v (.tup ds)) : ∃ a xs, v = .ref a ∧ ST K h a xs ∧ RVs K T h xs ds := by
  cases r with | of r => cases r with | tup a c => exact ⟨_, _, rfl, a, c⟩
theorem RVs.ne_nil {K : PySem.W.Frag} {T : Tab} {h : Hv} {vs : List V} {ds : List Da} (r : RVs K T h vs ds) : vs = [] ↔ ds = [] := by cases r <;> simp

theorem o_add : OpR X (binaryOp .Add) (rD2 X.K T dAdd) := by
  refine OpR.imp (OpR.or op_add (OpR.or op_add_ib (OpR.or op_add_str (OpR.or op_cat op_catA)))) fun x y H Q ⟨h, S, dx, dy, e, hr, r1, r2, p⟩ => ?_
  subst e
  have q1 := r1.drf hr
  have q2 := r2.drf hr
  unfold dAdd at p
  split at p
  · rename_i i j e1 e2
    rw [e1] at q1; rw [e2] at q2
    exact .inl ⟨_, _, q1.int_inv, q2.int_inv, p.ret (.int _) hr⟩
  · rename_i i j e1 e2
    rw [e1] at q1; rw [e2] at q2
    exact .inr (.inl ⟨_, _, q1.int_inv, q2.bl_inv, p.ret (.int _) hr⟩)
  · rename_i i j e1 e2
    rw [e1] at q1; rw [e2] at q2
    split at p
    · rename_i hl
      exact .inr (.inr (.inl ⟨_, _, q1.str_inv, q2.str_inv, hl, p.ret (.str _) hr⟩))
    · exact p.elim
  · rename_i i j e1 e2
    rw [e1] at q1; rw [e2] at q2
    obtain ⟨a, xs, rfl, ha, ra⟩ := q1.lst_inv
    obtain ⟨b, ys, rfl, hb, rb⟩ := q2.lst_inv
    split at p
    · rename_i hl
      exact .inr (.inr (.inr (.inl ⟨a, b, xs, ys, rfl, rfl, ha, hb, by rw [ra.length, rb.length]; exact hl, p.newLst hr (ra.append rb)⟩)))
    · exact p.elim
  · rename_i i j e1 e2
    rw [e1] at q1; rw [e2] at q2
    obtain ⟨a, xs, rfl, ha, ra⟩ := q1.tup_inv
    obtain ⟨b, ys, rfl, hb, rb⟩ := q2.tup_inv
    split at p
    · rename_i hl
      refine .inr (.inr (.inr (.inr ⟨a, b, xs, ys, rfl, rfl, ha.sq, hb.sq, by rw [ra.length, rb.length]; exact hl, fun z => ?_, fun _ z => ?_, fun _ _ => p.newTup hr (ra.append rb)⟩)))
      · have := ra.ne_nil.mp z; subst this
        exact p.ret (.tup hb rb) hr
      · have := rb.ne_nil.mp z; subst this
        rw [List.append_nil] at p
        exact p.ret (.tup ha ra) hr
    · exact p.elim
  · exact p.elim
theorem o_sub : OpR X (binaryOp .Sub) (rD2 X.K T dSub) := by
  refine OpR.imp op_sub fun x y H Q ⟨h, S, dx, dy, e, hr, r1, r2, p⟩ => ?_
  subst e
  unfold dSub at p
  split at p
  · cases r1; cases r2; exact ⟨_, _, rfl, rfl, p.ret (.int _) hr⟩
  · exact p.elim
theorem o_mul : OpR X (binaryOp .Mult) (rD2 X.K T dMul) := by
  refine OpR.imp (OpR.or op_mul op_rep) fun x y H Q ⟨h, S, dx, dy, e, hr, r1, r2, p⟩ => ?_
  subst e
  have q1 := r1.drf hr
  unfold dMul at p
  split at p
  · rename_i i j e1
    rw [e1] at q1; cases r2
    split at p
    · rename_i hc
      refine .inl ⟨_, _, q1.int_inv, rfl, ?_, p.ret (.int _) hr⟩
      exact cdec_to hc
    · exact p.elim
  · rename_i i j e1
    rw [e1] at q1; cases r2
    obtain ⟨a, xs, rfl, ha, ra⟩ := q1.lst_inv
    split at p
    · rename_i hc
      refine .inr ⟨a, _, xs, rfl, rfl, ha, (inW_to hc.2).1, (inW_to hc.2).2, by rw [ra.length]; exact hc.1, ?_⟩
      have rr : ∀ k : Nat, RVs X.K T h (List.replicate k xs).flatten (List.replicate k i).flatten := fun k => by
        induction k with
        | zero => exact .nil
        | succ k ih => rw [List.replicate_succ, List.replicate_succ, List.flatten_cons, List.flatten_cons]; exact ra.append ih
      exact p.newLst hr (rr _)
    · exact p.elim
  · exact p.elim
theorem o_div : OpR X (binaryOp .FloorDiv) (rD2 X.K T dDiv) := by
  refine OpR.imp op_fdiv fun x y H Q ⟨h, S, dx, dy, e, hr, r1, r2, p⟩ => ?_
  subst e
  unfold dDiv at p
  split at p
  · cases r1; cases r2
    split at p
    · rename_i hc; exact ⟨_, _, rfl, rfl, hc, p.ret (.int _) hr⟩
    · exact p.elim
  · exact p.elim
theorem o_mod : OpR X (binaryOp .Mod) (rD2 X.K T dMod) := by
  refine OpR.imp op_mod fun x y H Q ⟨h, S, dx, dy, e, hr, r1, r2, p⟩ => ?_
  subst e
  unfold dMod at p
  split at p
  · cases r1; cases r2
    split at p
    · rename_i hc; exact ⟨_, _, rfl, rfl, hc, p.ret (.int _) hr⟩
    · exact p.elim
  · exact p.elim
theorem o_pow : OpR X (binaryOp .Pow) (rD2 X.K T dPow) := by
  refine OpR.imp op_pow fun x y H Q ⟨h, S, dx, dy, e, hr, r1, r2, p⟩ => ?_
  subst e
  unfold dPow at p
  split at p
  · cases r1; cases r2
    split at p
    · rename_i hc; have hc2 := cdec_to hc; exact ⟨_, _, rfl, rfl, hc2, p.ret (.int _) hr⟩
    · exact p.elim
  · exact p.elim
theorem o_neg : UnR X (unaryOp .USub) (rD1 X.K T dNeg) := by
  refine UnR.imp un_neg fun x H Q ⟨h, S, dx, e, hr, r1, p⟩ => ?_
  subst e
  unfold dNeg at p
  split at p
  · cases r1; exact ⟨_, rfl, p.ret (.int _) hr⟩
  · exact p.elim
theorem o_lt : OpR X (compareOp .Lt) (rD2 X.K T dLt) := by
  refine OpR.imp (OpR.or op_lt op_lt_str) fun x y H Q ⟨h, S, dx, dy, e, hr, r1, r2, p⟩ => ?_
  subst e
  unfold dLt at p
  split at p
  · cases r1; cases r2; exact .inl ⟨_, _, rfl, rfl, p.ret (.bl _) hr⟩
  · cases r1; cases r2; exact .inr ⟨_, _, rfl, rfl, p.ret (.bl _) hr⟩
  · exact p.elim
theorem o_le : OpR X (compareOp .LtE) (rD2 X.K T dLe) := by
  refine OpR.imp (OpR.or op_le op_le_str) fun x y H Q ⟨h, S, dx, dy, e, hr, r1, r2, p⟩ => ?_
  subst e
  unfold dLe at p
  split at p
  · cases r1; cases r2; exact .inl ⟨_, _, rfl, rfl, p.ret (.bl _) hr⟩
  · cases r1; cases r2; exact .inr ⟨_, _, rfl, rfl, p.ret (.bl _) hr⟩
  · exact p.elim
theorem o_gt : OpR X (compareOp .Gt) (rD2 X.K T dGt) := by
  refine OpR.imp (OpR.or op_gt op_gt_str) fun x y H Q ⟨h, S, dx, dy, e, hr, r1, r2, p⟩ => ?_
  subst e
  unfold dGt at p
  split at p
  · cases r1; cases r2; exact .inl ⟨_, _, rfl, rfl, p.ret (.bl _) hr⟩
  · cases r1; cases r2; exact .inr ⟨_, _, rfl, rfl, p.ret (.bl _) hr⟩
  · exact p.elim
theorem o_ge : OpR X (compareOp .GtE) (rD2 X.K T dGe) := by
  refine OpR.imp (OpR.or op_ge op_ge_str) fun x y H Q ⟨h, S, dx, dy, e, hr, r1, r2, p⟩ => ?_
  subst e
  unfold dGe at p
  split at p
  · cases r1; cases r2; exact .inl ⟨_, _, rfl, rfl, p.ret (.bl _) hr⟩
  · cases r1; cases r2; exact .inr ⟨_, _, rfl, rfl, p.ret (.bl _) hr⟩
  · exact p.elim
theorem isNon_of {K : PySem.W.Frag} {T : Tab} {h : Hv} {v : V} {d : Da} (r : RV K T h v d) (hn : ∀ n, d ≠ .ref n) : decide (v = V.non) = isNon d := by
  cases r <;> first | rfl | (simp [isNon]; done) | exact absurd rfl (hn _)
theorem o_is : OpR X (compareOp .Is) (rD2 X.K T dIs) := by
  refine OpR.imp op_isN fun x y H Q ⟨h, S, dx, dy, e, hr, r1, r2, p⟩ => ?_
  subst e
  unfold dIs at p
  split at p
  · exact p.elim
  · rename_i hn
    cases r2
    exact ⟨rfl, by rw [isNon_of r1 (fun n z => hn n z)]; exact p.ret (.bl _) hr⟩
  · exact p.elim
theorem o_isnot : OpR X (compareOp .IsNot) (rD2 X.K T dIsNot) := by
  refine OpR.imp op_notN fun x y H Q ⟨h, S, dx, dy, e, hr, r1, r2, p⟩ => ?_
  subst e
  unfold dIsNot at p
  split at p
  · exact p.elim
  · rename_i hn
    cases r2
    exact ⟨rfl, by rw [isNon_of r1 (fun n z => hn n z)]; exact p.ret (.bl _) hr⟩
  · exact p.elim
/-! ### in -/
def rInT (K : PySem.W.Frag) : R2 := fun x y H Q => ∃ d ds, Dp K H x d ∧ Dp K H y (.tuple ds) ∧ SeqAt.shaped d = true ∧ SeqAt.shaped (.tuple ds) = true ∧ Q (.bl (ds.any fun z => PyData.eqv z d)) H
def rNotInT (K : PySem.W.Frag) : R2 := fun x y H Q => ∃ d ds, Dp K H x d ∧ Dp K H y (.tuple ds) ∧ SeqAt.shaped d = true ∧ SeqAt.shaped (.tuple ds) = true ∧ Q (.bl (!ds.any fun z => PyData.eqv z d)) H
theorem op_inT (hu : X.A.units + 65 < cLine) : OpR X (compareOp .In) (rInT X.K) := by
  intro pins s σ H x y v u Q I rx ry h
  obtain ⟨d, ds, hd, hs, sd, ss, q⟩ := h
  obtain ⟨as, r1⟩ := Dp.reads I d x v hd rx
  obtain ⟨bs, r2⟩ := Dp.reads I _ y u hs ry
  exact SeqAt.in_tuple_reads r2 r1 (SeqAt.canLay_of_shaped ss) (SeqAt.canLay_of_shaped sd) (room_in_shaped sd hu) ⟨.bl _, H, I, rfl, q⟩
theorem op_notInT (hu : X.A.units + 65 < cLine) : OpR X (compareOp .NotIn) (rNotInT X.K) := by
  intro pins s σ H x y v u Q I rx ry h
  obtain ⟨d, ds, hd, hs, sd, ss, q⟩ := h
  obtain ⟨as, r1⟩ := Dp.reads I d x v hd rx
  obtain ⟨bs, r2⟩ := Dp.reads I _ y u hs ry
  exact SeqAt.notIn_tuple_reads r2 r1 (SeqAt.canLay_of_shaped ss) (SeqAt.canLay_of_shaped sd) (room_in_shaped sd hu) ⟨.bl _, H, I, rfl, q⟩
theorem o_in (hu : X.A.units + 65 < cLine) : OpR X (compareOp .In) (rD2 X.K T dIn) := by
  refine OpR.imp (OpR.or (op_inD hu) (OpR.or (op_inT hu) op_in_str)) fun x y H Q ⟨h, S, dx, dy, e, hr, r1, r2, p⟩ => ?_
  subst e
  have q2 := r2.drf hr
  unfold dIn inSeq at p
  split at p
  · rename_i ds e2
    rw [e2] at q2
    split at p
    · rename_i hc
      simp only [Bool.and_eq_true] at hc
      obtain ⟨px, ex, _⟩ := toPy_shp _ _ hc.1
      obtain ⟨py, ey, _⟩ := toPy_shp _ _ hc.2
      have ey' := ey
      simp only [toPy, Option.map_eq_some_iff] at ey
      obtain ⟨ps, ey, rfl⟩ := ey
      refine .inl ⟨px, ps, r1.dp ex, q2.dp ey', shaped_of hc.1 ex, shaped_of hc.2 ey', ?_⟩
      rw [eqvs_any (K := X.K) dx px ex ds ps ey]
      exact p.ret (.bl _) hr
    · exact p.elim
  · rename_i ds e2
    rw [e2] at q2
    split at p
    · rename_i hc
      simp only [Bool.and_eq_true] at hc
      obtain ⟨px, ex, _⟩ := toPy_shp _ _ hc.1
      obtain ⟨py, ey, _⟩ := toPy_shp _ _ hc.2
      have ey' := ey
      simp only [toPy, Option.map_eq_some_iff] at ey
      obtain ⟨ps, ey, rfl⟩ := ey
      refine .inr (.inl ⟨px, ps, r1.dp ex, q2.dp ey', shaped_of hc.1 ex, shaped_of hc.2 ey', ?_⟩)
      rw [eqvs_any (K := X.K) dx px ex ds ps ey]
      exact p.ret (.bl _) hr
    · exact p.elim
  · rename_i t e2
    rw [e2] at q2
    split at p
    · cases r1
      exact .inr (.inr ⟨_, _, rfl, q2.str_inv, p.ret (.bl _) hr⟩)
    · exact p.elim
  · exact p.elim
theorem o_notin (hu : X.A.units + 65 < cLine) : OpR X (compareOp .NotIn) (rD2 X.K T dNotIn) := by
  refine OpR.imp (OpR.or (op_notInD hu) (OpR.or (op_notInT hu) op_notIn_str)) fun x y H Q ⟨h, S, dx, dy, e, hr, r1, r2, p⟩ => ?_
  subst e
  have q2 := r2.drf hr
  unfold dNotIn inSeq at p
  split at p
  · rename_i ds e2
    rw [e2] at q2
    split at p
    · rename_i hc
      simp only [Bool.and_eq_true] at hc
      obtain ⟨px, ex, _⟩ := toPy_shp _ _ hc.1
      obtain ⟨py, ey, _⟩ := toPy_shp _ _ hc.2
      have ey' := ey
      simp only [toPy, Option.map_eq_some_iff] at ey
      obtain ⟨ps, ey, rfl⟩ := ey
      refine .inl ⟨px, ps, r1.dp ex, q2.dp ey', shaped_of hc.1 ex, shaped_of hc.2 ey', ?_⟩
      rw [eqvs_any (K := X.K) dx px ex ds ps ey]
      exact p.ret (.bl _) hr
    · exact p.elim
  · rename_i ds e2
    rw [e2] at q2
    split at p
    · rename_i hc
      simp only [Bool.and_eq_true] at hc
      obtain ⟨px, ex, _⟩ := toPy_shp _ _ hc.1
      obtain ⟨py, ey, _⟩ := toPy_shp _ _ hc.2
      have ey' := ey
      simp only [toPy, Option.map_eq_some_iff] at ey
      obtain ⟨ps, ey, rfl⟩ := ey
      refine .inr (.inl ⟨px, ps, r1.dp ex, q2.dp ey', shaped_of hc.1 ex, shaped_of hc.2 ey', ?_⟩)
      rw [eqvs_any (K := X.K) dx px ex ds ps ey]
      exact p.ret (.bl _) hr
    · exact p.elim
  · rename_i t e2
    rw [e2] at q2
    split at p
    · cases r1
      exact .inr (.inr ⟨_, _, rfl, q2.str_inv, p.ret (.bl _) hr⟩)
    · exact p.elim
  · exact p.elim
/-! ### items -/
theorem RVs.atI {K : PySem.W.Frag} {T : Tab} {h : Hv} {vs : List V} {ds : List Da} {i : Int} {d : Da} (r : RVs K T h vs ds) (e : atI ds i = some d) : ∃ v, atI vs i = some v ∧ RV K T h v d := by
  unfold L2.atI at e ⊢
  rw [r.length]
  cases q : ixN ds.length i with
  | none => rw [q] at e; cases e
  | some j =>
    rw [q] at e
    exact r.get e
theorem atI_map {α β : Type} (f : α → β) (xs : List α) (i : Int) : atI (xs.map f) i = (atI xs i).map f := by
  unfold L2.atI
  rw [List.length_map]
  cases q : ixN xs.length i with
  | none => rfl
  | some j => simp
theorem o_ix : IxR X (rD2 X.K T dIx) := by
  refine IxR.imp ix_seq fun x y H Q ⟨h, S, dx, dy, e, hr, r1, r2, p⟩ => ?_
  subst e
  have q1 := r1.drf hr
  unfold dIx at p
  split at p
  · rename_i ds i e1
    rw [e1] at q1; cases r2
    obtain ⟨a, xs, rfl, ha, ra⟩ := q1.lst_inv
    cases z : atI ds i with
    | none => rw [z] at p; exact p.elim
    | some d =>
      rw [z] at p
      obtain ⟨v, e3, rv⟩ := ra.atI z
      exact .inl ⟨a, xs, i, v, rfl, rfl, SqL.of ha, e3, p.ret rv hr⟩
  · rename_i ds i e1
    rw [e1] at q1; cases r2
    obtain ⟨a, xs, rfl, ha, ra⟩ := q1.tup_inv
    cases z : atI ds i with
    | none => rw [z] at p; exact p.elim
    | some d =>
      rw [z] at p
      obtain ⟨v, e3, rv⟩ := ra.atI z
      exact .inr (.inl ⟨a, xs, i, v, rfl, rfl, ha.sq, e3, p.ret rv hr⟩)
  · rename_i ns i e1
    rw [e1] at q1; cases r2
    cases z : atI ns i with
    | none => rw [z] at p; exact p.elim
    | some d =>
      rw [z] at p
      cases q1 with
      | of q1 => cases q1 with | scr a =>
        exact .inl ⟨_, _, i, .int d, rfl, rfl, a.sq, by rw [atI_map, z]; rfl, p.ret (.int _) hr⟩
  · rename_i t i e1
    rw [e1] at q1; cases r2
    split at p
    · rename_i hl
      cases z : atI t.cps.toList i with
      | none => rw [z] at p; exact p.elim
      | some d =>
        rw [z] at p
        exact .inr (.inr ⟨t, i, d, q1.str_inv, rfl, hl, z, p.ret (.str _) hr⟩)
    · exact p.elim
  · exact p.elim
end
/-! ### slices -/
def eoNone : Env → Sto → Rs (Option Int) := fun _ S => .ok none S
def eoSome (a : E) : Env → Sto → Rs (Option Int) := fun ε S => (a ε S).bind fun x S => match x with | .int i => .ok (some i) S | _ => .bad
def cutD (xs : List Da) (lo hi : Option Int) : List Da := (xs.drop (HT.sIx xs.length 0 lo)).take (HT.sIx xs.length xs.length hi - HT.sIx xs.length 0 lo)
def dSl (x : Da) (lo hi : Option Int) (S : Sto) : Option (Da × Sto) := match drf S x with
  | .lst ds => some (.lst (cutD ds lo hi), S)
  | .tup ds => some (.tup (cutD ds lo hi), S)
  | .str z => if z.length ≤ sizeLine then some (.str (cutS z lo hi), S) else none
  | _ => none
def eSl (a : E) (lo hi : Env → Sto → Rs (Option Int)) : E := fun ε S => (a ε S).bind fun x S => (lo ε S).bind fun l S => (hi ε S).bind fun u S => Rs.of (dSl x l u S)
abbrev OI (X : Cx) (T : Tab) (W : WX) (e : Option Expr) (f : Env → Sto → Rs (Option Int)) : Prop := PO X e (tG X.K T W REq f)
theorem SlR.imp {X : Cx} {r r' : V → Option Int → Option Int → Hp → VK → Prop} (h : SlR X r) (w : ∀ x l u H Q, r' x l u H Q → r x l u H Q) : SlR X r' :=
  fun pins s σ H x v vl vu lo hi sl Q I rx hs pl pu q => h pins s σ H x v vl vu lo hi sl Q I rx hs pl pu (w x lo hi H Q q)
section
variable {X : Cx} {T : Tab} {W : WX} {e a : Expr} {f : E} {pos p2 : Pos}
theorem wkO {e : Option Expr} {t t' : TO} (h : PO X e t) (w : ∀ σ H Q, t' σ H Q → t σ H Q) : PO X e t' := ⟨fun pins s σ H Q I q => h.run pins s σ H Q I (w σ H Q q)⟩
theorem oi_none : OI X T W none eoNone := wkO po_none fun σ H Q ⟨h, S, ε, e, er, hr, p⟩ => by subst e; exact Post.ret p rfl hr
theorem oi_some (ha : EI X T W a f) : OI X T W (some a) (eoSome f) := wkO (po_some ha) fun σ H Q ⟨h, S, ε, e, er, hr, p⟩ =>
  ⟨h, S, ε, e, er, hr, (Post.bind p).imp fun x H1 ⟨h1, S1, d1, e1, g1, r1, hr1, p1⟩ => by
    cases r1 with
    | int i => exact ⟨i, rfl, by subst e1; exact Post.ret p1 rfl hr1⟩
    | _ => exact (show False from p1).elim⟩
theorem RVs.slc {K : PySem.W.Frag} {T : Tab} {h : Hv} {vs : List V} {ds : List Da} (r : RVs K T h vs ds) (lo hi : Option Int) : RVs K T h (cutV vs lo hi) (cutD ds lo hi) := by
  unfold cutV cutD
  rw [r.length]
  exact (r.drop _).take _
theorem i_slice {lo hi : Option Expr} {fl fh : Env → Sto → Rs (Option Int)} (ha : EI X T W a f) (hl : OI X T W lo fl) (hh : OI X T W hi fh) : EI X T W (.Subscript a (.Slice lo hi none p2) pos) (eSl f fl fh) := by
  refine wkE (pe_slice (SlR.or sl_list (SlR.or sl_tupA sl_str)) ha hl hh) fun σ H Q ⟨h, S, ε, e, er, hr, p⟩ => ?_
  refine ⟨h, S, ε, e, er, hr, (Post.bind p).imp fun x H1 ⟨h1, S1, d1, e1, g1, r1, hr1, p1⟩ => ?_⟩
  refine ⟨h1, S1, ε, e1, er.mono g1, hr1, (Post.bind p1).imp fun l H2 ⟨h2, S2, d2, e2, g2, r2, hr2, p2⟩ => ?_⟩
  refine ⟨h2, S2, ε, e2, (er.mono g1.ext).mono g2.ext, hr2, (Post.bind p2).imp fun u H3 ⟨h3, S3, d3, e3, g3, r3, hr3, p3⟩ => ?_⟩
  have r2' : l = d2 := r2
  have r3' : u = d3 := r3
  subst r2'; subst r3'; subst e3
  have p4 := Post.of p3
  have q := ((r1.mono g2.ext).mono g3.ext).drf hr3
  unfold dSl at p4
  split at p4
  · rename_i ds e4
    rw [e4] at q
    obtain ⟨a, xs, rfl, ha, ra⟩ := q.lst_inv
    exact .inl ⟨a, xs, rfl, SqL.of ha, p4.newLst hr3 (ra.slc _ _)⟩
  · rename_i ds e4
    rw [e4] at q
    obtain ⟨a, xs, rfl, ha, ra⟩ := q.tup_inv
    refine .inr (.inl ⟨a, xs, rfl, ha.sq, fun ⟨z1, z2⟩ => ?_, fun _ => p4.newTup hr3 (ra.slc _ _)⟩)
    have e5 : cutD ds l u = ds := by
      unfold cutD
      rw [← ra.length, z1, z2]
      simp [ra.length]
    rw [e5] at p4
    exact p4.ret (.tup ha ra) hr3
  · rename_i z e4
    rw [e4] at q
    split at p4
    · rename_i hl
      exact .inr (.inr ⟨z, q.str_inv, hl, p4.ret (.str _) hr3⟩)
    · exact p4.elim
  · exact p4.elim
/-! ### displays -/
def dTup (xs : List Da) (S : Sto) : Option (Da × Sto) := if xs.length ≤ sizeLine then some (.tup xs, S) else none
def dLst (xs : List Da) (S : Sto) : Option (Da × Sto) := if xs.length ≤ sizeLine then some (.lst xs, S) else none
/-- a new list in the store -/
def dNew (xs : List Da) (S : Sto) : Option (Da × Sto) := if xs.length ≤ sizeLine then some (.ref S.length, S ++ [.lst xs]) else none
variable {es : List Expr} {fs : Es}
theorem i_tup {k : Nat} (ha : AI X T W es fs) : EI X T W (.Tuple es k pos) (eOpN dTup fs) := wkE (pe_tup ha) fun σ H Q ⟨h, S, ε, e, er, hr, p⟩ =>
  ⟨h, S, ε, e, er, hr, (Post.bind p).imp fun x H1 ⟨h1, S1, d1, e1, g1, r1, hr1, p1⟩ => by
    subst e1
    have p2 := Post.of p1
    unfold dTup at p2
    split at p2
    · rename_i hl; exact ⟨by rw [r1.length]; exact hl, p2.newTup hr1 r1⟩
    · exact p2.elim⟩
theorem i_lst (ha : AI X T W es fs) : EI X T W (.List es pos) (eOpN dLst fs) := wkE (pe_lst ha) fun σ H Q ⟨h, S, ε, e, er, hr, p⟩ =>
  ⟨h, S, ε, e, er, hr, (Post.bind p).imp fun x H1 ⟨h1, S1, d1, e1, g1, r1, hr1, p1⟩ => by
    subst e1
    have p2 := Post.of p1
    unfold dLst at p2
    split at p2
    · rename_i hl; exact ⟨by rw [r1.length]; exact hl, p2.newLst hr1 r1⟩
    · exact p2.elim⟩
theorem PostO.alloc {K : PySem.W.Frag} {h : Hv} {S : Sto} {Q : VK} {xs : List V} {ds : List Da} (p : PostO K T h (some (.ref S.length, S ++ [.lst ds])) Q) (hr : HeapR K T h S) (r : RVs K T h xs ds) :
    ∀ q, h.H q = none → Q (.ref q) (upd h.H q (.lst xs)) := fun q hq => by
  refine p (.ref q) { m := h.m ++ [some q], B := h.B, H := upd h.H q (.lst xs) } (grow_alloc hq _) (.ref (o := some q) ?_ fun a e => by cases e; rfl) (hr.alloc hq _ ⟨xs, upd_same, r.mono (grow_alloc hq _).ext⟩)
  show (h.m ++ [some q])[S.length]? = some (some q)
  rw [← hr.len]; simp
theorem i_new (ha : AI X T W es fs) : EI X T W (.List es pos) (eOpN dNew fs) := wkE (pe_lst ha) fun σ H Q ⟨h, S, ε, e, er, hr, p⟩ =>
  ⟨h, S, ε, e, er, hr, (Post.bind p).imp fun x H1 ⟨h1, S1, d1, e1, g1, r1, hr1, p1⟩ => by
    subst e1
    have p2 := Post.of p1
    unfold dNew at p2
    split at p2
    · rename_i hl; exact ⟨by rw [r1.length]; exact hl, p2.alloc hr1 r1⟩
    · exact p2.elim⟩
/-! ### built-in functions by name -/
theorem i_callB {x : Str} {id : String} {p : Pos} {g : List Da → Sto → Option (Da × Sto)} (hc : CallR X (.builtin id) (rDN X.K T g)) (hg : Gl X x) (hm : X.mg x = none) (hv : bootBuiltins x = some (.builtin id)) (ha : AI X T W (e :: es) fs) (hn : x ≠ "__name__" := by decide) (hdb : (x == ("__debug__" : Str)) = false := by decide)
    (he : starEach (e :: es) X.env = (false, eval e X.env) :: starEach es X.env := by rfl) (hpl : (backTo pos (starEach es X.env)).any (·.1) = false := by rfl) : EI X T W (.Call (.Name x p) (e :: es) [] pos) (eOpN g fs) :=
  wkE (pe_callB hc hg hm hv ha hn hdb he hpl) fun σ H Q ⟨h, S, ε, e, er, hr, p⟩ => ⟨h, S, ε, e, er, hr, (Post.bind p).imp fun x H1 ⟨h1, S1, d1, e1, g1, r1, hr1, p1⟩ => ⟨h1, S1, d1, e1, hr1, r1, p1.of⟩⟩
theorem i_callTy {x : Str} {id : String} {p : Pos} {g : List Da → Sto → Option (Da × Sto)} (hc : CallR X (.type id) (rDN X.K T g)) (hg : Gl X x) (hm : X.mg x = none) (hv : bootBuiltins x = some (.type id)) (ha : AI X T W (e :: es) fs) (hn : x ≠ "__name__" := by decide) (hdb : (x == ("__debug__" : Str)) = false := by decide)
    (he : starEach (e :: es) X.env = (false, eval e X.env) :: starEach es X.env := by rfl) (hpl : (backTo pos (starEach es X.env)).any (·.1) = false := by rfl) : EI X T W (.Call (.Name x p) (e :: es) [] pos) (eOpN g fs) :=
  wkE (pe_callTy hc hg hm hv ha hn hdb he hpl) fun σ H Q ⟨h, S, ε, e, er, hr, p⟩ => ⟨h, S, ε, e, er, hr, (Post.bind p).imp fun x H1 ⟨h1, S1, d1, e1, g1, r1, hr1, p1⟩ => ⟨h1, S1, d1, e1, hr1, r1, p1.of⟩⟩
end
end G

namespace G
open PySem PySem.Spec PyProof.Rows L2

/-! ## statements -/
def PostS (K : PySem.W.Frag) (T : Tab) (W : WX) (h : Hv) (r : Fl) (D : Ends) : Prop :=
  match r with
  | .nx ε S => ∀ σ h', Grow h h' → EnvR K T h' σ ε → HeapR K T h' S → D.nx σ h'.H
  | .rt d S => ∀ v h', Grow h h' → RV K T h' v d → HeapR K T h' S → D.rt v h'.H
  | .bk ε S => ∀ σ h', Grow h h' → EnvR K T h' σ ε → HeapR K T h' S → D.bk σ h'.H
  | .ct ε S => ∀ σ h', Grow h h' → EnvR K T h' σ ε → HeapR K T h' S → D.ct σ h'.H
  | .ex c fs ε S => ∀ cls dd σ h', Grow h h' → EnvR K T h' σ ε → XR K T h' cls dd c fs → HeapR K T h' S → W cls dd σ h'.H
  | .bad => False
def tS (K : PySem.W.Frag) (T : Tab) (W : WX) (f : Sm) : TS := fun D σ H => ∃ h S ε, h.H = H ∧ EnvR K T h σ ε ∧ HeapR K T h S ∧ PostS K T W h (f ε S) D
abbrev SI (X : Cx) (T : Tab) (W : WX) (st : Stmt) (f : Sm) : Prop := PS X st (tS X.K T W f)
abbrev SsI (X : Cx) (T : Tab) (W : WX) (st : List Stmt) (f : Sm) : Prop := PSs X st (tS X.K T W f)
/-- an expression, then what follows -/
def lft {α : Type} (r : Rs α) (ε : Env) (k : α → Sto → Fl) : Fl := match r with
  | .ok a S => k a S
  | .exc c fs S => .ex c fs ε S
  | .bad => .bad
section
variable {K : PySem.W.Frag} {T : Tab} {W : WX} {h h' : Hv} {D : Ends}
theorem PostS.grow {r : Fl} (g : Grow h h') (p : PostS K T W h r D) : PostS K T W h' r D := by
  cases r with
  | nx ε S => exact fun σ h2 g2 => p σ h2 (g.trans g2)
  | rt d S => exact fun σ h2 g2 => p σ h2 (g.trans g2)
  | bk ε S => exact fun σ h2 g2 => p σ h2 (g.trans g2)
  | ct ε S => exact fun σ h2 g2 => p σ h2 (g.trans g2)
  | ex c fs ε S => exact fun a b σ h2 g2 => p a b σ h2 (g.trans g2)
  | bad => exact p
theorem PostS.lft {α β : Type} {R : Hv → β → α → Prop} {r : Rs α} {ε : Env} {k : α → Sto → Fl} {σ : St} (er : EnvR K T h σ ε) (p : PostS K T W h (lft r ε k) D) :
    Post K T W R σ h r (fun v H1 => ∃ h1 S1 a, h1.H = H1 ∧ Grow h h1 ∧ R h1 v a ∧ HeapR K T h1 S1 ∧ EnvR K T h1 σ ε ∧ PostS K T W h1 (k a S1) D) := by
  cases r with
  | ok a S => exact fun v h2 g2 r2 s2 => ⟨h2, S, a, rfl, g2, r2, s2, er.mono g2, PostS.grow g2 p⟩
  | exc c fs S => exact fun cls dd h2 g2 x s2 => p cls dd σ h2 g2 (er.mono g2) x s2
  | bad => exact p
theorem PostS.nx {ε : Env} {S : Sto} {σ : St} (p : PostS K T W h (.nx ε S) D) (er : EnvR K T h σ ε) (s : HeapR K T h S) : D.nx σ h.H := p σ h (Grow.refl h) er s
end
def sNop : Sm := fun ε S => .nx ε S
def sSeq (a b : Sm) : Sm := fun ε S => match a ε S with
  | .nx ε S => b ε S
  | r => r
def sSet (i : Nat) (a : E) : Sm := fun ε S => lft (a ε S) ε fun d S => .nx (ε.set i (some d)) S
def sExpr (a : E) : Sm := fun ε S => lft (a ε S) ε fun _ S => .nx ε S
def sRet (a : E) : Sm := fun ε S => lft (a ε S) ε fun d S => .rt d S
def sRetN : Sm := fun _ S => .rt .non S
def sIf (t : TeE) (a b : Sm) : Sm := fun ε S => lft (t ε S) ε fun c S => if c then a ε S else b ε S
def sBreak : Sm := fun ε S => .bk ε S
def sCont : Sm := fun ε S => .ct ε S
/-- targets -/
inductive Tg where
  | name (i : Nat)
  | tup (ts : List Tg)
mutual
def put : Tg → Da → Env → Option Env
  | .name i, d, ε => some (ε.set i (some d))
  | .tup ts, .tup ds, ε => puts ts ds ε
  | .tup ts, .lst ds, ε => puts ts ds ε
  | .tup _, _, _ => none
def puts : List Tg → List Da → Env → Option Env
  | [], [], ε => some ε
  | t :: ts, d :: ds, ε => match put t d ε with
    | some ε => puts ts ds ε
    | none => none
  | _, _, _ => none
end
def sAsg (g : Tg) (a : E) : Sm := fun ε S => lft (a ε S) ε fun d S => match put g d ε with
  | some ε => .nx ε S
  | none => .bad
mutual
def slotsT : Tg → List Nat
  | .name i => [i]
  | .tup ts => slotsTs ts
def slotsTs : List Tg → List Nat
  | [] => []
  | t :: ts => slotsT t ++ slotsTs ts
end
/-- the two frames differ at some places at most -/
def Off (l : List Nat) (σ σ' : St) : Prop := σ'.length = σ.length ∧ ∀ j, j ∉ l → σ'[j]? = σ[j]?
theorem Off.refl (l : List Nat) (σ : St) : Off l σ σ := ⟨rfl, fun _ _ => rfl⟩
theorem Off.trans {l m : List Nat} {σ1 σ2 σ3 : St} (a : Off l σ1 σ2) (b : Off m σ2 σ3) : Off (l ++ m) σ1 σ3 :=
  ⟨b.1.trans a.1, fun j hj => by
    rw [List.mem_append, not_or] at hj
    exact (b.2 j hj.2).trans (a.2 j hj.1)⟩
def tgD (K : PySem.W.Frag) (T : Tab) (g : Tg) : TG := fun v σ H Q => ∃ h S ε d, h.H = H ∧ EnvR K T h σ ε ∧ HeapR K T h S ∧ RV K T h v d ∧ ∃ ε', put g d ε = some ε' ∧ ∀ σ', EnvR K T h σ' ε' → Off (slotsT g) σ σ' → Q σ' H
def tgsD (K : PySem.W.Frag) (T : Tab) (g : List Tg) : TGs := fun vs σ H Q => ∃ h S ε ds, h.H = H ∧ EnvR K T h σ ε ∧ HeapR K T h S ∧ RVs K T h vs ds ∧ ∃ ε', puts g ds ε = some ε' ∧ ∀ σ', EnvR K T h σ' ε' → Off (slotsTs g) σ σ' → Q σ' H
abbrev GI (X : Cx) (T : Tab) (e : Expr) (g : Tg) : Prop := PG X e (tgD X.K T g)
abbrev GsI (X : Cx) (T : Tab) (e : List Expr) (g : List Tg) : Prop := PGs X e (tgsD X.K T g)
section
variable {X : Cx} {T : Tab} {W : WX} {e a b c : Expr} {es : List Expr} {pos : Pos} {f g : E} {t : TeE} {st : Stmt} {rest : List Stmt} {m n : Sm}
theorem s_nil : SsI X T W [] sNop := wkSs pss_nil fun D σ H ⟨h, S, ε, e, er, hr, p⟩ => by subst e; exact p.nx er hr
theorem s_cons (h1 : SI X T W st m) (h2 : SsI X T W rest n) : SsI X T W (st :: rest) (sSeq m n) := by
  refine wkSs (pss_cons h1 h2) fun D σ H ⟨h, S, ε, e, er, hr, p⟩ => ⟨h, S, ε, e, er, hr, ?_⟩
  unfold sSeq at p
  cases q : m ε S with
  | nx ε1 S1 => rw [q] at p; exact fun σ1 h1 g1 er1 hr1 => ⟨h1, S1, ε1, rfl, er1, hr1, PostS.grow g1 p⟩
  | rt d S1 => rw [q] at p; exact p
  | bk d S1 => rw [q] at p; exact p
  | ct d S1 => rw [q] at p; exact p
  | ex c fs d S1 => rw [q] at p; exact p
  | bad => rw [q] at p; exact p
theorem s_one (h1 : SI X T W st m) : SsI X T W [st] m := pss_one h1
theorem s_pass : SI X T W (.Pass pos) sNop := wkS ps_pass fun D σ H ⟨h, S, ε, e, er, hr, p⟩ => by subst e; exact p.nx er hr
theorem s_doc {x j pos'} : SI X T W (.Expr (.Constant (.str x) j pos) pos') sNop := wkS ps_doc fun D σ H ⟨h, S, ε, e, er, hr, p⟩ => by subst e; exact p.nx er hr
theorem s_break : SI X T W (.Break pos) sBreak := wkS ps_break fun D σ H ⟨h, S, ε, e, er, hr, p⟩ => by subst e; exact p σ h (Grow.refl h) er hr
theorem s_cont : SI X T W (.Continue pos) sCont := wkS ps_continue fun D σ H ⟨h, S, ε, e, er, hr, p⟩ => by subst e; exact p σ h (Grow.refl h) er hr
theorem s_expr (ha : EI X T W a f) (hs : swapsWith a none pos.line X.env = pure false := by rfl) : SI X T W (.Expr a pos) (sExpr f) :=
  wkS (ps_expr ha hs) fun D σ H ⟨h, S, ε, e, er, hr, p⟩ => ⟨h, S, ε, e, er, hr, (PostS.lft er p).imp fun v H1 ⟨h1, S1, d, e1, g1, r1, hr1, er1, p1⟩ => by subst e1; exact p1.nx er1 hr1⟩
theorem s_ret (ha : EI X T W a f) : SI X T W (.Return (some a) pos) (sRet f) :=
  wkS (ps_ret ha) fun D σ H ⟨h, S, ε, e, er, hr, p⟩ => ⟨h, S, ε, e, er, hr, (PostS.lft er p).imp fun v H1 ⟨h1, S1, d, e1, g1, r1, hr1, er1, p1⟩ => by subst e1; exact p1 v h1 (Grow.refl h1) r1 hr1⟩
theorem s_retN : SI X T W (.Return none pos) sRetN := wkS ps_retN fun D σ H ⟨h, S, ε, e, er, hr, p⟩ => by subst e; exact p .non h (Grow.refl h) .non hr
theorem s_if {xs ys : List Stmt} (hc : TI' X T W c t) (h1 : SsI X T W xs m) (h2 : SsI X T W ys n) : SI X T W (.If c xs ys pos) (sIf t m n) :=
  wkS (ps_if hc h1 h2) fun D σ H ⟨h, S, ε, e, er, hr, p⟩ => ⟨h, S, ε, e, er, hr, (PostS.lft er p).imp fun v H1 ⟨h1, S1, d, e1, g1, r1, hr1, er1, p1⟩ => by
    have r1' : v = d := r1
    subst r1'
    cases v with
    | true => rw [if_pos rfl]; exact ⟨h1, S1, ε, e1, er1, hr1, p1⟩
    | false => rw [if_neg (by decide)]; exact ⟨h1, S1, ε, e1, er1, hr1, p1⟩⟩
theorem s_set {i : Nat} {x : Str} {pos' : Pos} (hN : X.N.Nodup) (hi : X.N[i]? = some x) (hx : Loc X.env.scope x) (ha : EI X T W a f) (hs : swapsWith a (some (.Name x pos')) pos.line X.env = pure false := by rfl)
    (hf : X.fn x = true ∨ X.env.scope.names.lookup x = some .local := by first | exact .inl rfl | exact .inr rfl | assumption) : SI X T W (.Assign [.Name x pos'] a pos) (sSet i f) :=
  wkS (ps_set hN hi hx ha hs hf) fun D σ H ⟨h, S, ε, e, er, hr, p⟩ => ⟨h, S, ε, e, er, hr, (PostS.lft er p).imp fun v H1 ⟨h1, S1, d, e1, g1, r1, hr1, er1, p1⟩ => by
    subst e1; exact p1.nx (er1.set r1 i) hr1⟩
/-! ### targets -/
theorem wkG {tgt : Expr} {g g' : TG} (h : PG X tgt g) (w : ∀ v σ H Q, g' v σ H Q → g v σ H Q) : PG X tgt g' := ⟨fun pins s σ H v u Q I r q => h.run pins s σ H v u Q I r (w v σ H Q q)⟩
theorem wkGs {tgt : List Expr} {g g' : TGs} (h : PGs X tgt g) (w : ∀ v σ H Q, g' v σ H Q → g v σ H Q) : PGs X tgt g' := ⟨fun pins s σ H v u Q I r q => h.run pins s σ H v u Q I r (w v σ H Q q)⟩
theorem PGor {tgt : Expr} {g g' : TG} (h : PG X tgt g) (h' : PG X tgt g') : PG X tgt (fun v σ H Q => g v σ H Q ∨ g' v σ H Q) :=
  ⟨fun pins s σ H v u Q I r q => q.elim (h.run pins s σ H v u Q I r) (h'.run pins s σ H v u Q I r)⟩
theorem g_name {i : Nat} {x : Str} (hN : X.N.Nodup) (hi : X.N[i]? = some x) (hx : Loc X.env.scope x) (hf : X.fn x = true ∨ X.env.scope.names.lookup x = some .local := by first | exact .inl rfl | exact .inr rfl | assumption) : GI X T (.Name x pos) (.name i) :=
  wkG (pg_name hN hi hx hf) fun v σ H Q ⟨h, S, ε, d, e, er, hr, r, ε', q, k⟩ => by
    simp only [put, Option.some.injEq] at q
    subst q
    refine k _ (er.set r i) ⟨by simp, fun j hj => ?_⟩
    exact List.getElem?_set_ne (fun e => hj (by simp [slotsT, e]))
theorem g_nil : GsI X T [] [] := wkGs pgs_nil fun v σ H Q ⟨h, S, ε, ds, e, er, hr, r, ε', q, k⟩ => by
  cases r with
  | nil => simp only [puts, Option.some.injEq] at q; subst q; exact ⟨rfl, k _ er (Off.refl _ _)⟩
  | cons _ _ => simp [puts] at q
theorem g_cons {t1 : Tg} {ts : List Tg} (h1 : GI X T a t1) (h2 : GsI X T es ts) (hs : (assignEach (a :: es) X.env).map (·.2) = assign a X.env :: (assignEach es X.env).map (·.2) := by rfl) : GsI X T (a :: es) (t1 :: ts) :=
  wkGs (pgs_cons h1 h2 hs) fun v σ H Q ⟨h, S, ε, ds, e, er, hr, r, ε', q, k⟩ => by
    cases r with
    | nil => simp [puts] at q
    | @cons v vs d ds r1 r2 =>
      simp only [puts] at q
      split at q
      · rename_i ε1 q1
        exact ⟨v, vs, rfl, h, S, ε, d, e, er, hr, r1, ε1, q1, fun σ1 er1 o1 => ⟨h, S, ε1, ds, e, er1, hr, r2, ε', q, fun σ' er' o' => k σ' er' (o1.trans o')⟩⟩
      · cases q
theorem g_tup {k : Nat} {ts : List Tg} {n : Nat} (hc : X.calm = true) (h : GsI X T es ts) (hl : ts.length = n := by rfl)
    (hn : (assignEach es X.env).length = n := by rfl) (hst : (assignEach es X.env).findIdx? (·.1) = none := by rfl) : GI X T (.Tuple es k pos) (.tup ts) :=
  wkG (PGor (pg_tup hc h hn hst) (pg_lst hc h hn hst)) fun v σ H Q ⟨h, S, ε, d, e, er, hr, r, ε', q, k⟩ => by
    have len : ∀ (ts : List Tg) (ds : List Da) (ε ε' : Env), puts ts ds ε = some ε' → ds.length = ts.length := fun ts => by
      induction ts with
      | nil => intro ds ε ε' q; cases ds <;> simp [puts] at q ⊢
      | cons t ts ih =>
        intro ds ε ε' q
        cases ds with
        | nil => simp [puts] at q
        | cons d ds =>
          simp only [puts] at q
          split at q
          · rw [List.length_cons, List.length_cons, ih _ _ _ q]
          · cases q
    cases d with
    | tup ds =>
      simp only [put] at q
      cases r with
      | tup s rs => exact .inl ⟨_, _, rfl, by subst e; exact s.sq, by rw [rs.length, len _ _ _ _ q, hl], h, S, ε, ds, e, er, hr, rs, ε', q, k⟩
    | lst ds =>
      simp only [put] at q
      cases r with
      | lst s fr rs => exact .inr ⟨_, _, rfl, by subst e; exact SqL.of s, by rw [rs.length, len _ _ _ _ q, hl], h, S, ε, ds, e, er, hr, rs, ε', q, k⟩
    | _ => simp [put] at q
theorem s_asg {tgt : Expr} {g : Tg} (ha : EI X T W a f) (hg : GI X T tgt g) (hs : swapsWithSole [tgt] a pos.line X.env = pure false := by rfl) (hw : swappedStores [tgt] a X.env = pure none := by rfl)
    (h1 : (assignEach [tgt] X.env).map (·.2) = [assign tgt X.env] := by rfl) : SI X T W (.Assign [tgt] a pos) (sAsg g f) :=
  wkS (ps_asg ha hg hs hw h1) fun D σ H ⟨h, S, ε, e, er, hr, p⟩ => ⟨h, S, ε, e, er, hr, (PostS.lft er p).imp fun v H1 ⟨h1, S1, d, e1, g1, r1, hr1, er1, p1⟩ => by
    cases q : put g d ε with
    | none => simp only [q] at p1; exact p1.elim
    | some ε' => simp only [q] at p1; exact ⟨h1, S1, ε, d, e1, er1, hr1, r1, ε', q, fun σ' er' _ => by subst e1; exact p1.nx er' hr1⟩⟩
/-- a, b = e1, e2 -/
def sPar (i j : Nat) (a : Es) : Sm := fun ε S => lft (a ε S) ε fun ds S => match ds with
  | [x, y] => .nx ((ε.set i (some x)).set j (some y)) S
  | _ => .bad
theorem s_par {i j : Nat} {x y : Str} {fs : Es} {px py pt : Pos} {kt k2 pt2} (hc : X.calm = true) (hN : X.N.Nodup) (hi : X.N[i]? = some x) (hj : X.N[j]? = some y) (hij : i ≠ j)
    (hx : X.env.scope.names.lookup x = some .local) (hy : X.env.scope.names.lookup y = some .local) (ha : AI X T W [a, b] fs)
    (hw : swappedStores [.Tuple [.Name x px, .Name y py] kt pt] (.Tuple [a, b] k2 pt2) X.env = pure (some [x, y]))
    (hs : swapsWithSole [.Tuple [.Name x px, .Name y py] kt pt] (.Tuple [a, b] k2 pt2) pos.line X.env = pure false := by rfl) :
    SI X T W (.Assign [.Tuple [.Name x px, .Name y py] kt pt] (.Tuple [a, b] k2 pt2) pos) (sPar i j fs) :=
  wkS (ps_par hc hN hi hj hij hx hy ha hw hs) fun D σ H ⟨h, S, ε, e, er, hr, p⟩ => ⟨h, S, ε, e, er, hr, (PostS.lft er p).imp fun v H1 ⟨h1, S1, d, e1, g1, r1, hr1, er1, p1⟩ => by
    cases r1 with
    | nil => exact (show False from p1).elim
    | cons q1 r1 =>
      cases r1 with
      | nil => exact (show False from p1).elim
      | cons q2 r1 =>
        cases r1 with
        | cons _ _ => exact (show False from p1).elim
        | nil => subst e1; exact ⟨_, _, rfl, p1.nx ((er1.set q1 i).set q2 j) hr1⟩⟩
/-! ### x op= e -/
def sAug (i : Nat) (g2 : Da → Da → Sto → Option (Da × Sto)) (a : E) : Sm := fun ε S => match ε[i]? with
  | some (some d) => if isExv d then .bad else lft (a ε S) ε fun y S => match g2 d y S with
    | some (z, S) => .nx (ε.set i (some z)) S
    | none => .bad
  | _ => .bad
theorem s_aug {i : Nat} {x : Str} {op : Operator} {g2 : Da → Da → Sto → Option (Da × Sto)} {pos' : Pos} (hN : X.N.Nodup) (hi : X.N[i]? = some x) (hx : Loc X.env.scope x) (ha : EI X T W a f) (ho : OpR X (inplaceOp op) (rD2 X.K T g2))
    (hf : X.fn x = true ∨ X.env.scope.names.lookup x = some .local := by first | exact .inl rfl | exact .inr rfl | assumption) : SI X T W (.AugAssign (.Name x pos') op a pos) (sAug i g2 f) :=
  wkS (ps_aug hN hi hx ha ho hf) fun D σ H ⟨h, S, ε, e, er, hr, p⟩ => by
    unfold sAug at p
    split at p
    · rename_i d q
      rcases er.2 i d q with ⟨nx, v, e1, rv⟩ | ⟨_, _, _, c, fs, e1, _⟩
      · rw [nx, if_neg Bool.false_ne_true] at p
        refine ⟨v, e1, h, S, ε, e, er, hr, (PostS.lft er p).imp fun y H1 ⟨h1, S1, dy, e1, g1, r1, hr1, er1, p1⟩ => ?_⟩
        refine ⟨h1, S1, d, dy, e1, hr1, rv.mono g1, r1, ?_⟩
        cases z : g2 d dy S1 with
        | none => simp only [z] at p1; exact p1.elim
        | some zz =>
          simp only [z] at p1
          exact fun v2 h2 g2 r2 hr2 => (PostS.grow g2 p1).nx ((er1.mono g2).set r2 i) hr2
      · subst e1
        rw [if_pos (by rfl)] at p
        exact p.elim
    · exact p.elim
end
end G

namespace G
open PySem PySem.Spec PyProof.Rows L2

/-! ## what is walked -/
def ItR (K : PySem.W.Frag) (T : Tab) (h : Hv) (J : It) (ds : List Da) : Prop :=
  (∀ i h2 S, Ext h h2 → HeapR K T h2 S → i < ds.length → J.go i h2.H) ∧
  (∀ i h2 S, Ext h h2 → HeapR K T h2 S → ds.length ≤ i → J.stop i h2.H) ∧
  (∀ (i : Nat) h2 S x H', Ext h h2 → HeapR K T h2 S → i < ds.length → J.yld i h2.H x H' → ∃ h3 d, h3.H = H' ∧ Grow h2 h3 ∧ HeapR K T h3 S ∧ ds[i]? = some d ∧ RV K T h3 x d)
abbrev Ie := Env → Sto → Rs (List Da)
abbrev II (X : Cx) (T : Tab) (W : WX) (tg e : Expr) (f : Ie) : Prop := PI X tg e (tG X.K T W (ItR X.K T) f)
theorem wkI {X : Cx} {tg e : Expr} {t t' : TI} (h : PI X tg e t) (w : ∀ σ H Q, t' σ H Q → t σ H Q) : PI X tg e t' := ⟨fun pins s σ H Q I q => h.run pins s σ H Q I (w σ H Q q)⟩
theorem PIor {X : Cx} {tg e : Expr} {t t' : TI} (h : PI X tg e t) (h' : PI X tg e t') : PI X tg e (fun σ H R => t σ H R ∨ t' σ H R) :=
  ⟨fun pins s σ H Q I q => q.elim (h.run pins s σ H Q I) (h'.run pins s σ H Q I)⟩
section
variable {K : PySem.W.Frag} {T : Tab} {h : Hv}
theorem itr_lst {a : Addr} {xs : List V} {ds : List Da} (e : h.H a = some (.lst xs)) (f : h.free a) (r : RVs K T h xs ds) : ItR K T h (Itl K a) ds := by
  refine ⟨fun i h2 S g hr hi => ?_, fun i h2 S g hr hi => ?_, fun i h2 S x H' g hr hi y => ?_⟩
  · obtain ⟨e2, _⟩ := g.keep _ _ e f
    obtain ⟨v, hv, _⟩ := r.get (i := i) (d := ds[i]) (by simp [hi])
    exact ⟨xs, v, SqL.of e2, hv⟩
  · obtain ⟨e2, _⟩ := g.keep _ _ e f
    exact ⟨xs, SqL.of e2, by rw [r.length]; exact hi⟩
  · obtain ⟨e2, _⟩ := g.keep _ _ e f
    obtain ⟨e3, y⟩ := y
    subst e3
    obtain ⟨d, hd, rv⟩ := r.get' (y xs (SqL.of e2))
    exact ⟨h2, d, rfl, Grow.refl h2, hr, hd, rv.mono g⟩
theorem itr_tup {a : Addr} {xs : List V} {ds : List Da} (s : ST K h a xs) (r : RVs K T h xs ds) : ItR K T h (Itt K a) ds := by
  refine ⟨fun i h2 S g hr hi => ?_, fun i h2 S g hr hi => ?_, fun i h2 S x H' g hr hi y => ?_⟩
  · obtain ⟨v, hv, _⟩ := r.get (i := i) (d := ds[i]) (by simp [hi])
    exact ⟨xs, v, (s.mono g).sq, hv⟩
  · exact ⟨xs, (s.mono g).sq, by rw [r.length]; exact hi⟩
  · obtain ⟨e3, y⟩ := y
    subst e3
    obtain ⟨d, hd, rv⟩ := r.get' (y xs (s.mono g).sq)
    exact ⟨h2, d, rfl, Grow.refl h2, hr, hd, rv.mono g⟩
theorem itr_rng (lo : Int) (n : Nat) : ItR K T h (Itr lo n) ((List.range n).map fun i => Da.int (lo + (i : Nat))) := by
  refine ⟨fun i h2 S g hr hi => (show i < n by simpa using hi), fun i h2 S g hr hi => (show n ≤ i by simpa using hi), fun i h2 S x H' g hr hi y => ?_⟩
  · obtain ⟨e3, y⟩ := y
    subst e3; subst y
    have hi' : i < n := by simpa using hi
    exact ⟨h2, .int (lo + i), rfl, Grow.refl h2, hr, by simp [hi'], .int _⟩
theorem itr_str (x : Str) : ItR K T h (Its x) (x.cps.toList.map fun c => Da.str ⟨#[c]⟩) := by
  refine ⟨fun i h2 S g hr hi => (show i < x.cps.size by simpa using hi), fun i h2 S g hr hi => (show x.cps.size ≤ i by simpa using hi), fun i h2 S v H' g hr hi y => ?_⟩
  · obtain ⟨e3, c, hc, y⟩ := y
    subst e3; subst y
    refine ⟨h2, .str ⟨#[c]⟩, rfl, Grow.refl h2, hr, ?_, .str _⟩
    simp [hc]
end
/-- the items of a value -/
def items : Da → Option (List Da)
  | .lst ds => some ds
  | .tup ds => some ds
  | .str x => some (x.cps.toList.map fun c => .str ⟨#[c]⟩)
  | _ => none
def iVal (a : E) : Ie := fun ε S => (a ε S).bind fun x S => match items x with | some ds => .ok ds S | none => .bad
def rng (lo hi : Int) : List Da := (List.range (hi - lo).toNat).map fun i => Da.int (lo + (i : Nat))
noncomputable def iRange1 (a : Es) : Ie := fun ε S => (a ε S).bind fun xs S => match xs with
  | [.int j] => if inW 62 j = true then .ok (rng 0 j) S else .bad
  | _ => .bad
noncomputable def iRange2 (a : Es) : Ie := fun ε S => (a ε S).bind fun xs S => match xs with
  | [.int i, .int j] => if inW 62 i = true ∧ inW 62 j = true then .ok (rng i j) S else .bad
  | _ => .bad
section
variable {X : Cx} {T : Tab} {W : WX} {tg e a b : Expr} {pos p : Pos} {f g : E} {fs : Es}
theorem it_val (ha : EI X T W a f) : II X T W tg a (iVal f) := by
  refine wkI (PIor (pi_list ha) (PIor (pi_tup ha) (pi_str ha))) fun σ H R ⟨h, S, ε, e, er, hr, p⟩ => ?_
  cases q : f ε S with
  | bad => simp only [iVal, q] at p; exact p.elim
  | exc c fs S1 =>
    simp only [iVal, q] at p
    exact .inl ⟨h, S, ε, e, er, hr, by rw [q]; exact p⟩
  | ok d S1 =>
    cases d with
    | lst ds =>
      simp only [iVal, q, Rs.bind, items] at p
      refine .inl ⟨h, S, ε, e, er, hr, ?_⟩
      rw [q]
      intro v h1 g1 r1 hr1
      cases r1 with | lst e1 f1 rs => exact ⟨_, rfl, ⟨_, SqL.of e1⟩, p _ h1 g1 (itr_lst e1 f1 rs) hr1⟩
    | tup ds =>
      simp only [iVal, q, Rs.bind, items] at p
      refine .inr (.inl ⟨h, S, ε, e, er, hr, ?_⟩)
      rw [q]
      intro v h1 g1 r1 hr1
      cases r1 with | tup e1 rs => exact ⟨_, rfl, ⟨_, e1.sq⟩, p _ h1 g1 (itr_tup e1 rs) hr1⟩
    | str x =>
      simp only [iVal, q, Rs.bind, items] at p
      refine .inr (.inr ⟨h, S, ε, e, er, hr, ?_⟩)
      rw [q]
      intro v h1 g1 r1 hr1
      cases r1
      exact ⟨x, rfl, p _ h1 g1 (itr_str x) hr1⟩
    | _ => simp only [iVal, q, Rs.bind, items] at p; exact p.elim
theorem it_range1 (hg : Gl X "range") (hm : X.mg "range" = none) (ha : AI X T W [a] fs) (hs : starEach [a] X.env = [(false, eval a X.env)] := by rfl) : II X T W tg (.Call (.Name "range" p) [a] [] pos) (iRange1 fs) :=
  wkI (pi_range1 hg hm ha hs) fun σ H R ⟨h, S, ε, e, er, hr, p⟩ => ⟨h, S, ε, e, er, hr, by
    unfold iRange1 at p
    refine (Post.bind p).imp fun vs H1 ⟨h1, S1, ds, e1, g1, r1, hr1, p1⟩ => ?_
    split at p1
    · rename_i j
      cases r1 with | cons q1 q2 =>
      cases q2; cases q1
      split at p1
      · rename_i hj
        subst e1
        refine ⟨j, rfl, (inW_to hj).1, (inW_to hj).2, Post.ret p1 ?_ hr1⟩
        have := itr_rng (K := X.K) (T := T) (h := h1) 0 j.toNat
        unfold rng
        rw [Int.sub_zero]
        exact this
      · exact p1.elim
    · exact p1.elim⟩
theorem it_range2 (hg : Gl X "range") (hm : X.mg "range" = none) (ha : AI X T W [a, b] fs) (hs : starEach [a, b] X.env = [(false, eval a X.env), (false, eval b X.env)] := by rfl) (hs2 : starEach [b] X.env = [(false, eval b X.env)] := by rfl) : II X T W tg (.Call (.Name "range" p) [a, b] [] pos) (iRange2 fs) :=
  wkI (pi_range2 hg hm ha hs hs2) fun σ H R ⟨h, S, ε, e, er, hr, p⟩ => ⟨h, S, ε, e, er, hr, by
    unfold iRange2 at p
    refine (Post.bind p).imp fun vs H1 ⟨h1, S1, ds, e1, g1, r1, hr1, p1⟩ => ?_
    split at p1
    · rename_i i j
      cases r1 with | cons q1 q2 =>
      cases q2 with | cons q2 q3 =>
      cases q3; cases q2; cases q1
      split at p1
      · rename_i hj
        subst e1
        exact ⟨i, j, rfl, ⟨(inW_to hj.1).1, (inW_to hj.1).2, (inW_to hj.2).1, (inW_to hj.2).2⟩, Post.ret p1 (itr_rng (K := X.K) (T := T) (h := h1) i (j - i).toNat) hr1⟩
      · exact p1.elim
    · exact p1.elim⟩
end

/-! ## for -/
def forL (g : Tg) (b : Sm) : List Da → Env → Sto → Fl
  | [], ε, S => .nx ε S
  | d :: ds, ε, S => match put g d ε with
    | none => .bad
    | some ε => match b ε S with
      | .nx ε S => forL g b ds ε S
      | .ct ε S => forL g b ds ε S
      | .bk ε S => .nx ε S
      | r => r
def sFor (it : Ie) (g : Tg) (b : Sm) : Sm := fun ε S => lft (it ε S) ε fun ds S => forL g b ds ε S
section
variable {X : Cx} {T : Tab} {W : WX} {tg e : Expr} {pos : Pos} {it : Ie} {g : Tg} {body : List Stmt} {b : Sm}
theorem s_for (po : PassesOwn (model X.prog X.w) X.A X.env X.xe) (hc : X.calm = true) (hi : II X T W tg e it) (hg : GI X T tg g) (hb : SsI X T W body b) (hs : ∀ x, foldedSetIterable e X.env x = pure x := by intro _; rfl) :
    SI X T W (.For tg e body [] pos) (sFor it g b) := by
  refine wkS (ps_for po hc hi hg hb hs) fun D σ H ⟨h, S, ε, e, er, hr, p⟩ => ⟨h, S, ε, e, er, hr, (PostS.lft er p).imp fun J H1 ⟨h1, S1, ds, e1, g1, r1, hr1, er1, p1⟩ => ?_⟩
  refine ⟨fun i m σ' H' => m = ds.length - i ∧ i ≤ ds.length ∧ ∃ h2 S2 ε2, h2.H = H' ∧ Grow h1 h2 ∧ EnvR X.K T h2 σ' ε2 ∧ HeapR X.K T h2 S2 ∧ PostS X.K T W h2 (forL g b (ds.drop i) ε2 S2) D,
    ⟨ds.length, rfl, Nat.zero_le _, h1, S1, ε, e1, Grow.refl h1, er1, hr1, p1⟩, ?_⟩
  rintro i m σ' H' ⟨rfl, hi, h2, S2, ε2, rfl, g2, er2, hr2, p2⟩
  by_cases hlt : i < ds.length
  · refine .inr ⟨r1.1 i h2 S2 g2.ext hr2 hlt, fun σ'' H'' => ∃ h3 S3 ε3, h3.H = H'' ∧ Grow h1 h3 ∧ EnvR X.K T h3 σ'' ε3 ∧ HeapR X.K T h3 S3 ∧ PostS X.K T W h3 (forL g b (ds.drop (i + 1)) ε3 S3) D,
      fun σ'' H'' n => ⟨ds.length - (i + 1), by omega, rfl, hlt, n⟩, fun x H3 y => ?_⟩
    obtain ⟨h3, d, rfl, g3, hr3, hd, rv⟩ := r1.2.2 i h2 S2 x H3 g2.ext hr2 hlt y
    have ed : ds.drop i = d :: ds.drop (i + 1) := by
      rw [List.drop_eq_getElem_cons hlt]
      rw [List.getElem?_eq_getElem hlt] at hd
      cases hd; rfl
    rw [ed] at p2
    unfold forL at p2
    cases q : put g d ε2 with
    | none => simp only [q] at p2; exact p2.elim
    | some ε3 =>
      simp only [q] at p2
      refine ⟨h3, S2, ε2, d, rfl, er2.mono g3.ext, hr3, rv, ε3, q, fun σ3 er3 _ => ⟨h3, S2, ε3, rfl, er3, hr3, ?_⟩⟩
      have p3 := PostS.grow g3 p2
      cases z : b ε3 S2 with
      | nx ε4 S4 => rw [z] at p3; exact fun σ4 h4 g4 er4 hr4 => ⟨h4, S4, ε4, rfl, (g2.trans g3).trans g4, er4, hr4, PostS.grow g4 p3⟩
      | ct ε4 S4 => rw [z] at p3; exact fun σ4 h4 g4 er4 hr4 => ⟨h4, S4, ε4, rfl, (g2.trans g3).trans g4, er4, hr4, PostS.grow g4 p3⟩
      | bk ε4 S4 => rw [z] at p3; exact p3
      | rt d4 S4 => rw [z] at p3; exact p3
      | ex c fs ε4 S4 => rw [z] at p3; exact p3
      | bad => rw [z] at p3; exact p3
  · have ei : i = ds.length := by omega
    subst ei
    rw [List.drop_length] at p2
    exact .inl ⟨r1.2.1 _ h2 S2 g2.ext hr2 (Nat.le_refl _), p2.nx er2 hr2⟩
end

/-! ## while -/
def whileN (t : TeE) (b : Sm) : Nat → Env → Sto → Fl
  | 0, _, _ => .bad
  | n + 1, ε, S => lft (t ε S) ε fun c S => if c then (match b ε S with
      | .nx ε S => whileN t b n ε S
      | .ct ε S => whileN t b n ε S
      | .bk ε S => .nx ε S
      | r => r) else .nx ε S
open Classical in
noncomputable def sWhile (t : TeE) (b : Sm) : Sm := fun ε S => if h : ∃ n, whileN t b n ε S ≠ .bad then whileN t b (Classical.choose h) ε S else .bad
theorem whileN_mono {t : TeE} {b : Sm} : ∀ {n m : Nat} {ε : Env} {S : Sto}, n ≤ m → whileN t b n ε S ≠ .bad → whileN t b m ε S = whileN t b n ε S
  | 0, _, _, _, _, h => absurd rfl h
  | n + 1, 0, _, _, hl, _ => by omega
  | n + 1, m + 1, ε, S, hl, h => by
    unfold whileN at h ⊢
    cases q : t ε S with
    | bad => rfl
    | exc c fs S1 => rfl
    | ok c S1 =>
      simp only [q, lft] at h ⊢
      cases c with
      | false => rfl
      | true =>
        simp only [if_true] at h ⊢
        cases z : b ε S1 with
        | nx ε2 S2 => simp only [z] at h ⊢; exact whileN_mono (by omega) h
        | ct ε2 S2 => simp only [z] at h ⊢; exact whileN_mono (by omega) h
        | _ => rfl
theorem sWhile_of {t : TeE} {b : Sm} {n : Nat} {ε : Env} {S : Sto} (h : whileN t b n ε S ≠ .bad) : sWhile t b ε S = whileN t b n ε S := by
  have hx : ∃ n, whileN t b n ε S ≠ .bad := ⟨n, h⟩
  unfold sWhile
  rw [dif_pos hx]
  have h2 := Classical.choose_spec hx
  rcases Nat.le_total n (Classical.choose hx) with l | l
  · exact whileN_mono l h
  · exact (whileN_mono l h2).symm
section
variable {X : Cx} {T : Tab} {W : WX} {c : Expr} {pos : Pos} {t : TeE} {body : List Stmt} {b : Sm}
theorem s_while (po : PassesOwn (model X.prog X.w) X.A X.env X.xe) (hc : TI' X T W c t) (hb : SsI X T W body b) : SI X T W (.While c body [] pos) (sWhile t b) := by
  refine wkS (ps_while po hc hb) fun D σ H ⟨h, S, ε, e, er, hr, p⟩ => ?_
  unfold sWhile at p
  split at p
  · rename_i hx
    refine ⟨fun m σ' H' => ∃ h2 S2 ε2, h2.H = H' ∧ EnvR X.K T h2 σ' ε2 ∧ HeapR X.K T h2 S2 ∧ PostS X.K T W h2 (whileN t b m ε2 S2) D, ⟨_, h, S, ε, e, er, hr, p⟩, ?_⟩
    rintro m σ' H' ⟨h2, S2, ε2, rfl, er2, hr2, p2⟩
    cases m with
    | zero => exact p2.elim
    | succ m =>
      unfold whileN at p2
      refine ⟨h2, S2, ε2, rfl, er2, hr2, (PostS.lft er2 p2).imp fun k H3 ⟨h3, S3, k', e3, g3, r3, hr3, er3, p3⟩ => ?_⟩
      have r3' : k = k' := r3
      subst r3'
      cases k with
      | false => rw [if_neg (by decide)]; subst e3; exact p3.nx er3 hr3
      | true =>
        rw [if_pos rfl]
        simp only [if_true] at p3
        refine ⟨fun σ4 H4 => ∃ h2 S2 ε2, h2.H = H4 ∧ EnvR X.K T h2 σ4 ε2 ∧ HeapR X.K T h2 S2 ∧ PostS X.K T W h2 (whileN t b m ε2 S2) D, fun σ4 H4 n => ⟨m, Nat.lt_succ_self _, n⟩, h3, S3, ε2, e3, er3, hr3, ?_⟩
        cases z : b ε2 S3 with
        | nx ε4 S4 => simp only [z] at p3; exact fun σ4 h4 g4 er4 hr4 => ⟨h4, S4, ε4, rfl, er4, hr4, PostS.grow g4 p3⟩
        | ct ε4 S4 => simp only [z] at p3; exact fun σ4 h4 g4 er4 hr4 => ⟨h4, S4, ε4, rfl, er4, hr4, PostS.grow g4 p3⟩
        | bk ε4 S4 => simp only [z] at p3; exact p3
        | rt d4 S4 => simp only [z] at p3; exact p3
        | ex c fs ε4 S4 => simp only [z] at p3; exact p3
        | bad => simp only [z] at p3; exact p3
  · exact p.elim
end

/-! ## comprehensions -/
def Rs.bindN {α β : Type} (r : Rs α) (k : α → Sto → Rs β) : Rs β := match r with
  | .ok a S => k a S
  | _ => .bad
def wipeE (ε : Env) : List Nat → Env
  | [] => ε
  | v :: vs => (wipeE ε vs).set v none
def compL (g : Tg) (t : TeE) (a : E) (ε : Env) : List Da → Sto → Rs (List Da)
  | [], S => .ok [] S
  | d :: ds, S => match put g d ε with
    | none => .bad
    | some ε1 => (t ε1 S).bindN fun c S => if c then (a ε1 S).bindN fun x S => (compL g t a ε ds S).bindN fun xs S => .ok (x :: xs) S else compL g t a ε ds S
def tYesD : TeE := fun _ S => .ok true S
/-- [a for g in it if t]: a list as a value -/
def eComp (own : List Nat) (it : Ie) (g : Tg) (t : TeE) (a : E) : E := fun ε S => (it ε S).bind fun ds S => if ds.length ≤ sizeLine then (compL g t a (wipeE ε own) ds S).bindN fun xs S => .ok (.lst xs) S else .bad
/-- the same, a list in the store -/
def eCompNew (own : List Nat) (it : Ie) (g : Tg) (t : TeE) (a : E) : E := fun ε S => (it ε S).bind fun ds S => if ds.length ≤ sizeLine then (compL g t a (wipeE ε own) ds S).bindN fun xs S => .ok (.ref S.length) (S ++ [.lst xs]) else .bad
abbrev wNo : WX := fun _ _ _ _ => False
abbrev QI (X : Cx) (T : Tab) (W : WX) (ifs : List Expr) (t : TeE) : Prop := PTs X ifs (tG X.K T W REq t)
section
variable {K : PySem.W.Frag} {T : Tab} {h h' : Hv}
theorem EnvR.wipe {σ : St} {ε : Env} (er : EnvR K T h σ ε) : ∀ own : List Nat, EnvR K T h (wipe σ own) (wipeE ε own)
  | [] => er
  | v :: vs => (EnvR.wipe er vs).unset v none
theorem Off.wipe {l own : List Nat} {σ σ' : St} (o : Off l σ σ') (hl : ∀ j ∈ l, j ∈ own) : L2.wipe σ' own = L2.wipe σ own := by
  have gen : ∀ (own : List Nat) (j : Nat), (L2.wipe σ' own)[j]? = if j ∈ own then (if j < σ.length then some none else none) else σ'[j]? := by
    intro own j
    induction own with
    | nil => simp [L2.wipe]
    | cons v vs ih =>
      show ((L2.wipe σ' vs).set v none)[j]? = _
      by_cases hv : v = j
      · subst hv
        rw [List.getElem?_set]
        simp [wipe_length, o.1]
      · rw [List.getElem?_set_ne hv, ih]
        simp [Ne.symm hv]
  have gen2 : ∀ (own : List Nat) (j : Nat), (L2.wipe σ own)[j]? = if j ∈ own then (if j < σ.length then some none else none) else σ[j]? := by
    intro own j
    induction own with
    | nil => simp [L2.wipe]
    | cons v vs ih =>
      show ((L2.wipe σ vs).set v none)[j]? = _
      by_cases hv : v = j
      · subst hv
        rw [List.getElem?_set]
        simp [wipe_length]
      · rw [List.getElem?_set_ne hv, ih]
        simp [Ne.symm hv]
  refine List.ext_getElem? fun j => ?_
  rw [gen, gen2]
  by_cases hj : j ∈ own
  · simp [hj]
  · rw [if_neg hj, if_neg hj]
    exact o.2 j fun z => hj (hl j z)
/-- an address is hidden: nothing is known of it -/
def hide (h : Hv) (D : Addr) (o : HO) : Hv := { m := h.m, B := D :: h.B, H := upd h.H D o }
theorem ext_hide {D : Addr} (hD : h.H D = none) (o : HO) : Ext h (hide h D o) where
  slot := fun _ _ e => .inl e
  keep := fun a u e f => by
    have ne := ne_of_none e hD
    exact ⟨by show upd h.H D o a = _; rw [upd_ne ne]; exact e, f.1, fun z => (List.mem_cons.mp z).elim ne f.2⟩
theorem HeapR.hide {S : Sto} {D : Addr} (r : HeapR K T h S) (hD : h.H D = none) (o : HO) : HeapR K T (hide h D o) S where
  len := r.len
  nd := r.nd
  ob := fun n a ob e s => by
    have x := r.ob n a ob e s
    obtain ⟨u, q⟩ := x.some
    exact x.mono (ext_hide hD o) (upd_ne (ne_of_none q hD))
  gone := r.gone
  hid := fun a e => by
    rcases List.mem_cons.mp e with e | e
    · subst e; exact ⟨(r.fresh hD).1, by show upd h.H a o a ≠ none; rw [upd_same]; exact fun z => nomatch z⟩
    · obtain ⟨h1, h2⟩ := r.hid a e
      exact ⟨h1, by show upd h.H D o a ≠ none; rw [upd_ne (fun z => by subst z; exact h2 hD)]; exact h2⟩
/-- a hidden object changes -/
theorem ext_hidden {D : Addr} (hD : D ∈ h.B) (o : HO) : Ext h { h with H := upd h.H D o } where
  slot := fun _ _ e => .inl e
  keep := fun a u e f => ⟨by
    show upd h.H D o a = _
    rw [upd_ne (fun z => by subst z; exact f.2 hD)]; exact e, f⟩
theorem HeapR.hidden {S : Sto} {D : Addr} (r : HeapR K T h S) (hD : D ∈ h.B) (o : HO) : HeapR K T { h with H := upd h.H D o } S where
  len := r.len
  nd := r.nd
  ob := fun n a ob e s => (r.ob n a ob e s).mono (ext_hidden hD o) (upd_ne (fun z => by subst z; exact (r.hid a hD).1 (List.mem_of_getElem? e)))
  gone := r.gone
  hid := fun a e => ⟨(r.hid a e).1, by
    show upd h.H D o a ≠ none
    by_cases z : a = D
    · subst z; rw [upd_same]; exact fun z => nomatch z
    · rw [upd_ne z]; exact (r.hid a e).2⟩
/-- hidden no more -/
theorem ext_show {D : Addr} {B : List Addr} (hB : h.B = D :: B) : Ext h { h with B := B } where
  slot := fun _ _ e => .inl e
  keep := fun a u e f => ⟨e, f.1, fun z => f.2 (by rw [hB]; exact List.mem_cons_of_mem _ z)⟩
theorem HeapR.shown {S : Sto} {D : Addr} {B : List Addr} (r : HeapR K T h S) (hB : h.B = D :: B) : HeapR K T { h with B := B } S where
  len := r.len
  nd := r.nd
  ob := fun n a ob e s => (r.ob n a ob e s).mono (ext_show hB) rfl
  gone := r.gone
  hid := fun a e => r.hid a (by rw [hB]; exact List.mem_cons_of_mem _ e)
end
section
variable {X : Cx} {T : Tab} {W : WX} {tg iter elt : Expr} {ifs : List Expr} {pos : Pos} {it : Ie} {g : Tg} {t : TeE} {a : E} {scope : Scope} {own : List (Str × Nat)}
theorem q_nil {X : Cx} {W : WX} : QI X T W [] tYesD := ⟨fun pins s σ H Q I ⟨h, S, ε, e, er, hr, p⟩ => pts_nil.run pins s σ H Q I (by subst e; exact Post.ret p rfl hr)⟩
theorem q_one {X : Cx} {W : WX} {c : Expr} (ht : TI' X T W c t) : QI X T W [c] t := pts_one ht
/-- the turns of a comprehension -/
theorem comp_core {h1 : Hv} {σ : St} {ε : Env} {J : It} {ds : List Da} {S1 : Sto} {Q : VK} (r1 : ItR X.K T h1 J ds) (hr1 : HeapR X.K T h1 S1) (er1 : EnvR X.K T h1 σ ε) (hl : ds.length ≤ sizeLine)
    (hown : ∀ j ∈ slotsT g, j ∈ own.map (·.2))
    (p : ∃ xs S2, compL g t a (wipeE ε (own.map (·.2))) ds S1 = .ok xs S2 ∧ ∀ (h2 : Hv) (D : Addr) (acc : List V), Grow h1 h2 → HeapR X.K T h2 S2 → h1.H D = none → h2.H D = some (.lst acc) → h2.free D → RVs X.K T h2 acc xs → Q (.ref D) h2.H) :
    ∀ D, h1.H D = none → ∃ W' : Nat → Nat → Hp → Prop, (∃ m, W' 0 m (upd h1.H D (.lst []))) ∧ ∀ i m H, W' i m H →
      (J.stop i H ∧ Q (.ref D) H) ∨ (J.go i H ∧ ∃ Nx : Hp → Prop, (∀ H', Nx H' → ∃ m', m' < m ∧ W' (i + 1) m' H') ∧ ∀ x H', J.yld i H x H' → tgD X.K T g x (wipe σ (own.map (·.2))) H' fun σ2 H2 => wipe σ2 (own.map (·.2)) = wipe σ (own.map (·.2)) ∧ tG X.K T wNo REq t σ2 H2 fun b H3 =>
        if b = true then tG X.K T wNo (RV X.K T) a σ2 H3 fun y H4 => ∃ acc, H4 D = some (.lst acc) ∧ acc.length < sizeLine ∧ Nx (upd H4 D (.lst (acc ++ [y]))) else Nx H3) := by
  intro D hD
  obtain ⟨xs, Se, hcomp, fin⟩ := p
  -- the state between two turns
  refine ⟨fun i m H' => m = ds.length - i ∧ i ≤ ds.length ∧ ∃ h2 S2 acc accD xs2, h2.H = H' ∧ h2.B = D :: h1.B ∧ Ext h1 h2 ∧ (∀ b o, h1.H b = some o → some b ∉ h1.m → h2.H b = some o ∧ some b ∉ h2.m) ∧ HeapR X.K T h2 S2 ∧
      h2.H D = some (.lst acc) ∧ RVs X.K T h2 acc accD ∧ acc.length ≤ i ∧ xs = accD ++ xs2 ∧ compL g t a (wipeE ε (own.map (·.2))) (ds.drop i) S2 = .ok xs2 Se,
    ⟨ds.length, rfl, Nat.zero_le _, hide h1 D (.lst []), S1, [], [], xs, rfl, rfl, ext_hide hD _, fun b o e n => ?_, hr1.hide hD _, upd_same, .nil, Nat.le_refl _, rfl, hcomp⟩, ?_⟩
  · exact ⟨by show upd h1.H D _ b = _; rw [upd_ne (ne_of_none e hD)]; exact e, n⟩
  rintro i m H' ⟨rfl, hi, h2, S2, acc, accD, xs2, rfl, hB, x2, k2, hr2, hDa, ra, la, exs, hc⟩
  by_cases hlt : i < ds.length
  · refine .inr ⟨r1.1 i h2 S2 x2 hr2 hlt, fun H'' => ∃ h2 S2 acc accD xs2, h2.H = H'' ∧ h2.B = D :: h1.B ∧ Ext h1 h2 ∧ (∀ b o, h1.H b = some o → some b ∉ h1.m → h2.H b = some o ∧ some b ∉ h2.m) ∧ HeapR X.K T h2 S2 ∧
        h2.H D = some (.lst acc) ∧ RVs X.K T h2 acc accD ∧ acc.length ≤ i + 1 ∧ xs = accD ++ xs2 ∧ compL g t a (wipeE ε (own.map (·.2))) (ds.drop (i + 1)) S2 = .ok xs2 Se,
      fun H'' n => ⟨ds.length - (i + 1), by omega, rfl, hlt, n⟩, fun x H3 y => ?_⟩
    obtain ⟨h3, d, rfl, g3, hr3, hd, rv⟩ := r1.2.2 i h2 S2 x H3 x2 hr2 hlt y
    have ed : ds.drop i = d :: ds.drop (i + 1) := by
      rw [List.drop_eq_getElem_cons hlt]
      rw [List.getElem?_eq_getElem hlt] at hd
      cases hd; rfl
    rw [ed] at hc
    unfold compL at hc
    have D2 : some D ∉ h2.m := (hr2.hid D (by rw [hB]; exact List.mem_cons_self)).1
    have er3 : EnvR X.K T h3 (wipe σ (own.map (·.2))) (wipeE ε (own.map (·.2))) := ((er1.mono x2).mono g3.ext).wipe _
    cases q : put g d (wipeE ε (own.map (·.2))) with
    | none => simp only [q] at hc; cases hc
    | some ε3 =>
      simp only [q] at hc
      refine ⟨h3, S2, _, d, rfl, er3, hr3, rv, ε3, q, fun σ3 er4 off => ⟨off.wipe hown |>.trans ?_, h3, S2, ε3, rfl, er4, hr3, ?_⟩⟩
      · clear hc q fin exs
        have idem : ∀ (l : List Nat) (v : Nat), (wipe σ l) = wipe σ l := fun _ _ => rfl
        have key : ∀ own : List Nat, wipe (wipe σ own) own = wipe σ own := fun own => by
          refine List.ext_getElem? fun j => ?_
          have gen : ∀ (τ : St) (own : List Nat) (j : Nat), (L2.wipe τ own)[j]? = if j ∈ own then (if j < τ.length then some none else none) else τ[j]? := by
            intro τ own j
            induction own with
            | nil => simp [L2.wipe]
            | cons v vs ih =>
              show ((L2.wipe τ vs).set v none)[j]? = _
              by_cases hv : v = j
              · subst hv
                rw [List.getElem?_set]
                simp [wipe_length]
              · rw [List.getElem?_set_ne hv, ih]
                simp [Ne.symm hv]
          rw [gen, gen, wipe_length]
          by_cases hj : j ∈ own <;> simp [hj]
        exact key _
      · cases z : t ε3 S2 with
        | bad => simp only [z, Rs.bindN] at hc; cases hc
        | exc c fs S3 => simp only [z, Rs.bindN] at hc; cases hc
        | ok b S3 =>
          simp only [z, Rs.bindN] at hc
          intro b' h4 g4 eb hr4
          have eb' : b' = b := eb
          subst eb'
          cases b' with
          | false =>
            simp only [Bool.false_eq_true, if_false] at hc ⊢
            have gg := g3.trans g4
            obtain ⟨e5, _⟩ := gg.keep D _ hDa D2
            exact ⟨h4, S3, acc, accD, xs2, rfl, gg.B.trans hB, x2.trans gg.ext, fun b o e n => let ⟨e1, n1⟩ := k2 b o e n; gg.keep b o e1 n1, hr4, e5, ra.mono gg.ext, by omega, exs, hc⟩
          | true =>
            simp only [if_true] at hc ⊢
            refine ⟨h4, S3, ε3, rfl, er4.mono g4.ext, hr4, ?_⟩
            cases z2 : a ε3 S3 with
            | bad => simp only [z2] at hc; cases hc
            | exc c fs S4 => simp only [z2] at hc; cases hc
            | ok dy S4 =>
              simp only [z2] at hc
              intro y h5 g5 ry hr5
              have gg := (g3.trans g4).trans g5
              obtain ⟨e5, n5⟩ := gg.keep D _ hDa D2
              have D5 : D ∈ h5.B := by rw [gg.B, hB]; exact List.mem_cons_self
              cases z3 : compL g t a (wipeE ε (own.map (·.2))) (ds.drop (i + 1)) S4 with
              | bad => simp only [z3] at hc; cases hc
              | exc c fs S5 => simp only [z3] at hc; cases hc
              | ok xs3 S5 =>
                simp only [z3] at hc
                cases hc
                refine ⟨acc, e5, by omega, { h5 with H := upd h5.H D (.lst (acc ++ [y])) }, S4, acc ++ [y], accD ++ [dy], xs3, rfl, gg.B.trans hB, (x2.trans gg.ext).trans (ext_hidden D5 _), fun b o e n => ?_, hr5.hidden D5 _, upd_same,
                  (((ra.mono gg.ext).mono (ext_hidden D5 _)).snoc (ry.mono (ext_hidden D5 _))), by simp; omega, by rw [exs]; simp, z3⟩
                obtain ⟨e1, n1⟩ := k2 b o e n
                obtain ⟨e6, n6⟩ := gg.keep b o e1 n1
                exact ⟨by show upd h5.H D _ b = _; rw [upd_ne (ne_of_none e hD)]; exact e6, n6⟩
  · have ei : i = ds.length := by omega
    subst ei
    rw [List.drop_length] at hc
    unfold compL at hc
    cases hc
    rw [List.append_nil] at exs
    subst exs
    refine .inl ⟨r1.2.1 _ h2 _ x2 hr2 (Nat.le_refl _), ?_⟩
    have D2 : some D ∉ h2.m := (hr2.hid D (by rw [hB]; exact List.mem_cons_self)).1
    exact fin { h2 with B := h1.B } D acc ⟨rfl, x2.slot, k2⟩ (hr2.shown hB) hD hDa ⟨D2, fun z => (hr1.hid D z).2 hD⟩ (ra.mono (ext_show hB))
theorem i_comp (hc : X.calm = true) (hN : X.N.Nodup) (hi : II X T W tg iter it) (ok : BlkOk X.N X.env.scope scope own)
    (hg : ∀ (s : Shared) (H : Hp) (C : Addr) (cl : List (Str × Addr)) (fp : List Addr), GI (X.blk s H scope (compEnvC scope cl C X.env) fp) T tg g) (ht : ∀ (s : Shared) (H : Hp) (C : Addr) (cl : List (Str × Addr)) (fp : List Addr), QI (X.blk s H scope (compEnvC scope cl C X.env) fp) T wNo ifs t)
    (he : ∀ (s : Shared) (H : Hp) (C : Addr) (cl : List (Str × Addr)) (fp : List Addr), EI (X.blk s H scope (compEnvC scope cl C X.env) fp) T wNo elt a) (hown : ∀ j ∈ slotsT g, j ∈ own.map (·.2) := by decide) (hs : ∀ x, foldedSetIterable iter X.env x = pure x := by intro _; rfl) :
    EI X T W (.ListComp elt [⟨tg, iter, ifs, 0⟩] scope pos) (eComp (own.map (·.2)) it g t a) := by
  refine wkE (pe_lc (g := tgD X.K T g) (tt := tG X.K T wNo REq t) (te := tG X.K T wNo (RV X.K T) a) hc hN hi ok hg ht he hs) fun σ H Q ⟨h, S, ε, e, er, hr, p⟩ => ⟨h, S, ε, e, er, hr, (Post.bind p).imp fun J H1 ⟨h1, S1, ds, e1, g1, r1, hr1, p1⟩ => ?_⟩
  subst e1
  split at p1
  · rename_i hl
    refine comp_core r1 hr1 (er.mono g1.ext) hl hown ?_
    cases z : compL g t a (wipeE ε (own.map (·.2))) ds S1 with
    | bad => rw [z] at p1; exact p1.elim
    | exc c fs S3 => rw [z] at p1; exact p1.elim
    | ok xs S3 =>
      rw [z] at p1
      exact ⟨xs, S3, rfl, fun h2 D acc g2 hr2 _ eD fD ra => p1 (.ref D) h2 g2 (.lst eD fD ra) hr2⟩
  · exact p1.elim
/-- y = [a for g in it if t], in one row -/
theorem s_comp {i : Nat} {y : Str} {py spos : Pos} (hc : X.calm = true) (hN : X.N.Nodup) (hy : X.N[i]? = some y) (hyl : X.env.scope.names.lookup y = some .local)
    (hsw : swapsWith (.ListComp elt [⟨tg, iter, ifs, 0⟩] scope pos) (some (.Name y py)) spos.line X.env = pure true) (hi : II X T W tg iter it) (ok : BlkOk X.N X.env.scope scope own)
    (hg : ∀ (s : Shared) (H : Hp) (C : Addr) (cl : List (Str × Addr)) (fp : List Addr), GI (X.blk s H scope (compEnvC scope cl C X.env) fp) T tg g) (ht : ∀ (s : Shared) (H : Hp) (C : Addr) (cl : List (Str × Addr)) (fp : List Addr), QI (X.blk s H scope (compEnvC scope cl C X.env) fp) T wNo ifs t)
    (he : ∀ (s : Shared) (H : Hp) (C : Addr) (cl : List (Str × Addr)) (fp : List Addr), EI (X.blk s H scope (compEnvC scope cl C X.env) fp) T wNo elt a) (hown : ∀ j ∈ slotsT g, j ∈ own.map (·.2) := by decide) (hs : ∀ x, foldedSetIterable iter X.env x = pure x := by intro _; rfl) :
    SI X T W (.Assign [.Name y py] (.ListComp elt [⟨tg, iter, ifs, 0⟩] scope pos) spos) (sSet i (eComp (own.map (·.2)) it g t a)) := by
  refine wkS (ps_setLc (g := tgD X.K T g) (tt := tG X.K T wNo REq t) (te := tG X.K T wNo (RV X.K T) a) hc hN hy hyl hsw hi ok hg ht he hs) fun D σ H ⟨h, S, ε, e, er, hr, p⟩ => ⟨h, S, ε, e, er, hr, ?_⟩
  have p' := PostS.lft (R := RV X.K T) er p
  refine (Post.bind p').imp fun J H1 ⟨h1, S1, ds, e1, g1, r1, hr1, p1⟩ => ?_
  subst e1
  split at p1
  · rename_i hl
    refine comp_core (Q := fun x H1 => gName i x σ H1 D.nx) (t := t) (a := a) r1 hr1 (er.mono g1.ext) hl hown ?_
    cases z : compL g t a (wipeE ε (own.map (·.2))) ds S1 with
    | bad => rw [z] at p1; exact p1.elim
    | exc c fs S3 => rw [z] at p1; exact p1.elim
    | ok xs S3 =>
      rw [z] at p1
      refine ⟨xs, S3, rfl, fun h2 D' acc g2 hr2 _ eD fD ra => ?_⟩
      obtain ⟨h3, S4, d, e3, g3, r3, hr3, er3, p3⟩ := p1 (.ref D') h2 g2 (.lst eD fD ra) hr2
      show D.nx (σ.set i (some (.ref D'))) h2.H
      rw [← e3]
      exact p3.nx (er3.set r3 i) hr3
  · exact p1.elim
/-! ### the same list, in the store or as a value -/
/-- a list of the store becomes a value -/
def eFrz (a : E) : E := fun ε S => (a ε S).bind fun x S => match x with
  | .ref n => match S[n]? with
    | some (.lst ds) => .ok (.lst ds) (S.set n .gone)
    | _ => .bad
  | d => .ok d S
theorem i_frz {e : Expr} {f : E} (ha : EI X T W e f) : EI X T W e (eFrz f) :=
  wkE ha fun σ H Q ⟨h, S, ε, e, er, hr, p⟩ => ⟨h, S, ε, e, er, hr, by
    have p0 := Post.bind (R := RV X.K T) p
    refine p0.imp fun v H1 ⟨h1, S1, d, e1, g1, r1, hr1, p1⟩ => ?_
    subst e1
    cases r1 with
    | ref e2 q =>
      rename_i n o
      dsimp only at p1
      split at p1
      · rename_i ds e3
        cases o with
        | none => rw [hr1.gone n e2] at e3; cases e3
        | some b =>
          have hv := q b rfl
          subst hv
          obtain ⟨xs, q1, q2⟩ := hr1.ob n b _ e2 e3
          have free : (⟨h1.m.set n none, h1.B, h1.H⟩ : Hv).free b := by
            refine ⟨fun z => ?_, fun z => (hr1.hid b z).1 (List.mem_of_getElem? e2)⟩
            obtain ⟨k, hk⟩ := List.getElem?_of_mem z
            have hk' : (h1.m.set n none)[k]? = some (some b) := hk
            by_cases hkn : k = n
            · subst hkn
              rw [List.getElem?_set_self (List.getElem?_eq_some_iff.mp e2).1] at hk'; cases hk'
            · rw [List.getElem?_set_ne (Ne.symm hkn)] at hk'
              exact hkn (hr1.nd k n b hk' e2)
          exact p1 (.ref b) ⟨h1.m.set n none, h1.B, h1.H⟩ grow_freeze (.lst q1 free (q2.mono (h' := ⟨h1.m.set n none, h1.B, h1.H⟩) grow_freeze.ext)) (hr1.freeze n)
      · exact p1.elim
    | _ => first | exact Post.ret p1 (by constructor <;> assumption) hr1⟩
end
end G

/-! an exception of the program's own: class C(..ValueError): def __init__(self, f): super().__init__(f); self.f = f -/
namespace PySem
namespace GX
open PySem.W PySem.Calls PyProof.Rows PySem.HandSPX
def iA (f : Str) (p1 p2 : Pos) : Arguments := { posonlyargs := [], args := [{ arg := "self", annotation := none, pos := p1 }, { arg := f, annotation := none, pos := p2 }], vararg := none, kwonlyargs := [], kw_defaults := [], kwarg := none, defaults := [] }
def iB (f : Str) (p0 p1 p2 p3 p4 p5 q1 q2 q3 q4 : Pos) : List Stmt := [.Expr (.Call (.Attribute (.Call (.Name "super" p0) [] [] p1) "__init__" p2) [.Name f p3] [] p4) p5, .Assign [.Attribute (.Name "self" q1) f q2] (.Name f q3) q4]
def iS (f : Str) : Scope := { kind := .function, names := [(PySem.Str.ofString "self", .local), (f, .local), (PySem.Str.ofString "__class__", .free), (PySem.Str.ofString "super", .globalImplicit)], isGenerator := false, isCoroutine := false, more := [] }
/-- what the written part says of the class at C and its __init__ at fI -/
structure XTxt (prog : Program) (K : Frag) (mg : Str → Option Value) (C fI : Addr) (f : Str) : Prop where
  cls : ∃ nm q N bs bm sn sub ab col dd k0 k1 k2 k3 k5, K.lookup C = some (excClassObj nm q C N bs bm true sn sub ab col dd k0 k1 k2 k3 k5 "ValueError.__new__") ∧ refsVE bm = true
  sa : findIn K (.ref C) "__setattr__" = some (some (.builtin "object.__setattr__"))
  noN : findIn K (.ref C) f = some none
  iC : findIn K (.ref C) "__init__" = some (some (.ref fI))
  tC : typeIn K (.ref fI) = some (.type "function")
  kC : keepIn K (.ref C) = true
  exC : subIn K (.ref C) (.type "BaseException") = some true
  tyC : typeIn K (.ref C) = some (.type "type")
  hdC : hasDictIn K C = true
  gS : mg "super" = none
  op : nsIn K cStatics "thirdparty.any" = some none
  su : ks_superIn K C C "__init__" = some (some (.builtin "ValueError.__init__"))
  mC : mroIn K C (.ref C) = some true
  mV : mroIn K C (.type "ValueError") = some true
  fn : ∃ (oc : Value) (od : Option Addr) (qual : Str) (doc pm : Value) (an : Option Addr) (cda cc : Addr) (ct : Value) (osl : Array (Option Value)) (r1 r2 p0 p1 p2 p3 p4 p5 q1 q2 q3 q4 : Pos),
    K.lookup fI = some ⟨oc, od, .func (ksFn "__init__" qual (iA f r1 r2) (iB f p0 p1 p2 p3 p4 p5 q1 q2 q3 q4) (iS f) .none .none doc pm an (.ref cda) ct cc), osl⟩ ∧ codeIn K (.ref cda) qual = true ∧ (p2.endLine == p4.line) = true ∧
    (∃ ccl cdd vs ccs file tf, K.lookup cda = some ⟨ccl, cdd, .fields vs, ccs⟩ ∧ vs[2]? = some (.str file tf) ∧ ((prog.main.file : Str) == file) = true) ∧
    (∃ cl cld csl, K.lookup cc = some ⟨cl, cld, .cell (some (.ref C)), csl⟩)
  top : (prog.main.scope.names.lookup ("super" : Str)).isSome = false
theorem he_of {f : Str} {env : Env} {p0 p1 p2 p3 p4 : Pos} (hl : (p2.endLine == p4.line) = true) (hf : methodCallForm 1 (backTo p4 (starEach [.Name f p3] env)) (backToKw p4 (keywordEach [] env)) = true) :
    ∃ pl : Sem Bool, eval (.Call (.Attribute (.Call (.Name "super" p0) [] [] p1) "__init__" p2) [.Name f p3] [] p4) env = (do
      let ov ← attributeBase (.Call (.Name "super" p0) [] [] p1) "__init__" env (eval (.Call (.Name "super" p0) [] [] p1) env)
      standAt p2.atName
      let (g, first) ← holding [ov] (getMethod ov "__init__" pl)
      callWith p4 g first (backTo p4 (starEach [.Name f p3] env)) []) := by
  refine ⟨(do return (← importBound (.Call (.Name "super" p0) [] [] p1) env).getD true), ?_⟩
  have hp : methodCallPos true (.Call (.Name "super" p0) [] [] p1) env p2 p4 = pure p4 := by
    unfold methodCallPos
    rw [hl]
    rfl
  show (do
    let ov ← attributeBase (.Call (.Name "super" p0) [] [] p1) "__init__" env (eval (.Call (.Name "super" p0) [] [] p1) env)
    standAt p2.atName
    methodCall (.Call (.Name "super" p0) [] [] p1) "__init__" p2 p4 env ov (1 + 0) (backTo p4 (starEach [.Name f p3] env)) (backToKw p4 (keywordEach [] env))) = _
  unfold methodCall
  rw [show (1 + 0 : Nat) = 1 from rfl, hf, hp]
  simp only [calleeOf, if_true, pure_bind]
  rfl
/-- f is none of the other names -/
structure FName (f : Str) : Prop where
  he : ∀ (qual : Str) (doc pm : Value) (an : Option Addr) (cda cc L fI : Addr) (ct : Value) (r1 r2 p0 p1 p2 p3 p4 p5 q1 q2 q3 q4 : Pos) (env : Env), env = callEnv (ksFn "__init__" qual (iA f r1 r2) (iB f p0 p1 p2 p3 p4 p5 q1 q2 q3 q4) (iS f) .none .none doc pm an (.ref cda) ct cc) L fI → (p2.endLine == p4.line) = true → ∃ pl : Sem Bool, eval (.Call (.Attribute (.Call (.Name "super" p0) [] [] p1) "__init__" p2) [.Name f p3] [] p4) env = (do
      let ov ← attributeBase (.Call (.Name "super" p0) [] [] p1) "__init__" env (eval (.Call (.Name "super" p0) [] [] p1) env)
      standAt p2.atName
      let (g, first) ← holding [ov] (getMethod ov "__init__" pl)
      callWith p4 g first (backTo p4 (starEach [.Name f p3] env)) [])
  fs : (f == ("self" : Str)) = false
  sf : (("self" : Str) == f) = false
  cf : (("__class__" : Str) == f) = false
  uf : (("super" : Str) == f) = false
  db : (f == ("__debug__" : Str)) = false
  sw : ∀ (env : Env) (q1 q2 q3 q4 : Pos) (n : Nat), swapsWith (.Name f q3) (some (.Attribute (.Name "self" q1) f q2)) q4.line env = pure false
  bind : ∀ (s : Shared) (qual : Str) (doc pm : Value) (an : Option Addr) (cda cc : Addr) (ct : Value) (r1 r2 p0 p1 p2 p3 p4 p5 q1 q2 q3 q4 : Pos) (x : Addr) (v : Value), BindsTo s (ksFn "__init__" qual (iA f r1 r2) (iB f p0 p1 p2 p3 p4 p5 q1 q2 q3 q4) (iS f) .none .none doc pm an (.ref cda) ct cc) ⟨[.ref x, v], []⟩ [("self", .ref x), (f, v)]
theorem one_size (v : Value) : [v].length ≤ sizeLine := by
  rw [sizeLine_eq]
  exact (by decide : 1 ≤ 16777216)
/-- what __init__ leaves of a fresh exception at x -/
structure InitEnd (h h' : Heap) (x C dx t1 : Addr) (f : Str) (v : Value) : Prop where
  keep : ∀ b o, b ≠ x → h.get? b = some o → h'.get? b = some o
  obj : h'.get? x = some { cls := .ref C, dict := some dx, data := .fields #[.ref t1, .none, .none, .none, .bool false, .none] }
  dbig : h.objs.size ≤ dx
  dne : dx ≠ x
  ns : h'.Ns1 dx (fun y => if y = f then some v else none)
/-- a made exception -/
structure OwnMade (h h' : Heap) (e C d : Addr) (f : Str) (v : Value) : Prop where
  keep : ∀ b o, h.get? b = some o → h'.get? b = some o
  new : h.objs.size ≤ e
  obj : ∃ oe vs, h'.get? e = some oe ∧ oe.cls = .ref C ∧ oe.dict = some d ∧ oe.data = .fields vs ∧ vs[1]? = some .none
  dbig : h.objs.size ≤ d
  dne : d ≠ e
  ns : h'.Ns1 d (fun y => if y = f then some v else none)
section
variable {prog : Program} {w : World} {A : Around} {E : Value → Shared → Prop} {R : Result → Shared → Prop} {s : Shared} {K : Frag} {mg : Str → Option Value} {C fI : Addr} {f : Str}
theorem xinit (T : XTxt prog K mg C fI f) (FN : FName f) {x t0 : Addr} {v : Value} (X : K.In s.heap) (hlim : s.heap.NoLimit) (hG : s.heap.Ns mainGlobals mg) (hB : ∃ mb, s.heap.Ns builtinsNs mb ∧ ∀ x : Str, x ≠ "__name__" → mb x = bootBuiltins x)
    (hx : s.heap.get? x = some (excO C t0)) (hnx : K.lookup x = none) (hroom : A.depth < recursionLimit)
    (hq : ∀ h' tk dx t1, InitEnd s.heap h' x C dx t1 f v → R (.ok (.ret .none)) { s with heap := h', toks := tk }) :
    codeAny (model prog w) A (.call (.ref fI) ⟨[.ref x, v], []⟩) R s := by
  obtain ⟨oc, od, qual, doc, pm, an, cda, cc, ct, osl, r1, r2, p0, p1, p2, p3, p4, p5, q1, q2, q3, q4, ho, hcd, hline, ⟨ccl, cdd, vs, ccs, file, tf, hcode, hvs, hfile⟩, ⟨cl, cld, csl, hcell⟩⟩ := T.fn
  obtain ⟨nm, q, N, bs, bm, sn, sub, ab, col, dd, k0, k1, k2, k3, k5, hC, hbm⟩ := T.cls
  have hcl : clsIn K C = some { name := nm, bases := bs, mro := .ref C :: bm, ns := N, qualname := q, hasDict := true, slotNames := sn, subclasses := sub, abstract := ab, collection := col, hasDel := false } := by unfold clsIn; rw [hC] <;> rfl
  have hsu := T.su
  unfold ks_superIn at hsu
  rw [hcl] at hsu
  have lself : (iS f).names.lookup ("self" : Str) = some .local := by simp [iS, List.lookup]
  have lf : (iS f).names.lookup f = some .local := by simp [iS, List.lookup, FN.fs]
  have lcl : (iS f).names.lookup ("__class__" : Str) = some .free := by
    have e : (("__class__" : Str) == ("self" : Str)) = false := by decide +kernel
    simp [iS, List.lookup, FN.cf, e]
  have lsu : (iS f).names.lookup ("super" : Str) = some .globalImplicit := by
    have e : (("super" : Str) == ("self" : Str)) = false := by decide +kernel
    have e2 : (("super" : Str) == ("__class__" : Str)) = false := by decide +kernel
    simp [iS, List.lookup, FN.uf, e, e2]
  obtain ⟨oD, hD1, hD2⟩ : ∃ oD, s.heap.get? C = some oD ∧ oD.data = .cls { name := nm, bases := bs, mro := .ref C :: bm, ns := N, qualname := q, hasDict := true, slotNames := sn, subclasses := sub, abstract := ab, collection := col, hasDel := false } := ⟨_, X _ _ hC, rfl⟩
  refine ks_codeAny_call_defAt (fd := ksFn "__init__" qual (iA f r1 r2) (iB f p0 p1 p2 p3 p4 p5 q1 q2 q3 q4) (iS f) .none .none doc pm an (.ref cda) ct cc) (body := iB f p0 p1 p2 p3 p4 p5 q1 q2 q3 q4) (binds := [("self", .ref x), (f, v)]) hroom (X _ _ ho) rfl hlim (codeRec_of X hcd) rfl (FN.bind _ _ _ _ _ _ _ _ _ _ _ _ _ _ _ _ _ _ _ _ _ _)
    (by intro y hy; simp only [iS, List.mem_cons, List.not_mem_nil, or_false] at hy; rcases hy with rfl | rfl | rfl | rfl <;> (intro z; cases z))
    (by intro y hy; simp only [List.mem_cons, List.not_mem_nil, or_false] at hy; rcases hy with rfl | rfl; exact lself; exact lf) (fun h₁ hns k => ?_)
  have m1 : (fun y => List.lookup y ([(PySem.Str.ofString "self", Value.ref x), (f, v)] : List (Str × Value)).reverse) ("self" : Str) = some (.ref x) := by
    simp [List.lookup, FN.sf]
  have m2 : (fun y => List.lookup y ([(PySem.Str.ofString "self", Value.ref x), (f, v)] : List (Str × Value)).reverse) f = some v := by
    simp [List.lookup]
  obtain ⟨mb, hB1, hB2⟩ := hB
  have hxL : s.heap.objs.size ≠ x := Nat.ne_of_gt (Heap.lt_size hx)
  have X₁ : K.In h₁ := X.keeps k
  have hx₁ := k _ _ hx
  have hxC : x ≠ C := fun z => by rw [z, hC] at hnx; cases hnx
  obtain ⟨pl, hpl⟩ := FN.he qual doc pm an cda cc s.heap.objs.size fI ct r1 r2 p0 p1 p2 p3 p4 p5 q1 q2 q3 q4 (callEnv (ksFn "__init__" qual (iA f r1 r2) (iB f p0 p1 p2 p3 p4 p5 q1 q2 q3 q4) (iS f) .none .none doc pm an (.ref cda) ct cc) s.heap.objs.size fI) rfl hline
  refine ks_wpAt_execs_cons (ks_wpAt_Expr_any (ks_wpAt_MethodCall (pl := pl) ?_ hpl))
  refine ks_wpAt_super_base (env := callEnv (ksFn "__init__" qual (iA f r1 r2) (iB f p0 p1 p2 p3 p4 p5 q1 q2 q3 q4) (iS f) .none .none doc pm an (.ref cda) ct cc) s.heap.objs.size fI) lsu lcl (by decide +kernel) rfl (X₁ _ _ ho) rfl rfl rfl (X₁ _ _ hcode) rfl hvs hfile T.top ?_
  refine ks_loadName_global rfl lsu (loadGlobal_builtin (hG.at fun o q => k _ o q) T.gS (hB1.at fun o q => k _ o q) ((hB2 _ (by decide +kernel)).trans (by decide +kernel : bootBuiltins "super" = some (.type "super"))) ⟨rfl, ?_⟩)
  refine wpAny_loadName_free rfl lcl rfl ⟨_, X₁ _ _ hcell, rfl⟩ ?_
  refine wpAny_loadName_local rfl lself hns m1 ?_
  refine ks_wpAny_isType_cls (k _ _ hD1) hD2 ⟨rfl, ?_⟩
  refine ks_wpAny_call_super (k _ _ hD1) hD2 hx₁ rfl (fun c e => by cases e) (looks_mroIn X₁ T.mC) (fun h₂ e₂ k₂ => ?_)
  have X₂ : K.In h₂ := X₁.keeps k₂
  have I₂ : InstAt h₂ x (excO C t0) C none := ⟨k₂ _ _ hx₁, rfl, rfl, trivial⟩
  -- its __init__
  refine kxs_getMethod kxs_ValueError (l₀ := .ref C :: bm) e₂ (looks_opaque X₂ T.op) (fun A Q E s k q => wpAny_bind ((looks_clsIn X₂ hcl) A _ E s k (wpAny_pure q))) rfl X₂ hsu (I₂.type.andThen (looks_mroIn X₂ T.mV)) hxC (by decide +kernel) ?_
  refine kxs_callWith (i := "ValueError.__init__") (x := x) rfl (evalArgs_plain (Calls.spliced_cons (wpAny_Name (wpAny_loadName_local rfl lf (hns.at fun o q => Heap.get?_push_of_some _ (k₂ _ o q)) m2 (Calls.spliced_nil ?_)) FN.db)))
  refine ⟨Heap.get?_push_at rfl rfl, ?_⟩
  have K₃ : ∀ b o, h₁.get? b = some o → (h₂.push (kxs_mw "ValueError.__init__" x)).get? b = some o := fun b o q => Heap.get?_push_of_some _ (k₂ b o q)
  have hx₃ : (h₂.push (kxs_mw "ValueError.__init__" x)).get? x = some (excRec (.ref C) t0 none .none .none (.bool false)) := K₃ _ _ hx₁
  refine wpAny_call (codeAny_of_tree ?_)
  show wpAny _ (Around.in1 _) (callAny (.ref _) ⟨[v], []⟩) _ _ _
  simp only [callAny]
  refine wpAny_bind (wpAny_load (Heap.get?_push_at rfl rfl) ?_)
  simp only [kxs_mw, show (Value.type "method-wrapper" == Value.type "method" || Value.type "method-wrapper" == Value.type "builtin_function_or_method" || Value.type "method-wrapper" == Value.type "method-wrapper") = true by decide, if_true]
  refine KFB.if_so (by decide) ?_
  refine wpAny_bind (check_bound_init F.excBase_ValueError.toExcCallFacts (X₂.keeps (fun b o q => Heap.get?_push_of_some _ q) _ _ hC) hx₃ rfl ?_)
  refine wpAny_bind (wpAny_pure (wpAny_pure ?_))
  refine ⟨plainId_quiet F.excBase_ValueError.init.plain _, codeAny_builtin F.excBase_ValueError.initEntry ?_⟩
  refine exc_init_tree hx₃ (one_size v) fun h₄ k₄ hx₄ ht₄ => ?_
  have kx : ∀ b o, b ≠ x → s.heap.get? b = some o → h₄.get? b = some o := fun b o hb q => k₄ b o hb (K₃ b o (k b o q))
  have X₄ : K.In h₄ := fun a o e => kx a o (fun z => by rw [z, hnx] at e; cases e) (X a o e)
  have hn₄ : h₄.Ns s.heap.objs.size (fun y => List.lookup y ([(PySem.Str.ofString "self", Value.ref x), (f, v)] : List (Str × Value)).reverse) := hns.at fun o q => k₄ _ o hxL (K₃ _ o q)
  refine ks_wpAt_execs_cons (ks_wpAt_Assign_Attr ?_ (FN.sw _ _ _ _ _ 0))
  refine wpAt_of_wpAny (wpAny_Name (wpAny_loadName_local rfl lf hn₄ m2 ?_) FN.db)
  refine wpAny_Name (wpAny_loadName_local rfl lself hn₄ m1 ?_) (by decide +kernel)
  refine set_plain X₄ (ox := excRec (.ref C) (h₂.push (kxs_mw "ValueError.__init__" x)).objs.size none .none .none (.bool false)) (od := none) ⟨hx₄, rfl, rfl, trivial⟩ T.sa ?_
  refine exc_osa X₄ hx₄ hcl (show refsVE (.ref C :: bm) = true from hbm) rfl T.noN (fun h₅ tk₅ dx k₅ dn dne hx₅ hn₅ => ?_)
  refine wpAt_of_wpAny (wpAny_execs_nil ?_)
  have z : s.heap.objs.size < h₄.objs.size := hn₄.lt
  exact hq h₅ tk₅ dx _ ⟨fun b o hb e => k₅ b o hb (kx b o hb e), hx₅, Nat.le_of_lt (Nat.lt_of_lt_of_le z dn), dne, hn₅⟩
theorem xmade (T : XTxt prog K mg C fI f) (FN : FName f) {v : Value} (X : K.In s.heap) (hlim : s.heap.NoLimit) (hG : s.heap.Ns mainGlobals mg) (hB : ∃ mb, s.heap.Ns builtinsNs mb ∧ ∀ x : Str, x ≠ "__name__" → mb x = bootBuiltins x) (hroom : A.depth + 1 < recursionLimit)
    (hq : ∀ h' tk e d, OwnMade s.heap h' e C d f v → R (.ok (.ret (.ref e))) { s with heap := h', toks := tk }) :
    codeAny (model prog w) A (.call (.ref C) ⟨[v], []⟩) R s := by
  obtain ⟨nm, q, N, bs, bm, sn, sub, ab, col, dd, k0, k1, k2, k3, k5, hC, hbm⟩ := T.cls
  obtain ⟨hp, g, dr, tk, os⟩ := s
  have k : ∀ b o, hp.get? b = some o → ((hp.push (kdv_tup [v])).push (excO C hp.objs.size)).get? b = some o := fun b o e => Heap.get?_push_of_some _ (Heap.get?_push_of_some _ e)
  have hget : ((hp.push (kdv_tup [v])).push (excO C hp.objs.size)).get? (hp.objs.size + 1) = some (excO C hp.objs.size) := by heap_get
  have hnx : K.lookup (hp.objs.size + 1) = none := by
    cases e : K.lookup (hp.objs.size + 1) with
    | none => rfl
    | some o =>
      have z : hp.get? (hp.objs.size + 1) = some o := X _ _ e
      exact absurd (Nat.lt_of_succ_lt (Heap.lt_size z)) (Nat.lt_irrefl _)
  obtain ⟨mb, hB1, hB2⟩ := hB
  refine call_own F.excBase_ValueError (fun X => refsVE_contains X bm hbm) (X _ _ hC) (looks_findIn X T.iC) (fun self => bind_fn X self T.tC) (one_size v) ?_
  refine xinit (s := ⟨(hp.push (kdv_tup [v])).push (excO C hp.objs.size), g, dr, tk, os⟩) T FN (X.keeps k) (hlim.keeps k) (hG.keeps k) ⟨mb, hB1.keeps k, hB2⟩ hget hnx ?_ fun h' tk' dx t1 ⟨k', hx, dn, dne, hns⟩ => ?_
  · show A.depth + 1 < recursionLimit
    exact hroom
  · have old : ∀ b o, hp.get? b = some o → h'.get? b = some o := fun b o e => k' b o (Nat.ne_of_lt (Nat.lt_succ_of_lt (Heap.lt_size e))) (k b o e)
    have z : hp.objs.size + 1 + 1 ≤ dx := by
      first
        | (simpa only [Heap.size_push] using dn)
        | exact dn
        | (have q := dn; rw [Heap.size_push, Heap.size_push] at q; exact q)
    exact ⟨rfl, hq h' tk' (hp.objs.size + 1) dx ⟨old, Nat.le_succ _, ⟨_, _, hx, rfl, rfl, rfl, rfl⟩, Nat.le_trans (Nat.le_trans (Nat.le_succ _) (Nat.le_succ _)) z, dne, hns⟩⟩
end
end GX
end PySem
namespace G
open PySem PySem.Spec PyProof.Rows L2
theorem relO_f {f : Str} {v : V} {v' : Value} (r : RelV v v') (g : Str) : RelO (List.lookup g [(f, v)]) (if g = f then some v' else none) := by
  by_cases hw : g = f
  · subst hw
    rw [if_pos rfl]
    have q : List.lookup g [(g, v)] = some v := by simp [List.lookup]
    rw [q]
    exact r
  · rw [if_neg hw]
    have qw : (g == f) = false := by simpa using hw
    have q2 : List.lookup g [(f, v)] = none := by simp [List.lookup, qw]
    rw [q2]
    trivial
section
variable {X : Cx} {C fI : Addr} {f : Str}
/-- C(e) -/
def tMkX (C : Addr) (f : Str) (ta : TA) : St → Hp → XK → Prop := fun σ H Q => ta σ H fun vs H1 => ∃ v, vs = [v] ∧ ∀ d, H1 d = none → Q (.ref C) (some d) (upd H1 d (.xd [(f, v)]))
theorem pmk_x {x : Str} {a : Expr} {ta : TA} {p pos : Pos} {k : Nat} (T : PySem.GX.XTxt X.prog X.K X.mg C fI f) (FN : PySem.GX.FName f) (gC : X.mg x = some (.ref C)) (hr : Room k X.A) (ha : PA X [a] ta) (hg : Gl X x) (hdb : (x == ("__debug__" : Str)) = false := by decide)
    (he : starEach (a :: []) X.env = (false, eval a X.env) :: starEach [] X.env := by rfl) (hpl : (backTo pos (starEach [] X.env)).any (·.1) = false := by rfl) :
    PMk X (.Call (.Name x p) [a] [] pos) (tMkX C f ta) := by
  intro pins s σ H Q I h
  refine wpAny_Call_Name_kw (ld_glob I hg gC ?_ hdb)
  refine PySem.W.callWith_K (h₀ := X.base) I.ok.mod.kin T.kC (thn (ha.run pos pins s σ H _ I h) fun us s1 hh => ?_) he hpl
  obtain ⟨vs, H1, I1, r1, v, ev, q1⟩ := hh
  subst ev
  refine ⟨I1.kIn, ?_⟩
  cases r1 with
  | cons rv rn =>
    rename_i v' us'
    cases rn
    show wpAny _ _ (call (.ref C) [v']) _ _ _
    have hlim := I1.nolimit
    obtain ⟨mb, hb1, hb2⟩ := I1.mod.blt
    have hG : s1.heap.Ns mainGlobals X.mg := I1.mod.glob.keeps I1.bk
    have hB : ∃ mb, s1.heap.Ns builtinsNs mb ∧ ∀ x : Str, x ≠ "__name__" → mb x = bootBuiltins x := ⟨mb, hb1.keeps I1.bk, hb2⟩
    obtain ⟨hp, g, dr, tk, os⟩ := s1
    refine wpAny_call (PySem.GX.xmade T FN I1.kIn hlim hG hB (by have := hr.dp; omega) fun h' tk' e d M => ?_)
    show MkP X pins σ Q (.ref e) ⟨h', g, dr, tk', os⟩
    obtain ⟨oe, fv, hoe, hc, hd, hdat, h1⟩ := M.obj
    have hns := M.ns
    obtain ⟨G', g1, g2⟩ := restrict h' fun b => decide (b ≠ e)
    have gk : ∀ b, b ≠ e → G'.get? b = h'.get? b := fun b hb => g1 b (decide_eq_true hb)
    have ge : G'.get? e = none := g2 e (by simp)
    have old : ∀ b o, hp.get? b = some o → G'.get? b = some o := fun b o q => (gk b (Nat.ne_of_lt (Nat.lt_of_lt_of_le (Heap.lt_size q) M.new))).trans (M.keep b o q)
    have ob : ObjOk X.prog X.w (upd H1 d (.xd [(f, v)])) G' d (.xd [(f, v)]) :=
      ⟨_, hns.at (fun o q => (gk d M.dne).trans q), fun g => relO_f rv g⟩
    have J : Inv X pins σ (upd H1 d (.xd [(f, v)])) ⟨G', g, dr, tk', os⟩ := I1.laid (t' := tk') old M.dbig ob
    refine ⟨e, oe, fv, ⟨G', g, dr, tk', os⟩, _, .ref C, some d, rfl, J, fun b o q => ?_, ge, hoe, ⟨hc, hd⟩, hdat, h1, ?_, rfl, I1.bare, raises_own T.exC T.tyC, q1 d (I1.hok.fresh M.dbig)⟩
    · by_cases hb : b = e
      · have q' : G'.get? b = some o := q
        rw [hb, ge] at q'; cases q'
      · exact (gk b hb).symm.trans q
    · rw [upd_ne (Ne.symm M.dne)]
      exact I1.hok.fresh M.new
end
end G

namespace G
open PySem PySem.Spec PyProof.Rows L2

/-! ## a call with its frame: no repr is under way -/
structure RoomG (k : Nat) (A : Around) : Prop where
  r : Room k A
  g : A.guards = some []
theorem RoomG.mono {j k : Nat} {A : Around} (r : RoomG k A) (h : j ≤ k) : RoomG j A := ⟨r.r.mono h, r.g⟩
theorem RoomG.deeper {k : Nat} {A : Around} (r : RoomG (k + 1) A) (env : PySem.Env) : RoomG k (A.deeper env) := ⟨r.r.deeper env, r.g⟩
theorem RoomG.make {k : Nat} {A : Around} (r : RoomG (k + 1) A) (C : Addr) (us : List Value) (kw : List (Str × Value)) : RoomG k (A.under (.builtin "type.__call__" ⟨.ref C :: us, kw⟩)) := by
  refine ⟨r.r.make C us kw, ?_⟩
  have e := r.g
  have n : (Code.builtin "type.__call__" ⟨.ref C :: us, kw⟩).isGuard = false := by
    show guardIds.contains "type.__call__" = false
    decide +kernel
  simp [Around.under, Code.guards, n, pushGuards, e]
theorem RoomG.units {k : Nat} {A : Around} (r : RoomG k A) : A.units + 64 < cLine := r.r.units
theorem RoomG.un {k : Nat} {A : Around} (r : RoomG k A) : A.units + 16 * k + 200 < cLine := r.r.un
theorem RoomG.dp {k : Nat} {A : Around} (r : RoomG k A) : A.depth + 3 * k + 5 < recursionLimit := r.r.dp
/-- a def's promise, where no repr is under way -/
structure FnG (P : Program) (w : World) (K : PySem.W.Frag) (mg : Str → Option Value) (base : Heap) (k : Nat) (f : Addr) (fd : FuncData) (ps : List Str) (sp : Sp) : Prop where
  len : ∀ vs H Q E, sp vs H Q E → vs.length = ps.length
  run : ∀ (A : Around) (outer : List PySem.Env) (s : Shared) (H : Hp) (args : Args) (us : List Value) (vs : List V) (Q : VK) (E : XK), RoomG k A → Env0 P w K mg base A outer s H → BindsTo s fd args (ps.zip us) → Vals vs us → sp vs H Q E →
    codeAny (model P w) A (.call (.ref f) args) (CR (L2.CX P w) outer P w H s Q E) s
section
variable {P : Program} {w : World} {K : PySem.W.Frag} {mg : Str → Option Value} {base : Heap} {j k : Nat} {f : Addr} {fd : FuncData} {ps N : List Str} {sp sp' : Sp}
theorem FnG.mono (F : FnG P w K mg base j f fd ps sp) (h : j ≤ k) : FnG P w K mg base k f fd ps sp := ⟨F.len, fun A outer s H args us vs Q E hr => F.run A outer s H args us vs Q E (hr.mono h)⟩
theorem FnG.imp (F : FnG P w K mg base k f fd ps sp) (h : ∀ vs H Q E, sp' vs H Q E → sp vs H Q E) : FnG P w K mg base k f fd ps sp' :=
  ⟨fun vs H Q E q => F.len vs H Q E (h _ _ _ _ q), fun A outer s H args us vs Q E hr he hb hv hs => F.run A outer s H args us vs Q E hr he hb hv (h _ _ _ _ hs)⟩
/-- by the body, as the hand layer has it, the guards beside -/
theorem fnG_of {x qual : Str} {st : Stmt} (F : Fun K x qual st f fd) (S : FnScope N ps (defScope st)) (len : ∀ vs H Q E, sp vs H Q E → vs.length = ps.length)
    (hbody : ∀ (cdv : Value) (A : Around) (outer : List PySem.Env) (s : Shared) (H : Hp) (vs : List V) (Q : VK) (E : XK), RoomG k (A.deeper (envOfC qual (defScope st) s.heap.objs.size f cdv)) → sp vs H Q E →
      ∃ t, PSs (cxOf (L2.CX P w) P w K mg base N qual (defScope st) f cdv A outer s H E) (defBody st) t ∧ t { nx := fun _ H' => Q .non H', rt := Q } (L2.start N vs) H) : FnG P w K mg base (k + 1) f fd ps sp := by
  obtain ⟨oc, od, kV, doc, pm, an, cdv, ct, osl, rfl, lk, hcd⟩ := F.ex
  constructor
  · exact len
  intro A outer s H args us vs Q E hr e0 hb r hsp
  have old : ∀ b o, base.get? b = some o → s.heap.get? b = some o := fun b o e => (e0.bs b o e).1
  have KX : K.In s.heap := e0.mod.kin.keeps old
  refine codeAny_call_function hr.r.depth (KX _ _ lk) rfl S.co S.gen rfl (PySem.W.codeRec_of KX hcd) (hb _ _ _ _ ?_)
  refine wpAny_newFunctionEnv_cells S.kind (fun ⟨n, v⟩ hy => ?_) fun env he s1 x => ?_
  · exact (S.par n (List.of_mem_zip hy).1).imp id fun q => ⟨q, PySem.W.cellsFrom_some _ _ _ (.inl q)⟩
  subst he
  obtain ⟨t, ht, hq⟩ := hbody cdv A outer s H vs Q E (hr.deeper _) hsp
  refine ⟨(e0.mod.nolimit.keeps old).keeps x.toInCall.keep, codeAny_func (wpAny_mono (ht.run [] s1 (L2.start N vs) H _ (inv_start S hr.r.hd e0 (len _ _ _ _ hsp) r x) hq) (fun fl s' hs => ?_) fun e s' hs => hs)⟩
  cases fl with
  | ret u => obtain ⟨v, σ', H', J, rv, q⟩ := hs; exact ⟨v, H', J.os, J.bare, J.base, J.hok, rv, q⟩
  | next => obtain ⟨σ', H', J, q⟩ := hs; exact ⟨V.non, H', J.os, J.bare, J.base, J.hok, rfl, q⟩
  | brk => obtain ⟨_, _, _, q⟩ := hs; exact q.elim
  | cont => obtain ⟨_, _, _, q⟩ := hs; exact q.elim
end
theorem run_fnG {X : Cx} {k : Nat} {f : Addr} {fd : FuncData} {ps : List Str} {sp : Sp} {E : St → XK} {pins : List (Addr × Obj)} {σ : St} {H : Hp} {s : Shared} {Q : VK} {us : List Value} {vs : List V} (F : FnG X.prog X.w X.K X.mg X.base k f fd ps sp) (hr : RoomG k X.A) (hb : Binds X.K fd ps []) (hx : PassesAt (L2.CX X.prog X.w) X σ (E σ))
    (I : Inv X pins σ H s) (r : Vals vs us) (h : sp vs H Q (E σ)) : wpAny (model X.prog X.w) X.A (call (.ref f) us) (EP X pins σ Q) X.xe s := by
  have b := hb s us I.kIn (by rw [List.append_nil, ← r.length]; exact F.len _ _ _ _ h)
  rw [List.append_nil] at b
  refine wpAny_call (codeAny_mono (F.run X.A X.stack s H ⟨us, []⟩ us vs Q (E σ) hr I.env0 b r h) fun r s' hq => ?_)
  cases r with
  | error e => exact hx pins H s e s' I hq
  | ok fl =>
    cases fl with
    | ret u => exact I.after hq
    | next => exact hq.elim
    | brk => exact hq.elim
    | cont => exact hq.elim
/-! ## functions -/
abbrev FnD := List Da → Sto → Rs Da
def PostF (K : PySem.W.Frag) (T : Tab) (h : Hv) (r : Rs Da) (Q : VK) (E : XK) : Prop := match r with
  | .ok d S => ∀ v h', Grow h h' → RV K T h' v d → HeapR K T h' S → Q v h'.H
  | .exc c fs S => ∀ cls dd h', Grow h h' → XR K T h' cls dd c fs → HeapR K T h' S → E cls dd h'.H
  | .bad => False
theorem PostF.grow {K : PySem.W.Frag} {T : Tab} {h h' : Hv} {r : Rs Da} {Q : VK} {E : XK} (g : Grow h h') (p : PostF K T h r Q E) : PostF K T h' r Q E := by
  cases r with
  | ok a S => exact fun v h2 g2 => p v h2 (g.trans g2)
  | exc c fs S => exact fun cls dd h2 g2 => p cls dd h2 (g.trans g2)
  | bad => exact p
/-- outside every except suite -/
def Tab.base (T : Tab) : Tab := ⟨T.cls, T.fnA, none⟩
def spI (K : PySem.W.Frag) (T : Tab) (F : FnD) : Sp := fun vs H Q E => ∃ h S ds, h.H = H ∧ HeapR K T h S ∧ RVs K T h vs ds ∧ PostF K T h (F ds S) Q E
def fnRes : Fl → Rs Da
  | .nx _ S => .ok .non S
  | .rt d S => .ok d S
  | .ex c fs _ S => .exc c fs S
  | _ => .bad
/-- a def of n parameters and N names, its objects kept in the store -/
def runU (n N : Nat) (b : Sm) : FnD := fun ds S => if ds.length = n then fnRes (b (ds.map some ++ List.replicate (N - n) none) S) else .bad
/-- its own objects dropped -/
noncomputable def scp (S : Sto) : Rs Da → Rs Da
  | .ok d S' => @ite _ (belowD S.length d = true ∧ ScopeOk S S') (Classical.propDecidable _) (.ok d (S'.take S.length)) .bad
  | .exc c fs S' => @ite _ (belowDf S.length fs = true ∧ ScopeOk S S') (Classical.propDecidable _) (.exc c fs (S'.take S.length)) .bad
  | .bad => .bad
theorem scp_ok {S S' : Sto} {d : Da} : scp S (.ok d S') = @ite _ (belowD S.length d = true ∧ ScopeOk S S') (Classical.propDecidable _) (.ok d (S'.take S.length)) .bad := rfl
theorem scp_exc {S S' : Sto} {c : Nat} {fs : List (Str × Da)} : scp S (.exc c fs S') = @ite _ (belowDf S.length fs = true ∧ ScopeOk S S') (Classical.propDecidable _) (.exc c fs (S'.take S.length)) .bad := rfl
noncomputable def runFn (n N : Nat) (b : Sm) : FnD := fun ds S => scp S (runU n N b ds S)
theorem XR.cut {K : PySem.W.Frag} {T : Tab} {h : Hv} {n : Nat} {cls : Value} {dd : Option Addr} {c : Nat} {fs : List (Str × Da)} (x : XR K T h cls dd c fs) (b : belowDf n fs = true) : XR K T { h with m := h.m.take n } cls dd c fs := by
  obtain ⟨e, r⟩ := x
  refine ⟨e, ?_⟩
  rcases r with r | ⟨d, gs, e1, e2, f, r⟩
  · exact .inl r
  · exact .inr ⟨d, gs, e1, e2, ⟨fun z => f.1 (List.mem_of_mem_take z), f.2⟩, r.cut b⟩
theorem PostF.scp {K : PySem.W.Frag} {T : Tab} {h : Hv} {S : Sto} {r : Rs Da} {Q : VK} {E : XK} (hr : HeapR K T h S) (p : PostF K T h (scp S r) Q E) : PostF K T h r Q E := by
  cases r with
  | ok d S' =>
    rw [scp_ok] at p
    by_cases c : belowD S.length d = true ∧ ScopeOk S S'
    · rw [if_pos c] at p
      exact fun v h' g r s => p v { h' with m := h'.m.take S.length } (grow_cut (K := K) (T := T) hr g) (r.cut c.1) (HeapR.cut hr g s c.2)
    · rw [if_neg c] at p; exact p.elim
  | exc c fs S' =>
    rw [scp_exc] at p
    by_cases c : belowDf S.length fs = true ∧ ScopeOk S S'
    · rw [if_pos c] at p
      exact fun cls dd h' g x s => p cls dd { h' with m := h'.m.take S.length } (grow_cut (K := K) (T := T) hr g) (x.cut c.1) (HeapR.cut hr g s c.2)
    · rw [if_neg c] at p; exact p.elim
  | bad => exact p
theorem RVs.env {K : PySem.W.Frag} {T : Tab} {h : Hv} {vs : List V} {ds : List Da} (r : RVs K T h vs ds) (N : List Str) : EnvR K T h (L2.start N vs) (ds.map some ++ List.replicate (N.length - vs.length) none) := by
  refine ⟨by simp [L2.start, r.length], fun i d q => .inl ?_⟩
  unfold L2.start
  by_cases hi : i < ds.length
  · rw [List.getElem?_append_left (by simpa using hi)] at q
    rw [List.getElem?_append_left (by simpa [r.length] using hi)]
    rw [List.getElem?_map] at q ⊢
    cases e : ds[i]? with
    | none => rw [e] at q; cases q
    | some d' =>
      rw [e] at q
      cases q
      obtain ⟨v, e1, rv⟩ := r.get e
      exact ⟨rv.notX, v, by rw [e1]; rfl, rv⟩
  · rw [List.getElem?_append_right (by simpa using Nat.le_of_not_lt hi)] at q
    obtain ⟨_, q2⟩ := List.getElem?_eq_some_iff.mp q
    simp at q2
section
variable {P : Program} {w : World} {K : PySem.W.Frag} {mg : Str → Option Value} {base : Heap} {T : Tab}
/-- a def by its body -/
theorem fnU_i {x qual : Str} {st : Stmt} {f : Addr} {fd : FuncData} {N ps : List Str} {k n m : Nat} {b : Sm} (F : Fun K x qual st f fd) (S : FnScope N ps (defScope st)) (hn : ps.length = n) (hm : N.length = m)
    (hb : ∀ (cdv : Value) (A : Around) (outer : List PySem.Env) (s : Shared) (H : Hp) (E : XK), RoomG k (A.deeper (envOfC qual (defScope st) s.heap.objs.size f cdv)) →
      Takes (cxOf (L2.CX P w) P w K mg base N qual (defScope st) f cdv A outer s H E) (fun cls d _ H => E cls d H) →
      SsI (cxOf (L2.CX P w) P w K mg base N qual (defScope st) f cdv A outer s H E) T (fun cls d _ H => E cls d H) (defBody st) b) :
    FnG P w K mg base (k + 1) f fd ps (spI K T (runU n m b)) := by
  refine fnG_of F S (fun vs H Q E ⟨h, S, ds, e, hr, r, p⟩ => ?_) (fun cdv A outer s H vs Q E hroom ⟨h, S', ds, e, hr, r, p⟩ => ⟨_, hb cdv A outer s H E hroom (takes_of rfl rfl rfl rfl), ?_⟩)
  · unfold runU at p
    split at p
    · rename_i hl; rw [r.length, hl, hn]
    · exact p.elim
  · unfold runU at p
    split at p
    · rename_i hl
      refine ⟨h, S', _, e, r.env N, hr, ?_⟩
      have e2 : N.length - vs.length = m - n := by rw [hm, r.length, hl]
      rw [e2]
      cases q : b (ds.map some ++ List.replicate (m - n) none) S' with
      | nx ε S1 => rw [q] at p; exact fun σ h' g er s => p .non h' g .non s
      | rt d S1 => rw [q] at p; exact fun v h' g r s => p v h' g r s
      | bk ε S1 => rw [q] at p; exact p.elim
      | ct ε S1 => rw [q] at p; exact p.elim
      | ex c fs ε S1 => rw [q] at p; exact fun cls dd σ h' g er x s => p cls dd h' g x s
      | bad => rw [q] at p; exact p.elim
    · exact p.elim
theorem FnG.scope {f : Addr} {fd : FuncData} {ps : List Str} {k n m : Nat} {b : Sm} (F : FnG P w K mg base k f fd ps (spI K T (runU n m b))) : FnG P w K mg base k f fd ps (spI K T (runFn n m b)) :=
  F.imp fun vs H Q E ⟨h, S, ds, e, hr, r, p⟩ => ⟨h, S, ds, e, hr, r, PostF.scp hr p⟩
theorem FnG.eqD {f : Addr} {fd : FuncData} {ps : List Str} {k : Nat} {F G : FnD} (F0 : FnG P w K mg base k f fd ps (spI K T F)) (e : ∀ ds S, G ds S ≠ .bad → G ds S = F ds S) : FnG P w K mg base k f fd ps (spI K T G) :=
  F0.imp fun vs H Q E ⟨h, S, ds, e1, hr, r, p⟩ => ⟨h, S, ds, e1, hr, r, by
    by_cases z : G ds S = .bad
    · rw [z] at p; exact p.elim
    · rw [← e ds S z]; exact p⟩
end
/-- a def of the module under its name -/
structure DefI (P : Program) (w : World) (K : PySem.W.Frag) (mg : Str → Option Value) (base : Heap) (T : Tab) (k : Nat) (x : Str) (F : FnD) : Prop where
  ex : ∃ (f : Addr) (fd : FuncData) (ps : List Str), FnG P w K mg base k f fd ps (spI K T F) ∧ mg x = some (.ref f) ∧ PySem.W.keepIn K (.ref f) = true ∧ Binds K fd ps []
theorem DefI.mono {P : Program} {w : World} {K : PySem.W.Frag} {mg : Str → Option Value} {base : Heap} {T : Tab} {j k : Nat} {x : Str} {F : FnD} (D : DefI P w K mg base T j x F) (h : j ≤ k) : DefI P w K mg base T k x F := by
  obtain ⟨f, fd, ps, h1, h2, h3, h4⟩ := D.ex
  exact ⟨f, fd, ps, h1.mono h, h2, h3, h4⟩
theorem DefI.imp {P : Program} {w : World} {K : PySem.W.Frag} {mg : Str → Option Value} {base : Heap} {T : Tab} {k : Nat} {x : Str} {F F' : FnD} (D : DefI P w K mg base T k x F) (e : ∀ ds S, F' ds S ≠ .bad → F' ds S = F ds S) : DefI P w K mg base T k x F' := by
  obtain ⟨f, fd, ps, h1, h2⟩ := D.ex
  exact ⟨f, fd, ps, h1.eqD e, h2⟩
def eCall (F : FnD) (a : Es) : E := fun ε S => (a ε S).bind F
theorem Post.toF {K : PySem.W.Frag} {T : Tab} {W : WX} {σ : St} {h : Hv} {r : Rs Da} {Q : VK} (p : Post K T W (RV K T) σ h r Q) : PostF K T.base h r Q (WE W σ) := by
  cases r with
  | ok a S => exact fun v h' g r s => p v h' g (r.retab (T := T.base) (T' := T) rfl rfl) (s.retab (T := T.base) (T' := T) rfl rfl)
  | exc c fs S => exact fun cls dd h' g x s => p cls dd h' g (x.retab (T := T.base) (T' := T) rfl rfl) (s.retab (T := T.base) (T' := T) rfl rfl)
  | bad => exact p
section
variable {X : Cx} {T : Tab} {W : WX} {k : Nat} {F : FnD} {x : Str} {p pos : Pos} {e : Expr} {es : List Expr} {fs : Es}
theorem i_call (D : DefI X.prog X.w X.K X.mg X.base T.base k x F) (hr : RoomG k X.A) (tk : Takes X W) (hg : Gl X x) (ha : AI X T W (e :: es) fs) (hdb : (x == ("__debug__" : Str)) = false := by decide)
    (he : starEach (e :: es) X.env = (false, eval e X.env) :: starEach es X.env := by rfl) (hpl : (backTo pos (starEach es X.env)).any (·.1) = false := by rfl) : EI X T W (.Call (.Name x p) (e :: es) [] pos) (eCall F fs) := by
  obtain ⟨f, fd, ps, F0, hm, hk, hb⟩ := D.ex
  refine ⟨fun pins s σ H Q I ⟨h, S, ε, e0, er, hh, p⟩ => ?_⟩
  refine wpAny_Call_Name_kw (ld_glob I hg hm ?_ hdb)
  refine PySem.W.callWith_K (h₀ := X.base) I.ok.mod.kin hk (thn (ha.run pos pins s σ H _ I ⟨h, S, ε, e0, er, hh, Post.bind p⟩) fun us s1 ⟨vs, H1, I1, r, h1, S1, ds, e1, g1, r1, hr1, p1⟩ => ⟨I1.kIn, ?_⟩) he hpl
  exact run_fnG F0 hr hb (passAt tk σ) I1 r ⟨h1, S1, ds, e1, hr1.retab (T := T) (T' := T.base) rfl rfl, r1.retab (T := T) (T' := T.base) rfl rfl, p1.toF⟩
def eCall0 (F : FnD) : E := fun ε S => F [] S
theorem i_call0 (D : DefI X.prog X.w X.K X.mg X.base T.base k x F) (hr : RoomG k X.A) (tk : Takes X W) (hg : Gl X x) (hdb : (x == ("__debug__" : Str)) = false := by decide) : EI X T W (.Call (.Name x p) [] [] pos) (eCall0 F) := by
  obtain ⟨f, fd, ps, F0, hm, hk, hb⟩ := D.ex
  refine ⟨fun pins s σ H Q I ⟨h, S, ε, e, er, hr', p⟩ => ?_⟩
  refine wpAny_Call_Name_kw (ld_glob I hg hm ?_ hdb)
  refine PySem.W.callWith_K0 I.kIn hk (run_fnG (us := []) F0 hr hb (passAt tk σ) I .nil ⟨h, S, [], e, hr'.retab (T := T) (T' := T.base) rfl rfl, .nil, Post.toF p⟩)
end
end G

/-! try with any number of clauses, each with or without a name -/
namespace G
open PySem PySem.Spec PyProof.Rows L2
abbrev ATS := Addr → Value → Option Addr → TS
/-- one clause: its class, the slot of its name, its suite -/
structure Hd where
  c : Value
  i : Option Nat
  ts : ATS
def unsl (i : Option Nat) (σ : St) : St := match i with
  | some j => σ.set j none
  | none => σ
def insl (i : Option Nat) (v : V) (σ : St) : St := match i with
  | some j => σ.set j (some v)
  | none => σ
def endsOf (i : Option Nat) (D : Ends) : Ends := { nx := fun σ H => D.nx (unsl i σ) H, rt := D.rt, bk := fun σ H => D.bk (unsl i σ) H, ct := fun σ H => D.ct (unsl i σ) H }
/-- what the clauses ask of the body's exception -/
def wHds (K : PySem.W.Frag) (Wout : WX) (D : Ends) : List Hd → WX
  | [] => Wout
  | d :: r => fun cls dd σ H => ∃ b, PySem.W.exmOne K cls d.c = some b ∧ (b = true → ∀ a, H a = none → d.ts a cls dd (endsOf d.i D) (insl d.i (.ref a) σ) H) ∧ (b = false → wHds K Wout D r cls dd σ H)
abbrev SuOk (X : Cx) (b₀ : Stmt) (suite : List Stmt) (ts : ATS) : Prop := ∀ (a : Addr) (oe : Obj) (cls : Value) (d : Option Addr) (pn : List (Addr × Obj)), Zc cls d oe → (∃ vs, oe.data = .fields vs) → PSs (X.suite a ((a, oe) :: pn)) (b₀ :: suite) (ts a cls d)
inductive HdsI (X : Cx) : List ExceptHandler → List Hd → Prop
  | nil : HdsI X [] []
  | plain {x : Str} {c : Value} {ts : ATS} {b₀ : Stmt} {suite : List Stmt} {np pos' : Pos} {hds : List ExceptHandler} {l : List Hd} (hc : Names X x c) (hsu : SuOk X b₀ suite ts) (r : HdsI X hds l) :
      HdsI X (.ExceptHandler (some (.Name x np)) none (b₀ :: suite) pos' :: hds) (⟨c, none, ts⟩ :: l)
  | named {x n : Str} {i : Nat} {c : Value} {ts : ATS} {b₀ : Stmt} {suite : List Stmt} {np pos' : Pos} {hds : List ExceptHandler} {l : List Hd} (hN : X.N.Nodup) (hi : X.N[i]? = some n) (hln : X.env.kindOf n = some .local) (hc : Names X x c) (hsu : SuOk X b₀ suite ts) (r : HdsI X hds l) :
      HdsI X (.ExceptHandler (some (.Name x np)) (some n) (b₀ :: suite) pos' :: hds) (⟨c, some i, ts⟩ :: l)
section
variable {X : Cx} {body : List Stmt} {h₀ : ExceptHandler} {hds : List ExceptHandler} {l : List Hd} {pos : Pos} {tb : WX → TS} {Wout : WX}
theorem ps_tries (hs : X.stack = X.env :: X.outer) (hf : X.env.frame = some X.env.locals) (tk : Takes X Wout)
    (hb : ∀ (W : WX) (pn : List (Addr × Obj)) (xe : Value → Shared → Prop), Takes (X.tr pn xe) W → PassesOwn (model X.prog X.w) X.A X.env xe → PSs (X.tr pn xe) body (tb W))
    (hh : HdsI X (h₀ :: hds) l) : PS X (.Try body (h₀ :: hds) [] [] pos) (fun D σ H => tb (wHds X.K Wout D l) D σ H) := by
  constructor
  intro pins s σ H D I h
  have ok := I.ok
  have hfr : X.A.frames = some (X.env :: X.outer) := ok.frames.trans (congrArg some hs)
  have run := hb (wHds X.K Wout D l) (X.pn ++ pins) (fun e s₁ => wpAny (model X.prog X.w) X.A (noteFrame e X.env) (fun _ s₂ => wpAny (model X.prog X.w) X.A (setFlight e none) (fun _ s₃ => wpAny (model X.prog X.w) X.A (handleBy e X.env (h₀ :: hds)) (SP X pins D) X.xe s₃) X.xe s₂) X.xe s₁)
  refine wpAny_Try_except (wpAny_mono ((run ?caught PassesOwn.looking).run [] s σ H D (I.toTry _) h) (fun f s1 hsp => ?fine) fun e s1 he => he)
  case fine =>
    cases f with
    | next => obtain ⟨σ', H', J, q⟩ := hsp; exact wpAny_execs_nil ⟨σ', H', J.ofTry ok, q⟩
    | ret u => obtain ⟨v, σ', H', J, r, q⟩ := hsp; exact ⟨v, σ', H', J.ofTry ok, r, q⟩
    | brk => obtain ⟨σ', H', J, q⟩ := hsp; exact ⟨σ', H', J.ofTry ok, q⟩
    | cont => obtain ⟨σ', H', J, q⟩ := hsp; exact ⟨σ', H', J.ofTry ok, q⟩
  case caught =>
    rintro u s' ⟨a, B, sI, pins', σ', H', cls, d, rfl, J', nb, up, sky, na, os, ag, w⟩
    have J : Inv X pins σ' H' sI := J'.ofTry ok
    have sky' : Sky B (X.env :: X.outer) a (Zc cls d) X.env.locals s'.heap := hs ▸ sky
    show wpAny (model X.prog X.w) X.A (noteFrame (.ref a) X.env) _ _ _
    refine Sky.land Zc.steady hfr hf sky' fun h3 fl3 up3 => ?_
    have J3 : Inv X pins σ' H' { s' with heap := h3 } := J.landed nb fl3.1 (up.trans up3) os ag
    obtain ⟨oe3, vs3, he3, hz3, hd3⟩ := fl3.there
    have nfr : a ∉ frs (X.env :: X.outer) := fun hm => by
      obtain ⟨_, o', e', hnf⟩ := fl3.2.2.1.mem hm
      rw [he3] at e'
      cases e'
      exact hnf _ hd3
    have nL : a ≠ X.env.locals := fun z => nfr (List.mem_filterMap.mpr ⟨X.env, List.mem_cons_self, hf.trans (congrArg some z.symm)⟩)
    have nF : a ∉ X.fs := fun hm => let ⟨e, he, q⟩ := List.mem_filterMap.mp hm; nfr (List.mem_filterMap.mpr ⟨e, List.mem_cons_of_mem _ he, q⟩)
    have S3 := J3.suite he3 hd3 na nL nF
    have LT : PySem.W.Looks (model X.prog X.w) h3 (typeOf (.ref a)) cls := fun A Q E s k q => wpAny_typeOf_ref (k _ _ he3) (by rw [hz3.1]; exact q)
    have test : ∀ {x : Str} {c : Value} {np : Pos} {Q : Value → Shared → Prop} {E : Value → Shared → Prop}, Names X x c → Q c { s' with heap := h3 } → wpAny (model X.prog X.w) (X.A.mark (some (.ref a))) (eval (.Name x np) X.env) Q E { s' with heap := h3 } := fun hc q => by
      obtain ⟨hg, hdbg, hm | ⟨hm, hv, hnn⟩⟩ := hc
      · exact ld_glob (X := X.suite a ((a, oe3) :: (X.pn ++ pins))) S3 hg hm q hdbg
      · exact ld_blt (X := X.suite a ((a, oe3) :: (X.pn ++ pins))) S3 hg hm hv q hnn hdbg
    suffices go : ∀ {hds' : List ExceptHandler} {l' : List Hd}, HdsI X hds' l' → wHds X.K Wout D l' cls d σ' H' → wpAny (model X.prog X.w) X.A (handleBy (.ref a) X.env hds') (SP X pins D) X.xe { s' with heap := h3 } from go hh w
    intro hds' l' hk
    induction hk with
    | nil =>
      intro w
      refine wpAny_handleBy_nil ?_
      obtain ⟨k1, k2, k3, oe, vs, Tb, oT, ts', he, hz, hd, h1, hr⟩ := id fl3
      have fin : wpAny (model X.prog X.w) X.A (setFlight (.ref a) X.env.frame) (fun _ s4 => wpAny (model X.prog X.w) X.A (throw (.ref a) : Sem Flow) (SP X pins D) X.xe s4) X.xe { s' with heap := h3 } := by
        rw [hf]
        exact HandSPX.setFlight_upZ fl3 fun h4 hh4 up4 => wpAny_throw (tk _ _ ⟨a, B, sI, pins, σ', H', cls, d, rfl, J, nb, (up.trans up3).trans up4, .inr (.inr (by rw [hs]; exact hh4)), na, os, ag, w⟩)
      unfold PySem.passOn
      refine wpAny_bind (wpAny_field he hd h1 ?_)
      have ne : ¬ ((Value.ref Tb == Value.none) = true) := by simp
      rw [if_neg ne]
      first
        | exact wpAny_bind (wpAny_pure (wpAny_bind fin))
        | exact wpAny_bind fin
    | @plain x c ts b₀ suite np pos' hds2 l2 hc hsu r ih =>
      rintro ⟨b, hb1, hyes, hno⟩
      refine wpAny_handleBy_cons (codeAny_handlers_test (test hc ((PySem.W.exm_one (M := model X.prog X.w) J3.kIn LT hb1).here ?_))) (by intro q; cases q)
      cases b with
      | false => exact ih (hno rfl)
      | true =>
        refine codeAny_handlers_suite (HandSPX.lands_againZ fl3 fun h4 fl4 up4 => ?_)
        have J4 : Inv X pins σ' H' { s' with heap := h4 } := J.landed nb fl4.1 ((up.trans up3).trans up4) os ag
        obtain ⟨oe4, vs4, he4, hz4, hd4⟩ := fl4.there
        refine wpAny_mono ((hsu a oe4 cls d (X.pn ++ pins) hz4 ⟨_, hd4⟩).run [] _ _ H' _ (J4.suite he4 hd4 na nL nF) (hyes rfl a na)) (fun f s6 hsp => ?_) fun _ _ z => z.elim
        cases f with
        | next => obtain ⟨σ6, H6, S6, q6⟩ := hsp; exact ⟨_, _, S6.unsuite ok, q6⟩
        | brk => obtain ⟨σ6, H6, S6, q6⟩ := hsp; exact ⟨_, _, S6.unsuite ok, q6⟩
        | cont => obtain ⟨σ6, H6, S6, q6⟩ := hsp; exact ⟨_, _, S6.unsuite ok, q6⟩
        | ret u => obtain ⟨v6, σ6, H6, S6, r6, q6⟩ := hsp; exact ⟨_, _, _, S6.unsuite ok, r6, q6⟩
    | @named x n i c ts b₀ suite np pos' hds2 l2 hN hi hln hc hsu r ih =>
      rintro ⟨b, hb1, hyes, hno⟩
      refine wpAny_handleBy_cons (codeAny_handlers_test (test hc ((PySem.W.exm_one (M := model X.prog X.w) J3.kIn LT hb1).here ?_))) (by intro q; cases q)
      cases b with
      | false => exact ih (hno rfl)
      | true =>
        refine codeAny_handlers_suite_as (HandSPX.lands_againZ fl3 fun h4 fl4 up4 => ?_)
        have J4 : Inv X pins σ' H' { s' with heap := h4 } := J.landed nb fl4.1 ((up.trans up3).trans up4) os ag
        obtain ⟨oe4, vs4, he4, hz4, hd4⟩ := fl4.there
        refine store_ok (X := X.suite a ((a, oe4) :: (X.pn ++ pins))) (v := .ref a) (J4.suite he4 hd4 na nL nF) hN hi (.inl hln) rfl (fun s5 S5 => ?_) (.inr hln)
        refine wpAny_mono ((hsu a oe4 cls d (X.pn ++ pins) hz4 ⟨_, hd4⟩).run [] s5 _ H' _ S5 (hyes rfl a na)) (fun f s6 hsp => ?_) fun _ _ z => z.elim
        cases f with
        | next => obtain ⟨σ6, H6, S6, q6⟩ := hsp; exact gone_ok (S6.unsuite ok) hN hi hln fun s7 J7 => ⟨_, _, J7, q6⟩
        | brk => obtain ⟨σ6, H6, S6, q6⟩ := hsp; exact gone_ok (S6.unsuite ok) hN hi hln fun s7 J7 => ⟨_, _, J7, q6⟩
        | cont => obtain ⟨σ6, H6, S6, q6⟩ := hsp; exact gone_ok (S6.unsuite ok) hN hi hln fun s7 J7 => ⟨_, _, J7, q6⟩
        | ret u => obtain ⟨v6, σ6, H6, S6, r6, q6⟩ := hsp; exact gone_ok (S6.unsuite ok) hN hi hln fun s7 J7 => ⟨_, _, _, J7, r6, q6⟩
end
/-! ### what it means -/
theorem mem_look {β : Type} {c : Nat} {b : β} : ∀ {l : List (Nat × β)}, l.lookup c = some b → (c, b) ∈ l
  | [], e => by cases e
  | (k, v) :: l, e => by
    by_cases h : c = k
    · subst h; simp [List.lookup] at e; subst e; exact List.mem_cons_self
    · have hb : (c == k) = false := beq_eq_false_iff_ne.mpr h
      simp only [List.lookup, hb] at e
      exact List.mem_cons_of_mem _ (mem_look e)
def clrX (ε : Env) : Env := ε.map fun o => match o with
  | some (.exv _ _) => none
  | o => o
def unsE (i : Option Nat) (ε : Env) : Env := match i with
  | some j => ε.set j none
  | none => ε
def insE (i : Option Nat) (d : Da) (ε : Env) : Env := match i with
  | some j => ε.set j (some d)
  | none => ε
structure HdD where
  tbl : List (Nat × Bool)
  i : Option Nat
  s : Sm
def sufl (i : Option Nat) : Fl → Fl
  | .nx ε S => .nx (unsE i (clrX ε)) S
  | .bk ε S => .bk (unsE i (clrX ε)) S
  | .ct ε S => .ct (unsE i (clrX ε)) S
  | .rt d S => .rt d S
  | _ => .bad
def catchL : List HdD → Nat → List (Str × Da) → Env → Sto → Fl
  | [], c, fs, ε, S => .ex c fs ε S
  | d :: r, c, fs, ε, S => match d.tbl.lookup c with
    | some true => sufl d.i (d.s (insE d.i (.exv c fs) ε) S)
    | some false => catchL r c fs ε S
    | none => .bad
def sTry (b : Sm) (hs : List HdD) : Sm := fun ε S => match b ε S with
  | .ex c fs ε S => catchL hs c fs ε S
  | r => r
def Tab.at (T : Tab) (a : Addr) (cls : Value) (d : Option Addr) : Tab := ⟨T.cls, T.fnA, some (a, cls, d)⟩
abbrev W0 : WX := fun _ _ _ _ => False
abbrev SuI (X : Cx) (T : Tab) (suite : List Stmt) (s : Sm) : Prop := ∀ (a : Addr) (oe : Obj) (cls : Value) (d : Option Addr) (pn : List (Addr × Obj)), Zc cls d oe → (∃ vs, oe.data = .fields vs) → SsI (X.suite a ((a, oe) :: pn)) (T.at a cls d) W0 suite s
inductive HdsD (X : Cx) (T : Tab) : List ExceptHandler → List HdD → List Hd → Prop
  | nil : HdsD X T [] [] []
  | plain {x : Str} {c : Value} {s : Sm} {b₀ : Stmt} {suite : List Stmt} {np pos' : Pos} {hds : List ExceptHandler} {tbl : List (Nat × Bool)} {ds : List HdD} {l : List Hd} (hc : Names X x c) (hm : ∀ p ∈ tbl, PySem.W.exmOne X.K (.ref (T.cls p.1)) c = some p.2) (hsu : SuI X T (b₀ :: suite) s) (r : HdsD X T hds ds l) :
      HdsD X T (.ExceptHandler (some (.Name x np)) none (b₀ :: suite) pos' :: hds) (⟨tbl, none, s⟩ :: ds) (⟨c, none, fun a cls d => tS X.K (T.at a cls d) W0 s⟩ :: l)
  | named {x n : Str} {i : Nat} {c : Value} {s : Sm} {b₀ : Stmt} {suite : List Stmt} {np pos' : Pos} {hds : List ExceptHandler} {tbl : List (Nat × Bool)} {ds : List HdD} {l : List Hd} (hN : X.N.Nodup) (hi : X.N[i]? = some n) (hln : X.env.kindOf n = some .local) (hc : Names X x c)
      (hm : ∀ p ∈ tbl, PySem.W.exmOne X.K (.ref (T.cls p.1)) c = some p.2) (hsu : SuI X T (b₀ :: suite) s) (r : HdsD X T hds ds l) :
      HdsD X T (.ExceptHandler (some (.Name x np)) (some n) (b₀ :: suite) pos' :: hds) (⟨tbl, some i, s⟩ :: ds) (⟨c, some i, fun a cls d => tS X.K (T.at a cls d) W0 s⟩ :: l)
theorem HdsD.to {X : Cx} {T : Tab} {hds : List ExceptHandler} {ds : List HdD} {l : List Hd} (h : HdsD X T hds ds l) : HdsI X hds l := by
  induction h with
  | nil => exact .nil
  | plain hc hm hsu r ih => exact .plain hc (fun a oe cls d pn z f => hsu a oe cls d pn z f) ih
  | named hN hi hln hc hm hsu r ih => exact .named hN hi hln hc (fun a oe cls d pn z f => hsu a oe cls d pn z f) ih
section
variable {K : PySem.W.Frag} {T : Tab} {h : Hv} {σ : St} {ε : Env}
theorem SlotR.to (T' : Tab) (c : T'.cls = T.cls) (f : T'.fnA = T.fnA) (h0 : T.cur = none) {o : Option (Option V)} {d : Da} : SlotR K T h o d → SlotR K T' h o d
  | .inl ⟨n, v, e, r⟩ => .inl ⟨n, v, e, r.retab c f⟩
  | .inr ⟨a, cls, dd, k, fs, e, e1, e2, x⟩ => by rw [h0] at e1; cases e1
theorem EnvR.to (T' : Tab) (c : T'.cls = T.cls) (f : T'.fnA = T.fnA) (h0 : T.cur = none) (r : EnvR K T h σ ε) : EnvR K T' h σ ε := ⟨r.1, fun i d e => (r.2 i d e).to T' c f h0⟩
theorem EnvR.clr (T' : Tab) (c : T'.cls = T.cls) (f : T'.fnA = T.fnA) (i : Option Nat) (r : EnvR K T h σ ε) : EnvR K T' h (unsl i σ) (unsE i (clrX ε)) := by
  have base : EnvR K T' h σ (clrX ε) := by
    refine ⟨by simp [clrX, r.1], fun j d e => ?_⟩
    unfold clrX at e
    rw [List.getElem?_map] at e
    cases q : ε[j]? with
    | none => rw [q] at e; cases e
    | some o =>
      rw [q] at e
      cases o with
      | none => simp at e
      | some d' =>
        have s := r.2 j d' q
        rcases s with ⟨n, v, e1, rv⟩ | ⟨a, cls, dd, k, fs, e1, _⟩
        · have ed : d' = d := by
            cases d' <;> first | (simp [isExv] at n; done) | (simpa using e)
          subst ed
          exact .inl ⟨n, v, e1, rv.retab c f⟩
        · subst e1; simp at e
  cases i with
  | none => exact base
  | some j => exact base.unset j none
end
section
variable {X : Cx} {T : Tab} {W : WX}
theorem HdsD.wish {hds : List ExceptHandler} {ds : List HdD} {l : List Hd} (k : HdsD X T hds ds l) (h0 : T.cur = none) {cls : Value} {dd : Option Addr} {σ : St} {h : Hv} {c : Nat} {fs : List (Str × Da)} {ε : Env} {S : Sto} {D : Ends}
    (er : EnvR X.K T h σ ε) (x : XR X.K T h cls dd c fs) (hr : HeapR X.K T h S) (p : PostS X.K T W h (catchL ds c fs ε S) D) : wHds X.K W D l cls dd σ h.H := by
  have suite : ∀ (i : Option Nat) (s : Sm) (a : Addr), PostS X.K T W h (sufl i (s (insE i (.exv c fs) ε) S)) D → tS X.K (T.at a cls dd) W0 s (endsOf i D) (insl i (.ref a) σ) h.H := fun i s a p => by
    refine ⟨h, S, insE i (.exv c fs) ε, rfl, ?_, hr.retab (T := T) (T' := T.at a cls dd) rfl rfl, ?_⟩
    · have e1 := EnvR.to (T := T) (T.at a cls dd) rfl rfl h0 er
      cases i with
      | none => exact e1
      | some j => exact e1.put j (.inr ⟨a, cls, dd, c, fs, rfl, rfl, rfl, x.retab (T := T) (T' := T.at a cls dd) rfl rfl⟩)
    · have cl : ∀ {h' : Hv} {σ1 : St} {ε1 : Env}, EnvR X.K (T.at a cls dd) h' σ1 ε1 → EnvR X.K T h' (unsl i σ1) (unsE i (clrX ε1)) := fun r => EnvR.clr (T := T.at a cls dd) T rfl rfl i r
      cases q : s (insE i (.exv c fs) ε) S with
      | nx ε1 S1 => rw [q] at p; exact fun σ1 h' g r t => p _ h' g (cl r) (t.retab (T := T.at a cls dd) (T' := T) rfl rfl)
      | bk ε1 S1 => rw [q] at p; exact fun σ1 h' g r t => p _ h' g (cl r) (t.retab (T := T.at a cls dd) (T' := T) rfl rfl)
      | ct ε1 S1 => rw [q] at p; exact fun σ1 h' g r t => p _ h' g (cl r) (t.retab (T := T.at a cls dd) (T' := T) rfl rfl)
      | rt d S1 => rw [q] at p; exact fun v h' g r t => p v h' g (r.retab (T := T.at a cls dd) (T' := T) rfl rfl) (t.retab (T := T.at a cls dd) (T' := T) rfl rfl)
      | ex c' fs' ε1 S1 => rw [q] at p; exact p.elim
      | bad => rw [q] at p; exact p.elim
  have look : ∀ {tbl : List (Nat × Bool)} {v : Value} {b : Bool}, (∀ p ∈ tbl, PySem.W.exmOne X.K (.ref (T.cls p.1)) v = some p.2) → tbl.lookup c = some b → PySem.W.exmOne X.K cls v = some b := fun {tbl v b} hm e => by
    rw [x.1]
    exact hm (c, b) (mem_look e)
  induction k with
  | nil => exact p cls dd σ h (Grow.refl h) er x hr
  | @plain y v s b₀ sub np pos' hds tbl ds l hc hm hsu r ih =>
    unfold catchL at p
    dsimp only at p
    cases e : tbl.lookup c with
    | none => rw [e] at p; exact p.elim
    | some b =>
      rw [e] at p
      refine ⟨b, look hm e, fun z a _ => ?_, fun z => ?_⟩
      · subst z; exact suite none s a p
      · subst z; exact ih p
  | @named y n i v s b₀ sub np pos' hds tbl ds l hN hi hln hc hm hsu r ih =>
    unfold catchL at p
    dsimp only at p
    cases e : tbl.lookup c with
    | none => rw [e] at p; exact p.elim
    | some b =>
      rw [e] at p
      refine ⟨b, look hm e, fun z a _ => ?_, fun z => ?_⟩
      · subst z; exact suite (some i) s a p
      · subst z; exact ih p
variable {body : List Stmt} {h₀ : ExceptHandler} {hds : List ExceptHandler} {l : List Hd} {ds : List HdD} {m : Sm} {pos : Pos}
theorem s_try (h0 : T.cur = none) (tk : Takes X W) (hb : ∀ (W : WX) (pn : List (Addr × Obj)) (xe : Value → Shared → Prop), Takes (X.tr pn xe) W → PassesOwn (model X.prog X.w) X.A X.env xe → SsI (X.tr pn xe) T W body m)
    (hh : HdsD X T (h₀ :: hds) ds l) (hs : X.stack = X.env :: X.outer := by rfl) (hf : X.env.frame = some X.env.locals := by rfl) : SI X T W (.Try body (h₀ :: hds) [] [] pos) (sTry m ds) := by
  refine wkS (ps_tries (tb := fun W => tS X.K T W m) hs hf tk (fun W pn xe t q => hb W pn xe t q) hh.to) fun D σ H ⟨h, S, ε, e, er, hr, p⟩ => ⟨h, S, ε, e, er, hr, ?_⟩
  unfold sTry at p
  cases q : m ε S with
  | ex c fs ε1 S1 => rw [q] at p; exact fun cls dd σ1 h1 g1 er1 x1 hr1 => hh.wish h0 er1 x1 hr1 (PostS.grow g1 p)
  | nx ε1 S1 => rw [q] at p; exact p
  | rt d S1 => rw [q] at p; exact p
  | bk ε1 S1 => rw [q] at p; exact p
  | ct ε1 S1 => rw [q] at p; exact p
  | bad => rw [q] at p; exact p
/-! ### raise -/
def sRaise (c : Nat) (f : Str) (a : Es) : Sm := fun ε S => lft (a ε S) ε fun ds S => match ds with
  | [d] => .ex c [(f, d)] ε S
  | _ => .bad
theorem s_raise {x f : Str} {a : Expr} {es : Es} {c k : Nat} {C fI : Addr} {p pos pos2 : Pos} (hcl : T.cls c = C) (TX : PySem.GX.XTxt X.prog X.K X.mg C fI f) (FN : PySem.GX.FName f) (gC : X.mg x = some (.ref C)) (hroom : Room k X.A) (hc : X.calm = true) (tk : Takes X W) (ha : AI X T W [a] es)
    (hg : Gl X x) (hdb : (x == ("__debug__" : Str)) = false := by decide) (he : starEach (a :: []) X.env = (false, eval a X.env) :: starEach [] X.env := by rfl) (hpl : (backTo pos (starEach [] X.env)).any (·.1) = false := by rfl) :
    SI X T W (.Raise (some (.Call (.Name x p) [a] [] pos)) none pos2) (sRaise c f es) := by
  refine wkS (ps_raise hc tk (pmk_x TX FN gC hroom ha hg hdb he hpl)) fun D σ H ⟨h, S, ε, e, er, hr, p⟩ => ⟨h, S, ε, e, er, hr, (PostS.lft er p).imp fun vs H1 ⟨h1, S1, ds, e1, g1, r1, hr1, er1, p1⟩ => ?_⟩
  cases r1 with
  | nil => exact (show False from p1).elim
  | @cons v vs d ds r r1 =>
    cases r1 with
    | cons _ _ => exact (show False from p1).elim
    | nil =>
      subst e1
      refine ⟨v, rfl, fun q hq => ?_⟩
      have g := grow_new (h := h1) hq (.xd [(f, v)])
      refine p1 (.ref C) (some q) σ { h1 with H := upd h1.H q (.xd [(f, v)]) } g (er1.mono g.ext) ⟨by rw [hcl], .inr ⟨q, [(f, v)], rfl, upd_same, ?_, .cons (r.mono g.ext) .nil⟩⟩ (hr1.new hq _)
      exact hr1.fresh hq
/-! ### e.f in a suite -/
def eXf (cs : List Nat) (i : Nat) (f : Str) : E := fun ε S => match ε[i]? with
  | some (some (.exv c fs)) => if c ∈ cs then (match fs.lookup f with | some d => .ok d S | none => .bad) else .bad
  | _ => .bad
theorem RVf.look {K : PySem.W.Frag} {h : Hv} {gs : List (Str × V)} {fs : List (Str × Da)} (r : RVf K T h gs fs) {f : Str} {d : Da} (e : fs.lookup f = some d) : ∃ v, gs.lookup f = some v ∧ RV K T h v d := by
  induction fs generalizing gs with
  | nil => cases e
  | cons p fs ih =>
    cases r with
    | @cons g v vs d' ds a b =>
      by_cases hf : f = g
      · subst hf
        simp [List.lookup] at e
        subst e
        exact ⟨v, by simp [List.lookup], a⟩
      · have hb : (f == g) = false := beq_eq_false_iff_ne.mpr hf
        simp only [List.lookup, hb] at e ⊢
        exact ih b e
theorem RVf.nolook {K : PySem.W.Frag} {h : Hv} {gs : List (Str × V)} {fs : List (Str × Da)} (r : RVf K T h gs fs) {f : Str} (e : fs.lookup f = none) : gs.lookup f = none := by
  induction fs generalizing gs with
  | nil => cases r; rfl
  | cons p fs ih =>
    cases r with
    | @cons g v vs d' ds a b =>
      by_cases hf : f = g
      · subst hf; simp [List.lookup] at e
      · have hb : (f == g) = false := beq_eq_false_iff_ne.mpr hf
        simp only [List.lookup, hb] at e ⊢
        exact ih b e
theorem i_xf {a : Addr} {cls : Value} {dd : Option Addr} {oe : Obj} {pn : List (Addr × Obj)} {cs : List Nat} {i : Nat} {n f : Str} {pos p2 : Pos} (hz : Zc cls dd oe) (hd : ∃ vs, oe.data = .fields vs) (hN : X.N[i]? = some n) (hv : Vis X.env.scope n)
    (hX : ∀ c ∈ cs, XfC X.K (T.cls c) ∧ PySem.W.findIn X.K (.ref (T.cls c)) f = some none)
    (hb : attributeBase (.Name n p2) f X.env (eval (.Name n p2) X.env) = eval (.Name n p2) X.env := by rfl) (hdn : (n == ("__debug__" : Str)) = false := by decide) (hcd : (n == ("__classdict__" : Str)) = false := by decide) :
    EI (X.suite a ((a, oe) :: pn)) (T.at a cls dd) W (.Attribute (.Name n p2) f pos) (eXf cs i f) := by
  constructor
  rintro pins s σ H Q I ⟨h, S, ε, e, er, hr, p⟩
  unfold eXf at p
  split at p
  · rename_i c fs q
    rcases er.2 i _ q with ⟨nx, _⟩ | ⟨a', cls', dd', c', fs', e1, e2, e3, x⟩
    · simp [isExv] at nx
    · cases e1; cases e2
      split at p
      · rename_i hcs
        split at p
        · rename_i d q2
          obtain ⟨ec, x2⟩ := x
          have ec' : cls = .ref (T.cls c) := ec
          rcases x2 with ⟨_, z⟩ | ⟨d1, gs, z1, z2, z3, z4⟩
          · subst z; cases q2
          · obtain ⟨v, l, rv⟩ := z4.look q2
            refine (pe_xf (X := X) (hX c hcs).1 (hX c hcs).2 hz hd (pe_var (X := X.suite a ((a, oe) :: pn)) hN hv hdn hcd) hb).run pins s σ H Q I ⟨_, e3, rfl, ec', d1, gs, v, z1, by subst e; exact z2, l, ?_⟩
            subst e
            exact Post.ret p rv hr
        · exact p.elim
      · exact p.elim
  · exact p.elim
end
end G

namespace G
open PySem PySem.Spec PyProof.Rows L2

/-! ## kinds -/
def kindD (x : Da) (S : Sto) : Option BT := match drf S x with
  | .non => some .none
  | .bl _ => some .bool
  | .int _ => some .int
  | .str _ => some .str
  | .lst _ => some .list
  | .scr _ => some .list
  | .tup _ => some .tuple
  | _ => none
theorem SL.tyx {K : PySem.W.Frag} {h : Hv} {a : Addr} {xs : List V} : SL K h a xs → TyX K h.H (.ref a) (.type "list")
  | .inl ⟨.inl e, _⟩ => .base (.lst e)
  | .inl ⟨.inr ⟨o, e⟩, _⟩ => .base (.frz e)
  | .inr ⟨o, its, n, e, c, _⟩ => .kList e c
theorem ST.tyx {K : PySem.W.Frag} {h : Hv} {a : Addr} {xs : List V} : ST K h a xs → TyX K h.H (.ref a) (.type "tuple")
  | .inl ⟨.inl e, _⟩ => .base (.tup e)
  | .inl ⟨.inr ⟨o, e⟩, _⟩ => .fTuple e
  | .inr ⟨o, its, n, e, c, _⟩ => .kTuple e c
theorem kind_of {K : PySem.W.Frag} {T : Tab} {h : Hv} {S : Sto} {v : V} {d : Da} {b : BT} (r : RV K T h v d) (s : HeapR K T h S) (e : kindD d S = some b) : TyX K h.H v (.type b.name) := by
  have q := r.drf s
  unfold kindD at e
  generalize drf S d = d' at q e
  cases q with
  | lst a c => simp only [Option.some.injEq] at e; subst e; exact .base (.lst a)
  | of q =>
    cases q with
    | non => simp only [Option.some.injEq] at e; subst e; exact .base .non
    | bl b => simp only [Option.some.injEq] at e; subst e; exact .base (.bl _)
    | int b => simp only [Option.some.injEq] at e; subst e; exact .base (.int _)
    | str b => simp only [Option.some.injEq] at e; subst e; exact .base (.str _)
    | lst a c d => simp only [Option.some.injEq] at e; subst e; exact .base (.lst a)
    | scr a => simp only [Option.some.injEq] at e; subst e; exact a.tyx
    | tup a c => simp only [Option.some.injEq] at e; subst e; exact a.tyx
    | ins _ _ _ => cases e
    | fn _ => cases e
    | ty _ => cases e
    | cls _ => cases e
    | ref _ _ => cases e
def isB : BT → BT → Bool
  | .none, .none => true
  | .bool, .bool => true
  | .bool, .int => true
  | .int, .int => true
  | .str, .str => true
  | .list, .list => true
  | .tuple, .tuple => true
  | .dict, .dict => true
  | _, _ => false
theorem kitB_isB (a b : BT) : kitB a.name b.name = some (isB a b) := by
  cases a <;> cases b <;> decide +kernel
def tysOf : List Da → Option (List BT)
  | [] => some []
  | .ty b :: ds => (tysOf ds).map (b :: ·)
  | _ :: _ => none
/-- isinstance(x, T), T a built-in class -/
def dIsi (xs : List Da) (S : Sto) : Option (Da × Sto) := match xs with
  | [x, .ty b] => (kindD x S).map fun a => (.bl (isB a b), S)
  | _ => none
theorem o_isi {X : Cx} {T : Tab} : CallR X (.builtin "isinstance") (rDN X.K T dIsi) := by
  refine CallR.imp call_isi fun xs H Q ⟨h, S, ds, e, hr, r, p⟩ => ?_
  subst e
  unfold dIsi at p
  split at p
  · rename_i x b
    cases r with
    | cons r1 r =>
      cases r with
      | cons r2 r =>
        cases r
        cases r2
        cases q : kindD x S with
        | none => rw [q] at p; exact p.elim
        | some a =>
          rw [q] at p
          exact ⟨_, _, _, _, _, rfl, .ty _, kind_of r1 hr q, kit_ty (kitB_isB a b), p.ret (.bl _) hr⟩
  · exact p.elim
/-- isinstance(x, (T, U)) -/
def dIsT (x : Da) (cs : List Da) (S : Sto) : Option (Da × Sto) := match kindD x S, tysOf cs with
  | some a, some bs => if cs.length ≤ 16 then some (.bl (bs.any (isB a)), S) else none
  | _, _ => none
def eIsT (a : E) (cs : Es) : E := fun ε S => (a ε S).bind fun x S => (cs ε S).bind fun ds S => Rs.of (dIsT x ds S)
theorem tys_vals {K : PySem.W.Frag} {T : Tab} {h : Hv} : ∀ {ds : List Da} {vs : List V} {bs : List BT}, RVs K T h vs ds → tysOf ds = some bs → Paired ClsV vs (bs.map fun b => Value.type b.name)
  | [], _, bs, .nil, e => by simp only [tysOf, Option.some.injEq] at e; subst e; exact .nil
  | d :: ds, _, bs, .cons r1 r, e => by
    cases d <;> simp only [tysOf] at e <;> try (cases e; done)
    rename_i b
    cases q : tysOf ds with
    | none => rw [q] at e; cases e
    | some bs' =>
      rw [q] at e
      simp only [Option.map_some, Option.some.injEq] at e
      subst e
      cases r1
      exact .cons (.ty _) (tys_vals r q)
theorem kitAny_bs {K : PySem.W.Frag} (a : BT) : ∀ bs : List BT, PySem.W.kitAny K (.type a.name) (bs.map fun b => Value.type b.name) = some (bs.any (isB a))
  | [] => kitAny_nil
  | b :: bs => by
    refine kitAny_cons (kit_ty (kitB_isB a b)) (fun z => ?_) fun z => ?_
    · rw [List.any_cons, z, Bool.false_or]; exact kitAny_bs a bs
    · rw [List.any_cons, z, Bool.true_or]
section
variable {X : Cx} {T : Tab} {W : WX} {a : Expr} {cs : List Expr} {f : E} {gs : Es} {p p2 pos : Pos} {k : Nat}
theorem i_isT (ha : EI X T W a f) (hcs : AI X T W cs gs) (hg : Gl X "isinstance") (hm : X.mg "isinstance" = none)
    (he : starEach [a, .Tuple cs k p2] X.env = (false, eval a X.env) :: starEach [.Tuple cs k p2] X.env := by rfl) (he2 : starEach [.Tuple cs k p2] X.env = (false, eval (.Tuple cs k p2) X.env) :: starEach [] X.env := by rfl)
    (hpl : (backTo pos (starEach [.Tuple cs k p2] X.env)).any (·.1) = false := by rfl) : EI X T W (.Call (.Name "isinstance" p) [a, .Tuple cs k p2] [] pos) (eIsT f gs) := by
  refine wkE (pe_callB call_isiT hg hm PyProof.Rows.boot_isinstance (pa_cons ha (pa_cons (pe_tup hcs) pa_nil he2) he) (by decide) (by decide) he hpl) fun σ H Q ⟨h, S, ε, e, er, hr, p⟩ => ⟨h, S, ε, e, er, hr, (Post.bind p).imp fun x H1 ⟨h1, S1, d1, e1, g1, r1, hr1, p1⟩ => ?_⟩
  refine ⟨h1, S1, ε, e1, er.mono g1, hr1, (Post.bind p1).imp fun vs H2 ⟨h2, S2, ds, e2, g2, r2, hr2, p2⟩ => ?_⟩
  have p3 := Post.of p2
  unfold dIsT at p3
  split at p3
  · rename_i a bs q1 q2
    split at p3
    rotate_left
    · exact p3.elim
    rename_i hlen
    subst e2
    refine ⟨(by rw [r2.length]; rw [sizeLine_eq]; omega), fun q hq => ⟨x, q, vs, _, _, bs.any (isB a), rfl, upd_same, tys_vals r2 q2, ?_, kitAny_bs a bs, ?_⟩⟩
    · have gr := grow_new (h := h2) hq (.tup vs)
      exact kind_of (h := { h2 with H := upd h2.H q (.tup vs) }) ((r1.mono g2.ext).mono gr.ext) (hr2.new hq _) q1
    · exact p3 (.bl _) { h2 with H := upd h2.H q (.tup vs) } (grow_new hq _) (.bl _) (hr2.new hq _)
  · exact p3.elim
end
/-! ## names of built-in classes -/
theorem i_bty {X : Cx} {T : Tab} {W : WX} {x : Str} {pos : Pos} (b : BT) (hg : Gl X x) (hm : X.mg x = none) (hv : bootBuiltins x = some (.type b.name)) (hn : x ≠ "__name__" := by decide) (hd : (x == ("__debug__" : Str)) = false := by decide) : EI X T W (.Name x pos) (eC (.ty b)) :=
  i_c (pe_bltn (v := .ty b.name) hg hm hv rfl hn hd) fun _ => .ty b
/-- a constant of the module -/
theorem i_glob {X : Cx} {T : Tab} {W : WX} {x : Str} {pos : Pos} {v : V} {u : Value} {d : Da} (hg : Gl X x) (hm : X.mg x = some u) (r : RelV v u) (rd : ∀ h, RV X.K T h v d) (hd : (x == ("__debug__" : Str)) = false := by decide) : EI X T W (.Name x pos) (eC d) :=
  i_c (pe_glob hg hm r hd) rd
theorem i_gint {X : Cx} {T : Tab} {W : WX} {x : Str} {pos : Pos} {i : Int} (hg : Gl X x) (hm : ∃ t, X.mg x = some (.int i t)) (hd : (x == ("__debug__" : Str)) = false := by decide) : EI X T W (.Name x pos) (eC (.int i)) := by
  obtain ⟨t, hm⟩ := hm
  exact i_glob (v := .int i) hg hm ⟨t, rfl⟩ (fun _ => .int i) hd
theorem i_gstr {X : Cx} {T : Tab} {W : WX} {x : Str} {pos : Pos} {i : Str} (hg : Gl X x) (hm : ∃ t, X.mg x = some (.str i t)) (hd : (x == ("__debug__" : Str)) = false := by decide) : EI X T W (.Name x pos) (eC (.str i)) := by
  obtain ⟨t, hm⟩ := hm
  exact i_glob (v := .str i) hg hm ⟨t, rfl⟩ (fun _ => .str i) hd
/-! ## built-in functions -/
def dLen (xs : List Da) (S : Sto) : Option (Da × Sto) := match xs with
  | [x] => match drf S x with
    | .str y => if y.length ≤ sizeLine then some (.int y.length, S) else none
    | .lst ds => some (.int ds.length, S)
    | .tup ds => some (.int ds.length, S)
    | .scr ns => some (.int ns.length, S)
    | _ => none
  | _ => none
def dAbs (xs : List Da) (S : Sto) : Option (Da × Sto) := match xs with
  | [.int i] => some (.int (if i < 0 then -i else i), S)
  | _ => none
def dMax2 (xs : List Da) (S : Sto) : Option (Da × Sto) := match xs with
  | [.int i, .int j] => some (.int (if j > i then j else i), S)
  | _ => none
def dMin2 (xs : List Da) (S : Sto) : Option (Da × Sto) := match xs with
  | [.int i, .int j] => some (.int (if j < i then j else i), S)
  | _ => none
def dInt (xs : List Da) (S : Sto) : Option (Da × Sto) := match xs with
  | [.int i] => some (.int i, S)
  | [.bl k] => some (.int (if k then 1 else 0), S)
  | _ => none
/-- list(x): a value | in the store -/
def seqOf (x : Da) (S : Sto) : Option (List Da) := match drf S x with
  | .lst ds => some ds
  | .tup ds => some ds
  | .scr ns => some (ns.map Da.int)
  | _ => none
def dListOf (xs : List Da) (S : Sto) : Option (Da × Sto) := match xs with
  | [x] => (seqOf x S).map fun ds => (.lst ds, S)
  | _ => none
def dListNew (xs : List Da) (S : Sto) : Option (Da × Sto) := match xs with
  | [x] => (seqOf x S).map fun ds => (.ref S.length, S ++ [.lst ds])
  | _ => none
def dTupleOf (xs : List Da) (S : Sto) : Option (Da × Sto) := match xs with
  | [x] => (seqOf x S).map fun ds => (.tup ds, S)
  | _ => none
def intsOf : List Da → Option (List Int)
  | [] => some []
  | .int i :: ds => (intsOf ds).map (i :: ·)
  | _ :: _ => none
def blsOf : List Da → Option (List Bool)
  | [] => some []
  | .bl i :: ds => (blsOf ds).map (i :: ·)
  | _ :: _ => none
def listOf (x : Da) (S : Sto) : Option (List Da) := match drf S x with
  | .lst ds => some ds
  | .scr ns => some (ns.map Da.int)
  | _ => none
def maxL : List Int → Int
  | [] => 0
  | [a] => a
  | a :: l => let m := maxL l; if m < a then a else m
def minL : List Int → Int
  | [] => 0
  | [a] => a
  | a :: l => let m := minL l; if a < m then a else m
theorem maxL_spec : ∀ (l : List Int), l ≠ [] → maxL l ∈ l ∧ ∀ y ∈ l, y ≤ maxL l
  | [], h => absurd rfl h
  | [a], _ => by simp [maxL]
  | a :: b :: l, _ => by
    obtain ⟨h1, h2⟩ := maxL_spec (b :: l) (by simp)
    show (if maxL (b :: l) < a then a else maxL (b :: l)) ∈ _ ∧ ∀ y ∈ _, y ≤ (if maxL (b :: l) < a then a else maxL (b :: l))
    by_cases hh : maxL (b :: l) < a
    · rw [if_pos hh]
      refine ⟨List.mem_cons_self, fun y hy => ?_⟩
      rcases List.mem_cons.mp hy with e | e
      · omega
      · have := h2 y e; omega
    · rw [if_neg hh]
      refine ⟨List.mem_cons_of_mem _ h1, fun y hy => ?_⟩
      rcases List.mem_cons.mp hy with e | e
      · omega
      · exact h2 y e
theorem minL_spec : ∀ (l : List Int), l ≠ [] → minL l ∈ l ∧ ∀ y ∈ l, minL l ≤ y
  | [], h => absurd rfl h
  | [a], _ => by simp [minL]
  | a :: b :: l, _ => by
    obtain ⟨h1, h2⟩ := minL_spec (b :: l) (by simp)
    show (if a < minL (b :: l) then a else minL (b :: l)) ∈ _ ∧ ∀ y ∈ _, (if a < minL (b :: l) then a else minL (b :: l)) ≤ y
    by_cases hh : a < minL (b :: l)
    · rw [if_pos hh]
      refine ⟨List.mem_cons_self, fun y hy => ?_⟩
      rcases List.mem_cons.mp hy with e | e
      · omega
      · have := h2 y e; omega
    · rw [if_neg hh]
      refine ⟨List.mem_cons_of_mem _ h1, fun y hy => ?_⟩
      rcases List.mem_cons.mp hy with e | e
      · omega
      · exact h2 y e
def dMaxL (xs : List Da) (S : Sto) : Option (Da × Sto) := match xs with
  | [x] => match (listOf x S).bind intsOf with
    | some (i :: ns) => some (.int (maxL (i :: ns)), S)
    | _ => none
  | _ => none
def dMinL (xs : List Da) (S : Sto) : Option (Da × Sto) := match xs with
  | [x] => match (listOf x S).bind intsOf with
    | some (i :: ns) => some (.int (minL (i :: ns)), S)
    | _ => none
  | _ => none
def dSum (xs : List Da) (S : Sto) : Option (Da × Sto) := match xs with
  | [x] => ((listOf x S).bind intsOf).map fun ns => (.int ns.sum, S)
  | _ => none
def dAll (xs : List Da) (S : Sto) : Option (Da × Sto) := match xs with
  | [x] => ((listOf x S).bind blsOf).map fun bs => (.bl (bs.all id), S)
  | _ => none
def dAny (xs : List Da) (S : Sto) : Option (Da × Sto) := match xs with
  | [x] => ((listOf x S).bind blsOf).map fun bs => (.bl (bs.any id), S)
  | _ => none
section
variable {K : PySem.W.Frag} {T : Tab} {h : Hv} {S : Sto}
theorem RVs.one {xs : List V} {d : Da} (r : RVs K T h xs [d]) : ∃ v, xs = [v] ∧ RV K T h v d := by
  cases r with
  | cons r1 r => cases r; exact ⟨_, rfl, r1⟩
theorem RVs.two {xs : List V} {d e : Da} (r : RVs K T h xs [d, e]) : ∃ v w, xs = [v, w] ∧ RV K T h v d ∧ RV K T h w e := by
  cases r with
  | cons r1 r => cases r with | cons r2 r => cases r; exact ⟨_, _, rfl, r1, r2⟩
theorem seq_of {v : V} {d : Da} {ds : List Da} (r : RV K T h v d) (s : HeapR K T h S) (e : seqOf d S = some ds) : ∃ p xs, v = .ref p ∧ RVs K T h xs ds ∧ (SqL K h.H p xs ∨ SqT K h.H p xs) := by
  have q := r.drf s
  unfold seqOf at e
  generalize drf S d = d' at q e
  cases d' <;> simp only [Option.some.injEq] at e <;> try (cases e; done)
  · subst e; obtain ⟨a, xs, rfl, h1, h2⟩ := q.lst_inv; exact ⟨a, xs, rfl, h2, .inl (SqL.of h1)⟩
  · subst e; obtain ⟨a, xs, rfl, h1, h2⟩ := q.tup_inv; exact ⟨a, xs, rfl, h2, .inr h1.sq⟩
  · subst e
    cases q with
    | of q => cases q with | scr a => exact ⟨_, _, rfl, .of_ints _, .inl a.sq⟩
theorem list_of {v : V} {d : Da} {ds : List Da} (r : RV K T h v d) (s : HeapR K T h S) (e : listOf d S = some ds) : ∃ p xs, v = .ref p ∧ RVs K T h xs ds ∧ SqL K h.H p xs := by
  have q := r.drf s
  unfold listOf at e
  generalize drf S d = d' at q e
  cases d' <;> simp only [Option.some.injEq] at e <;> try (cases e; done)
  · subst e; obtain ⟨a, xs, rfl, h1, h2⟩ := q.lst_inv; exact ⟨a, xs, rfl, h2, SqL.of h1⟩
  · subst e
    cases q with
    | of q => cases q with | scr a => exact ⟨_, _, rfl, .of_ints _, a.sq⟩
theorem ints_of : ∀ {ds : List Da} {xs : List V} {ns : List Int}, RVs K T h xs ds → intsOf ds = some ns → xs = ns.map V.int
  | [], _, ns, .nil, e => by simp only [intsOf, Option.some.injEq] at e; subst e; rfl
  | d :: ds, _, ns, .cons r1 r, e => by
    cases d <;> simp only [intsOf] at e <;> try (cases e; done)
    cases q : intsOf ds with
    | none => rw [q] at e; cases e
    | some ms =>
      rw [q] at e
      simp only [Option.map_some, Option.some.injEq] at e
      subst e
      cases r1
      rw [ints_of r q]; rfl
theorem bls_of : ∀ {ds : List Da} {xs : List V} {ns : List Bool}, RVs K T h xs ds → blsOf ds = some ns → xs = ns.map V.bl
  | [], _, ns, .nil, e => by simp only [blsOf, Option.some.injEq] at e; subst e; rfl
  | d :: ds, _, ns, .cons r1 r, e => by
    cases d <;> simp only [blsOf] at e <;> try (cases e; done)
    cases q : blsOf ds with
    | none => rw [q] at e; cases e
    | some ms =>
      rw [q] at e
      simp only [Option.map_some, Option.some.injEq] at e
      subst e
      cases r1
      rw [bls_of r q]; rfl
theorem bindS {α β : Type} {o : Option α} {f : α → Option β} {b : β} (e : o.bind f = some b) : ∃ a, o = some a ∧ f a = some b := Option.bind_eq_some_iff.mp e
end
section
variable {X : Cx} {T : Tab}
theorem o_len : CallR X (.builtin "len") (rDN X.K T dLen) := by
  refine CallR.imp call_len fun xs H Q ⟨h, S, ds, e, hr, r, p⟩ => ?_
  subst e
  unfold dLen at p
  split at p
  · rename_i x
    obtain ⟨v, rfl, rv⟩ := r.one
    have q := rv.drf hr
    split at p
    · rename_i y e
      rw [e] at q
      have := q.str_inv
      subst this
      split at p
      · rename_i hl; exact ⟨_, _, rfl, ⟨hl, rfl⟩, p.ret (.int _) hr⟩
      · exact p.elim
    · rename_i y e
      rw [e] at q
      obtain ⟨a, xs, rfl, h1, h2⟩ := q.lst_inv
      rw [← h2.length] at p
      exact ⟨_, _, rfl, .inl ⟨_, SqL.of h1, rfl⟩, p.ret (.int _) hr⟩
    · rename_i y e
      rw [e] at q
      obtain ⟨a, xs, rfl, h1, h2⟩ := q.tup_inv
      rw [← h2.length] at p
      exact ⟨_, _, rfl, .inr ⟨_, h1.sq, rfl⟩, p.ret (.int _) hr⟩
    · rename_i y e
      rw [e] at q
      cases q with
      | of q => cases q with | scr a => exact ⟨_, y.length, rfl, .inl ⟨_, a.sq, by simp⟩, p.ret (.int _) hr⟩
    · exact p.elim
  · exact p.elim
theorem o_abs : CallR X (.builtin "abs") (rDN X.K T dAbs) := by
  refine CallR.imp call_abs fun xs H Q ⟨h, S, ds, e, hr, r, p⟩ => ?_
  subst e
  unfold dAbs at p
  split at p
  · obtain ⟨v, rfl, rv⟩ := r.one
    cases rv
    exact ⟨_, rfl, p.ret (.int _) hr⟩
  · exact p.elim
theorem o_max2 (hc : X.calm = true) : CallR X (.builtin "max") (rDN X.K T dMax2) := by
  refine CallR.imp (call_max2 hc) fun xs H Q ⟨h, S, ds, e, hr, r, p⟩ => ?_
  subst e
  unfold dMax2 at p
  split at p
  · obtain ⟨v, w, rfl, r1, r2⟩ := r.two
    cases r1; cases r2
    exact ⟨_, _, rfl, p.ret (.int _) hr⟩
  · exact p.elim
theorem o_min2 (hc : X.calm = true) : CallR X (.builtin "min") (rDN X.K T dMin2) := by
  refine CallR.imp (call_min2 hc) fun xs H Q ⟨h, S, ds, e, hr, r, p⟩ => ?_
  subst e
  unfold dMin2 at p
  split at p
  · obtain ⟨v, w, rfl, r1, r2⟩ := r.two
    cases r1; cases r2
    exact ⟨_, _, rfl, p.ret (.int _) hr⟩
  · exact p.elim
theorem o_int : CallR X (.type "int") (rDN X.K T dInt) := by
  refine CallR.imp call_int1 fun xs H Q ⟨h, S, ds, e, hr, r, p⟩ => ?_
  subst e
  unfold dInt at p
  split at p
  · obtain ⟨v, rfl, rv⟩ := r.one
    cases rv
    exact .inl ⟨_, rfl, p.ret (.int _) hr⟩
  · obtain ⟨v, rfl, rv⟩ := r.one
    cases rv
    exact .inr ⟨_, rfl, p.ret (.int _) hr⟩
  · exact p.elim
theorem o_list : CallR X (.type "list") (rDN X.K T dListOf) := by
  refine CallR.imp call_list_of fun xs H Q ⟨h, S, ds, e, hr, r, p⟩ => ?_
  subst e
  unfold dListOf at p
  split at p
  · rename_i x
    obtain ⟨v, rfl, rv⟩ := r.one
    cases q : seqOf x S with
    | none => rw [q] at p; exact p.elim
    | some ys =>
      rw [q] at p
      obtain ⟨a, us, rfl, ru, hs⟩ := seq_of rv hr q
      exact ⟨a, us, rfl, hs, PostO.newLst p hr ru⟩
  · exact p.elim
theorem o_listN : CallR X (.type "list") (rDN X.K T dListNew) := by
  refine CallR.imp call_list_of fun xs H Q ⟨h, S, ds, e, hr, r, p⟩ => ?_
  subst e
  unfold dListNew at p
  split at p
  · rename_i x
    obtain ⟨v, rfl, rv⟩ := r.one
    cases q : seqOf x S with
    | none => rw [q] at p; exact p.elim
    | some ys =>
      rw [q] at p
      obtain ⟨a, us, rfl, ru, hs⟩ := seq_of rv hr q
      exact ⟨a, us, rfl, hs, PostO.alloc p hr ru⟩
  · exact p.elim
theorem o_tuple : CallR X (.type "tuple") (rDN X.K T dTupleOf) := by
  refine CallR.imp call_tuple_of fun xs H Q ⟨h, S, ds, e, hr, r, p⟩ => ?_
  subst e
  unfold dTupleOf at p
  split at p
  · rename_i x
    obtain ⟨v, rfl, rv⟩ := r.one
    cases q : seqOf x S with
    | none => rw [q] at p; exact p.elim
    | some ys =>
      rw [q] at p
      have q0 := rv.drf hr
      unfold seqOf at q
      generalize drf S x = d' at q q0
      cases d' <;> simp only [Option.some.injEq] at q <;> try (cases q; done)
      · subst q; obtain ⟨a, us, rfl, h1, h2⟩ := q0.lst_inv; exact ⟨a, us, rfl, .inl ⟨SqL.of h1, PostO.newTup p hr h2⟩⟩
      · subst q; obtain ⟨a, us, rfl, h1, h2⟩ := q0.tup_inv; exact ⟨a, us, rfl, .inr ⟨h1.sq, p.ret (.tup h1 h2) hr⟩⟩
      · subst q
        cases q0 with
        | of q0 => cases q0 with | scr a => exact ⟨_, _, rfl, .inl ⟨a.sq, PostO.newTup p hr (.of_ints _)⟩⟩
  · exact p.elim
theorem o_maxL (hc : X.calm = true) : CallR X (.builtin "max") (rDN X.K T dMaxL) := by
  refine CallR.imp (cr_max hc) fun xs H Q ⟨h, S, ds, e, hr, r, p⟩ => ?_
  subst e
  unfold dMaxL at p
  split at p
  · obtain ⟨v, rfl, rv⟩ := r.one
    split at p
    · rename_i i ns q
      obtain ⟨ys, q1, q2⟩ := bindS q
      obtain ⟨a, us, rfl, ru, hs⟩ := list_of rv hr q1
      have eu := ints_of ru q2
      subst eu
      refine ⟨a, _, rfl, hs, by simp, fun m hm hy => ?_⟩
      obtain ⟨m1, m2⟩ := maxL_spec (i :: ns) (by simp)
      have em : m = maxL (i :: ns) := Int.le_antisymm (m2 m hm) (hy _ m1)
      rw [em]
      exact p.ret (.int _) hr
    · exact p.elim
  · exact p.elim
theorem o_minL (hc : X.calm = true) : CallR X (.builtin "min") (rDN X.K T dMinL) := by
  refine CallR.imp (cr_min hc) fun xs H Q ⟨h, S, ds, e, hr, r, p⟩ => ?_
  subst e
  unfold dMinL at p
  split at p
  · obtain ⟨v, rfl, rv⟩ := r.one
    split at p
    · rename_i i ns q
      obtain ⟨ys, q1, q2⟩ := bindS q
      obtain ⟨a, us, rfl, ru, hs⟩ := list_of rv hr q1
      have eu := ints_of ru q2
      subst eu
      refine ⟨a, _, rfl, hs, by simp, fun m hm hy => ?_⟩
      obtain ⟨m1, m2⟩ := minL_spec (i :: ns) (by simp)
      have em : m = minL (i :: ns) := Int.le_antisymm (hy _ m1) (m2 m hm)
      rw [em]
      exact p.ret (.int _) hr
    · exact p.elim
  · exact p.elim
theorem o_sum (hc : X.calm = true) : CallR X (.builtin "sum") (rDN X.K T dSum) := by
  refine CallR.imp (cr_sum hc) fun xs H Q ⟨h, S, ds, e, hr, r, p⟩ => ?_
  subst e
  unfold dSum at p
  split at p
  · rename_i x
    obtain ⟨v, rfl, rv⟩ := r.one
    cases q : (listOf x S).bind intsOf with
    | none => rw [q] at p; exact p.elim
    | some ns =>
      rw [q] at p
      obtain ⟨ys, q1, q2⟩ := bindS q
      obtain ⟨a, us, rfl, ru, hs⟩ := list_of rv hr q1
      have eu := ints_of ru q2
      subst eu
      exact ⟨a, _, rfl, hs, p.ret (.int _) hr⟩
  · exact p.elim
theorem o_all (hc : X.calm = true) : CallR X (.builtin "all") (rDN X.K T dAll) := by
  refine CallR.imp (cr_all hc) fun xs H Q ⟨h, S, ds, e, hr, r, p⟩ => ?_
  subst e
  unfold dAll at p
  split at p
  · rename_i x
    obtain ⟨v, rfl, rv⟩ := r.one
    cases q : (listOf x S).bind blsOf with
    | none => rw [q] at p; exact p.elim
    | some ns =>
      rw [q] at p
      obtain ⟨ys, q1, q2⟩ := bindS q
      obtain ⟨a, us, rfl, ru, hs⟩ := list_of rv hr q1
      have eu := bls_of ru q2
      subst eu
      exact ⟨a, _, rfl, hs, p.ret (.bl _) hr⟩
  · exact p.elim
theorem o_any (hc : X.calm = true) : CallR X (.builtin "any") (rDN X.K T dAny) := by
  refine CallR.imp (cr_any hc) fun xs H Q ⟨h, S, ds, e, hr, r, p⟩ => ?_
  subst e
  unfold dAny at p
  split at p
  · rename_i x
    obtain ⟨v, rfl, rv⟩ := r.one
    cases q : (listOf x S).bind blsOf with
    | none => rw [q] at p; exact p.elim
    | some ns =>
      rw [q] at p
      obtain ⟨ys, q1, q2⟩ := bindS q
      obtain ⟨a, us, rfl, ru, hs⟩ := list_of rv hr q1
      have eu := bls_of ru q2
      subst eu
      exact ⟨a, _, rfl, hs, p.ret (.bl _) hr⟩
  · exact p.elim
end
/-! ### list(range(a, b)), tuple(..) -/
def rngD (a b : Int) : List Da := (List.range (b - a).toNat).map fun i => Da.int (a + (i : Nat))
theorem rng_vals {K : PySem.W.Frag} {T : Tab} {h : Hv} (a b : Int) : RVs K T h (rgV a b) (rngD a b) := by
  unfold rgV rngD
  generalize List.range (b - a).toNat = l
  induction l with
  | nil => exact .nil
  | cons x l ih => exact .cons (.int _) ih
noncomputable def rgOk (a b : Int) : Bool := cdec (-(2 ^ 62) ≤ a ∧ a < 2 ^ 62 ∧ -(2 ^ 62) ≤ b ∧ b < 2 ^ 62 ∧ (b - a).toNat ≤ 2 ^ 24)
noncomputable def rgRes (new : Bool) (x y : Da) (S : Sto) : Rs Da := match x, y with
  | .int i, .int j => if rgOk i j then (if new then .ok (.ref S.length) (S ++ [.lst (rngD i j)]) else .ok (.lst (rngD i j)) S) else .bad
  | _, _ => .bad
noncomputable def eRg (new : Bool) (a b : E) : E := fun ε S => (a ε S).bind fun x S => (b ε S).bind fun y S => rgRes new x y S
section
variable {X : Cx} {T : Tab} {W : WX} {a b : Expr} {f g : E} {p p2 pl pos : Pos}
theorem rg_end {σ : St} {h1 h2 : Hv} {S2 : Sto} {dx dy : Da} {x y : V} {Q : VK} {new : Bool} (r1 : RV X.K T h2 x dx) (r2 : RV X.K T h2 y dy) (hr : HeapR X.K T h2 S2)
    (p : Post X.K T W (RV X.K T) σ h2 (rgRes new dx dy S2) Q) :
    ∃ i j, x = .int i ∧ y = .int j ∧ RgOk i j ∧ ∀ q, h2.H q = none → Q (.ref q) (upd h2.H q (.lst (rgV i j))) := by
  unfold rgRes at p
  split at p
  · cases r1; cases r2
    rename_i i j
    by_cases ok : rgOk i j = true
    · rw [if_pos ok] at p
      refine ⟨i, j, rfl, rfl, (cdec_to ok), fun q hq => ?_⟩
      cases new with
      | false => exact PostO.newLst (S := S2) (ds := rngD i j) (fun v h' g r s => p v h' g r s) hr (rng_vals i j) q hq
      | true => exact PostO.alloc (S := S2) (ds := rngD i j) (fun v h' g r s => p v h' g r s) hr (rng_vals i j) q hq
    · rw [if_neg ok] at p; exact p.elim
  · exact p.elim
theorem i_listRg2 (new : Bool) (hc : X.calm = true) (hg : Gl X "list") (hm : X.mg "list" = none) (hg2 : Gl X "range") (hm2 : X.mg "range" = none) (ha : EI X T W a f) (hb : EI X T W b g)
    (na : starEach [a, b] X.env = (false, eval a X.env) :: starEach [b] X.env := by rfl) (nb : starEach [b] X.env = (false, eval b X.env) :: starEach [] X.env := by rfl) (hp : (backTo p2 (starEach [b] X.env)).any (·.1) = false := by rfl)
    (nc : starEach [.Call (.Name "range" p) [a, b] [] p2] X.env = (false, eval (.Call (.Name "range" p) [a, b] [] p2) X.env) :: starEach [] X.env := by rfl) : EI X T W (.Call (.Name "list" pl) [.Call (.Name "range" p) [a, b] [] p2] [] pos) (eRg new f g) :=
  wkE (pe_listRg hc hg hm (prg_2 hg2 hm2 ha hb na nb hp) nc) fun σ H Q ⟨h, S, ε, e, er, hr, p⟩ => ⟨h, S, ε, e, er, hr, (Post.bind p).imp fun x H1 ⟨h1, S1, d1, e1, g1, r1, hr1, p1⟩ =>
    ⟨h1, S1, ε, e1, er.mono g1, hr1, (Post.bind p1).imp fun y H2 ⟨h2, S2, d2, e2, g2, r2, hr2, p2⟩ => by
      subst e2
      obtain ⟨i, j, e1, e2, ok, q⟩ := rg_end (h1 := h1) (r1.mono g2.ext) r2 hr2 p2
      exact ⟨i, j, e1, e2, ok, q⟩⟩⟩
theorem i_listRg1 (new : Bool) (hc : X.calm = true) (hg : Gl X "list") (hm : X.mg "list" = none) (hg2 : Gl X "range") (hm2 : X.mg "range" = none) (ha : EI X T W a f)
    (na : starEach [a] X.env = (false, eval a X.env) :: starEach [] X.env := by rfl)
    (nc : starEach [.Call (.Name "range" p) [a] [] p2] X.env = (false, eval (.Call (.Name "range" p) [a] [] p2) X.env) :: starEach [] X.env := by rfl) : EI X T W (.Call (.Name "list" pl) [.Call (.Name "range" p) [a] [] p2] [] pos) (eRg new (eC (.int 0)) f) :=
  wkE (pe_listRg hc hg hm (prg_1 hg2 hm2 ha na) nc) fun σ H Q ⟨h, S, ε, e, er, hr, p⟩ => ⟨h, S, ε, e, er, hr, (Post.bind (show Post X.K T W (RV X.K T) σ h ((f ε S).bind _) Q from p)).imp fun y H2 ⟨h2, S2, d2, e2, g2, r2, hr2, p2⟩ => by
      subst e2
      obtain ⟨i, j, e1, e2, ok, q⟩ := rg_end (h1 := h) (.int 0) r2 hr2 p2
      cases e1
      exact ⟨j, e2, ok, q⟩⟩
end
end G

namespace G
open PySem PySem.Spec PyProof.Rows L2

/-! ## a list of the store is walked: it stands as it was at every turn -/
def ItRS (K : PySem.W.Frag) (T : Tab) (n : Nat) (h : Hv) (J : It) (ds : List Da) : Prop :=
  (∀ i h2 S, Ext h h2 → HeapR K T h2 S → S[n]? = some (.lst ds) → i < ds.length → J.go i h2.H) ∧
  (∀ i h2 S, Ext h h2 → HeapR K T h2 S → S[n]? = some (.lst ds) → ds.length ≤ i → J.stop i h2.H) ∧
  (∀ (i : Nat) h2 S x H', Ext h h2 → HeapR K T h2 S → S[n]? = some (.lst ds) → i < ds.length → J.yld i h2.H x H' → ∃ h3 d, h3.H = H' ∧ Grow h2 h3 ∧ HeapR K T h3 S ∧ ds[i]? = some d ∧ RV K T h3 x d)
abbrev Ies := Env → Sto → Rs (Nat × List Da)
abbrev IIS (X : Cx) (T : Tab) (W : WX) (tg e : Expr) (f : Ies) : Prop := PI X tg e (tG X.K T W (fun h J nd => ItRS X.K T nd.1 h J nd.2) f)
def iSto (a : E) : Ies := fun ε S => (a ε S).bind fun x S => match x with
  | .ref n => match S[n]? with
    | some (.lst ds) => .ok (n, ds) S
    | _ => .bad
  | _ => .bad
theorem sto_at {K : PySem.W.Frag} {T : Tab} {h h2 : Hv} {a : Addr} {n : Nat} {S : Sto} {ds : List Da} (e : h.m[n]? = some (some a)) (g : Ext h h2) (hr : HeapR K T h2 S) (s : S[n]? = some (.lst ds)) : ∃ xs, h2.H a = some (.lst xs) ∧ RVs K T h2 xs ds := by
  rcases g.slot n _ e with z | z
  · exact hr.ob n a _ z s
  · have := hr.gone n z; rw [this] at s; cases s
theorem it_sto {X : Cx} {T : Tab} {W : WX} {tg a : Expr} {f : E} (ha : EI X T W a f) : IIS X T W tg a (iSto f) := by
  refine wkI (pi_list ha) fun σ H R ⟨h, S, ε, e, er, hr, p⟩ => ⟨h, S, ε, e, er, hr, (Post.bind p).imp fun x H1 ⟨h1, S1, d1, e1, g1, r1, hr1, p1⟩ => ?_⟩
  subst e1
  split at p1
  · rename_i n
    split at p1
    · rename_i ds q
      cases r1 with
      | ref e2 q2 =>
        rename_i o
        cases o with
        | none => rw [hr1.gone n e2] at q; cases q
        | some b =>
          have hv := q2 b rfl
          subst hv
          obtain ⟨xs, q3, q4⟩ := hr1.ob n b _ e2 q
          refine ⟨b, rfl, ⟨xs, SqL.of q3⟩, Post.ret (a := (n, ds)) p1 ⟨fun i h2 S g hr2 hg hi => ?_, fun i h2 S g hr2 hg hi => ?_, fun i h2 S x H' g hr2 hg hi y => ?_⟩ hr1⟩
          · obtain ⟨ys, z1, z2⟩ := sto_at e2 g hr2 hg
            obtain ⟨v, hv, _⟩ := z2.get (i := i) (d := ds[i]) (by simp [hi])
            exact ⟨ys, v, SqL.of z1, hv⟩
          · obtain ⟨ys, z1, z2⟩ := sto_at e2 g hr2 hg
            exact ⟨ys, SqL.of z1, by rw [z2.length]; exact hi⟩
          · obtain ⟨ys, z1, z2⟩ := sto_at e2 g hr2 hg
            obtain ⟨e3, y⟩ := y
            subst e3
            obtain ⟨d, hd, rv⟩ := z2.get' (y ys (SqL.of z1))
            exact ⟨h2, d, rfl, Grow.refl h2, hr2, hd, rv⟩
    · exact p1.elim
  · exact p1.elim
/-! ## for over a list of the store -/
open Classical in
noncomputable def forS (n : Nat) (d0 : List Da) (g : Tg) (b : Sm) : List Da → Env → Sto → Fl
  | [], ε, S => if S[n]? = some (.lst d0) then .nx ε S else .bad
  | d :: ds, ε, S => if S[n]? = some (.lst d0) then (match put g d ε with
    | none => .bad
    | some ε => match b ε S with
      | .nx ε S => forS n d0 g b ds ε S
      | .ct ε S => forS n d0 g b ds ε S
      | .bk ε S => .nx ε S
      | r => r) else .bad
noncomputable def sForS (it : Ies) (g : Tg) (b : Sm) : Sm := fun ε S => lft (it ε S) ε fun nd S => forS nd.1 nd.2 g b nd.2 ε S
section
variable {X : Cx} {T : Tab} {W : WX} {tg e : Expr} {pos : Pos} {it : Ies} {g : Tg} {body : List Stmt} {b : Sm}
theorem s_forS (po : PassesOwn (model X.prog X.w) X.A X.env X.xe) (hc : X.calm = true) (hi : IIS X T W tg e it) (hg : GI X T tg g) (hb : SsI X T W body b) (hs : ∀ x, foldedSetIterable e X.env x = pure x := by intro _; rfl) :
    SI X T W (.For tg e body [] pos) (sForS it g b) := by
  refine wkS (ps_for po hc hi hg hb hs) fun D σ H ⟨h, S, ε, e, er, hr, p⟩ => ⟨h, S, ε, e, er, hr, (PostS.lft er p).imp fun J H1 ⟨h1, S1, nd, e1, g1, r1, hr1, er1, p1⟩ => ?_⟩
  obtain ⟨n, ds⟩ := nd
  replace r1 : ItRS X.K T n h1 J ds := r1
  replace p1 : PostS X.K T W h1 (forS n ds g b ds ε S1) D := p1
  refine ⟨fun i m σ' H' => m = ds.length - i ∧ i ≤ ds.length ∧ ∃ h2 S2 ε2, h2.H = H' ∧ Grow h1 h2 ∧ EnvR X.K T h2 σ' ε2 ∧ HeapR X.K T h2 S2 ∧ PostS X.K T W h2 (forS n ds g b (ds.drop i) ε2 S2) D,
    ⟨ds.length, rfl, Nat.zero_le _, h1, S1, ε, e1, Grow.refl h1, er1, hr1, p1⟩, ?_⟩
  rintro i m σ' H' ⟨rfl, hi, h2, S2, ε2, rfl, g2, er2, hr2, p2⟩
  have hg : S2[n]? = some (.lst ds) := by
    by_cases z : S2[n]? = some (.lst ds)
    · exact z
    · cases q : ds.drop i with
      | nil => rw [q] at p2; unfold forS at p2; rw [if_neg z] at p2; exact p2.elim
      | cons d l => rw [q] at p2; unfold forS at p2; rw [if_neg z] at p2; exact p2.elim
  by_cases hlt : i < ds.length
  · refine .inr ⟨r1.1 i h2 S2 g2.ext hr2 hg hlt, fun σ'' H'' => ∃ h3 S3 ε3, h3.H = H'' ∧ Grow h1 h3 ∧ EnvR X.K T h3 σ'' ε3 ∧ HeapR X.K T h3 S3 ∧ PostS X.K T W h3 (forS n ds g b (ds.drop (i + 1)) ε3 S3) D,
      fun σ'' H'' n => ⟨ds.length - (i + 1), by omega, rfl, hlt, n⟩, fun x H3 y => ?_⟩
    obtain ⟨h3, d, rfl, g3, hr3, hd, rv⟩ := r1.2.2 i h2 S2 x H3 g2.ext hr2 hg hlt y
    have ed : ds.drop i = d :: ds.drop (i + 1) := by
      rw [List.drop_eq_getElem_cons hlt]
      rw [List.getElem?_eq_getElem hlt] at hd
      cases hd; rfl
    rw [ed] at p2
    unfold forS at p2
    rw [if_pos hg] at p2
    cases q : put g d ε2 with
    | none => simp only [q] at p2; exact p2.elim
    | some ε3 =>
      simp only [q] at p2
      refine ⟨h3, S2, ε2, d, rfl, er2.mono g3.ext, hr3, rv, ε3, q, fun σ3 er3 _ => ⟨h3, S2, ε3, rfl, er3, hr3, ?_⟩⟩
      have p3 := PostS.grow g3 p2
      cases z : b ε3 S2 with
      | nx ε4 S4 => rw [z] at p3; exact fun σ4 h4 g4 er4 hr4 => ⟨h4, S4, ε4, rfl, (g2.trans g3).trans g4, er4, hr4, PostS.grow g4 p3⟩
      | ct ε4 S4 => rw [z] at p3; exact fun σ4 h4 g4 er4 hr4 => ⟨h4, S4, ε4, rfl, (g2.trans g3).trans g4, er4, hr4, PostS.grow g4 p3⟩
      | bk ε4 S4 => rw [z] at p3; exact p3
      | rt d4 S4 => rw [z] at p3; exact p3
      | ex c fs ε4 S4 => rw [z] at p3; exact p3
      | bad => rw [z] at p3; exact p3
  · have ei : i = ds.length := by omega
    subst ei
    rw [List.drop_length] at p2
    unfold forS at p2
    rw [if_pos hg] at p2
    exact .inl ⟨r1.2.1 _ h2 S2 g2.ext hr2 hg (Nat.le_refl _), p2.nx er2 hr2⟩
end

open Classical in
noncomputable def compS (n : Nat) (d0 : List Da) (g : Tg) (t : TeE) (a : E) (ε : Env) : List Da → Sto → Rs (List Da)
  | [], S => if S[n]? = some (.lst d0) then .ok [] S else .bad
  | d :: ds, S => if S[n]? = some (.lst d0) then (match put g d ε with
    | none => .bad
    | some ε1 => (t ε1 S).bindN fun c S => if c then (a ε1 S).bindN fun x S => (compS n d0 g t a ε ds S).bindN fun xs S => .ok (x :: xs) S else compS n d0 g t a ε ds S) else .bad
noncomputable def eCompS (own : List Nat) (it : Ies) (g : Tg) (t : TeE) (a : E) : E := fun ε S => (it ε S).bind fun nd S => if nd.2.length ≤ sizeLine then (compS nd.1 nd.2 g t a (wipeE ε own) nd.2 S).bindN fun xs S => .ok (.lst xs) S else .bad
section
variable {X : Cx} {T : Tab} {W : WX} {tg iter elt : Expr} {ifs : List Expr} {pos : Pos} {it : Ies} {g : Tg} {t : TeE} {a : E} {scope : Scope} {own : List (Str × Nat)}
/-- the turns of a comprehension -/
theorem compS_core {h1 : Hv} {σ : St} {ε : Env} {J : It} {n : Nat} {ds : List Da} {S1 : Sto} {Q : VK} (r1 : ItRS X.K T n h1 J ds) (hr1 : HeapR X.K T h1 S1) (er1 : EnvR X.K T h1 σ ε) (hl : ds.length ≤ sizeLine)
    (hown : ∀ j ∈ slotsT g, j ∈ own.map (·.2))
    (p : ∃ xs S2, compS n ds g t a (wipeE ε (own.map (·.2))) ds S1 = .ok xs S2 ∧ ∀ (h2 : Hv) (D : Addr) (acc : List V), Grow h1 h2 → HeapR X.K T h2 S2 → h1.H D = none → h2.H D = some (.lst acc) → h2.free D → RVs X.K T h2 acc xs → Q (.ref D) h2.H) :
    ∀ D, h1.H D = none → ∃ W' : Nat → Nat → Hp → Prop, (∃ m, W' 0 m (upd h1.H D (.lst []))) ∧ ∀ i m H, W' i m H →
      (J.stop i H ∧ Q (.ref D) H) ∨ (J.go i H ∧ ∃ Nx : Hp → Prop, (∀ H', Nx H' → ∃ m', m' < m ∧ W' (i + 1) m' H') ∧ ∀ x H', J.yld i H x H' → tgD X.K T g x (wipe σ (own.map (·.2))) H' fun σ2 H2 => wipe σ2 (own.map (·.2)) = wipe σ (own.map (·.2)) ∧ tG X.K T wNo REq t σ2 H2 fun b H3 =>
        if b = true then tG X.K T wNo (RV X.K T) a σ2 H3 fun y H4 => ∃ acc, H4 D = some (.lst acc) ∧ acc.length < sizeLine ∧ Nx (upd H4 D (.lst (acc ++ [y]))) else Nx H3) := by
  intro D hD
  obtain ⟨xs, Se, hcomp, fin⟩ := p
  -- the state between two turns
  refine ⟨fun i m H' => m = ds.length - i ∧ i ≤ ds.length ∧ ∃ h2 S2 acc accD xs2, h2.H = H' ∧ h2.B = D :: h1.B ∧ Ext h1 h2 ∧ (∀ b o, h1.H b = some o → some b ∉ h1.m → h2.H b = some o ∧ some b ∉ h2.m) ∧ HeapR X.K T h2 S2 ∧
      h2.H D = some (.lst acc) ∧ RVs X.K T h2 acc accD ∧ acc.length ≤ i ∧ xs = accD ++ xs2 ∧ compS n ds g t a (wipeE ε (own.map (·.2))) (ds.drop i) S2 = .ok xs2 Se,
    ⟨ds.length, rfl, Nat.zero_le _, hide h1 D (.lst []), S1, [], [], xs, rfl, rfl, ext_hide hD _, fun b o e n => ?_, hr1.hide hD _, upd_same, .nil, Nat.le_refl _, rfl, hcomp⟩, ?_⟩
  · exact ⟨by show upd h1.H D _ b = _; rw [upd_ne (ne_of_none e hD)]; exact e, n⟩
  rintro i m H' ⟨rfl, hi, h2, S2, acc, accD, xs2, rfl, hB, x2, k2, hr2, hDa, ra, la, exs, hc⟩
  have hg : S2[n]? = some (.lst ds) := by
    by_cases z : S2[n]? = some (.lst ds)
    · exact z
    · cases q : ds.drop i with
      | nil => rw [q] at hc; unfold compS at hc; rw [if_neg z] at hc; cases hc
      | cons d l => rw [q] at hc; unfold compS at hc; rw [if_neg z] at hc; cases hc
  by_cases hlt : i < ds.length
  · refine .inr ⟨r1.1 i h2 S2 x2 hr2 hg hlt, fun H'' => ∃ h2 S2 acc accD xs2, h2.H = H'' ∧ h2.B = D :: h1.B ∧ Ext h1 h2 ∧ (∀ b o, h1.H b = some o → some b ∉ h1.m → h2.H b = some o ∧ some b ∉ h2.m) ∧ HeapR X.K T h2 S2 ∧
        h2.H D = some (.lst acc) ∧ RVs X.K T h2 acc accD ∧ acc.length ≤ i + 1 ∧ xs = accD ++ xs2 ∧ compS n ds g t a (wipeE ε (own.map (·.2))) (ds.drop (i + 1)) S2 = .ok xs2 Se,
      fun H'' n => ⟨ds.length - (i + 1), by omega, rfl, hlt, n⟩, fun x H3 y => ?_⟩
    obtain ⟨h3, d, rfl, g3, hr3, hd, rv⟩ := r1.2.2 i h2 S2 x H3 x2 hr2 hg hlt y
    have ed : ds.drop i = d :: ds.drop (i + 1) := by
      rw [List.drop_eq_getElem_cons hlt]
      rw [List.getElem?_eq_getElem hlt] at hd
      cases hd; rfl
    rw [ed] at hc
    unfold compS at hc
    rw [if_pos hg] at hc
    have D2 : some D ∉ h2.m := (hr2.hid D (by rw [hB]; exact List.mem_cons_self)).1
    have er3 : EnvR X.K T h3 (wipe σ (own.map (·.2))) (wipeE ε (own.map (·.2))) := ((er1.mono x2).mono g3.ext).wipe _
    cases q : put g d (wipeE ε (own.map (·.2))) with
    | none => simp only [q] at hc; cases hc
    | some ε3 =>
      simp only [q] at hc
      refine ⟨h3, S2, _, d, rfl, er3, hr3, rv, ε3, q, fun σ3 er4 off => ⟨off.wipe hown |>.trans ?_, h3, S2, ε3, rfl, er4, hr3, ?_⟩⟩
      · clear hc q fin exs
        have idem : ∀ (l : List Nat) (v : Nat), (wipe σ l) = wipe σ l := fun _ _ => rfl
        have key : ∀ own : List Nat, wipe (wipe σ own) own = wipe σ own := fun own => by
          refine List.ext_getElem? fun j => ?_
          have gen : ∀ (τ : St) (own : List Nat) (j : Nat), (L2.wipe τ own)[j]? = if j ∈ own then (if j < τ.length then some none else none) else τ[j]? := by
            intro τ own j
            induction own with
            | nil => simp [L2.wipe]
            | cons v vs ih =>
              show ((L2.wipe τ vs).set v none)[j]? = _
              by_cases hv : v = j
              · subst hv
                rw [List.getElem?_set]
                simp [wipe_length]
              · rw [List.getElem?_set_ne hv, ih]
                simp [Ne.symm hv]
          rw [gen, gen, wipe_length]
          by_cases hj : j ∈ own <;> simp [hj]
        exact key _
      · cases z : t ε3 S2 with
        | bad => simp only [z, Rs.bindN] at hc; cases hc
        | exc c fs S3 => simp only [z, Rs.bindN] at hc; cases hc
        | ok b S3 =>
          simp only [z, Rs.bindN] at hc
          intro b' h4 g4 eb hr4
          have eb' : b' = b := eb
          subst eb'
          cases b' with
          | false =>
            simp only [Bool.false_eq_true, if_false] at hc ⊢
            have gg := g3.trans g4
            obtain ⟨e5, _⟩ := gg.keep D _ hDa D2
            exact ⟨h4, S3, acc, accD, xs2, rfl, gg.B.trans hB, x2.trans gg.ext, fun b o e n => let ⟨e1, n1⟩ := k2 b o e n; gg.keep b o e1 n1, hr4, e5, ra.mono gg.ext, by omega, exs, hc⟩
          | true =>
            simp only [if_true] at hc ⊢
            refine ⟨h4, S3, ε3, rfl, er4.mono g4.ext, hr4, ?_⟩
            cases z2 : a ε3 S3 with
            | bad => simp only [z2] at hc; cases hc
            | exc c fs S4 => simp only [z2] at hc; cases hc
            | ok dy S4 =>
              simp only [z2] at hc
              intro y h5 g5 ry hr5
              have gg := (g3.trans g4).trans g5
              obtain ⟨e5, n5⟩ := gg.keep D _ hDa D2
              have D5 : D ∈ h5.B := by rw [gg.B, hB]; exact List.mem_cons_self
              cases z3 : compS n ds g t a (wipeE ε (own.map (·.2))) (ds.drop (i + 1)) S4 with
              | bad => simp only [z3] at hc; cases hc
              | exc c fs S5 => simp only [z3] at hc; cases hc
              | ok xs3 S5 =>
                simp only [z3] at hc
                cases hc
                refine ⟨acc, e5, by omega, { h5 with H := upd h5.H D (.lst (acc ++ [y])) }, S4, acc ++ [y], accD ++ [dy], xs3, rfl, gg.B.trans hB, (x2.trans gg.ext).trans (ext_hidden D5 _), fun b o e n => ?_, hr5.hidden D5 _, upd_same,
                  (((ra.mono gg.ext).mono (ext_hidden D5 _)).snoc (ry.mono (ext_hidden D5 _))), by simp; omega, by rw [exs]; simp, z3⟩
                obtain ⟨e1, n1⟩ := k2 b o e n
                obtain ⟨e6, n6⟩ := gg.keep b o e1 n1
                exact ⟨by show upd h5.H D _ b = _; rw [upd_ne (ne_of_none e hD)]; exact e6, n6⟩
  · have ei : i = ds.length := by omega
    subst ei
    rw [List.drop_length] at hc
    unfold compS at hc
    rw [if_pos hg] at hc
    cases hc
    rw [List.append_nil] at exs
    subst exs
    refine .inl ⟨r1.2.1 _ h2 _ x2 hr2 hg (Nat.le_refl _), ?_⟩
    have D2 : some D ∉ h2.m := (hr2.hid D (by rw [hB]; exact List.mem_cons_self)).1
    exact fin { h2 with B := h1.B } D acc ⟨rfl, x2.slot, k2⟩ (hr2.shown hB) hD hDa ⟨D2, fun z => (hr1.hid D z).2 hD⟩ (ra.mono (ext_show hB))
theorem i_compS (hc : X.calm = true) (hN : X.N.Nodup) (hi : IIS X T W tg iter it) (ok : BlkOk X.N X.env.scope scope own)
    (hg : ∀ (s : Shared) (H : Hp) (C : Addr) (cl : List (Str × Addr)) (fp : List Addr), GI (X.blk s H scope (compEnvC scope cl C X.env) fp) T tg g) (ht : ∀ (s : Shared) (H : Hp) (C : Addr) (cl : List (Str × Addr)) (fp : List Addr), QI (X.blk s H scope (compEnvC scope cl C X.env) fp) T wNo ifs t)
    (he : ∀ (s : Shared) (H : Hp) (C : Addr) (cl : List (Str × Addr)) (fp : List Addr), EI (X.blk s H scope (compEnvC scope cl C X.env) fp) T wNo elt a) (hown : ∀ j ∈ slotsT g, j ∈ own.map (·.2) := by decide) (hs : ∀ x, foldedSetIterable iter X.env x = pure x := by intro _; rfl) :
    EI X T W (.ListComp elt [⟨tg, iter, ifs, 0⟩] scope pos) (eCompS (own.map (·.2)) it g t a) := by
  refine wkE (pe_lc (g := tgD X.K T g) (tt := tG X.K T wNo REq t) (te := tG X.K T wNo (RV X.K T) a) hc hN hi ok hg ht he hs) fun σ H Q ⟨h, S, ε, e, er, hr, p⟩ => ⟨h, S, ε, e, er, hr, (Post.bind p).imp fun J H1 ⟨h1, S1, nd, e1, g1, r1, hr1, p1⟩ => ?_⟩
  obtain ⟨n, ds⟩ := nd
  replace r1 : ItRS X.K T n h1 J ds := r1
  subst e1
  dsimp only at p1
  split at p1
  · rename_i hl
    refine compS_core r1 hr1 (er.mono g1.ext) hl hown ?_
    cases z : compS n ds g t a (wipeE ε (own.map (·.2))) ds S1 with
    | bad => rw [z] at p1; exact p1.elim
    | exc c fs S3 => rw [z] at p1; exact p1.elim
    | ok xs S3 =>
      rw [z] at p1
      exact ⟨xs, S3, rfl, fun h2 D acc g2 hr2 _ eD fD ra => p1 (.ref D) h2 g2 (.lst eD fD ra) hr2⟩
  · exact p1.elim
/-- y = [a for g in it if t], in one row -/
theorem s_compS {i : Nat} {y : Str} {py spos : Pos} (hc : X.calm = true) (hN : X.N.Nodup) (hy : X.N[i]? = some y) (hyl : X.env.scope.names.lookup y = some .local)
    (hsw : swapsWith (.ListComp elt [⟨tg, iter, ifs, 0⟩] scope pos) (some (.Name y py)) spos.line X.env = pure true) (hi : IIS X T W tg iter it) (ok : BlkOk X.N X.env.scope scope own)
    (hg : ∀ (s : Shared) (H : Hp) (C : Addr) (cl : List (Str × Addr)) (fp : List Addr), GI (X.blk s H scope (compEnvC scope cl C X.env) fp) T tg g) (ht : ∀ (s : Shared) (H : Hp) (C : Addr) (cl : List (Str × Addr)) (fp : List Addr), QI (X.blk s H scope (compEnvC scope cl C X.env) fp) T wNo ifs t)
    (he : ∀ (s : Shared) (H : Hp) (C : Addr) (cl : List (Str × Addr)) (fp : List Addr), EI (X.blk s H scope (compEnvC scope cl C X.env) fp) T wNo elt a) (hown : ∀ j ∈ slotsT g, j ∈ own.map (·.2) := by decide) (hs : ∀ x, foldedSetIterable iter X.env x = pure x := by intro _; rfl) :
    SI X T W (.Assign [.Name y py] (.ListComp elt [⟨tg, iter, ifs, 0⟩] scope pos) spos) (sSet i (eCompS (own.map (·.2)) it g t a)) := by
  refine wkS (ps_setLc (g := tgD X.K T g) (tt := tG X.K T wNo REq t) (te := tG X.K T wNo (RV X.K T) a) hc hN hy hyl hsw hi ok hg ht he hs) fun D σ H ⟨h, S, ε, e, er, hr, p⟩ => ⟨h, S, ε, e, er, hr, ?_⟩
  have p' := PostS.lft (R := RV X.K T) er p
  refine (Post.bind p').imp fun J H1 ⟨h1, S1, nd, e1, g1, r1, hr1, p1⟩ => ?_
  obtain ⟨n, ds⟩ := nd
  replace r1 : ItRS X.K T n h1 J ds := r1
  subst e1
  dsimp only at p1
  split at p1
  · rename_i hl
    refine compS_core (Q := fun x H1 => gName i x σ H1 D.nx) (t := t) (a := a) r1 hr1 (er.mono g1.ext) hl hown ?_
    cases z : compS n ds g t a (wipeE ε (own.map (·.2))) ds S1 with
    | bad => rw [z] at p1; exact p1.elim
    | exc c fs S3 => rw [z] at p1; exact p1.elim
    | ok xs S3 =>
      rw [z] at p1
      refine ⟨xs, S3, rfl, fun h2 D' acc g2 hr2 _ eD fD ra => ?_⟩
      obtain ⟨h3, S4, d, e3, g3, r3, hr3, er3, p3⟩ := p1 (.ref D') h2 g2 (.lst eD fD ra) hr2
      show D.nx (σ.set i (some (.ref D'))) h2.H
      rw [← e3]
      exact p3.nx (er3.set r3 i) hr3
  · exact p1.elim
end
end G

namespace G
open PySem PySem.Spec PyProof.Rows L2

/-! ## methods of built-in classes -/
def rDM (K : PySem.W.Frag) (T : Tab) (g : Da → List Da → Sto → Option (Da × Sto)) : V → List V → Hp → VK → Prop := fun x xs H Q => ∃ h S dx ds, h.H = H ∧ HeapR K T h S ∧ RV K T h x dx ∧ RVs K T h xs ds ∧ PostO K T h (g dx ds S) Q
theorem MtR.imp {X : Cx} {id : String} {r r' : V → List V → Hp → VK → Prop} (h : MtR X id r) (w : ∀ x xs H Q, r' x xs H Q → r x xs H Q) : MtR X id r' := fun pins s σ H x xs v us Q I rx rs q => h pins s σ H x xs v us Q I rx rs (w x xs H Q q)
/-- the receiver is of the class -/
def isLst (x : Da) (S : Sto) : Bool := match kindD x S with
  | some .list => true
  | _ => false
def isStr (x : Da) (S : Sto) : Bool := match x with
  | .str _ => true
  | _ => false
def eBM (c : Da → Sto → Bool) (g : Da → List Da → Sto → Option (Da × Sto)) (o : E) (fs : Es) : E := fun ε S => (o ε S).bind fun x S => if c x S then (fs ε S).bind fun xs S => Rs.of (g x xs S) else .bad
theorem tyV_lst {K : PySem.W.Frag} {T : Tab} {h : Hv} {S : Sto} {v : V} {d : Da} (r : RV K T h v d) (s : HeapR K T h S) (c : isLst d S = true) : tyV K "list" v h.H := by
  have q := r.drf s
  unfold isLst kindD at c
  generalize drf S d = d' at q c
  cases d' <;> simp at c
  · obtain ⟨a, xs, rfl, h1, h2⟩ := q.lst_inv
    exact .inl ⟨rfl, xs, SqL.of h1⟩
  · cases q with
    | of q => cases q with | scr a => exact .inl ⟨rfl, _, a.sq⟩
section
variable {X : Cx} {T : Tab} {W : WX} {o e : Expr} {es : List Expr} {f : E} {fs : Es} {name : Str} {apos cpos : Pos} {id : String} {g : Da → List Da → Sto → Option (Da × Sto)}
theorem i_lm (slot : Slot "list" name id) (hty : typeOf (.builtin id) = pure (.type "method_descriptor")) (hm : MtR X id (rDM X.K T g)) (ho : EI X T W o f) (ha : AI X T W (e :: es) fs)
    (hbase : attributeBase o name X.env (eval o X.env) = eval o X.env := by rfl)
    (hfew : ((backTo cpos (starEach (e :: es) X.env)).all (fun x => !x.1) && (backToKw cpos (keywordEach [] X.env)).all (fun x => x.1.isSome)
      && decide ((e :: es).length + ([] : List Keyword).length + (if ([] : List Keyword).isEmpty then 0 else 1) < 30)) = true := by rfl)
    (hline : (apos.endLine == cpos.line) = true := by rfl) (hs : starEach (e :: es) X.env = (false, eval e X.env) :: starEach es X.env := by rfl) (hplain : (backTo cpos (starEach es X.env)).any (·.1) = false := by rfl) :
    EI X T W (.Call (.Attribute o name apos) (e :: es) [] cpos) (eBM isLst g f fs) :=
  wkE (pe_bm F.plainAttrs_list slot hty hm ho ha hbase hfew hline hs hplain) fun σ H Q ⟨h, S, ε, e, er, hr, p⟩ => ⟨h, S, ε, e, er, hr, (Post.bind p).imp fun x H1 ⟨h1, S1, d1, e1, g1, r1, hr1, p1⟩ => by
    by_cases c : isLst d1 S1 = true
    · rw [if_pos c] at p1
      exact ⟨by subst e1; exact tyV_lst r1 hr1 c, h1, S1, ε, e1, er.mono g1, hr1, (Post.bind p1).imp fun vs H2 ⟨h2, S2, ds, e2, g2, r2, hr2, p2⟩ => ⟨h2, S2, d1, ds, e2, hr2, r1.mono g2.ext, r2, p2.of⟩⟩
    · rw [if_neg c] at p1; exact p1.elim⟩
theorem i_lm0 (slot : Slot "list" name id) (hty : typeOf (.builtin id) = pure (.type "method_descriptor")) (hm : MtR X id (rDM X.K T g)) (ho : EI X T W o f)
    (hbase : attributeBase o name X.env (eval o X.env) = eval o X.env := by rfl) (hline : (apos.endLine == cpos.line) = true := by rfl) :
    EI X T W (.Call (.Attribute o name apos) [] [] cpos) (eBM isLst g f esNil) :=
  wkE (pe_bm0 F.plainAttrs_list slot hty hm ho hbase hline) fun σ H Q ⟨h, S, ε, e, er, hr, p⟩ => ⟨h, S, ε, e, er, hr, (Post.bind p).imp fun x H1 ⟨h1, S1, d1, e1, g1, r1, hr1, p1⟩ => by
    by_cases c : isLst d1 S1 = true
    · rw [if_pos c] at p1
      exact ⟨by subst e1; exact tyV_lst r1 hr1 c, h1, S1, d1, [], e1, hr1, r1, .nil, Post.of p1⟩
    · rw [if_neg c] at p1; exact p1.elim⟩
end
def dAppend (x : Da) (xs : List Da) (S : Sto) : Option (Da × Sto) := match x, xs with
  | .ref n, [y] => match S[n]? with
    | some (.lst ds) => if ds.length < sizeLine then some (.non, S.set n (.lst (ds ++ [y]))) else none
    | _ => none
  | _, _ => none
noncomputable def dInsert (x : Da) (xs : List Da) (S : Sto) : Option (Da × Sto) := match x, xs with
  | .ref n, [.int i, y] => match S[n]? with
    | some (.lst ds) => if ds.length < sizeLine ∧ 0 ≤ i ∧ inW 63 i = true then some (.non, S.set n (.lst (ds.take i.toNat ++ [y] ++ ds.drop i.toNat))) else none
    | _ => none
  | _, _ => none
def dExtend (x : Da) (xs : List Da) (S : Sto) : Option (Da × Sto) := match x, xs with
  | .ref n, [y] => match S[n]?, drf S y with
    | some (.lst ds), .lst zs => if ds.length + zs.length ≤ sizeLine then some (.non, S.set n (.lst (ds ++ zs))) else none
    | _, _ => none
  | _, _ => none
/-- pop the item at i -/
noncomputable def dPopAt (x : Da) (xs : List Da) (S : Sto) : Option (Da × Sto) := match x, xs with
  | .ref n, [.int i] => match S[n]? with
    | some (.lst ds) => if inW 63 i = true then (match seqIndex? i ds.length with
      | some k => match ds[k]? with
        | some y => some (y, S.set n (.lst (ds.eraseIdx k)))
        | none => none
      | none => none) else none
    | _ => none
  | _, _ => none
def dPop (x : Da) (xs : List Da) (S : Sto) : Option (Da × Sto) := match x, xs with
  | .ref n, [] => match S[n]? with
    | some (.lst ds) => match ds[ds.length - 1]? with
      | some y => some (y, S.set n (.lst ds.dropLast))
      | none => none
    | _ => none
  | _, _ => none
section
variable {K : PySem.W.Frag} {T : Tab} {h : Hv} {S : Sto}
/-- the list of the store behind a value -/
theorem sto_of {v : V} {n : Nat} {ds : List Da} (r : RV K T h v (.ref n)) (s : HeapR K T h S) (e : S[n]? = some (.lst ds)) : ∃ a xs, v = .ref a ∧ h.m[n]? = some (some a) ∧ h.H a = some (.lst xs) ∧ RVs K T h xs ds := by
  cases r with
  | ref e2 q2 =>
    rename_i o
    cases o with
    | none => rw [s.gone n e2] at e; cases e
    | some b =>
      obtain ⟨xs, q3, q4⟩ := s.ob n b _ e2 e
      exact ⟨b, xs, q2 b rfl, e2, q3, q4⟩
/-- it is written -/
theorem PostO.write {d : Da} {v : V} {n : Nat} {a : Addr} {ys : List V} {es : List Da} {Q : VK} (p : PostO K T h (some (d, S.set n (.lst es))) Q) (s : HeapR K T h S) (e : h.m[n]? = some (some a)) (r : RVs K T h ys es) (rd : RV K T h v d) :
    Q v (upd h.H a (.lst ys)) := by
  have g := grow_write s e (.lst ys)
  exact p v { h with H := upd h.H a (.lst ys) } g (rd.mono g.ext) (s.write e _ ⟨ys, upd_same, r.mono g.ext⟩)
theorem RVs.dropLast {xs : List V} {ds : List Da} (r : RVs K T h xs ds) : RVs K T h xs.dropLast ds.dropLast := by
  rw [List.dropLast_eq_take, List.dropLast_eq_take, r.length]; exact r.take _
theorem RVs.eraseIdx {xs : List V} {ds : List Da} (r : RVs K T h xs ds) (k : Nat) : RVs K T h (xs.eraseIdx k) (ds.eraseIdx k) := by
  rw [List.eraseIdx_eq_take_drop_succ, List.eraseIdx_eq_take_drop_succ]; exact (r.take k).append (r.drop _)
end
section
variable {X : Cx} {T : Tab}
theorem m_append : MtR X "list.append" (rDM X.K T dAppend) := by
  refine MtR.imp mt_append fun x xs H Q ⟨h, S, dx, ds, e, hr, r, rs, p⟩ => ?_
  subst e
  unfold dAppend at p
  split at p
  · split at p
    · rename_i ys q
      obtain ⟨y, rfl, ry⟩ := rs.one
      obtain ⟨a, us, rfl, e1, e2, e3⟩ := sto_of r hr q
      split at p
      · rename_i hl
        exact ⟨a, us, y, rfl, rfl, e2, by rw [e3.length]; exact hl, PostO.write p hr e1 (e3.snoc ry) .non⟩
      · exact p.elim
    · exact p.elim
  · exact p.elim
theorem m_insert : MtR X "list.insert" (rDM X.K T dInsert) := by
  refine MtR.imp mt_insert fun x xs H Q ⟨h, S, dx, ds, e, hr, r, rs, p⟩ => ?_
  subst e
  unfold dInsert at p
  split at p
  · split at p
    · rename_i ys q
      obtain ⟨v, y, rfl, rv, ry⟩ := rs.two
      cases rv
      obtain ⟨a, us, rfl, e1, e2, e3⟩ := sto_of r hr q
      split at p
      · rename_i hl
        exact ⟨a, us, _, y, rfl, rfl, e2, by rw [e3.length]; exact hl.1, hl.2.1, (inW_to hl.2.2).2, PostO.write p hr e1 (((e3.take _).append (.cons ry .nil)).append (e3.drop _)) .non⟩
      · exact p.elim
    · exact p.elim
  · exact p.elim
theorem m_extend : MtR X "list.extend" (rDM X.K T dExtend) := by
  refine MtR.imp mt_extend fun x xs H Q ⟨h, S, dx, ds, e, hr, r, rs, p⟩ => ?_
  subst e
  unfold dExtend at p
  split at p
  · rename_i n y
    split at p
    · rename_i ys zs q q2
      obtain ⟨v, rfl, ry⟩ := rs.one
      obtain ⟨a, us, rfl, e1, e2, e3⟩ := sto_of r hr q
      have ry' := ry.drf hr
      rw [q2] at ry'
      obtain ⟨b, ws, rfl, f1, f2⟩ := ry'.lst_inv
      split at p
      · rename_i hl
        exact ⟨a, b, us, ws, rfl, rfl, e2, f1, by rw [e3.length, f2.length]; exact hl, PostO.write p hr e1 (e3.append f2) .non⟩
      · exact p.elim
    · exact p.elim
  · exact p.elim
theorem m_popAt : MtR X "list.pop" (rDM X.K T dPopAt) := by
  refine MtR.imp mt_popAt fun x xs H Q ⟨h, S, dx, ds, e, hr, r, rs, p⟩ => ?_
  subst e
  unfold dPopAt at p
  split at p
  · split at p
    · rename_i ys q
      obtain ⟨v, rfl, ry⟩ := rs.one
      cases ry
      obtain ⟨a, us, rfl, e1, e2, e3⟩ := sto_of r hr q
      split at p
      · rename_i hl
        split at p
        · rename_i k hk
          split at p
          · rename_i y hy
            obtain ⟨w, hw, rw'⟩ := e3.get hy
            exact ⟨a, us, _, k, w, rfl, rfl, e2, (inW_to hl).1, (inW_to hl).2, by rw [e3.length]; exact hk, hw, PostO.write p hr e1 (e3.eraseIdx k) rw'⟩
          · exact p.elim
        · exact p.elim
      · exact p.elim
    · exact p.elim
  · exact p.elim
theorem m_pop : MtR X "list.pop" (rDM X.K T dPop) := by
  refine MtR.imp mt_pop fun x xs H Q ⟨h, S, dx, ds, e, hr, r, rs, p⟩ => ?_
  subst e
  unfold dPop at p
  split at p
  · split at p
    · rename_i ys q
      cases rs
      obtain ⟨a, us, rfl, e1, e2, e3⟩ := sto_of r hr q
      split at p
      · rename_i y hy
        obtain ⟨w, hw, rw'⟩ := e3.get hy
        exact ⟨a, us, w, rfl, rfl, e2, by rw [e3.length]; exact hw, PostO.write p hr e1 e3.dropLast rw'⟩
      · exact p.elim
    · exact p.elim
  · exact p.elim
end
/-! ## o[i] = v -/
def dSetIx (x i v : Da) (S : Sto) : Option Sto := match x, i with
  | .ref n, .int k => match S[n]? with
    | some (.lst ds) => (ixN ds.length k).map fun j => S.set n (.lst (ds.set j v))
    | _ => none
  | _, _ => none
def sSetIx (o i v : E) : Sm := fun ε S => lft (v ε S) ε fun y S => lft (o ε S) ε fun x S => lft (i ε S) ε fun k S => match dSetIx x k y S with
  | some S => .nx ε S
  | none => .bad
section
variable {X : Cx} {T : Tab} {W : WX} {o i v : Expr} {fo fi fv : E} {p pos : Pos}
theorem s_setIx (ho : EI X T W o fo) (hi : EI X T W i fi) (hv : EI X T W v fv)
    (ha : ∀ v, assign (.Subscript o i p) X.env v = (do
      let ov ← holding [v] (eval o X.env)
      let iv ← holding [v, ov] (eval i X.env)
      standAt p
      holding [v, ov, iv] (setItem ov iv v)
      release [v, ov, iv] []) := by intro _; rfl)
    (hs : swapsWithSole [.Subscript o i p] v pos.line X.env = pure false := by rfl) (hw : swappedStores [.Subscript o i p] v X.env = pure none := by rfl) (h1 : (assignEach [.Subscript o i p] X.env).map (·.2) = [assign (.Subscript o i p) X.env] := by rfl) :
    SI X T W (.Assign [.Subscript o i p] v pos) (sSetIx fo fi fv) :=
  wkS (ps_asg hv (pg_sub ho hi set_list ha) hs hw h1) fun D σ H ⟨h, S, ε, e, er, hr, p⟩ => ⟨h, S, ε, e, er, hr, (PostS.lft er p).imp fun y H1 ⟨h1, S1, dy, e1, g1, r1, hr1, er1, p1⟩ =>
    ⟨h1, S1, ε, e1, er1, hr1, (PostS.lft er1 p1).imp fun x H2 ⟨h2, S2, dx, e2, g2, r2, hr2, er2, p2⟩ => ⟨h2, S2, ε, e2, er2, hr2, (PostS.lft er2 p2).imp fun kk H3 ⟨h3, S3, dk, e3, g3, r3, hr3, er3, p3⟩ => by
      subst e3
      have r2' := r2.mono g3.ext
      have r1' := (r1.mono g2.ext).mono g3.ext
      cases q : dSetIx dx dk dy S3 with
      | none => rw [q] at p3; exact p3.elim
      | some S4 =>
        rw [q] at p3
        unfold dSetIx at q
        split at q
        · skip
          split at q
          · rename_i ds q2
            cases q3 : ixN ds.length _ with
            | none => rw [q3] at q; cases q
            | some j =>
              rw [q3] at q
              simp only [Option.map_some, Option.some.injEq] at q
              subst q
              cases r3
              obtain ⟨a, us, rfl, e1, e2, e3⟩ := sto_of r2' hr3 q2
              refine ⟨a, us, _, j, rfl, rfl, e2, by rw [e3.length]; exact q3, ?_⟩
              have g := grow_write hr3 e1 (.lst (us.set j y))
              exact p3 σ { h3 with H := upd h3.H a (.lst (us.set j y)) } g (er3.mono g.ext) (hr3.write e1 _ ⟨_, upd_same, (e3.set r1' j).mono g.ext⟩)
          · cases q
        · cases q⟩⟩⟩
end
end G

namespace G
open PySem PySem.Spec PyProof.Rows L2

/-! ## instances: fields, methods, making -/
def putFD (f : Str) (v : Da) : List (Str × Da) → List (Str × Da)
  | [] => [(f, v)]
  | (g, x) :: r => if g = f then (g, v) :: r else (g, x) :: putFD f v r
def insOf (x : Da) (S : Sto) : Option (Nat × List (Str × Da)) := match x with
  | .ins c fs => some (c, fs)
  | .ref n => match S[n]? with
    | some (.ins c fs) => some (c, fs)
    | _ => none
  | _ => none
theorem RVf.put {K : PySem.W.Frag} {T : Tab} {h : Hv} {f : Str} {v : V} {d : Da} (r : RV K T h v d) : ∀ {gs : List (Str × V)} {fs : List (Str × Da)}, RVf K T h gs fs → RVf K T h (putF f v gs) (putFD f d fs)
  | _, _, .nil => .cons r .nil
  | _, _, @RVf.cons _ _ _ g w gs e fs a b => by
    unfold putF putFD
    by_cases z : g = f
    · rw [if_pos z, if_pos z]; exact .cons r b
    · rw [if_neg z, if_neg z]; exact .cons a (RVf.put r b)
theorem RVf.length {K : PySem.W.Frag} {T : Tab} {h : Hv} : ∀ {gs : List (Str × V)} {fs : List (Str × Da)}, RVf K T h gs fs → gs.length = fs.length
  | _, _, .nil => rfl
  | _, _, .cons _ b => congrArg Nat.succ (RVf.length b)
theorem ins_of {K : PySem.W.Frag} {T : Tab} {h : Hv} {S : Sto} {v : V} {d : Da} {c : Nat} {fs : List (Str × Da)} (r : RV K T h v d) (s : HeapR K T h S) (e : insOf d S = some (c, fs)) :
    ∃ a dx gs, v = .ref a ∧ h.H a = some (.ins (T.cls c) dx gs) ∧ RVf K T h gs fs ∧ ∀ n, d = .ref n → h.m[n]? = some (some a) := by
  unfold insOf at e
  split at e
  · cases e
    cases r with
    | ins e1 f1 rs => exact ⟨_, _, _, rfl, e1, rs, fun n z => nomatch z⟩
  · split at e
    · rename_i q
      cases e
      cases r with
      | ref e2 q2 =>
        rename_i o
        cases o with
        | none => rw [s.gone _ e2] at q; cases q
        | some b =>
          obtain ⟨dx, gs, q3, q4⟩ := s.ob _ b _ e2 q
          exact ⟨b, dx, gs, q2 b rfl, q3, q4, fun n z => by cases z; exact e2⟩
    · cases e
  · cases e
/-- o.f -/
def eFld (cs : List Nat) (f : Str) (o : E) : E := fun ε S => (o ε S).bind fun x S => match insOf x S with
  | some (c, fs) => if c ∈ cs then (match fs.lookup f with
    | some d => .ok d S
    | none => .bad) else .bad
  | none => .bad
/-- o.f = v -/
def dFldSet (cs : List Nat) (f : Str) (x v : Da) (S : Sto) : Option Sto := match x with
  | .ref n => match S[n]? with
    | some (.ins c fs) => if c ∈ cs ∧ fs.length < 1000 then some (S.set n (.ins c (putFD f v fs))) else none
    | _ => none
  | _ => none
def sFldSet (cs : List Nat) (f : Str) (o v : E) : Sm := fun ε S => lft (v ε S) ε fun y S => lft (o ε S) ε fun x S => match dFldSet cs f x y S with
  | some S => .nx ε S
  | none => .bad
section
variable {X : Cx} {T : Tab} {W : WX} {o v : Expr} {fo fv : E} {f : Str} {p pos : Pos} {cs : List Nat}
theorem i_fld (hc : ∀ c ∈ cs, Cls X.K (T.cls c) ∧ NoAttr X.K (T.cls c) f) (ho : EI X T W o fo) (hb : attributeBase o f X.env (eval o X.env) = eval o X.env := by rfl) : EI X T W (.Attribute o f pos) (eFld cs f fo) :=
  wkE (pe_fld ho hb) fun σ H Q ⟨h, S, ε, e, er, hr, p⟩ => ⟨h, S, ε, e, er, hr, (Post.bind p).imp fun x H1 ⟨h1, S1, d1, e1, g1, r1, hr1, p1⟩ => by
    subst e1
    split at p1
    · rename_i c fs q
      split at p1
      · rename_i hcs
        split at p1
        · rename_i d q2
          obtain ⟨a, dx, gs, rfl, ha, rf, _⟩ := ins_of r1 hr1 q
          obtain ⟨w, l, rw'⟩ := rf.look q2
          exact ⟨a, _, dx, gs, w, rfl, ha, (hc c hcs).1, (hc c hcs).2, l, Post.ret p1 rw' hr1⟩
        · exact p1.elim
      · exact p1.elim
    · exact p1.elim⟩
theorem s_fldSet (hc : ∀ c ∈ cs, Cls X.K (T.cls c) ∧ NoAttr X.K (T.cls c) f) (ho : EI X T W o fo) (hv : EI X T W v fv) (hs : swapsWith v (some (.Attribute o f p)) pos.line X.env = pure false := by rfl) : SI X T W (.Assign [.Attribute o f p] v pos) (sFldSet cs f fo fv) :=
  wkS (ps_fld ho hv hs) fun D σ H ⟨h, S, ε, e, er, hr, p⟩ => ⟨h, S, ε, e, er, hr, (PostS.lft er p).imp fun y H1 ⟨h1, S1, dy, e1, g1, r1, hr1, er1, p1⟩ =>
    ⟨h1, S1, ε, e1, er1, hr1, (PostS.lft er1 p1).imp fun x H2 ⟨h2, S2, dx, e2, g2, r2, hr2, er2, p2⟩ => by
      subst e2
      have r1' := r1.mono g2.ext
      cases q : dFldSet cs f dx dy S2 with
      | none => rw [q] at p2; exact p2.elim
      | some S3 =>
        rw [q] at p2
        unfold dFldSet at q
        split at q
        · split at q
          · rename_i c fs q2
            split at q
            · rename_i hh
              simp only [Option.some.injEq] at q
              subst q
              obtain ⟨a, dx, gs, rfl, ha, rf, em⟩ := ins_of (c := c) (fs := fs) r2 hr2 (by simp only [insOf, q2])
              refine ⟨a, _, dx, gs, rfl, ha, (hc c hh.1).1, (hc c hh.1).2, by rw [rf.length]; exact hh.2, ?_⟩
              have em := em _ rfl
              have g := grow_write hr2 em (.ins (T.cls c) dx (putF f y gs))
              exact p2 σ { h2 with H := upd h2.H a (.ins (T.cls c) dx (putF f y gs)) } g (er2.mono g.ext) (hr2.write em _ ⟨_, _, upd_same, (rf.put r1').mono g.ext⟩)
            · cases q
          · cases q
        · cases q⟩⟩
end
/-- a method of class c -/
structure MetI (P : Program) (w : World) (K : PySem.W.Frag) (mg : Str → Option Value) (base : Heap) (T : Tab) (k : Nat) (c : Nat) (m : Str) (F : FnD) : Prop where
  cl : Cls K (T.cls c)
  ex : ∃ (f : Addr) (fd : FuncData) (ps : List Str), FnG P w K mg base k f fd ps (spI K T F) ∧ Meth K (T.cls c) m f ∧ Binds K fd ps []
theorem MetI.mono {P : Program} {w : World} {K : PySem.W.Frag} {mg : Str → Option Value} {base : Heap} {T : Tab} {j k c : Nat} {m : Str} {F : FnD} (D : MetI P w K mg base T j c m F) (h : j ≤ k) : MetI P w K mg base T k c m F := by
  obtain ⟨f, fd, ps, h1, h2, h3⟩ := D.ex
  exact ⟨D.cl, f, fd, ps, h1.mono h, h2, h3⟩
theorem MetI.imp {P : Program} {w : World} {K : PySem.W.Frag} {mg : Str → Option Value} {base : Heap} {T : Tab} {k c : Nat} {m : Str} {F F' : FnD} (D : MetI P w K mg base T k c m F) (e : ∀ ds S, F' ds S ≠ .bad → F' ds S = F ds S) : MetI P w K mg base T k c m F' := by
  obtain ⟨f, fd, ps, h1, h2⟩ := D.ex
  exact ⟨D.cl, f, fd, ps, h1.eqD e, h2⟩
def eMeth (c : Nat) (m : Str) (F : FnD) (o : E) (a : Es) : E := fun ε S => (o ε S).bind fun x S => match insOf x S with
  | some (c', fs) => if c' = c ∧ (fs.lookup m).isNone = true then (a ε S).bind fun xs S => F (x :: xs) S else .bad
  | none => .bad
section
variable {X : Cx} {T : Tab} {W : WX} {o e : Expr} {es : List Expr} {fo : E} {fs : Es} {m : Str} {p apos pos : Pos} {c k : Nat} {F : FnD}
theorem meth_at {h1 : Hv} {S1 : Sto} {x : V} {d : Da} {gs : List (Str × Da)} (r : RV X.K T h1 x d) (hr : HeapR X.K T h1 S1) (q : insOf d S1 = some (c, gs)) (l : (gs.lookup m).isNone = true) :
    ∃ a dx vs, x = .ref a ∧ h1.H a = some (.ins (T.cls c) dx vs) ∧ vs.lookup m = none := by
  obtain ⟨a, dx, vs, rfl, ha, rf, _⟩ := ins_of r hr q
  exact ⟨a, dx, vs, rfl, ha, rf.nolook (Option.isNone_iff_eq_none.mp l)⟩
theorem i_meth {pl : Sem Bool} (D : MetI X.prog X.w X.K X.mg X.base T.base k c m F) (hroom : RoomG k X.A) (tk : Takes X W) (ho : EI X T W o fo) (ha : AI X T W (e :: es) fs)
    (hst : starEach (e :: es) X.env = (false, eval e X.env) :: starEach es X.env := by rfl) (hpl : (backTo pos (starEach es X.env)).any (·.1) = false := by rfl)
    (ht : eval (.Call (.Attribute o m apos) (e :: es) [] pos) X.env = (do
      let ov ← eval o X.env
      standAt apos.atName
      let (f, first) ← holding [ov] (getMethod ov m pl)
      callWith pos f first (backTo pos (starEach (e :: es) X.env)) (backToKw pos (keywordEach [] X.env))) := by rfl) : EI X T W (.Call (.Attribute o m apos) (e :: es) [] pos) (eMeth c m F fo fs) := by
  obtain ⟨f, fd, ps, F0, hm, hb⟩ := D.ex
  have hcl : Cls X.K (T.cls c) := D.cl
  have hm' : Meth X.K (T.cls c) m f := hm
  refine ⟨fun pins s σ H Q I ⟨h, S, ε, e0, er, hr, p⟩ => ?_⟩
  refine PySem.W.methodCall_KW (pl := pl) (thn (ho.run pins s σ H _ I ⟨h, S, ε, e0, er, hr, Post.bind p⟩) fun u s1 ⟨x, H1, I1, rx, h1, S1, d1, e1, g1, r1, hr1, p1⟩ => ?_) ht
  split at p1
  · rename_i c' gs q
    split at p1
    · rename_i hh
      obtain ⟨rfl, l⟩ := hh
      obtain ⟨a, dx, vs, rfl, ea, ln⟩ := meth_at r1 hr1 q l
      subst e1
      obtain rfl : u = Value.ref a := rx
      refine getmeth_ok I1 ea hcl hm' ln ?_
      refine PySem.W.callWith_K (first := [.ref a]) (h₀ := X.base) I1.ok.mod.kin hm'.kp (thn (ha.run pos pins s1 σ h1.H _ I1 ⟨h1, S1, ε, rfl, er.mono g1, hr1, Post.bind p1⟩) fun us s2 ⟨vs, H2, I2, rv, h2, S2, ds, e2, g2, r2, hr2, p2⟩ => ⟨I2.kIn, ?_⟩) hst hpl
      exact run_fnG (us := .ref a :: us) (vs := .ref a :: vs) F0 hroom hb (passAt tk σ) I2 (.cons rfl rv) ⟨h2, S2, d1 :: ds, e2, hr2.retab (T := T) (T' := T.base) rfl rfl, .cons ((r1.mono g2.ext).retab (T := T) (T' := T.base) rfl rfl) (r2.retab (T := T) (T' := T.base) rfl rfl), Post.toF p2⟩
    · exact p1.elim
  · exact p1.elim
theorem i_meth0 {pl : Sem Bool} (D : MetI X.prog X.w X.K X.mg X.base T.base k c m F) (hroom : RoomG k X.A) (tk : Takes X W) (ho : EI X T W o fo)
    (ht : eval (.Call (.Attribute o m apos) [] [] pos) X.env = (do
      let ov ← eval o X.env
      standAt apos.atName
      let (f, first) ← holding [ov] (getMethod ov m pl)
      callWith pos f first (backTo pos (starEach [] X.env)) (backToKw pos (keywordEach [] X.env))) := by rfl) : EI X T W (.Call (.Attribute o m apos) [] [] pos) (eMeth c m F fo esNil) := by
  obtain ⟨f, fd, ps, F0, hm, hb⟩ := D.ex
  have hcl : Cls X.K (T.cls c) := D.cl
  have hm' : Meth X.K (T.cls c) m f := hm
  refine ⟨fun pins s σ H Q I ⟨h, S, ε, e0, er, hr, p⟩ => ?_⟩
  refine PySem.W.methodCall_KW (pl := pl) (thn (ho.run pins s σ H _ I ⟨h, S, ε, e0, er, hr, Post.bind p⟩) fun u s1 ⟨x, H1, I1, rx, h1, S1, d1, e1, g1, r1, hr1, p1⟩ => ?_) ht
  split at p1
  · rename_i c' gs q
    split at p1
    · rename_i hh
      obtain ⟨rfl, l⟩ := hh
      obtain ⟨a, dx, vs, rfl, ea, ln⟩ := meth_at r1 hr1 q l
      subst e1
      obtain rfl : u = Value.ref a := rx
      refine getmeth_ok I1 ea hcl hm' ln ?_
      exact PySem.W.callWith_K0 (first := [.ref a]) I1.kIn hm'.kp (run_fnG (us := [.ref a]) (vs := [.ref a]) F0 hroom hb (passAt tk σ) I1 (.cons rfl .nil) ⟨h1, S1, [d1], rfl, hr1.retab (T := T) (T' := T.base) rfl rfl, .cons (r1.retab (T := T) (T' := T.base) rfl rfl) .nil, Post.toF p1⟩)
    · exact p1.elim
  · exact p1.elim
end
/-- a class that is made -/
structure MakI (P : Program) (w : World) (K : PySem.W.Frag) (mg : Str → Option Value) (base : Heap) (T : Tab) (k : Nat) (x : Str) (c : Nat) (F : FnD) : Prop where
  mg_ : mg x = some (.ref (T.cls c))
  ex : ∃ (f : Addr) (fd : FuncData) (ps : List Str), FnG P w K mg base k f fd ps (spI K T F) ∧ Mk K (T.cls c) f ∧ Binds K fd ps []
theorem MakI.mono {P : Program} {w : World} {K : PySem.W.Frag} {mg : Str → Option Value} {base : Heap} {T : Tab} {j k c : Nat} {x : Str} {F : FnD} (D : MakI P w K mg base T j x c F) (h : j ≤ k) : MakI P w K mg base T k x c F := by
  obtain ⟨f, fd, ps, h1, h2, h3⟩ := D.ex
  exact ⟨D.mg_, f, fd, ps, h1.mono h, h2, h3⟩
def mkRes (n : Nat) (r : Rs Da) : Rs Da := r.bind fun d S => match d with
  | .non => .ok (.ref n) S
  | _ => .bad
def eMake (c : Nat) (F : FnD) (a : Es) : E := fun ε S => (a ε S).bind fun xs S => mkRes S.length (F (.ref S.length :: xs) (S ++ [.ins c []]))
/-- an object of the store becomes a value -/
def frzI (r : Rs Da) : Rs Da := r.bind fun x S => match x with
  | .ref n => match S[n]? with
    | some (.ins c fs) => .ok (.ins c fs) (S.set n .gone)
    | _ => .bad
  | d => .ok d S
noncomputable def eMakeV (c : Nat) (F : FnD) (a : Es) : E := fun ε S => (a ε S).bind fun xs S => scp S (frzI (mkRes S.length (F (.ref S.length :: xs) (S ++ [.ins c []]))))
theorem Post.scpE {K : PySem.W.Frag} {T : Tab} {W : WX} {σ : St} {h : Hv} {S : Sto} {r : Rs Da} {Q : VK} (hr : HeapR K T h S) (p : Post K T W (RV K T) σ h (scp S r) Q) : Post K T W (RV K T) σ h r Q := by
  have q : PostF K T h (scp S r) Q (WE W σ) := by
    cases z : scp S r with
    | ok a S => rw [z] at p; exact p
    | exc c fs S => rw [z] at p; exact p
    | bad => rw [z] at p; exact p
  have q2 := PostF.scp hr q
  cases r with
  | ok a S => exact q2
  | exc c fs S => exact q2
  | bad => exact q2
theorem Post.frzI {K : PySem.W.Frag} {T : Tab} {W : WX} {σ : St} {h : Hv} {r : Rs Da} {Q : VK} (p : Post K T W (RV K T) σ h (G.frzI r) Q) : Post K T W (RV K T) σ h r Q := by
  refine (Post.bind (R := RV K T) p).imp fun v H1 ⟨h1, S1, d, e1, g1, r1, hr1, p1⟩ => ?_
  subst e1
  cases d with
  | ref n =>
    dsimp only at p1
    split at p1
    · rename_i c fs e3
      obtain ⟨a, dx, gs, rfl, ha, rf, em⟩ := ins_of (c := c) (fs := fs) r1 hr1 (by simp only [insOf, e3])
      have em := em n rfl
      have free : (⟨h1.m.set n none, h1.B, h1.H⟩ : Hv).free a := by
        refine ⟨fun z => ?_, fun z => (hr1.hid a z).1 (List.mem_of_getElem? em)⟩
        obtain ⟨k, hk⟩ := List.getElem?_of_mem z
        have hk' : (h1.m.set n none)[k]? = some (some a) := hk
        by_cases hkn : k = n
        · subst hkn
          rw [List.getElem?_set_self (List.getElem?_eq_some_iff.mp em).1] at hk'; cases hk'
        · rw [List.getElem?_set_ne (Ne.symm hkn)] at hk'
          exact hkn (hr1.nd k n a hk' em)
      exact p1 (.ref a) ⟨h1.m.set n none, h1.B, h1.H⟩ grow_freeze (.ins ha free (rf.mono (h' := ⟨h1.m.set n none, h1.B, h1.H⟩) grow_freeze.ext)) (hr1.freeze n)
    · exact p1.elim
  | _ => exact Post.ret p1 r1 hr1
section
variable {X : Cx} {T : Tab} {W : WX} {e : Expr} {es : List Expr} {fs : Es} {x : Str} {p pos : Pos} {c k : Nat} {F : FnD}
theorem make_run {pins : List (Addr × Obj)} {σ : St} {s : Shared} {Q : VK} {us : List Value} {vs : List V} {h : Hv} {S : Sto} {ds : List Da} {f : Addr} {fd : FuncData} {ps : List Str} (M : Mk X.K (T.cls c) f) (F0 : FnG X.prog X.w X.K X.mg X.base k f fd ps (spI X.K T.base F))
    (hr : RoomG (k + 1) X.A) (tk : Takes X W) (hb : Binds X.K fd ps []) (I : Inv X pins σ h.H s) (r : Vals vs us) (hh : HeapR X.K T h S) (rv : RVs X.K T h vs ds) (p : Post X.K T W (RV X.K T) σ h (mkRes S.length (F (.ref S.length :: ds) (S ++ [.ins c []]))) Q) :
    wpAny (model X.prog X.w) X.A (call (.ref (T.cls c)) us) (EP X pins σ Q) X.xe s := by
  have I2 := Inv.made (C := T.cls c) I
  have hx0 : h.H (s.heap.objs.size + 1) = none := I.hok.fresh (Nat.le_succ _)
  have hd0 : h.H s.heap.objs.size = none := I.hok.fresh (Nat.le_refl _)
  have g1 := grow_new (h := h) hd0 (.own (s.heap.objs.size + 1))
  have hx1 : (upd h.H s.heap.objs.size (.own (s.heap.objs.size + 1))) (s.heap.objs.size + 1) = none := by rw [upd_ne (Nat.succ_ne_self _)]; exact hx0
  have hh1 := hh.new hd0 (.own (s.heap.objs.size + 1))
  have g2 := grow_alloc (h := { h with H := upd h.H s.heap.objs.size (.own (s.heap.objs.size + 1)) }) hx1 (.ins (T.cls c) s.heap.objs.size [])
  have hh2 := hh1.alloc hx1 (.ins (T.cls c) s.heap.objs.size []) (ob := .ins c []) ⟨_, _, upd_same, .nil⟩
  have gg := g1.trans g2
  have hsp : spI X.K T.base F (V.ref (s.heap.objs.size + 1) :: vs) (upd (upd h.H s.heap.objs.size (.own (s.heap.objs.size + 1))) (s.heap.objs.size + 1) (.ins (T.cls c) s.heap.objs.size [])) (fun v H2 => v = .non ∧ Q (.ref (s.heap.objs.size + 1)) H2) (WE W σ) := by
    refine ⟨_, _, .ref S.length :: ds, rfl, hh2.retab (T := T) (T' := T.base) rfl rfl, .cons (.ref (o := some (s.heap.objs.size + 1)) ?_ fun a e => by cases e; rfl) ((rv.mono gg.ext).retab (T := T) (T' := T.base) rfl rfl), ?_⟩
    · show (h.m ++ [some (s.heap.objs.size + 1)])[S.length]? = _
      rw [← hh.len]; simp
    · have p0 := Post.grow gg p
      unfold mkRes at p0
      cases q : F (.ref S.length :: ds) (S ++ [.ins c []]) with
      | bad => rw [q] at p0; exact p0.elim
      | exc c' fs' S' => rw [q] at p0; exact fun cls dd h' g x s => p0 cls dd h' g (x.retab (T := T.base) (T' := T) rfl rfl) (s.retab (T := T.base) (T' := T) rfl rfl)
      | ok d S' =>
        rw [q] at p0
        intro v h' g rr ss
        simp only [Rs.bind] at p0
        cases d with
        | non =>
          cases rr
          refine ⟨rfl, p0 (.ref (s.heap.objs.size + 1)) h' g ?_ (ss.retab (T := T.base) (T' := T) rfl rfl)⟩
          have em : (h.m ++ [some (s.heap.objs.size + 1)])[S.length]? = some (some (s.heap.objs.size + 1)) := by rw [← hh.len]; simp
          rcases g.slot S.length _ em with z | z
          · exact .ref z fun a e => by cases e; rfl
          · exact .ref z fun a e => by cases e
        | _ => exact p0.elim
  have r2 : Vals (V.ref (s.heap.objs.size + 1) :: vs) (Value.ref (s.heap.objs.size + 1) :: us) := .cons rfl r
  have hl : (Value.ref (s.heap.objs.size + 1) :: us).length = ps.length := by
    rw [← F0.len _ _ _ _ hsp]; exact r2.length.symm
  have bb := hb { s with heap := (s.heap.push PySem.W.emptyDict).push (PySem.W.instObj (T.cls c) s.heap.objs.size) } (Value.ref (s.heap.objs.size + 1) :: us) I2.kIn (by rw [List.append_nil]; exact hl)
  rw [List.append_nil] at bb
  refine wpAny_call (make_map (f := f) I.kIn M.makes M.init (beq_iff_eq.mp M.fn) (codeAny_mono (F0.run _ X.stack _ _ ⟨Value.ref (s.heap.objs.size + 1) :: us, []⟩ (Value.ref (s.heap.objs.size + 1) :: us) _ _ (WE W σ) (hr.make _ us []) (I2.env0.make _ us []) bb r2 hsp) fun r s' hq' => ?_))
  cases r with
  | error e => exact passAt tk σ pins _ _ e s' I2 hq'
  | ok fl =>
    cases fl with
    | ret u =>
      obtain ⟨v, H', I3, rv, ev, q3⟩ := I2.after hq'
      subst ev
      exact ⟨rv, ⟨V.ref (s.heap.objs.size + 1), H', I3, rfl, q3⟩⟩
    | next => exact False.elim hq'
    | brk => exact False.elim hq'
    | cont => exact False.elim hq'
theorem i_make (D : MakI X.prog X.w X.K X.mg X.base T.base k x c F) (hr : RoomG (k + 1) X.A) (tk : Takes X W) (hg : Gl X x) (ha : AI X T W (e :: es) fs) (hdb : (x == ("__debug__" : Str)) = false := by decide)
    (he : starEach (e :: es) X.env = (false, eval e X.env) :: starEach es X.env := by rfl) (hpl : (backTo pos (starEach es X.env)).any (·.1) = false := by rfl) : EI X T W (.Call (.Name x p) (e :: es) [] pos) (eMake c F fs) := by
  obtain ⟨f, fd, ps, F0, M, hb⟩ := D.ex
  refine ⟨fun pins s σ H Q I ⟨h, S, ε, e0, er, hh, p⟩ => ?_⟩
  refine wpAny_Call_Name_kw (ld_glob I hg D.mg_ ?_ hdb)
  refine PySem.W.callWith_K (h₀ := X.base) I.ok.mod.kin M.kp (thn (ha.run pos pins s σ H _ I ⟨h, S, ε, e0, er, hh, Post.bind p⟩) fun us s1 ⟨vs, H1, I1, r, h1, S1, ds, e1, g1, r1, hr1, p1⟩ => ⟨I1.kIn, ?_⟩) he hpl
  subst e1
  exact make_run (T := T) M F0 hr tk hb I1 r hr1 r1 p1
theorem i_makeV (D : MakI X.prog X.w X.K X.mg X.base T.base k x c F) (hr : RoomG (k + 1) X.A) (tk : Takes X W) (hg : Gl X x) (ha : AI X T W (e :: es) fs) (hdb : (x == ("__debug__" : Str)) = false := by decide)
    (he : starEach (e :: es) X.env = (false, eval e X.env) :: starEach es X.env := by rfl) (hpl : (backTo pos (starEach es X.env)).any (·.1) = false := by rfl) : EI X T W (.Call (.Name x p) (e :: es) [] pos) (eMakeV c F fs) := by
  obtain ⟨f, fd, ps, F0, M, hb⟩ := D.ex
  refine ⟨fun pins s σ H Q I ⟨h, S, ε, e0, er, hh, p⟩ => ?_⟩
  refine wpAny_Call_Name_kw (ld_glob I hg D.mg_ ?_ hdb)
  refine PySem.W.callWith_K (h₀ := X.base) I.ok.mod.kin M.kp (thn (ha.run pos pins s σ H _ I ⟨h, S, ε, e0, er, hh, Post.bind p⟩) fun us s1 ⟨vs, H1, I1, r, h1, S1, ds, e1, g1, r1, hr1, p1⟩ => ⟨I1.kIn, ?_⟩) he hpl
  subst e1
  exact make_run (T := T) M F0 hr tk hb I1 r hr1 r1 (Post.frzI (Post.scpE hr1 p1))
end
/-! ## a def in a name of the frame -/
structure FnAt (P : Program) (w : World) (K : PySem.W.Frag) (mg : Str → Option Value) (base : Heap) (T : Tab) (k : Nat) (n : Nat) (F : FnD) : Prop where
  ex : ∃ (fd : FuncData) (ps : List Str), FnG P w K mg base k (T.fnA n) fd ps (spI K T F) ∧ PySem.W.keepIn K (.ref (T.fnA n)) = true ∧ Binds K fd ps []
theorem FnAt.mono {P : Program} {w : World} {K : PySem.W.Frag} {mg : Str → Option Value} {base : Heap} {T : Tab} {j k n : Nat} {F : FnD} (D : FnAt P w K mg base T j n F) (h : j ≤ k) : FnAt P w K mg base T k n F := by
  obtain ⟨fd, ps, h1, h2, h3⟩ := D.ex
  exact ⟨fd, ps, h1.mono h, h2, h3⟩
def eCallL (i : Nat) (tbl : List (Nat × FnD)) (a : Es) : E := fun ε S => match ε[i]? with
  | some (some (.fn n)) => match tbl.lookup n with
    | some F => (a ε S).bind F
    | none => .bad
  | _ => .bad
section
variable {X : Cx} {T : Tab} {W : WX} {e : Expr} {es : List Expr} {fs : Es} {x : Str} {p pos : Pos} {i k : Nat} {tbl : List (Nat × FnD)}
theorem i_callL (D : ∀ q ∈ tbl, FnAt X.prog X.w X.K X.mg X.base T.base k q.1 q.2) (hr : RoomG k X.A) (tk : Takes X W) (hN : X.N[i]? = some x) (hv : Vis X.env.scope x) (ha : AI X T W (e :: es) fs) (hdb : (x == ("__debug__" : Str)) = false := by decide) (hcd : (x == ("__classdict__" : Str)) = false := by decide)
    (he : starEach (e :: es) X.env = (false, eval e X.env) :: starEach es X.env := by rfl) (hpl : (backTo pos (starEach es X.env)).any (·.1) = false := by rfl) : EI X T W (.Call (.Name x p) (e :: es) [] pos) (eCallL i tbl fs) := by
  refine ⟨fun pins s σ H Q I ⟨h, S, ε, e0, er, hh, p⟩ => ?_⟩
  unfold eCallL at p
  split at p
  · rename_i n q
    split at p
    · rename_i F q2
      obtain ⟨fd, ps, F0, hk, hb⟩ := (D (n, F) (mem_look q2)).ex
      rcases er.2 i _ q with ⟨nx, v, e1, rv⟩ | ⟨_, _, _, _, _, e1, _⟩
      · cases rv
        refine wpAny_Call_Name_kw (thn ((pe_var hN hv hdb hcd).run pins s σ H (fun v H1 => v = .ref (T.fnA n) ∧ H1 = H) I ⟨.ref (T.fnA n), e1, rfl, rfl⟩) fun u s1 ⟨v, H1, I1, r1, q1⟩ => ?_)
        obtain ⟨rfl, rfl⟩ := q1
        cases r1
        refine PySem.W.callWith_K (h₀ := X.base) I.ok.mod.kin hk (thn (ha.run pos pins s1 σ _ _ I1 ⟨h, S, ε, e0, er, hh, Post.bind p⟩) fun us s2 ⟨vs, H2, I2, r, h2, S2, ds, e2, g2, r2, hr2, p2⟩ => ⟨I2.kIn, ?_⟩) he hpl
        exact run_fnG F0 hr hb (passAt tk σ) I2 r ⟨h2, S2, ds, e2, hr2.retab (T := T) (T' := T.base) rfl rfl, r2.retab (T := T) (T' := T.base) rfl rfl, Post.toF p2⟩
      · cases e1
    · exact p.elim
  · exact p.elim
end
end G

namespace G
open PySem PySem.Spec PyProof.Rows L2

/-! ## short words for the printed terms -/
section
variable {X : Cx} {T : Tab} {W : WX}
theorem iv (i : Nat) {x : Str} {pos : Pos} (hN : X.N[i]? = some x := by rfl) (hv : Vis X.env.scope x := by first | exact Or.inl rfl | exact Or.inr (Or.inl rfl) | exact Or.inr (Or.inr rfl)) (hd : (x == ("__debug__" : Str)) = false := by decide)
    (hcd : (x == ("__classdict__" : Str)) = false := by decide) : EI X T W (.Name x pos) (eVar i) := i_var hN hv hd hcd
def eChain (g g' : Da → Da → Sto → Option (Da × Sto)) (a b c : E) : E := fun ε S => (a ε S).bind fun x S => (b ε S).bind fun y S => match g x y S with
  | some (.bl true, S) => (c ε S).bind fun z S => Rs.of (g' y z S)
  | some (.bl false, S) => .ok (.bl false) S
  | _ => .bad
variable {a b c : Expr} {f g h : E} {op op' : CmpOp} {g1 g2 : Da → Da → Sto → Option (Da × Sto)} {pos : Pos}
theorem chain_w : ∀ σ H Q, tG X.K T W (RV X.K T) (eChain g1 g2 f g h) σ H Q → tChain (rD2 X.K T g1) (rD2 X.K T g2) (tG X.K T W (RV X.K T) f) (tG X.K T W (RV X.K T) g) (tG X.K T W (RV X.K T) h) σ H Q :=
  fun σ H Q ⟨h0, S, ε, e, er, hr, p⟩ => ⟨h0, S, ε, e, er, hr, (Post.bind p).imp fun x H1 ⟨h1, S1, d1, e1, g1', r1, hr1, p1⟩ =>
    ⟨h1, S1, ε, e1, er.mono g1', hr1, (Post.bind p1).imp fun y H2 ⟨h2, S2, d2, e2, g2', r2, hr2, p2⟩ => by
      refine ⟨h2, S2, d1, d2, e2, hr2, r1.mono g2'.ext, r2, ?_⟩
      split at p2
      · rename_i S3 q
        rw [q]
        intro v h3 g3 r3 hr3
        cases r3
        refine ⟨true, rfl, ?_⟩
        rw [if_pos rfl]
        exact ⟨h3, S3, ε, rfl, ((er.mono g1'.ext).mono g2'.ext).mono g3.ext, hr3, (Post.bind (Post.grow g3 p2)).imp fun z H4 ⟨h4, S4, d4, e4, g4, r4, hr4, p4⟩ => ⟨h4, S4, d2, d4, e4, hr4, (r2.mono g3.ext).mono g4.ext, r4, p4.of⟩⟩
      · rename_i S3 q
        rw [q]
        intro v h3 g3 r3 hr3
        cases r3
        refine ⟨false, rfl, ?_⟩
        rw [if_neg (by decide)]
        exact Post.ret (Post.grow g3 p2) (.bl _) hr3
      · exact p2.elim⟩⟩
theorem i_chain (ho : OpR X (compareOp op) (rD2 X.K T g1)) (ho' : OpR X (compareOp op') (rD2 X.K T g2)) (ha : EI X T W a f) (hb : EI X T W b g) (hc : EI X T W c h) (hm : lastMarks [op, op'] [b, c] = false := by with_unfolding_all rfl) : EI X T W (.Compare a [op, op'] [b, c] pos) (eChain g1 g2 f g h) :=
  wkE (pe_chain ho ho' ha hb hc hm) chain_w
theorem t_chain (ho : OpR X (compareOp op) (rD2 X.K T g1)) (ho' : OpR X (compareOp op') (rD2 X.K T g2)) (ha : EI X T W a f) (hb : EI X T W b g) (hc : EI X T W c h) (hm : lastMarks [op, op'] [b, c] = false := by with_unfolding_all rfl) : TI' X T W (.Compare a [op, op'] [b, c] pos) (tBl (eChain g1 g2 f g h)) :=
  wkT (pt_chain ho ho' ha hb hc hm) fun σ H Q ⟨h0, S, ε, e, er, hr, p⟩ => chain_w (X := X) (T := T) (W := W) σ H _ ⟨h0, S, ε, e, er, hr, (Post.bind p).imp fun x H1 ⟨h1, S1, d1, e1, _, r1, hr1, p1⟩ => by
    cases r1 with
    | bl k => exact ⟨k, rfl, by subst e1; exact Post.ret p1 rfl hr1⟩
    | _ => exact (show False from p1).elim⟩
def sPar3 (i j l : Nat) (a : Es) : Sm := fun ε S => lft (a ε S) ε fun ds S => match ds with
  | [x, y, z] => .nx (((ε.set i (some x)).set j (some y)).set l (some z)) S
  | _ => .bad
theorem s_par3 {i j l : Nat} {x y z : Str} {fs : Es} {px py pz pt : Pos} {kt k2 pt2} (hc : X.calm = true) (hN : X.N.Nodup) (hi : X.N[i]? = some x) (hj : X.N[j]? = some y) (hl : X.N[l]? = some z) (hij : i ≠ j) (hil : i ≠ l) (hjl : j ≠ l)
    (hx : X.env.scope.names.lookup x = some .local) (hy : X.env.scope.names.lookup y = some .local) (hz : X.env.scope.names.lookup z = some .local) (ha : AI X T W [a, b, c] fs)
    (hw : swappedStores [.Tuple [.Name x px, .Name y py, .Name z pz] kt pt] (.Tuple [a, b, c] k2 pt2) X.env = pure (some [x, y, z]))
    (hs : swapsWithSole [.Tuple [.Name x px, .Name y py, .Name z pz] kt pt] (.Tuple [a, b, c] k2 pt2) pos.line X.env = pure false := by rfl) :
    SI X T W (.Assign [.Tuple [.Name x px, .Name y py, .Name z pz] kt pt] (.Tuple [a, b, c] k2 pt2) pos) (sPar3 i j l fs) := by
  refine wkS (ps_par3 hc hN hi hj hl hij hil hjl hx hy hz ha hw hs) fun D σ H ⟨h, S, ε, e, er, hr, p⟩ => ⟨h, S, ε, e, er, hr, (PostS.lft er p).imp fun v H1 ⟨h1, S1, d1, e1, g1, r1, hr1, er1, p1⟩ => ?_⟩
  cases r1 with
  | nil => exact (show False from p1).elim
  | cons q1 r1 =>
    cases r1 with
    | nil => exact (show False from p1).elim
    | cons q2 r1 =>
      cases r1 with
      | nil => exact (show False from p1).elim
      | cons q3 r1 =>
        cases r1 with
        | cons _ _ => exact (show False from p1).elim
        | nil => subst e1; exact ⟨_, _, _, rfl, p1.nx (((er1.set q1 i).set q2 j).set q3 l) hr1⟩
end
end G

namespace G
open PySem PySem.Spec PyProof.Rows L2
/-- a hidden list becomes one of the store -/
theorem adopt {K : PySem.W.Frag} {T : Tab} {h : Hv} {S : Sto} {D : Addr} {B : List Addr} {acc : List V} {xs : List Da} (hB : h.B = D :: B) (hn : D ∉ B) (r : HeapR K T h S) (e : h.H D = some (.lst acc)) (ra : RVs K T h acc xs) :
    Ext h { m := h.m ++ [some D], B := B, H := h.H } ∧ HeapR K T { m := h.m ++ [some D], B := B, H := h.H } (S ++ [.lst xs]) := by
  have hD : D ∈ h.B := by rw [hB]; exact List.mem_cons_self
  have nD := (r.hid D hD).1
  have x : Ext h { m := h.m ++ [some D], B := B, H := h.H } := ⟨fun n o q => .inl ((List.getElem?_append_left (List.getElem?_eq_some_iff.mp q).1).trans q), fun a o q f => ⟨q, fun z => by
    rcases List.mem_append.mp (show some a ∈ h.m ++ [some D] from z) with z | z
    · exact f.1 z
    · simp at z; subst z; exact f.2 hD, fun z => f.2 (by rw [hB]; exact List.mem_cons_of_mem _ z)⟩⟩
  have key : ∀ (k : Nat) (a : Addr), (h.m ++ [some D])[k]? = some (some a) → h.m[k]? = some (some a) ∨ (k = h.m.length ∧ a = D) := fun k a q => by
    by_cases hk : k < h.m.length
    · rw [List.getElem?_append_left hk] at q; exact .inl q
    · rw [List.getElem?_append_right (Nat.le_of_not_lt hk)] at q
      by_cases hk0 : k - h.m.length = 0
      · rw [hk0] at q; simp at q; exact .inr ⟨by omega, q.symm⟩
      · obtain ⟨t, ht⟩ : ∃ t, k - h.m.length = t + 1 := ⟨k - h.m.length - 1, by omega⟩
        rw [ht] at q; simp at q
  refine ⟨x, ⟨by simp [r.len], fun i j a e1 e2 => ?_, fun n a ob q s => ?_, fun n q => ?_, fun a q => ?_⟩⟩
  · rcases key i a e1 with h1 | ⟨h1, h1'⟩ <;> rcases key j a e2 with h2 | ⟨h2, h2'⟩
    · exact r.nd i j a h1 h2
    · subst h2'; exact absurd (List.mem_of_getElem? h1) nD
    · subst h1'; exact absurd (List.mem_of_getElem? h2) nD
    · rw [h1, h2]
  · rcases key n a q with h1 | ⟨h1, h1'⟩
    · have hn : n < S.length := by rw [← r.len]; exact (List.getElem?_eq_some_iff.mp h1).1
      rw [List.getElem?_append_left hn] at s
      exact (r.ob n a ob h1 s).mono x rfl
    · subst h1'
      rw [List.getElem?_append_right (by rw [h1, r.len]; exact Nat.le_refl _)] at s
      have z : n - S.length = 0 := by rw [h1, r.len]; omega
      rw [z] at s
      simp at s
      subst s
      exact ⟨acc, e, ra.mono x⟩
  · have q' : (h.m ++ [some D])[n]? = some none := q
    by_cases hn : n < h.m.length
    · rw [List.getElem?_append_left hn] at q'
      rw [List.getElem?_append_left (by rw [← r.len]; exact hn)]
      exact r.gone n q'
    · rw [List.getElem?_append_right (Nat.le_of_not_lt hn)] at q'
      cases z : n - h.m.length with
      | zero => rw [z] at q'; simp at q'
      | succ t => rw [z] at q'; simp at q'
  · have q' : a ∈ B := q
    obtain ⟨z1, z2⟩ := r.hid a (by rw [hB]; exact List.mem_cons_of_mem _ q')
    refine ⟨fun z => ?_, z2⟩
    rcases List.mem_append.mp (show some a ∈ h.m ++ [some D] from z) with z | z
    · exact z1 z
    · simp at z
      subst z
      exact hn q'
section
variable {X : Cx} {T : Tab} {W : WX} {tg iter elt : Expr} {ifs : List Expr} {pos : Pos} {it : Ie} {g : Tg} {t : TeE} {a : E} {scope : Scope} {own : List (Str × Nat)}
/-- the turns of a comprehension -/
theorem compH_core {h1 : Hv} {σ : St} {ε : Env} {J : It} {ds : List Da} {S1 : Sto} {Q : VK} (r1 : ItR X.K T h1 J ds) (hr1 : HeapR X.K T h1 S1) (er1 : EnvR X.K T h1 σ ε) (hl : ds.length ≤ sizeLine)
    (hown : ∀ j ∈ slotsT g, j ∈ own.map (·.2))
    (p : ∃ xs S2, compL g t a (wipeE ε (own.map (·.2))) ds S1 = .ok xs S2 ∧ ∀ (h2 : Hv) (D : Addr) (acc : List V), h2.B = D :: h1.B → Ext h1 h2 → (∀ b o, h1.H b = some o → some b ∉ h1.m → h2.H b = some o ∧ some b ∉ h2.m) → HeapR X.K T h2 S2 → h1.H D = none → h2.H D = some (.lst acc) → RVs X.K T h2 acc xs → Q (.ref D) h2.H) :
    ∀ D, h1.H D = none → ∃ W' : Nat → Nat → Hp → Prop, (∃ m, W' 0 m (upd h1.H D (.lst []))) ∧ ∀ i m H, W' i m H →
      (J.stop i H ∧ Q (.ref D) H) ∨ (J.go i H ∧ ∃ Nx : Hp → Prop, (∀ H', Nx H' → ∃ m', m' < m ∧ W' (i + 1) m' H') ∧ ∀ x H', J.yld i H x H' → tgD X.K T g x (wipe σ (own.map (·.2))) H' fun σ2 H2 => wipe σ2 (own.map (·.2)) = wipe σ (own.map (·.2)) ∧ tG X.K T wNo REq t σ2 H2 fun b H3 =>
        if b = true then tG X.K T wNo (RV X.K T) a σ2 H3 fun y H4 => ∃ acc, H4 D = some (.lst acc) ∧ acc.length < sizeLine ∧ Nx (upd H4 D (.lst (acc ++ [y]))) else Nx H3) := by
  intro D hD
  obtain ⟨xs, Se, hcomp, fin⟩ := p
  -- the state between two turns
  refine ⟨fun i m H' => m = ds.length - i ∧ i ≤ ds.length ∧ ∃ h2 S2 acc accD xs2, h2.H = H' ∧ h2.B = D :: h1.B ∧ Ext h1 h2 ∧ (∀ b o, h1.H b = some o → some b ∉ h1.m → h2.H b = some o ∧ some b ∉ h2.m) ∧ HeapR X.K T h2 S2 ∧
      h2.H D = some (.lst acc) ∧ RVs X.K T h2 acc accD ∧ acc.length ≤ i ∧ xs = accD ++ xs2 ∧ compL g t a (wipeE ε (own.map (·.2))) (ds.drop i) S2 = .ok xs2 Se,
    ⟨ds.length, rfl, Nat.zero_le _, hide h1 D (.lst []), S1, [], [], xs, rfl, rfl, ext_hide hD _, fun b o e n => ?_, hr1.hide hD _, upd_same, .nil, Nat.le_refl _, rfl, hcomp⟩, ?_⟩
  · exact ⟨by show upd h1.H D _ b = _; rw [upd_ne (ne_of_none e hD)]; exact e, n⟩
  rintro i m H' ⟨rfl, hi, h2, S2, acc, accD, xs2, rfl, hB, x2, k2, hr2, hDa, ra, la, exs, hc⟩
  by_cases hlt : i < ds.length
  · refine .inr ⟨r1.1 i h2 S2 x2 hr2 hlt, fun H'' => ∃ h2 S2 acc accD xs2, h2.H = H'' ∧ h2.B = D :: h1.B ∧ Ext h1 h2 ∧ (∀ b o, h1.H b = some o → some b ∉ h1.m → h2.H b = some o ∧ some b ∉ h2.m) ∧ HeapR X.K T h2 S2 ∧
        h2.H D = some (.lst acc) ∧ RVs X.K T h2 acc accD ∧ acc.length ≤ i + 1 ∧ xs = accD ++ xs2 ∧ compL g t a (wipeE ε (own.map (·.2))) (ds.drop (i + 1)) S2 = .ok xs2 Se,
      fun H'' n => ⟨ds.length - (i + 1), by omega, rfl, hlt, n⟩, fun x H3 y => ?_⟩
    obtain ⟨h3, d, rfl, g3, hr3, hd, rv⟩ := r1.2.2 i h2 S2 x H3 x2 hr2 hlt y
    have ed : ds.drop i = d :: ds.drop (i + 1) := by
      rw [List.drop_eq_getElem_cons hlt]
      rw [List.getElem?_eq_getElem hlt] at hd
      cases hd; rfl
    rw [ed] at hc
    unfold compL at hc
    have D2 : some D ∉ h2.m := (hr2.hid D (by rw [hB]; exact List.mem_cons_self)).1
    have er3 : EnvR X.K T h3 (wipe σ (own.map (·.2))) (wipeE ε (own.map (·.2))) := ((er1.mono x2).mono g3.ext).wipe _
    cases q : put g d (wipeE ε (own.map (·.2))) with
    | none => simp only [q] at hc; cases hc
    | some ε3 =>
      simp only [q] at hc
      refine ⟨h3, S2, _, d, rfl, er3, hr3, rv, ε3, q, fun σ3 er4 off => ⟨off.wipe hown |>.trans ?_, h3, S2, ε3, rfl, er4, hr3, ?_⟩⟩
      · clear hc q fin exs
        have idem : ∀ (l : List Nat) (v : Nat), (wipe σ l) = wipe σ l := fun _ _ => rfl
        have key : ∀ own : List Nat, wipe (wipe σ own) own = wipe σ own := fun own => by
          refine List.ext_getElem? fun j => ?_
          have gen : ∀ (τ : St) (own : List Nat) (j : Nat), (L2.wipe τ own)[j]? = if j ∈ own then (if j < τ.length then some none else none) else τ[j]? := by
            intro τ own j
            induction own with
            | nil => simp [L2.wipe]
            | cons v vs ih =>
              show ((L2.wipe τ vs).set v none)[j]? = _
              by_cases hv : v = j
              · subst hv
                rw [List.getElem?_set]
                simp [wipe_length]
              · rw [List.getElem?_set_ne hv, ih]
                simp [Ne.symm hv]
          rw [gen, gen, wipe_length]
          by_cases hj : j ∈ own <;> simp [hj]
        exact key _
      · cases z : t ε3 S2 with
        | bad => simp only [z, Rs.bindN] at hc; cases hc
        | exc c fs S3 => simp only [z, Rs.bindN] at hc; cases hc
        | ok b S3 =>
          simp only [z, Rs.bindN] at hc
          intro b' h4 g4 eb hr4
          have eb' : b' = b := eb
          subst eb'
          cases b' with
          | false =>
            simp only [Bool.false_eq_true, if_false] at hc ⊢
            have gg := g3.trans g4
            obtain ⟨e5, _⟩ := gg.keep D _ hDa D2
            exact ⟨h4, S3, acc, accD, xs2, rfl, gg.B.trans hB, x2.trans gg.ext, fun b o e n => let ⟨e1, n1⟩ := k2 b o e n; gg.keep b o e1 n1, hr4, e5, ra.mono gg.ext, by omega, exs, hc⟩
          | true =>
            simp only [if_true] at hc ⊢
            refine ⟨h4, S3, ε3, rfl, er4.mono g4.ext, hr4, ?_⟩
            cases z2 : a ε3 S3 with
            | bad => simp only [z2] at hc; cases hc
            | exc c fs S4 => simp only [z2] at hc; cases hc
            | ok dy S4 =>
              simp only [z2] at hc
              intro y h5 g5 ry hr5
              have gg := (g3.trans g4).trans g5
              obtain ⟨e5, n5⟩ := gg.keep D _ hDa D2
              have D5 : D ∈ h5.B := by rw [gg.B, hB]; exact List.mem_cons_self
              cases z3 : compL g t a (wipeE ε (own.map (·.2))) (ds.drop (i + 1)) S4 with
              | bad => simp only [z3] at hc; cases hc
              | exc c fs S5 => simp only [z3] at hc; cases hc
              | ok xs3 S5 =>
                simp only [z3] at hc
                cases hc
                refine ⟨acc, e5, by omega, { h5 with H := upd h5.H D (.lst (acc ++ [y])) }, S4, acc ++ [y], accD ++ [dy], xs3, rfl, gg.B.trans hB, (x2.trans gg.ext).trans (ext_hidden D5 _), fun b o e n => ?_, hr5.hidden D5 _, upd_same,
                  (((ra.mono gg.ext).mono (ext_hidden D5 _)).snoc (ry.mono (ext_hidden D5 _))), by simp; omega, by rw [exs]; simp, z3⟩
                obtain ⟨e1, n1⟩ := k2 b o e n
                obtain ⟨e6, n6⟩ := gg.keep b o e1 n1
                exact ⟨by show upd h5.H D _ b = _; rw [upd_ne (ne_of_none e hD)]; exact e6, n6⟩
  · have ei : i = ds.length := by omega
    subst ei
    rw [List.drop_length] at hc
    unfold compL at hc
    cases hc
    rw [List.append_nil] at exs
    subst exs
    refine .inl ⟨r1.2.1 _ h2 _ x2 hr2 (Nat.le_refl _), ?_⟩
    have D2 : some D ∉ h2.m := (hr2.hid D (by rw [hB]; exact List.mem_cons_self)).1
    exact fin h2 D acc hB x2 k2 hr2 hD hDa ra
theorem i_compN (hc : X.calm = true) (hN : X.N.Nodup) (hi : II X T W tg iter it) (ok : BlkOk X.N X.env.scope scope own)
    (hg : ∀ (s : Shared) (H : Hp) (C : Addr) (cl : List (Str × Addr)) (fp : List Addr), GI (X.blk s H scope (compEnvC scope cl C X.env) fp) T tg g) (ht : ∀ (s : Shared) (H : Hp) (C : Addr) (cl : List (Str × Addr)) (fp : List Addr), QI (X.blk s H scope (compEnvC scope cl C X.env) fp) T wNo ifs t)
    (he : ∀ (s : Shared) (H : Hp) (C : Addr) (cl : List (Str × Addr)) (fp : List Addr), EI (X.blk s H scope (compEnvC scope cl C X.env) fp) T wNo elt a) (hown : ∀ j ∈ slotsT g, j ∈ own.map (·.2) := by decide) (hs : ∀ x, foldedSetIterable iter X.env x = pure x := by intro _; rfl) :
    EI X T W (.ListComp elt [⟨tg, iter, ifs, 0⟩] scope pos) (eCompNew (own.map (·.2)) it g t a) := by
  refine wkE (pe_lc (g := tgD X.K T g) (tt := tG X.K T wNo REq t) (te := tG X.K T wNo (RV X.K T) a) hc hN hi ok hg ht he hs) fun σ H Q ⟨h, S, ε, e, er, hr, p⟩ => ⟨h, S, ε, e, er, hr, (Post.bind p).imp fun J H1 ⟨h1, S1, ds, e1, g1, r1, hr1, p1⟩ => ?_⟩
  subst e1
  split at p1
  · rename_i hl
    refine compH_core r1 hr1 (er.mono g1.ext) hl hown ?_
    cases z : compL g t a (wipeE ε (own.map (·.2))) ds S1 with
    | bad => rw [z] at p1; exact p1.elim
    | exc c fs S3 => rw [z] at p1; exact p1.elim
    | ok xs S3 =>
      rw [z] at p1
      refine ⟨xs, S3, rfl, fun h2 D acc hB x2 k2 hr2 hD eD ra => ?_⟩
      obtain ⟨xt, ht⟩ := adopt hB (fun z => (hr1.hid D z).2 hD) hr2 eD ra
      refine p1 (.ref D) { m := h2.m ++ [some D], B := h1.B, H := h2.H } ⟨rfl, fun n o e => ?_, fun b o e n => ?_⟩ (.ref (o := some D) ?_ fun b e => by cases e; rfl) ht
      · rcases x2.slot n o e with z | z
        · exact .inl ((List.getElem?_append_left (List.getElem?_eq_some_iff.mp z).1).trans z)
        · exact .inr ((List.getElem?_append_left (List.getElem?_eq_some_iff.mp z).1).trans z)
      · obtain ⟨e2, n2⟩ := k2 b o e n
        refine ⟨e2, fun z => ?_⟩
        rcases List.mem_append.mp (show some b ∈ h2.m ++ [some D] from z) with z | z
        · exact n2 z
        · simp at z; rw [z, hD] at e; cases e
      · show (h2.m ++ [some D])[S3.length]? = some (some D)
        rw [← hr2.len]; simp
  · exact p1.elim
end
end G

namespace G
open PySem PySem.Spec PyProof.Rows L2
theorem hu64 {A : Around} {k : Nat} (h : RoomG k A) : A.units + 64 < cLine := h.units
theorem hu70 {A : Around} {k : Nat} (h : RoomG k A) : A.units + 70 < cLine := by have := h.un; omega
theorem hu70m {A : Around} {k : Nat} {a : Option Value} (h : RoomG k A) : (A.mark a).units + 70 < cLine := by have := h.un; show A.units + 70 < cLine; omega
theorem hu64m {A : Around} {k : Nat} {a : Option Value} (h : RoomG k A) : (A.mark a).units + 64 < cLine := h.units
theorem hu65m {A : Around} {k : Nat} {a : Option Value} (h : RoomG k A) : (A.mark a).units + 65 < cLine := by have := h.un; show A.units + 65 < cLine; omega
theorem hu65 {A : Around} {k : Nat} (h : RoomG k A) : A.units + 65 < cLine := by have := h.un; omega
theorem FnG.none {P : Program} {w : World} {K : PySem.W.Frag} {mg : Str → Option Value} {base : Heap} {T : Tab} {k : Nat} {f : Addr} {fd : FuncData} {ps : List Str} : FnG P w K mg base k f fd ps (spI K T (fun _ _ => .bad)) :=
  ⟨fun _ _ _ _ ⟨_, _, _, _, _, _, p⟩ => p.elim, fun _ _ _ _ _ _ _ _ _ _ _ _ _ ⟨_, _, _, _, _, _, p⟩ => p.elim⟩
end G
namespace G
open PySem PySem.Spec PyProof.Rows L2
theorem exm_of {K : PySem.W.Frag} {C S : Addr} {b : Bool} (h1 : PySem.W.subIn K (.ref S) (.type "BaseException") = some true) (h2 : PySem.W.isClsIn K S = true) (h3 : PySem.W.typeIn K (.ref S) = some (.type "type")) (h4 : PySem.W.subIn K (.ref C) (.ref S) = some b) :
    PySem.W.exmOne K (.ref C) (.ref S) = some b := by
  unfold PySem.W.exmOne
  rw [h1, if_pos (by decide)]
  have h2' : (PySem.W.clsIn K S).isSome = true := h2
  show (if ((PySem.W.clsIn K S).isSome && PySem.W.typeIn K (.ref S) == some (.type "type")) = true then PySem.W.subIn K (.ref C) (.ref S) else none) = some b
  rw [h2', h3, if_pos (by rfl), h4]
end G

/-! the law's own call, by a promise of FnG -/
namespace G
open PySem PySem.Spec PyProof.Rows L2
section
variable {P : Program} {w : World} {K : PySem.W.Frag} {mg mb : Str → Option Value} {k : Nat} {fa a : Addr} {fd : FuncData} {x : Str} {sp : Sp} {s₁ : Shared} {vs : List Value} {ns : List Int}
/-- from an abstract heap that tracks nothing but the script -/
theorem call_core {H : Hp} (KX : K.In s₁.heap) (hns : s₁.heap.Ns mainGlobals mg) (hb : s₁.heap.Ns builtinsNs mb) (hbb : ∀ x : Str, x ≠ "__name__" → mb x = bootBuiltins x) (hlim : s₁.heap.NoLimit) (hg : s₁.gens = #[])
    (ha : s₁.heap.get? a = some { cls := .type "list", data := .seq vs.toArray }) (hr : RoomG k callerA)
    (F : ∀ base : Heap, K.In base → base.Ns mainGlobals mg → FnG P w K mg base k fa fd [x] sp) (hbind : ∀ (s : Shared) (u : Value), BindsTo s fd ⟨[u], []⟩ [(x, u)])
    (hsp : sp [.ref a] H (fun v _ => v = .bl true) fun _ _ _ => False) (hO : Only H) (hok : HOk P w H s₁.heap) (hA : ∀ b, H b ≠ none → b = a) (hK : H a ≠ none → K.lookup a = none) :
    codeAny (model P w) callerA (.call (.ref fa) ⟨[.ref a], []⟩) (fun r s' => r = .ok (.ret (.bool true)) ∧ OldK s₁.heap s'.heap ∧ s'.os = s₁.os ∧ AllBare s'.gens) s₁ := by
  -- what is tracked is the script alone
  have out : ∀ b, b ≠ a → H b = none := fun b hb => Classical.byContradiction fun z => hb (hA b z)
  have dict : ∀ {b : Addr} {o : Obj} {es : Array DictEntry} {ep : Nat}, s₁.heap.get? b = some o → o.data = .dict es ep → H b = none := fun {b o es ep} e d => out b fun z => by
    rw [z, ha] at e
    cases e
    cases d
  have names : ∀ {b : Addr} {m : Str → Option Value}, s₁.heap.Ns b m → (hidT s₁.heap H).Ns b m := fun ⟨o, es, ep, e, d, r⟩ => ⟨o, es, ep, hidT_get e (dict e d), d, r⟩
  have hKb : K.In (hidT s₁.heap H) := fun b o e => hidT_get (KX b o e) (Classical.byContradiction fun q => by
    have z := hA b q
    rw [z] at q e
    rw [hK q] at e
    cases e)
  obtain ⟨mc, l1, l2⟩ := hlim
  have e0 : Env0 P w K mg (hidT s₁.heap H) callerA [] s₁ H :=
    ⟨rfl, ⟨hKb, names hns, ⟨mb, names hb, hbb⟩, ⟨mc, names l1, l2⟩⟩, fun b o e => of_hidT e, Nat.le_of_eq (hidT_size _ _), trivial, (fun b z => nomatch (show b ∈ ([] : List Addr) from z)), hok, .of_eq hg⟩
  refine codeAny_mono ((F _ hKb (names hns)).run callerA [] s₁ H ⟨[.ref a], []⟩ [.ref a] [.ref a] _ _ hr e0 (hbind s₁ (.ref a)) (.cons rfl .nil) hsp) fun r s' q => ?_
  cases r with
  | error e =>
    obtain ⟨_, _, _, _, _, _, _, _, _, _, _, _, z⟩ := q
    exact z.elim
  | ok fl =>
    cases fl with
    | next => exact q.elim
    | brk => exact q.elim
    | cont => exact q.elim
    | ret u =>
      obtain ⟨v, H', os, bare, un, hok', rv, qv⟩ := q
      have qv' : v = .bl true := qv
      rw [qv'] at rv
      have eu : u = Value.bool true := rv
      rw [eu]
      refine ⟨rfl, OldK.of_keep fun b o e => ?_, os, bare⟩
      rcases hO b with z | ⟨ob, xs, z⟩
      · exact un.keep b o e z (fun q => nomatch (show b ∈ ([] : List Addr) from q)) (fun q => nomatch (show b ∈ ([] : List Addr) from q))
      · obtain ⟨e1, _⟩ := hok b _ z
        rw [e] at e1
        cases e1
        exact (hok' b _ (un.frzs b _ _ z)).1
theorem law_callG (KX : K.In s₁.heap) (hns : s₁.heap.Ns mainGlobals mg) (hb : s₁.heap.Ns builtinsNs mb) (hbb : ∀ x : Str, x ≠ "__name__" → mb x = bootBuiltins x) (hlim : s₁.heap.NoLimit) (hg : s₁.gens = #[])
    (ha : s₁.heap.get? a = some { cls := .type "list", data := .seq vs.toArray }) (hi : IntsAre vs ns) (hl : ns.length ≤ sizeLine) (hr : RoomG k callerA)
    (F : ∀ base : Heap, K.In base → base.Ns mainGlobals mg → FnG P w K mg base k fa fd [x] sp) (hbind : ∀ (s : Shared) (u : Value), BindsTo s fd ⟨[u], []⟩ [(x, u)])
    (hsp : ∀ H : Hp, Only H → SqL K H a (ns.map V.int) → sp [.ref a] H (fun v _ => v = .bl true) fun _ _ _ => False) :
    codeAny (model P w) callerA (.call (.ref fa) ⟨[.ref a], []⟩) (fun r s' => r = .ok (.ret (.bool true)) ∧ OldK s₁.heap s'.heap ∧ s'.os = s₁.os ∧ AllBare s'.gens) s₁ := by
  have rv := vals_ints hi
  cases hk : K.lookup a with
  | some o =>
    have e := KX a o hk
    rw [ha] at e
    cases e
    have O : Only (fun _ => none) := fun _ => .inl rfl
    exact call_core KX hns hb hbb hlim hg ha hr F hbind (hsp _ O (.inr ⟨_, vs.toArray, _, hk, rfl, rfl, rfl, by rw [List.size_toArray, hi.length]; exact hl, by simpa using rv⟩)) O (fun b u z => nomatch z) (fun b z => absurd rfl z) fun z => absurd rfl z
  | none =>
    let o : HO := .frz { cls := .type "list", data := .seq vs.toArray } (.lst (ns.map V.int))
    let H : Hp := fun b => if b = a then some o else none
    have at_ : H a = some o := if_pos rfl
    have off : ∀ b, b ≠ a → H b = none := fun b z => if_neg z
    have O : Only H := fun b => (Classical.em (b = a)).elim (fun z => .inr ⟨_, _, if_pos z⟩) fun z => .inl (off b z)
    refine call_core KX hns hb hbb hlim hg ha hr F hbind (hsp H O (.inl (.inr ⟨_, at_⟩))) O (fun b u z => ?_) (fun b z => Classical.byContradiction fun q => z (off b q)) fun _ => hk
    by_cases q : b = a
    · subst q
      rw [at_] at z
      cases z
      exact ⟨ha, by rw [List.length_map]; exact hl, vs, _, rv, ha⟩
    · rw [off b q] at z
      cases z
end
theorem walk_ofG {l : PySem.W.OpenLaw} {n k : Nat} {q : Program} {loose : List Str} {XP : (Str → Option Value) → Heap → Prop} {YP : World → Heap → Prop} {d : DefRec} {K : Params → PySem.W.Frag} {sp : World → Sp} {x : Str}
    (hn : l.most = some n) (hn2 : n ≤ sizeLine) (hdf : d.params.defaults = []) (hr : RoomG k callerA) (hY : ∀ (w : World) (h : Heap), YP w h → (K w.params).In h)
    (F : ∀ (w : World) (mg : Str → Option Value) (fa : Addr) (h : Heap), (K w.params).In h → h.Ns mainGlobals mg → mg d.name = some (.ref fa) →
      ∃ fd : FuncData, (∀ (s : Shared) (u : Value), BindsTo s fd ⟨[u], []⟩ [(x, u)]) ∧ ∀ base : Heap, (K w.params).In base → base.Ns mainGlobals mg → FnG l.prog w (K w.params) mg base k fa fd [x] (sp w))
    (hsp : ∀ (w : World) (H : Hp) (a : Addr) (ns : List Int), ns.length ≤ n → Only H → SqL (K w.params) H a (ns.map V.int) → sp w [.ref a] H (fun v _ => v = .bl true) fun _ _ _ => False) :
    PySem.W.WalkO q loose XP YP l.row.toRowW d [] (fun f vs => PySem.call f vs) :=
  Att.attach_call hn hdf fun w s₀ s₁ mg mb fa o pm cd doc a vs ns G Y ho hd hcd hmg hobj hints hlen hg => by
    have KX := hY w _ Y
    obtain ⟨fd, hb, hF⟩ := F w mg fa _ KX G.T.g hmg
    exact law_callG KX G.T.g G.T.b G.T.builtins G.T.nolimit hg hobj hints (Nat.le_trans hlen hn2) hr hF hb fun H hO hS => hsp w H a ns hlen hO hS
/-! ## repr -/
theorem raise_any {M : Model} {Γ : PySem.Ctx} {α β : Type} {e : Value} {Q1 : α → Pos → Shared → Prop} {Q2 : β → Pos → Shared → Prop} {E : Value → Pos → Shared → Prop} {p : Pos} {s : Shared} (h : Sem.wp M Γ (raiseNew e : Sem α) Q1 E p s) : Sem.wp M Γ (raiseNew e : Sem β) Q2 E p s := by
  unfold raiseNew at h ⊢
  rw [Sem.wp_bind'] at h ⊢
  refine Sem.wp_mono M Γ _ (fun b p1 s1 h1 => ?_) (fun _ _ _ x => x) _ _ h
  dsimp only at h1 ⊢
  cases e with
  | ref a =>
    cases b with
    | none => exact h1
    | some x =>
      dsimp only at h1 ⊢
      by_cases c : (x != Value.ref a) = true
      · rw [if_pos c] at h1 ⊢
        rw [Sem.wp_bind'] at h1 ⊢
        refine Sem.wp_mono M Γ _ (fun b p2 s2 h2 => ?_) (fun _ _ _ x => x) _ _ h1
        rw [Sem.wp_bind'] at h2 ⊢
        exact Sem.wp_mono M Γ _ (fun b p3 s3 h3 => h3) (fun _ _ _ x => x) _ _ h2
      · rw [if_neg c] at h1 ⊢
        exact h1
  | _ => exact h1
theorem repr_of_obj {M : Model} {A : Around} {E : Value → Shared → Prop} {s : Shared} {v : Value} {Q : Fin → Shared → Prop} (h : wpAny M A (pyReprObj v) (fun r s' => Q (.done (.ret r)) s') E s) : wpAny M A (Builtin.«repr» ⟨[v], []⟩) Q E s := fun Γ p hΓ => by
  have h' := h Γ p hΓ
  have e : Builtin.«repr» ⟨[v], []⟩ = (do
    cRoomFor "repr" [v]
    if (← specialOf v "__repr__").isNone then unsupported "internal:no-__repr__"
    let some r ← callSpecialIfBound? v "__repr__" | unsupported "repr:special-get-raises"
    if ← isInstance r (.type "str") then ret r
    else rule "repr.not-str"; raiseError "TypeError" s!"__repr__ returned non-string (type {← typeNameOf r})") := rfl
  rw [e]
  unfold pyReprObj at h'
  rw [Sem.wp_bind'] at h' ⊢
  refine Sem.wp_mono M Γ _ (fun a p1 s1 h1 => ?_) (fun _ _ _ x => x) _ _ h'
  rw [Sem.wp_bind'] at h1 ⊢
  refine Sem.wp_mono M Γ _ (fun a p2 s2 h2 => ?_) (fun _ _ _ x => x) _ _ h1
  dsimp only at h2 ⊢
  have unsup : ∀ {α β : Type} (why : String) (Q1 : α → Pos → Shared → Prop) (Q2 : β → Pos → Shared → Prop) (E1 E2 : Value → Pos → Shared → Prop) (p : Pos) (s : Shared), Sem.wp M Γ (unsupported why : Sem α) Q1 E1 p s → Sem.wp M Γ (unsupported why : Sem β) Q2 E2 p s := by
    intro α β why Q1 Q2 E1 E2 p s hh
    exact hh
  have tail : ∀ p s, Sem.wp M Γ (do
      let __do_lift ← callSpecialIfBound? v (Str.ofString "__repr__")
      match __do_lift with
        | some r => do
          let __do_lift ← isInstance r (Value.type "str")
          if __do_lift = true then pure r
            else raiseError "TypeError" s!"__repr__ returned non-string (type {← typeNameOf r})"
        | none => unsupported "repr:special-get-raises") (fun r _ s' => Q (Fin.done (Flow.ret r)) s') (fun e _ s' => E e s') p s →
      Sem.wp M Γ (do
      let __do_lift ← callSpecialIfBound? v (Str.ofString "__repr__")
      match __do_lift with
        | some r => do
          let __do_lift ← isInstance r (Value.type "str")
          if __do_lift = true then ret r
            else do
              rule "repr.not-str"
              raiseError "TypeError" s!"__repr__ returned non-string (type {← typeNameOf r})"
        | _ => unsupported "repr:special-get-raises") (fun r _ s' => Q r s') (fun e _ s' => E e s') p s := by
    intro p s hh
    rw [Sem.wp_bind'] at hh ⊢
    refine Sem.wp_mono M Γ _ (fun a p1 s1 h1 => ?_) (fun _ _ _ x => x) _ _ hh
    cases a with
    | none => exact h1
    | some r =>
      dsimp only at h1 ⊢
      rw [Sem.wp_bind'] at h1 ⊢
      refine Sem.wp_mono M Γ _ (fun b p2 s2 h2 => ?_) (fun _ _ _ x => x) _ _ h1
      cases b with
      | true => exact h2
      | false =>
        simp only [Bool.false_eq_true, if_false] at h2 ⊢
        rw [Sem.wp_bind']
        simp only [Sem.wp_cmd_rule] at h2 ⊢
        rw [Sem.wp_bind'] at h2 ⊢
        refine Sem.wp_mono M Γ _ (fun b p3 s3 h3 => ?_) (fun _ _ _ x => x) _ _ h2
        unfold raiseErrorMade at h3 ⊢
        repeat (first | exact raise_any h3 | (rw [Sem.wp_bind'] at h3 ⊢; refine Sem.wp_mono M Γ _ (fun b p3 s3 h3 => ?_) (fun _ _ _ x => x) _ _ h3))
  cases a with
  | none => exact h2
  | some f => exact tail _ _ h2
section
variable {prog : Program} {w : World} {A : Around} {E : Value → Shared → Prop} {s : Shared}
/-- the text object of data -/
theorem reprObj_top : ∀ {v : Value} {d : PyData} {as : List Addr}, Reads s.heap v d as → d.showable = true → d.hasDict = false → d.shown.length ≤ sizeLine → A.guards = some [] → A.units + (d.depth + 2) < cLine →
    ∀ {Q : Value → Shared → Prop}, (∀ h' u tk, (∀ b o, s.heap.get? b = some o → h'.get? b = some o) → Q (.str d.shown u) { s with heap := h', toks := tk }) → wpAny (model prog w) A (pyReprObj v) Q E s
  | _, _, _, .none, _, _, _, _, _, Q, hQ => pyReprObj_none (hQ s.heap _ _ fun _ _ e => e)
  | _, _, _, .bool b, _, _, _, _, _, Q, hQ => pyReprObj_bool (hQ s.heap _ _ fun _ _ e => e)
  | _, _, _, .int i t, hs, _, _, _, _, Q, hQ => pyReprObj_int (by simpa [PyData.showable] using hs) (hQ s.heap _ _ fun _ _ e => e)
  | _, _, _, .str x t, _, _, hz, _, _, Q, hQ => pyReprObj_str (hQ s.heap _ _ fun _ _ e => e) (by simpa only [PyData.shown] using hz)
  | _, _, _, .list (a := a) (vs := vs) (xs := xs) h1 h2 h3 h4, hs, hd, hz, hg, hu, Q, hQ => by
    have hz' : (listText (PyData.shownAll xs)).length ≤ sizeLine := by simpa only [PyData.shown] using hz
    obtain ⟨bs, hb, hk⟩ := ReprAllK.of_readsAll (prog := prog) (w := w) h4 (by simpa [PyData.showable] using hs) (fun hx => by simp only [PyData.hasDict] at hd; rw [hd] at hx; cases hx) (fun t ht => Nat.le_trans (listText_mem_le ht) hz')
    have r : Reads s.heap (.ref a) (.list xs) _ := .list h1 h2 h3 h4
    have hna : a ∉ bs := not_mem_of_deeper r (by simp only [PyData.depth]; omega) hb
    simp only [PyData.depth] at hu
    simp only [PyData.shown] at hQ
    obtain ⟨l⟩ := vs
    cases l with
    | nil =>
      have h4' : ReadsAll s.heap [] xs _ := h4
      cases h4'
      simp only [PyData.shownAll, listText_nil] at hQ
      exact wpAny_pyReprObj_list_empty ⟨_, h1, h2⟩ (by omega) h1 h3 (hQ s.heap _ _ fun _ _ e => e)
    | cons x l => exact wpAny_pyReprObj_listK h1 h2 h3 hna (by simpa using hk.length_eq) (fun i y e => hk.item i y (by simpa using e)) hg (fun b _ => Clear.nil b) (by omega) (fun _ _ e => e) (fun h' u tk hk' => hQ h' u tk hk') hz'
  | _, _, _, .tuple (a := a) (xs := xs) h1 h2 h3 h4, hs, hd, hz, hg, hu, Q, hQ => by
    have hz' : (tupleText (PyData.shownAll xs)).length ≤ sizeLine := by simpa only [PyData.shown] using hz
    obtain ⟨bs, hb, hk⟩ := ReprAllK.of_readsAll (prog := prog) (w := w) h4 (by simpa [PyData.showable] using hs) (fun hx => by simp only [PyData.hasDict] at hd; rw [hd] at hx; cases hx) (fun t ht => Nat.le_trans (tupleText_mem_le ht) hz')
    have r : Reads s.heap (.ref a) (.tuple xs) _ := .tuple h1 h2 h3 h4
    have hna : a ∉ bs := not_mem_of_deeper r (by simp only [PyData.depth]; omega) hb
    simp only [PyData.depth] at hu
    simp only [PyData.shown] at hQ
    exact wpAny_pyReprObj_tupleK h1 h2 h3 hna hk hg (fun b _ => Clear.nil b) (by omega) (fun _ _ e => e) (fun h' u tk hk' => hQ h' u tk hk') hz'
  | _, _, _, .dict _ _ _ _ _, _, hd, _, _, _, _, _ => by simp [PyData.hasDict] at hd
/-- repr(v), v data of the heap -/
theorem call_reprD {v : Value} {d : PyData} {as : List Addr} {Q : Value → Shared → Prop} (r : Reads s.heap v d as) (hs : d.showable = true) (hd : d.hasDict = false) (hz : d.shown.length ≤ sizeLine) (hg : A.guards = some []) (hu : A.units + (d.depth + 3) < cLine)
    (hQ : ∀ h' u tk, (∀ b o, s.heap.get? b = some o → h'.get? b = some o) → Q (.str d.shown u) { s with heap := h', toks := tk }) : wpAny (model prog w) A (call (.builtin "repr") [v]) Q E s := by
  refine Calls.call_function_entry PySem.F.kind_repr PySem.F.plain_repr PySem.F.entry_repr (PySem.F.args_repr1 _) ?_
  exact repr_of_obj (reprObj_top (A := A.in1) r hs hd hz hg (by show A.units + 1 + (d.depth + 2) < cLine; omega) fun h' u tk k => ⟨_, rfl, hQ h' u tk k⟩)
end
mutual
theorem lay_noDict : ∀ (d : PyData), d.canLay0 = true → d.hasDict = false
  | .none, _ => rfl
  | .bool _, _ => rfl
  | .int _, _ => rfl
  | .str _, _ => rfl
  | .list xs, h => by simp only [PyData.hasDict]; exact lays_noDict xs (by simpa [PyData.canLay0] using h)
  | .tuple xs, h => by simp only [PyData.hasDict]; exact lays_noDict xs (by simpa [PyData.canLay0] using h)
  | .dict _, h => by simp [PyData.canLay0] at h
theorem lays_noDict : ∀ (ds : List PyData), PyData.canLayAll0 ds = true → PyData.hasDictAll ds = false
  | [], _ => rfl
  | d :: ds, h => by
    simp only [PyData.canLayAll0, Bool.and_eq_true] at h
    simp only [PyData.hasDictAll, lay_noDict d h.1, lays_noDict ds h.2, Bool.or_false]
end
/-- what repr makes of data -/
noncomputable def reprD (x : Da) : Option Str := match toPy x with
  | some p => if p.showable = true ∧ p.shown.length ≤ sizeLine then some p.shown else none
  | none => none
noncomputable def dRepr (xs : List Da) (S : Sto) : Option (Da × Sto) := match xs with
  | [x] => if shp 64 (drf S x) = true then (reprD (drf S x)).map fun t => (.str t, S) else none
  | _ => none
theorem o_repr {X : Cx} {T : Tab} (hg : X.A.guards = some []) (hu : X.A.units + 70 < cLine) : CallR X (.builtin "repr") (rDN X.K T dRepr) := by
  intro pins s σ H xs us Q I r ⟨h, S, ds, e, hr, rv, p⟩
  subst e
  unfold dRepr at p
  split at p
  · rename_i d
    split at p
    · rename_i hs
      obtain ⟨x, rfl, rx⟩ := rv.one
      obtain ⟨u, rfl, ru⟩ := vals1 r
      obtain ⟨pd, e1, hc, hd⟩ := toPy_shp _ _ hs
      unfold reprD at p
      rw [e1] at p
      dsimp only at p
      split at p
      · rename_i hh
        obtain ⟨as, rd⟩ := Dp.reads I _ _ _ ((rx.drf hr).dp e1) ru
        refine call_reprD rd hh.1 (lay_noDict _ hc) hh.2 hg (by omega) fun h' u' tk k => ?_
        exact ⟨.str pd.shown, _, I.kept (t' := tk) k, ⟨u', rfl⟩, PostO.ret p (.str _) hr⟩
      · exact p.elim
    · exact p.elim
  · exact p.elim
end G

namespace Qk10
open PySem PySem.Spec PyProof.Rows L2 G
def top (i : Nat) : Stmt := PySem.Challenge.pw_gentleweb_k10_whole_fractions.main.body.getD i (.Pass ⟨0, 0, 0, 0⟩)
abbrev s__law_taken : Stmt := top 21
abbrev N__law_taken : List Str := ["row", "many", "cell", "found"]
theorem sc__law_taken : FnScope N__law_taken ["row", "many"] (defScope s__law_taken) := ⟨rfl, rfl, rfl, by decide +kernel, rfl, by decide +kernel, by decide +kernel⟩
abbrev s_reduced : Stmt := top 7
abbrev N_reduced : List Str := ["top", "bottom", "one", "other"]
theorem sc_reduced : FnScope N_reduced ["top", "bottom"] (defScope s_reduced) := ⟨rfl, rfl, rfl, by decide +kernel, rfl, by decide +kernel, by decide +kernel⟩
abbrev s__law_alike : Stmt := top 22
abbrev N__law_alike : List Str := ["found", "due", "k"]
theorem sc__law_alike : FnScope N__law_alike ["found", "due"] (defScope s__law_alike) := ⟨rfl, rfl, rfl, by decide +kernel, rfl, by decide +kernel, by decide +kernel⟩
abbrev s__law_low : Stmt := top 24
abbrev N__law_low : List Str := ["top", "bottom", "here", "one"]
theorem sc__law_low : FnScope N__law_low ["top", "bottom"] (defScope s__law_low) := ⟨rfl, rfl, rfl, by decide +kernel, rfl, by decide +kernel, by decide +kernel⟩
abbrev s_is_row : Stmt := top 5
abbrev N_is_row : List Str := ["value"]
theorem sc_is_row : FnScope N_is_row ["value"] (defScope s_is_row) := ⟨rfl, rfl, rfl, by decide +kernel, rfl, by decide +kernel, by decide +kernel⟩
abbrev s_is_whole : Stmt := top 4
abbrev N_is_whole : List Str := ["value"]
theorem sc_is_whole : FnScope N_is_whole ["value"] (defScope s_is_whole) := ⟨rfl, rfl, rfl, by decide +kernel, rfl, by decide +kernel, by decide +kernel⟩
abbrev s_is_fraction : Stmt := top 8
abbrev N_is_fraction : List Str := ["value"]
theorem sc_is_fraction : FnScope N_is_fraction ["value"] (defScope s_is_fraction) := ⟨rfl, rfl, rfl, by decide +kernel, rfl, by decide +kernel, by decide +kernel⟩
abbrev s_plus : Stmt := top 10
abbrev N_plus : List Str := ["one", "other"]
theorem sc_plus : FnScope N_plus ["one", "other"] (defScope s_plus) := ⟨rfl, rfl, rfl, by decide +kernel, rfl, by decide +kernel, by decide +kernel⟩
abbrev s_minus : Stmt := top 11
abbrev N_minus : List Str := ["one", "other"]
theorem sc_minus : FnScope N_minus ["one", "other"] (defScope s_minus) := ⟨rfl, rfl, rfl, by decide +kernel, rfl, by decide +kernel, by decide +kernel⟩
abbrev s_times : Stmt := top 12
abbrev N_times : List Str := ["one", "other"]
theorem sc_times : FnScope N_times ["one", "other"] (defScope s_times) := ⟨rfl, rfl, rfl, by decide +kernel, rfl, by decide +kernel, by decide +kernel⟩
abbrev s_over : Stmt := top 13
abbrev N_over : List Str := ["one", "other"]
theorem sc_over : FnScope N_over ["one", "other"] (defScope s_over) := ⟨rfl, rfl, rfl, by decide +kernel, rfl, by decide +kernel, by decide +kernel⟩
abbrev s__law_truth : Stmt := top 23
abbrev N__law_truth : List Str := ["found", "due"]
theorem sc__law_truth : FnScope N__law_truth ["found", "due"] (defScope s__law_truth) := ⟨rfl, rfl, rfl, by decide +kernel, rfl, by decide +kernel, by decide +kernel⟩
abbrev s_is_less : Stmt := top 14
abbrev N_is_less : List Str := ["one", "other"]
theorem sc_is_less : FnScope N_is_less ["one", "other"] (defScope s_is_less) := ⟨rfl, rfl, rfl, by decide +kernel, rfl, by decide +kernel, by decide +kernel⟩
abbrev s_floor_of : Stmt := top 15
abbrev N_floor_of : List Str := ["one"]
theorem sc_floor_of : FnScope N_floor_of ["one"] (defScope s_floor_of) := ⟨rfl, rfl, rfl, by decide +kernel, rfl, by decide +kernel, by decide +kernel⟩
abbrev s_ceiling_of : Stmt := top 16
abbrev N_ceiling_of : List Str := ["one"]
theorem sc_ceiling_of : FnScope N_ceiling_of ["one"] (defScope s_ceiling_of) := ⟨rfl, rfl, rfl, by decide +kernel, rfl, by decide +kernel, by decide +kernel⟩
abbrev s_nearest : Stmt := top 17
abbrev N_nearest : List Str := ["one"]
theorem sc_nearest : FnScope N_nearest ["one"] (defScope s_nearest) := ⟨rfl, rfl, rfl, by decide +kernel, rfl, by decide +kernel, by decide +kernel⟩
abbrev s_total : Stmt := top 18
abbrev N_total : List Str := ["rows", "found", "one"]
theorem sc_total : FnScope N_total ["rows"] (defScope s_total) := ⟨rfl, rfl, rfl, by decide +kernel, rfl, by decide +kernel, by decide +kernel⟩
abbrev s_median : Stmt := top 19
abbrev N_median : List Str := ["rows", "row", "one", "place", "first", "second", "other"]
theorem sc_median : FnScope N_median ["rows"] (defScope s_median) := ⟨rfl, rfl, rfl, by decide +kernel, rfl, by decide +kernel, by decide +kernel⟩
abbrev s_want_fraction : Stmt := top 9
abbrev N_want_fraction : List Str := ["value"]
theorem sc_want_fraction : FnScope N_want_fraction ["value"] (defScope s_want_fraction) := ⟨rfl, rfl, rfl, by decide +kernel, rfl, by decide +kernel, by decide +kernel⟩
abbrev s_law : Stmt := top 25
abbrev N_law : List Str := ["script", "row", "wholes", "best", "part", "middle", "below", "above", "value", "a", "b", "c", "d", "one", "other", "rows", "whole", "e", "k"]
theorem sc_law : FnScope N_law ["script"] (defScope s_law) := ⟨rfl, rfl, rfl, by decide +kernel, rfl, by decide +kernel, by decide +kernel⟩
structure Txt (P : Program) (K : PySem.W.Frag) (mg : Str → Option Value) (T : Tab) : Prop where
  mg_abs : mg "abs" = none
  mg_bool : mg "bool" = none
  mg_int : mg "int" = none
  mg_isinstance : mg "isinstance" = none
  mg_len : mg "len" = none
  mg_list : mg "list" = none
  mg_max : mg "max" = none
  mg_min : mg "min" = none
  mg_range : mg "range" = none
  mg_repr : mg "repr" = none
  mg_str : mg "str" = none
  mg_tuple : mg "tuple" = none
  fun__law_taken : ∃ f fd, Fun K "_law_taken" "_law_taken" s__law_taken f fd ∧ mg "_law_taken" = some (.ref f) ∧ Binds K fd ["row", "many"] []
  fun_reduced : ∃ f fd, Fun K "reduced" "reduced" s_reduced f fd ∧ mg "reduced" = some (.ref f) ∧ Binds K fd ["top", "bottom"] []
  fun__law_alike : ∃ f fd, Fun K "_law_alike" "_law_alike" s__law_alike f fd ∧ mg "_law_alike" = some (.ref f) ∧ Binds K fd ["found", "due"] []
  fun__law_low : ∃ f fd, Fun K "_law_low" "_law_low" s__law_low f fd ∧ mg "_law_low" = some (.ref f) ∧ Binds K fd ["top", "bottom"] []
  fun_is_row : ∃ f fd, Fun K "is_row" "is_row" s_is_row f fd ∧ mg "is_row" = some (.ref f) ∧ Binds K fd ["value"] []
  fun_is_whole : ∃ f fd, Fun K "is_whole" "is_whole" s_is_whole f fd ∧ mg "is_whole" = some (.ref f) ∧ Binds K fd ["value"] []
  fun_is_fraction : ∃ f fd, Fun K "is_fraction" "is_fraction" s_is_fraction f fd ∧ mg "is_fraction" = some (.ref f) ∧ Binds K fd ["value"] []
  fun_plus : ∃ f fd, Fun K "plus" "plus" s_plus f fd ∧ mg "plus" = some (.ref f) ∧ Binds K fd ["one", "other"] []
  fun_minus : ∃ f fd, Fun K "minus" "minus" s_minus f fd ∧ mg "minus" = some (.ref f) ∧ Binds K fd ["one", "other"] []
  fun_times : ∃ f fd, Fun K "times" "times" s_times f fd ∧ mg "times" = some (.ref f) ∧ Binds K fd ["one", "other"] []
  fun_over : ∃ f fd, Fun K "over" "over" s_over f fd ∧ mg "over" = some (.ref f) ∧ Binds K fd ["one", "other"] []
  fun__law_truth : ∃ f fd, Fun K "_law_truth" "_law_truth" s__law_truth f fd ∧ mg "_law_truth" = some (.ref f) ∧ Binds K fd ["found", "due"] []
  fun_is_less : ∃ f fd, Fun K "is_less" "is_less" s_is_less f fd ∧ mg "is_less" = some (.ref f) ∧ Binds K fd ["one", "other"] []
  fun_floor_of : ∃ f fd, Fun K "floor_of" "floor_of" s_floor_of f fd ∧ mg "floor_of" = some (.ref f) ∧ Binds K fd ["one"] []
  fun_ceiling_of : ∃ f fd, Fun K "ceiling_of" "ceiling_of" s_ceiling_of f fd ∧ mg "ceiling_of" = some (.ref f) ∧ Binds K fd ["one"] []
  fun_nearest : ∃ f fd, Fun K "nearest" "nearest" s_nearest f fd ∧ mg "nearest" = some (.ref f) ∧ Binds K fd ["one"] []
  fun_total : ∃ f fd, Fun K "total" "total" s_total f fd ∧ mg "total" = some (.ref f) ∧ Binds K fd ["rows"] []
  fun_median : ∃ f fd, Fun K "median" "median" s_median f fd ∧ mg "median" = some (.ref f) ∧ Binds K fd ["rows"] []
  fun_want_fraction : ∃ f fd, Fun K "want_fraction" "want_fraction" s_want_fraction f fd ∧ mg "want_fraction" = some (.ref f) ∧ Binds K fd ["value"] []
  fun_law : ∃ f fd, Fun K "law" "law" s_law f fd ∧ mg "law" = some (.ref f) ∧ Binds K fd ["script"] []
  x_BadNumber : mg "BadNumber" = some (.ref (T.cls 1)) ∧ PySem.GX.XTxt P K mg (T.cls 1) (T.fnA 101) "value"
  xf_BadNumber : XfC K (T.cls 1)
  xn_BadNumber_value : PySem.W.findIn K (.ref (T.cls 1)) "value" = some none
  exm_BadNumber : ∀ p ∈ ([(1, true)] : List (Nat × Bool)), PySem.W.exmOne K (.ref (T.cls p.1)) (.ref (T.cls 1)) = some p.2
theorem fn_value : PySem.GX.FName "value" := ⟨fun _ _ _ _ _ _ _ _ _ _ _ _ _ _ _ _ _ _ _ _ _ _ e hl => by subst e; exact PySem.GX.he_of hl rfl, by decide +kernel, by decide +kernel, by decide +kernel, by decide +kernel, by decide +kernel, fun _ _ _ _ _ _ => rfl, fun _ _ _ _ _ _ _ _ _ _ _ _ _ _ _ _ _ _ _ _ _ _ => BindsTo.of_eq (by first | rfl | with_unfolding_all rfl)⟩
section
variable {P : Program} {w : World} {K : PySem.W.Frag} {mg : Str → Option Value} {base : Heap} {T : Tab}
noncomputable def b__law_taken_1_1 : Sm := sSet 3 (eOp2 dMod (eOpN dInt (esCons (eOp2 dIx (eVar 0) (eC (.int 3))) esNil)) (eVar 1))
noncomputable def b__law_taken_1_2 : Sm := sSetIx (eVar 0) (eC (.int 3)) (eOp2 dDiv (eOp2 dIx (eVar 0) (eC (.int 3))) (eVar 1))
noncomputable def b__law_taken_1_3 : Sm := sRet (eVar 3)
noncomputable def b__law_taken_1 : Sm := sIf (tBl (eOp2 dGt (eOp2 dIx (eVar 0) (eC (.int 3))) (eC (.int 0)))) (sSeq b__law_taken_1_1 (sSeq b__law_taken_1_2 b__law_taken_1_3)) sNop
noncomputable def b__law_taken_2 : Sm := sSetIx (eVar 0) (eC (.int 1)) (eOp2 dAdd (eOp2 dIx (eVar 0) (eC (.int 1))) (eC (.int 1)))
noncomputable def b__law_taken_3_1 : Sm := sSetIx (eVar 0) (eC (.int 2)) (eOp2 dMod (eOpN dInt (esCons (eOp2 dAdd (eOp2 dMul (eOp2 dIx (eVar 0) (eC (.int 2))) (eC (.int 48271))) (eC (.int 11))) esNil)) (eC (.int 2147483647)))
noncomputable def b__law_taken_3_2 : Sm := sRet (eOp2 dMod (eOpN dInt (esCons (eOp2 dDiv (eOp2 dIx (eVar 0) (eC (.int 2))) (eC (.int 7))) esNil)) (eVar 1))
noncomputable def b__law_taken_3 : Sm := sIf (tBl (eOp2 dGt (eOp2 dIx (eVar 0) (eC (.int 1))) (eOpN dLen (esCons (eOp2 dIx (eVar 0) (eC (.int 0))) esNil)))) (sSeq b__law_taken_3_1 b__law_taken_3_2) sNop
noncomputable def b__law_taken_4 : Sm := sSet 2 (eOp2 dIx (eOp2 dIx (eVar 0) (eC (.int 0))) (eOp2 dSub (eOp2 dIx (eVar 0) (eC (.int 1))) (eC (.int 1))))
noncomputable def b__law_taken_5 : Sm := sSetIx (eVar 0) (eC (.int 2)) (eOp2 dMod (eOpN dInt (esCons (eOp2 dAdd (eOp2 dAdd (eOp2 dMul (eOp2 dIx (eVar 0) (eC (.int 2))) (eC (.int 48271))) (eVar 2)) (eC (.int 11))) esNil)) (eC (.int 2147483647)))
noncomputable def b__law_taken_6_1 : Sm := sSetIx (eVar 0) (eC (.int 3)) (eOp2 dDiv (eVar 2) (eVar 1))
noncomputable def b__law_taken_6 : Sm := sIf (tBl (eOp2 dGe (eVar 2) (eOp2 dPow (eC (.int 10)) (eC (.int 18))))) b__law_taken_6_1 sNop
noncomputable def b__law_taken_7 : Sm := sRet (eOp2 dMod (eOpN dInt (esCons (eVar 2) esNil)) (eVar 1))
noncomputable def b__law_taken : Sm :=
  (sSeq b__law_taken_1 (sSeq b__law_taken_2 (sSeq b__law_taken_3 (sSeq b__law_taken_4 (sSeq b__law_taken_5 (sSeq b__law_taken_6 b__law_taken_7))))))
theorem b__law_taken_eq : b__law_taken = (sSeq (sIf (tBl (eOp2 dGt (eOp2 dIx (eVar 0) (eC (.int 3))) (eC (.int 0)))) (sSeq (sSet 3 (eOp2 dMod (eOpN dInt (esCons (eOp2 dIx (eVar 0) (eC (.int 3))) esNil)) (eVar 1))) (sSeq (sSetIx (eVar 0) (eC (.int 3)) (eOp2 dDiv (eOp2 dIx (eVar 0) (eC (.int 3))) (eVar 1))) (sRet (eVar 3)))) sNop) (sSeq (sSetIx (eVar 0) (eC (.int 1)) (eOp2 dAdd (eOp2 dIx (eVar 0) (eC (.int 1))) (eC (.int 1)))) (sSeq (sIf (tBl (eOp2 dGt (eOp2 dIx (eVar 0) (eC (.int 1))) (eOpN dLen (esCons (eOp2 dIx (eVar 0) (eC (.int 0))) esNil)))) (sSeq (sSetIx (eVar 0) (eC (.int 2)) (eOp2 dMod (eOpN dInt (esCons (eOp2 dAdd (eOp2 dMul (eOp2 dIx (eVar 0) (eC (.int 2))) (eC (.int 48271))) (eC (.int 11))) esNil)) (eC (.int 2147483647)))) (sRet (eOp2 dMod (eOpN dInt (esCons (eOp2 dDiv (eOp2 dIx (eVar 0) (eC (.int 2))) (eC (.int 7))) esNil)) (eVar 1)))) sNop) (sSeq (sSet 2 (eOp2 dIx (eOp2 dIx (eVar 0) (eC (.int 0))) (eOp2 dSub (eOp2 dIx (eVar 0) (eC (.int 1))) (eC (.int 1))))) (sSeq (sSetIx (eVar 0) (eC (.int 2)) (eOp2 dMod (eOpN dInt (esCons (eOp2 dAdd (eOp2 dAdd (eOp2 dMul (eOp2 dIx (eVar 0) (eC (.int 2))) (eC (.int 48271))) (eVar 2)) (eC (.int 11))) esNil)) (eC (.int 2147483647)))) (sSeq (sIf (tBl (eOp2 dGe (eVar 2) (eOp2 dPow (eC (.int 10)) (eC (.int 18))))) (sSetIx (eVar 0) (eC (.int 3)) (eOp2 dDiv (eVar 2) (eVar 1))) sNop) (sRet (eOp2 dMod (eOpN dInt (esCons (eVar 2) esNil)) (eVar 1))))))))) := rfl
noncomputable def d__law_taken : FnD := runFn 2 4 b__law_taken
theorem D__law_taken (Tx : Txt P K mg T) : DefI P w K mg base T.base 1 "_law_taken" d__law_taken := by
  obtain ⟨f, fd, F, hm, hb⟩ := Tx.fun__law_taken
  exact ⟨f, fd, _, FnG.scope (fnU_i (k := 0) (m := 4) (b := b__law_taken) F sc__law_taken rfl rfl fun cdv A outer s H E hroom tk =>
      (s_cons (s_if (i_tcmp o_gt (i_ix o_ix (iv 0) i_int (fun _ _ => rfl)) i_int rfl) (s_cons (s_set (i := 3) sc__law_taken.nd rfl (by first | exact Or.inl rfl | exact Or.inr rfl) (i_bin o_mod (i_callTy o_int rfl Tx.mg_int (by decide +kernel) (a_cons (i_ix o_ix (iv 0) i_int (fun _ _ => rfl)) a_nil)) (iv 1)))
      (s_cons (s_setIx (iv 0) i_int (i_bin o_div (i_ix o_ix (iv 0) i_int (fun _ _ => rfl)) (iv 1)))
      (s_one (s_ret (iv 3))))) s_nil)
      (s_cons (s_setIx (iv 0) i_int (i_bin o_add (i_ix o_ix (iv 0) i_int (fun _ _ => rfl)) i_int))
      (s_cons (s_if (i_tcmp o_gt (i_ix o_ix (iv 0) i_int (fun _ _ => rfl)) (i_callB o_len rfl Tx.mg_len (by decide +kernel) (a_cons (i_ix o_ix (iv 0) i_int (fun _ _ => rfl)) a_nil)) rfl) (s_cons (s_setIx (iv 0) i_int (i_bin o_mod (i_callTy o_int rfl Tx.mg_int (by decide +kernel) (a_cons (i_bin o_add (i_bin o_mul (i_ix o_ix (iv 0) i_int (fun _ _ => rfl)) i_int) i_int) a_nil)) i_int))
      (s_one (s_ret (i_bin o_mod (i_callTy o_int rfl Tx.mg_int (by decide +kernel) (a_cons (i_bin o_div (i_ix o_ix (iv 0) i_int (fun _ _ => rfl)) i_int) a_nil)) (iv 1))))) s_nil)
      (s_cons (s_set (i := 2) sc__law_taken.nd rfl (by first | exact Or.inl rfl | exact Or.inr rfl) (i_ix o_ix (i_ix o_ix (iv 0) i_int (fun _ _ => rfl)) (i_bin o_sub (i_ix o_ix (iv 0) i_int (fun _ _ => rfl)) i_int) (fun _ _ => rfl)))
      (s_cons (s_setIx (iv 0) i_int (i_bin o_mod (i_callTy o_int rfl Tx.mg_int (by decide +kernel) (a_cons (i_bin o_add (i_bin o_add (i_bin o_mul (i_ix o_ix (iv 0) i_int (fun _ _ => rfl)) i_int) (iv 2)) i_int) a_nil)) i_int))
      (s_cons (s_if (i_tcmp o_ge (iv 2) (i_bin o_pow i_int i_int) rfl) (s_one (s_setIx (iv 0) i_int (i_bin o_div (iv 2) (iv 1)))) s_nil)
      (s_one (s_ret (i_bin o_mod (i_callTy o_int rfl Tx.mg_int (by decide +kernel) (a_cons (iv 2) a_nil)) (iv 1))))))))))), hm, F.kp, hb⟩
noncomputable def b_reduced_1 : Sm := sPar 2 3 (esCons (eOpN dAbs (esCons (eVar 0) esNil)) (esCons (eVar 1) esNil))
noncomputable def b_reduced_2_1 : Sm := sPar 2 3 (esCons (eVar 3) (esCons (eOp2 dMod (eVar 2) (eVar 3)) esNil))
noncomputable def b_reduced_2 : Sm := sWhile (tBl (eOp2 dGt (eVar 3) (eC (.int 0)))) b_reduced_2_1
noncomputable def b_reduced_3 : Sm := sRet (eIf (tBl (eOp2 dGt (eVar 2) (eC (.int 0)))) (eOpN dTup (esCons (eOp2 dDiv (eVar 0) (eVar 2)) (esCons (eOp2 dDiv (eVar 1) (eVar 2)) esNil))) (eOpN dTup (esCons (eC (.int 0)) (esCons (eC (.int 1)) esNil))))
noncomputable def b_reduced : Sm :=
  (sSeq b_reduced_1 (sSeq b_reduced_2 b_reduced_3))
theorem b_reduced_eq : b_reduced = (sSeq (sPar 2 3 (esCons (eOpN dAbs (esCons (eVar 0) esNil)) (esCons (eVar 1) esNil))) (sSeq (sWhile (tBl (eOp2 dGt (eVar 3) (eC (.int 0)))) (sPar 2 3 (esCons (eVar 3) (esCons (eOp2 dMod (eVar 2) (eVar 3)) esNil)))) (sRet (eIf (tBl (eOp2 dGt (eVar 2) (eC (.int 0)))) (eOpN dTup (esCons (eOp2 dDiv (eVar 0) (eVar 2)) (esCons (eOp2 dDiv (eVar 1) (eVar 2)) esNil))) (eOpN dTup (esCons (eC (.int 0)) (esCons (eC (.int 1)) esNil))))))) := rfl
noncomputable def d_reduced : FnD := runFn 2 4 b_reduced
theorem D_reduced (Tx : Txt P K mg T) : DefI P w K mg base T.base 1 "reduced" d_reduced := by
  obtain ⟨f, fd, F, hm, hb⟩ := Tx.fun_reduced
  exact ⟨f, fd, _, FnG.scope (fnU_i (k := 0) (m := 4) (b := b_reduced) F sc_reduced rfl rfl fun cdv A outer s H E hroom tk =>
      (s_cons (s_par (i := 2) (j := 3) rfl sc_reduced.nd rfl rfl (by decide) rfl rfl (a_cons (i_callB o_abs rfl Tx.mg_abs (by decide +kernel) (a_cons (iv 0) a_nil)) (a_cons (iv 1) a_nil)) rfl)
      (s_cons (s_while (passes_of rfl) (i_tcmp o_gt (iv 3) i_int rfl) (s_one (s_par (i := 2) (j := 3) rfl sc_reduced.nd rfl rfl (by decide) rfl rfl (a_cons (iv 3) (a_cons (i_bin o_mod (iv 2) (iv 3)) a_nil)) rfl)))
      (s_one (s_ret (i_if (i_tcmp o_gt (iv 2) i_int rfl) (i_tup (a_cons (i_bin o_div (iv 0) (iv 2)) (a_cons (i_bin o_div (iv 1) (iv 2)) a_nil))) (i_tup (a_cons i_int (a_cons i_int a_nil))))))))), hm, F.kp, hb⟩
noncomputable def b__law_alike_1_1_1 (self : FnD) : Sm := sRet (eC (.bl false))
noncomputable def b__law_alike_1_1 (self : FnD) : Sm := sIf (tOr (tNot (tOf (eIsT (eVar 0) (esCons (eC (.ty .tuple)) (esCons (eC (.ty .list)) esNil))))) ((tBl (eOp2 dNe (eOpN dIsi (esCons (eVar 0) (esCons (eC (.ty .list)) esNil))) (eOpN dIsi (esCons (eVar 1) (esCons (eC (.ty .list)) esNil))))))) (b__law_alike_1_1_1 self) sNop
noncomputable def b__law_alike_1_2_1 (self : FnD) : Sm := sRet (eC (.bl false))
noncomputable def b__law_alike_1_2 (self : FnD) : Sm := sIf (tBl (eOp2 dNe (eOpN dLen (esCons (eVar 0) esNil)) (eOpN dLen (esCons (eVar 1) esNil)))) (b__law_alike_1_2_1 self) sNop
noncomputable def b__law_alike_1_3 (self : FnD) : Sm := sRet (eOp2 dEq (eComp [2] (iRange1 (esCons (eOpN dLen (esCons (eVar 1) esNil)) esNil)) (.name 2) (tNot (tOf (eCall self (esCons (eOp2 dIx (eVar 0) (eVar 2)) (esCons (eOp2 dIx (eVar 1) (eVar 2)) esNil))))) (eVar 2)) (eOpN dLst esNil))
noncomputable def b__law_alike_1 (self : FnD) : Sm := sIf (tOf (eIsT (eVar 1) (esCons (eC (.ty .tuple)) (esCons (eC (.ty .list)) esNil)))) (sSeq (b__law_alike_1_1 self) (sSeq (b__law_alike_1_2 self) (b__law_alike_1_3 self))) sNop
noncomputable def b__law_alike_2_1 (self : FnD) : Sm := sRet (eAnd (eOp2 dEq (eVar 0) (eVar 1)) ((eOp2 dEq (eOpN dIsi (esCons (eVar 0) (esCons (eC (.ty .str)) esNil))) (eOpN dIsi (esCons (eVar 1) (esCons (eC (.ty .str)) esNil))))))
noncomputable def b__law_alike_2 (self : FnD) : Sm := sIf (tOr (tBl (eOp2 dIs (eVar 1) (eC .non))) ((tOf (eOpN dIsi (esCons (eVar 1) (esCons (eC (.ty .str)) esNil)))))) (b__law_alike_2_1 self) sNop
noncomputable def b__law_alike_3 (self : FnD) : Sm := sRet (eAnd (eOpN dIsi (esCons (eVar 0) (esCons (eC (.ty .int)) esNil))) (eAnd (eOp2 dEq (eOpN dIsi (esCons (eVar 0) (esCons (eC (.ty .bool)) esNil))) (eOpN dIsi (esCons (eVar 1) (esCons (eC (.ty .bool)) esNil)))) ((eOp2 dEq (eVar 0) (eVar 1)))))
noncomputable def b__law_alike (self : FnD) : Sm :=
  (sSeq (b__law_alike_1 self) (sSeq (b__law_alike_2 self) (b__law_alike_3 self)))
theorem b__law_alike_eq (self : FnD) : b__law_alike self = (sSeq (sIf (tOf (eIsT (eVar 1) (esCons (eC (.ty .tuple)) (esCons (eC (.ty .list)) esNil)))) (sSeq (sIf (tOr (tNot (tOf (eIsT (eVar 0) (esCons (eC (.ty .tuple)) (esCons (eC (.ty .list)) esNil))))) ((tBl (eOp2 dNe (eOpN dIsi (esCons (eVar 0) (esCons (eC (.ty .list)) esNil))) (eOpN dIsi (esCons (eVar 1) (esCons (eC (.ty .list)) esNil))))))) (sRet (eC (.bl false))) sNop) (sSeq (sIf (tBl (eOp2 dNe (eOpN dLen (esCons (eVar 0) esNil)) (eOpN dLen (esCons (eVar 1) esNil)))) (sRet (eC (.bl false))) sNop) (sRet (eOp2 dEq (eComp [2] (iRange1 (esCons (eOpN dLen (esCons (eVar 1) esNil)) esNil)) (.name 2) (tNot (tOf (eCall self (esCons (eOp2 dIx (eVar 0) (eVar 2)) (esCons (eOp2 dIx (eVar 1) (eVar 2)) esNil))))) (eVar 2)) (eOpN dLst esNil))))) sNop) (sSeq (sIf (tOr (tBl (eOp2 dIs (eVar 1) (eC .non))) ((tOf (eOpN dIsi (esCons (eVar 1) (esCons (eC (.ty .str)) esNil)))))) (sRet (eAnd (eOp2 dEq (eVar 0) (eVar 1)) ((eOp2 dEq (eOpN dIsi (esCons (eVar 0) (esCons (eC (.ty .str)) esNil))) (eOpN dIsi (esCons (eVar 1) (esCons (eC (.ty .str)) esNil))))))) sNop) (sRet (eAnd (eOpN dIsi (esCons (eVar 0) (esCons (eC (.ty .int)) esNil))) (eAnd (eOp2 dEq (eOpN dIsi (esCons (eVar 0) (esCons (eC (.ty .bool)) esNil))) (eOpN dIsi (esCons (eVar 1) (esCons (eC (.ty .bool)) esNil)))) ((eOp2 dEq (eVar 0) (eVar 1)))))))) := rfl
noncomputable def d__law_alike : Nat → FnD
  | 0 => fun _ _ => .bad
  | n + 1 => runFn 2 3 (b__law_alike (d__law_alike n))
theorem D__law_alike0 (Tx : Txt P K mg T) : ∀ n, DefI P w K mg base T.base (1 + n) "_law_alike" (d__law_alike n)
  | 0 => by
    obtain ⟨f, fd, F, hm, hb⟩ := Tx.fun__law_alike
    exact ⟨f, fd, _, FnG.none, hm, F.kp, hb⟩
  | n + 1 => by
    obtain ⟨f, fd, F, hm, hb⟩ := Tx.fun__law_alike
    have D_self : DefI P w K mg base T.base (1 + n) "_law_alike" (d__law_alike n) := D__law_alike0 Tx n
    exact ⟨f, fd, _, FnG.scope (fnU_i (k := 1 + n) (m := 3) (b := b__law_alike (d__law_alike n)) F sc__law_alike rfl rfl fun cdv A outer s H E hroom tk =>
      (s_cons (s_if (i_truth (i_isT (iv 1) (a_cons (i_bty .tuple rfl Tx.mg_tuple (by decide +kernel)) (a_cons (i_bty .list rfl Tx.mg_list (by decide +kernel)) a_nil)) rfl Tx.mg_isinstance)) (s_cons (s_if (i_w (i_tor (i_tnot (i_truth (i_isT (iv 0) (a_cons (i_bty .tuple rfl Tx.mg_tuple (by decide +kernel)) (a_cons (i_bty .list rfl Tx.mg_list (by decide +kernel)) a_nil)) rfl Tx.mg_isinstance))) (i_or1 (i_tcmp (o_ne (hu64 hroom)) (i_callB o_isi rfl Tx.mg_isinstance PyProof.Rows.boot_isinstance (a_cons (iv 0) (a_cons (i_bty .list rfl Tx.mg_list (by decide +kernel)) a_nil))) (i_callB o_isi rfl Tx.mg_isinstance PyProof.Rows.boot_isinstance (a_cons (iv 1) (a_cons (i_bty .list rfl Tx.mg_list (by decide +kernel)) a_nil))) rfl)))) (s_one (s_ret i_bl)) s_nil)
      (s_cons (s_if (i_tcmp (o_ne (hu64 hroom)) (i_callB o_len rfl Tx.mg_len (by decide +kernel) (a_cons (iv 0) a_nil)) (i_callB o_len rfl Tx.mg_len (by decide +kernel) (a_cons (iv 1) a_nil)) rfl) (s_one (s_ret i_bl)) s_nil)
      (s_one (s_ret (i_cmp (o_eq (hu64 hroom)) (i_comp (own := [("k", 2)]) rfl sc__law_alike.nd (it_range1 rfl Tx.mg_range (a_cons (i_callB o_len rfl Tx.mg_len (by decide +kernel) (a_cons (iv 1) a_nil)) a_nil)) (blkOk_by (by kernel_rfl)) (fun _ _ _ _ _ => (g_name sc__law_alike.nd (i := 2) rfl (by first | exact Or.inl rfl | exact Or.inr rfl))) (fun _ _ _ _ _ => q_one (i_tnot (i_truth (i_call D_self (hroom.mono (by omega)) takes0 rfl (a_cons (i_ix o_ix (iv 0) (iv 2) (fun _ _ => rfl)) (a_cons (i_ix o_ix (iv 1) (iv 2) (fun _ _ => rfl)) a_nil)))))) (fun _ _ _ _ _ => (iv 2))) (i_lst a_nil) rfl))))) s_nil)
      (s_cons (s_if (i_w (i_tor (i_tcmp o_is (iv 1) i_non rfl) (i_or1 (i_truth (i_callB o_isi rfl Tx.mg_isinstance PyProof.Rows.boot_isinstance (a_cons (iv 1) (a_cons (i_bty .str rfl Tx.mg_str (by decide +kernel)) a_nil))))))) (s_one (s_ret (i_and (i_cmp (o_eq (hu64 hroom)) (iv 0) (iv 1) rfl) (i_one (i_cmp (o_eq (hu64 hroom)) (i_callB o_isi rfl Tx.mg_isinstance PyProof.Rows.boot_isinstance (a_cons (iv 0) (a_cons (i_bty .str rfl Tx.mg_str (by decide +kernel)) a_nil))) (i_callB o_isi rfl Tx.mg_isinstance PyProof.Rows.boot_isinstance (a_cons (iv 1) (a_cons (i_bty .str rfl Tx.mg_str (by decide +kernel)) a_nil))) rfl))))) s_nil)
      (s_one (s_ret (i_and (i_callB o_isi rfl Tx.mg_isinstance PyProof.Rows.boot_isinstance (a_cons (iv 0) (a_cons (i_bty .int rfl Tx.mg_int (by decide +kernel)) a_nil))) (i_and (i_cmp (o_eq (hu64 hroom)) (i_callB o_isi rfl Tx.mg_isinstance PyProof.Rows.boot_isinstance (a_cons (iv 0) (a_cons (i_bty .bool rfl Tx.mg_bool (by decide +kernel)) a_nil))) (i_callB o_isi rfl Tx.mg_isinstance PyProof.Rows.boot_isinstance (a_cons (iv 1) (a_cons (i_bty .bool rfl Tx.mg_bool (by decide +kernel)) a_nil))) rfl) (i_one (i_cmp (o_eq (hu64 hroom)) (iv 0) (iv 1) rfl))))))))), hm, F.kp, hb⟩
theorem D__law_alike (Tx : Txt P K mg T) : DefI P w K mg base T.base 13 "_law_alike" (d__law_alike 12) := D__law_alike0 Tx 12
noncomputable def b__law_low_1 : Sm := sSet 2 (eC (.int 1))
noncomputable def b__law_low_2_1_1 : Sm := sSet 2 (eVar 3)
noncomputable def b__law_low_2_1 : Sm := sIf (tAnd (tBl (eOp2 dEq (eOp2 dMod (eOpN dInt (esCons (eVar 0) esNil)) (eVar 3)) (eC (.int 0)))) ((tBl (eOp2 dEq (eOp2 dMod (eOpN dInt (esCons (eVar 1) esNil)) (eVar 3)) (eC (.int 0)))))) b__law_low_2_1_1 sNop
noncomputable def b__law_low_2 : Sm := sFor (iRange2 (esCons (eC (.int 1)) (esCons (eOp2 dAdd (eOpN dInt (esCons (eVar 1) esNil)) (eC (.int 1))) esNil))) (.name 3) b__law_low_2_1
noncomputable def b__law_low_3 : Sm := sRet (eOpN dTup (esCons (eOp2 dDiv (eOpN dInt (esCons (eVar 0) esNil)) (eVar 2)) (esCons (eOp2 dDiv (eOpN dInt (esCons (eVar 1) esNil)) (eVar 2)) esNil)))
noncomputable def b__law_low : Sm :=
  (sSeq b__law_low_1 (sSeq b__law_low_2 b__law_low_3))
theorem b__law_low_eq : b__law_low = (sSeq (sSet 2 (eC (.int 1))) (sSeq (sFor (iRange2 (esCons (eC (.int 1)) (esCons (eOp2 dAdd (eOpN dInt (esCons (eVar 1) esNil)) (eC (.int 1))) esNil))) (.name 3) (sIf (tAnd (tBl (eOp2 dEq (eOp2 dMod (eOpN dInt (esCons (eVar 0) esNil)) (eVar 3)) (eC (.int 0)))) ((tBl (eOp2 dEq (eOp2 dMod (eOpN dInt (esCons (eVar 1) esNil)) (eVar 3)) (eC (.int 0)))))) (sSet 2 (eVar 3)) sNop)) (sRet (eOpN dTup (esCons (eOp2 dDiv (eOpN dInt (esCons (eVar 0) esNil)) (eVar 2)) (esCons (eOp2 dDiv (eOpN dInt (esCons (eVar 1) esNil)) (eVar 2)) esNil)))))) := rfl
noncomputable def d__law_low : FnD := runFn 2 4 b__law_low
theorem D__law_low (Tx : Txt P K mg T) : DefI P w K mg base T.base 1 "_law_low" d__law_low := by
  obtain ⟨f, fd, F, hm, hb⟩ := Tx.fun__law_low
  exact ⟨f, fd, _, FnG.scope (fnU_i (k := 0) (m := 4) (b := b__law_low) F sc__law_low rfl rfl fun cdv A outer s H E hroom tk =>
      (s_cons (s_set (i := 2) sc__law_low.nd rfl (by first | exact Or.inl rfl | exact Or.inr rfl) i_int)
      (s_cons (s_for (passes_of rfl) rfl (it_range2 rfl Tx.mg_range (a_cons i_int (a_cons (i_bin o_add (i_callTy o_int rfl Tx.mg_int (by decide +kernel) (a_cons (iv 1) a_nil)) i_int) a_nil))) (g_name sc__law_low.nd (i := 3) rfl (by first | exact Or.inl rfl | exact Or.inr rfl)) (s_one (s_if (i_w (i_tand (i_tcmp (o_eq (hu64 hroom)) (i_bin o_mod (i_callTy o_int rfl Tx.mg_int (by decide +kernel) (a_cons (iv 0) a_nil)) (iv 3)) i_int rfl) (i_and1 (i_tcmp (o_eq (hu64 hroom)) (i_bin o_mod (i_callTy o_int rfl Tx.mg_int (by decide +kernel) (a_cons (iv 1) a_nil)) (iv 3)) i_int rfl)))) (s_one (s_set (i := 2) sc__law_low.nd rfl (by first | exact Or.inl rfl | exact Or.inr rfl) (iv 3))) s_nil)))
      (s_one (s_ret (i_tup (a_cons (i_bin o_div (i_callTy o_int rfl Tx.mg_int (by decide +kernel) (a_cons (iv 0) a_nil)) (iv 2)) (a_cons (i_bin o_div (i_callTy o_int rfl Tx.mg_int (by decide +kernel) (a_cons (iv 1) a_nil)) (iv 2)) a_nil)))))))), hm, F.kp, hb⟩
noncomputable def b_is_row_1 : Sm := sRet (eIsT (eVar 0) (esCons (eC (.ty .list)) (esCons (eC (.ty .tuple)) esNil)))
noncomputable def b_is_row : Sm :=
  b_is_row_1
theorem b_is_row_eq : b_is_row = (sRet (eIsT (eVar 0) (esCons (eC (.ty .list)) (esCons (eC (.ty .tuple)) esNil)))) := rfl
noncomputable def d_is_row : FnD := runFn 1 1 b_is_row
theorem D_is_row (Tx : Txt P K mg T) : DefI P w K mg base T.base 1 "is_row" d_is_row := by
  obtain ⟨f, fd, F, hm, hb⟩ := Tx.fun_is_row
  exact ⟨f, fd, _, FnG.scope (fnU_i (k := 0) (m := 1) (b := b_is_row) F sc_is_row rfl rfl fun cdv A outer s H E hroom tk =>
      (s_one (s_ret (i_isT (iv 0) (a_cons (i_bty .list rfl Tx.mg_list (by decide +kernel)) (a_cons (i_bty .tuple rfl Tx.mg_tuple (by decide +kernel)) a_nil)) rfl Tx.mg_isinstance)))), hm, F.kp, hb⟩
noncomputable def b_is_whole_1 : Sm := sRet (eAnd (eOpN dIsi (esCons (eVar 0) (esCons (eC (.ty .int)) esNil))) ((eNot (eOpN dIsi (esCons (eVar 0) (esCons (eC (.ty .bool)) esNil))))))
noncomputable def b_is_whole : Sm :=
  b_is_whole_1
theorem b_is_whole_eq : b_is_whole = (sRet (eAnd (eOpN dIsi (esCons (eVar 0) (esCons (eC (.ty .int)) esNil))) ((eNot (eOpN dIsi (esCons (eVar 0) (esCons (eC (.ty .bool)) esNil))))))) := rfl
noncomputable def d_is_whole : FnD := runFn 1 1 b_is_whole
theorem D_is_whole (Tx : Txt P K mg T) : DefI P w K mg base T.base 1 "is_whole" d_is_whole := by
  obtain ⟨f, fd, F, hm, hb⟩ := Tx.fun_is_whole
  exact ⟨f, fd, _, FnG.scope (fnU_i (k := 0) (m := 1) (b := b_is_whole) F sc_is_whole rfl rfl fun cdv A outer s H E hroom tk =>
      (s_one (s_ret (i_and (i_callB o_isi rfl Tx.mg_isinstance PyProof.Rows.boot_isinstance (a_cons (iv 0) (a_cons (i_bty .int rfl Tx.mg_int (by decide +kernel)) a_nil))) (i_one (i_not (i_callB o_isi rfl Tx.mg_isinstance PyProof.Rows.boot_isinstance (a_cons (iv 0) (a_cons (i_bty .bool rfl Tx.mg_bool (by decide +kernel)) a_nil))))))))), hm, F.kp, hb⟩
noncomputable def b_is_fraction_1_1 : Sm := sRet (eC (.bl false))
noncomputable def b_is_fraction_1 : Sm := sIf (tOr (tNot (tOf (eCall d_is_row (esCons (eVar 0) esNil)))) (tOr (tBl (eOp2 dNe (eOpN dLen (esCons (eVar 0) esNil)) (eC (.int 2)))) (tOr (tNot (tOf (eCall d_is_whole (esCons (eOp2 dIx (eVar 0) (eC (.int 0))) esNil)))) (tOr (tNot (tOf (eCall d_is_whole (esCons (eOp2 dIx (eVar 0) (eC (.int 1))) esNil)))) ((tBl (eOp2 dLt (eOp2 dIx (eVar 0) (eC (.int 1))) (eC (.int 1))))))))) b_is_fraction_1_1 sNop
noncomputable def b_is_fraction_2 : Sm := sRet (eOp2 dEq (eCall d_reduced (esCons (eOp2 dIx (eVar 0) (eC (.int 0))) (esCons (eOp2 dIx (eVar 0) (eC (.int 1))) esNil))) (eOpN dTup (esCons (eOp2 dIx (eVar 0) (eC (.int 0))) (esCons (eOp2 dIx (eVar 0) (eC (.int 1))) esNil))))
noncomputable def b_is_fraction : Sm :=
  (sSeq b_is_fraction_1 b_is_fraction_2)
theorem b_is_fraction_eq : b_is_fraction = (sSeq (sIf (tOr (tNot (tOf (eCall d_is_row (esCons (eVar 0) esNil)))) (tOr (tBl (eOp2 dNe (eOpN dLen (esCons (eVar 0) esNil)) (eC (.int 2)))) (tOr (tNot (tOf (eCall d_is_whole (esCons (eOp2 dIx (eVar 0) (eC (.int 0))) esNil)))) (tOr (tNot (tOf (eCall d_is_whole (esCons (eOp2 dIx (eVar 0) (eC (.int 1))) esNil)))) ((tBl (eOp2 dLt (eOp2 dIx (eVar 0) (eC (.int 1))) (eC (.int 1))))))))) (sRet (eC (.bl false))) sNop) (sRet (eOp2 dEq (eCall d_reduced (esCons (eOp2 dIx (eVar 0) (eC (.int 0))) (esCons (eOp2 dIx (eVar 0) (eC (.int 1))) esNil))) (eOpN dTup (esCons (eOp2 dIx (eVar 0) (eC (.int 0))) (esCons (eOp2 dIx (eVar 0) (eC (.int 1))) esNil)))))) := rfl
noncomputable def d_is_fraction : FnD := runFn 1 1 b_is_fraction
theorem D_is_fraction (Tx : Txt P K mg T) : DefI P w K mg base T.base 2 "is_fraction" d_is_fraction := by
  obtain ⟨f, fd, F, hm, hb⟩ := Tx.fun_is_fraction
  have H_is_row : DefI P w K mg base T.base 1 "is_row" d_is_row := D_is_row Tx
  have H_is_whole : DefI P w K mg base T.base 1 "is_whole" d_is_whole := D_is_whole Tx
  have H_reduced : DefI P w K mg base T.base 1 "reduced" d_reduced := D_reduced Tx
  exact ⟨f, fd, _, FnG.scope (fnU_i (k := 1) (m := 1) (b := b_is_fraction) F sc_is_fraction rfl rfl fun cdv A outer s H E hroom tk =>
      (s_cons (s_if (i_w (i_tor (i_tnot (i_truth (i_call H_is_row (hroom.mono (by decide)) tk rfl (a_cons (iv 0) a_nil)))) (i_tor (i_tcmp (o_ne (hu64 hroom)) (i_callB o_len rfl Tx.mg_len (by decide +kernel) (a_cons (iv 0) a_nil)) i_int rfl) (i_tor (i_tnot (i_truth (i_call H_is_whole (hroom.mono (by decide)) tk rfl (a_cons (i_ix o_ix (iv 0) i_int (fun _ _ => rfl)) a_nil)))) (i_tor (i_tnot (i_truth (i_call H_is_whole (hroom.mono (by decide)) tk rfl (a_cons (i_ix o_ix (iv 0) i_int (fun _ _ => rfl)) a_nil)))) (i_or1 (i_tcmp o_lt (i_ix o_ix (iv 0) i_int (fun _ _ => rfl)) i_int rfl))))))) (s_one (s_ret i_bl)) s_nil)
      (s_one (s_ret (i_cmp (o_eq (hu64 hroom)) (i_call H_reduced (hroom.mono (by decide)) tk rfl (a_cons (i_ix o_ix (iv 0) i_int (fun _ _ => rfl)) (a_cons (i_ix o_ix (iv 0) i_int (fun _ _ => rfl)) a_nil))) (i_tup (a_cons (i_ix o_ix (iv 0) i_int (fun _ _ => rfl)) (a_cons (i_ix o_ix (iv 0) i_int (fun _ _ => rfl)) a_nil))) rfl))))), hm, F.kp, hb⟩
noncomputable def b_plus_1 : Sm := sRet (eCall d_reduced (esCons (eOp2 dAdd (eOp2 dMul (eOp2 dIx (eVar 0) (eC (.int 0))) (eOp2 dIx (eVar 1) (eC (.int 1)))) (eOp2 dMul (eOp2 dIx (eVar 1) (eC (.int 0))) (eOp2 dIx (eVar 0) (eC (.int 1))))) (esCons (eOp2 dMul (eOp2 dIx (eVar 0) (eC (.int 1))) (eOp2 dIx (eVar 1) (eC (.int 1)))) esNil)))
noncomputable def b_plus : Sm :=
  b_plus_1
theorem b_plus_eq : b_plus = (sRet (eCall d_reduced (esCons (eOp2 dAdd (eOp2 dMul (eOp2 dIx (eVar 0) (eC (.int 0))) (eOp2 dIx (eVar 1) (eC (.int 1)))) (eOp2 dMul (eOp2 dIx (eVar 1) (eC (.int 0))) (eOp2 dIx (eVar 0) (eC (.int 1))))) (esCons (eOp2 dMul (eOp2 dIx (eVar 0) (eC (.int 1))) (eOp2 dIx (eVar 1) (eC (.int 1)))) esNil)))) := rfl
noncomputable def d_plus : FnD := runFn 2 2 b_plus
theorem D_plus (Tx : Txt P K mg T) : DefI P w K mg base T.base 2 "plus" d_plus := by
  obtain ⟨f, fd, F, hm, hb⟩ := Tx.fun_plus
  have H_reduced : DefI P w K mg base T.base 1 "reduced" d_reduced := D_reduced Tx
  exact ⟨f, fd, _, FnG.scope (fnU_i (k := 1) (m := 2) (b := b_plus) F sc_plus rfl rfl fun cdv A outer s H E hroom tk =>
      (s_one (s_ret (i_call H_reduced (hroom.mono (by decide)) tk rfl (a_cons (i_bin o_add (i_bin o_mul (i_ix o_ix (iv 0) i_int (fun _ _ => rfl)) (i_ix o_ix (iv 1) i_int (fun _ _ => rfl))) (i_bin o_mul (i_ix o_ix (iv 1) i_int (fun _ _ => rfl)) (i_ix o_ix (iv 0) i_int (fun _ _ => rfl)))) (a_cons (i_bin o_mul (i_ix o_ix (iv 0) i_int (fun _ _ => rfl)) (i_ix o_ix (iv 1) i_int (fun _ _ => rfl))) a_nil)))))), hm, F.kp, hb⟩
noncomputable def b_minus_1 : Sm := sRet (eCall d_reduced (esCons (eOp2 dSub (eOp2 dMul (eOp2 dIx (eVar 0) (eC (.int 0))) (eOp2 dIx (eVar 1) (eC (.int 1)))) (eOp2 dMul (eOp2 dIx (eVar 1) (eC (.int 0))) (eOp2 dIx (eVar 0) (eC (.int 1))))) (esCons (eOp2 dMul (eOp2 dIx (eVar 0) (eC (.int 1))) (eOp2 dIx (eVar 1) (eC (.int 1)))) esNil)))
noncomputable def b_minus : Sm :=
  b_minus_1
theorem b_minus_eq : b_minus = (sRet (eCall d_reduced (esCons (eOp2 dSub (eOp2 dMul (eOp2 dIx (eVar 0) (eC (.int 0))) (eOp2 dIx (eVar 1) (eC (.int 1)))) (eOp2 dMul (eOp2 dIx (eVar 1) (eC (.int 0))) (eOp2 dIx (eVar 0) (eC (.int 1))))) (esCons (eOp2 dMul (eOp2 dIx (eVar 0) (eC (.int 1))) (eOp2 dIx (eVar 1) (eC (.int 1)))) esNil)))) := rfl
noncomputable def d_minus : FnD := runFn 2 2 b_minus
theorem D_minus (Tx : Txt P K mg T) : DefI P w K mg base T.base 2 "minus" d_minus := by
  obtain ⟨f, fd, F, hm, hb⟩ := Tx.fun_minus
  have H_reduced : DefI P w K mg base T.base 1 "reduced" d_reduced := D_reduced Tx
  exact ⟨f, fd, _, FnG.scope (fnU_i (k := 1) (m := 2) (b := b_minus) F sc_minus rfl rfl fun cdv A outer s H E hroom tk =>
      (s_one (s_ret (i_call H_reduced (hroom.mono (by decide)) tk rfl (a_cons (i_bin o_sub (i_bin o_mul (i_ix o_ix (iv 0) i_int (fun _ _ => rfl)) (i_ix o_ix (iv 1) i_int (fun _ _ => rfl))) (i_bin o_mul (i_ix o_ix (iv 1) i_int (fun _ _ => rfl)) (i_ix o_ix (iv 0) i_int (fun _ _ => rfl)))) (a_cons (i_bin o_mul (i_ix o_ix (iv 0) i_int (fun _ _ => rfl)) (i_ix o_ix (iv 1) i_int (fun _ _ => rfl))) a_nil)))))), hm, F.kp, hb⟩
noncomputable def b_times_1 : Sm := sRet (eCall d_reduced (esCons (eOp2 dMul (eOp2 dIx (eVar 0) (eC (.int 0))) (eOp2 dIx (eVar 1) (eC (.int 0)))) (esCons (eOp2 dMul (eOp2 dIx (eVar 0) (eC (.int 1))) (eOp2 dIx (eVar 1) (eC (.int 1)))) esNil)))
noncomputable def b_times : Sm :=
  b_times_1
theorem b_times_eq : b_times = (sRet (eCall d_reduced (esCons (eOp2 dMul (eOp2 dIx (eVar 0) (eC (.int 0))) (eOp2 dIx (eVar 1) (eC (.int 0)))) (esCons (eOp2 dMul (eOp2 dIx (eVar 0) (eC (.int 1))) (eOp2 dIx (eVar 1) (eC (.int 1)))) esNil)))) := rfl
noncomputable def d_times : FnD := runFn 2 2 b_times
theorem D_times (Tx : Txt P K mg T) : DefI P w K mg base T.base 2 "times" d_times := by
  obtain ⟨f, fd, F, hm, hb⟩ := Tx.fun_times
  have H_reduced : DefI P w K mg base T.base 1 "reduced" d_reduced := D_reduced Tx
  exact ⟨f, fd, _, FnG.scope (fnU_i (k := 1) (m := 2) (b := b_times) F sc_times rfl rfl fun cdv A outer s H E hroom tk =>
      (s_one (s_ret (i_call H_reduced (hroom.mono (by decide)) tk rfl (a_cons (i_bin o_mul (i_ix o_ix (iv 0) i_int (fun _ _ => rfl)) (i_ix o_ix (iv 1) i_int (fun _ _ => rfl))) (a_cons (i_bin o_mul (i_ix o_ix (iv 0) i_int (fun _ _ => rfl)) (i_ix o_ix (iv 1) i_int (fun _ _ => rfl))) a_nil)))))), hm, F.kp, hb⟩
noncomputable def b_over_1 : Sm := sRet (eCall d_reduced (esCons (eOp2 dMul (eOp2 dIx (eVar 0) (eC (.int 0))) (eOp2 dIx (eVar 1) (eC (.int 1)))) (esCons (eOp2 dMul (eOp2 dIx (eVar 0) (eC (.int 1))) (eOp2 dIx (eVar 1) (eC (.int 0)))) esNil)))
noncomputable def b_over : Sm :=
  b_over_1
theorem b_over_eq : b_over = (sRet (eCall d_reduced (esCons (eOp2 dMul (eOp2 dIx (eVar 0) (eC (.int 0))) (eOp2 dIx (eVar 1) (eC (.int 1)))) (esCons (eOp2 dMul (eOp2 dIx (eVar 0) (eC (.int 1))) (eOp2 dIx (eVar 1) (eC (.int 0)))) esNil)))) := rfl
noncomputable def d_over : FnD := runFn 2 2 b_over
theorem D_over (Tx : Txt P K mg T) : DefI P w K mg base T.base 2 "over" d_over := by
  obtain ⟨f, fd, F, hm, hb⟩ := Tx.fun_over
  have H_reduced : DefI P w K mg base T.base 1 "reduced" d_reduced := D_reduced Tx
  exact ⟨f, fd, _, FnG.scope (fnU_i (k := 1) (m := 2) (b := b_over) F sc_over rfl rfl fun cdv A outer s H E hroom tk =>
      (s_one (s_ret (i_call H_reduced (hroom.mono (by decide)) tk rfl (a_cons (i_bin o_mul (i_ix o_ix (iv 0) i_int (fun _ _ => rfl)) (i_ix o_ix (iv 1) i_int (fun _ _ => rfl))) (a_cons (i_bin o_mul (i_ix o_ix (iv 0) i_int (fun _ _ => rfl)) (i_ix o_ix (iv 1) i_int (fun _ _ => rfl))) a_nil)))))), hm, F.kp, hb⟩
noncomputable def b__law_truth_1 : Sm := sRet (eAnd (eOpN dIsi (esCons (eVar 0) (esCons (eC (.ty .bool)) esNil))) ((eOp2 dEq (eVar 0) (eVar 1))))
noncomputable def b__law_truth : Sm :=
  b__law_truth_1
theorem b__law_truth_eq : b__law_truth = (sRet (eAnd (eOpN dIsi (esCons (eVar 0) (esCons (eC (.ty .bool)) esNil))) ((eOp2 dEq (eVar 0) (eVar 1))))) := rfl
noncomputable def d__law_truth : FnD := runFn 2 2 b__law_truth
theorem D__law_truth (Tx : Txt P K mg T) : DefI P w K mg base T.base 1 "_law_truth" d__law_truth := by
  obtain ⟨f, fd, F, hm, hb⟩ := Tx.fun__law_truth
  exact ⟨f, fd, _, FnG.scope (fnU_i (k := 0) (m := 2) (b := b__law_truth) F sc__law_truth rfl rfl fun cdv A outer s H E hroom tk =>
      (s_one (s_ret (i_and (i_callB o_isi rfl Tx.mg_isinstance PyProof.Rows.boot_isinstance (a_cons (iv 0) (a_cons (i_bty .bool rfl Tx.mg_bool (by decide +kernel)) a_nil))) (i_one (i_cmp (o_eq (hu64 hroom)) (iv 0) (iv 1) rfl)))))), hm, F.kp, hb⟩
noncomputable def b_is_less_1 : Sm := sRet (eOp2 dLt (eOp2 dMul (eOp2 dIx (eVar 0) (eC (.int 0))) (eOp2 dIx (eVar 1) (eC (.int 1)))) (eOp2 dMul (eOp2 dIx (eVar 1) (eC (.int 0))) (eOp2 dIx (eVar 0) (eC (.int 1)))))
noncomputable def b_is_less : Sm :=
  b_is_less_1
theorem b_is_less_eq : b_is_less = (sRet (eOp2 dLt (eOp2 dMul (eOp2 dIx (eVar 0) (eC (.int 0))) (eOp2 dIx (eVar 1) (eC (.int 1)))) (eOp2 dMul (eOp2 dIx (eVar 1) (eC (.int 0))) (eOp2 dIx (eVar 0) (eC (.int 1)))))) := rfl
noncomputable def d_is_less : FnD := runFn 2 2 b_is_less
theorem D_is_less (Tx : Txt P K mg T) : DefI P w K mg base T.base 1 "is_less" d_is_less := by
  obtain ⟨f, fd, F, hm, hb⟩ := Tx.fun_is_less
  exact ⟨f, fd, _, FnG.scope (fnU_i (k := 0) (m := 2) (b := b_is_less) F sc_is_less rfl rfl fun cdv A outer s H E hroom tk =>
      (s_one (s_ret (i_cmp o_lt (i_bin o_mul (i_ix o_ix (iv 0) i_int (fun _ _ => rfl)) (i_ix o_ix (iv 1) i_int (fun _ _ => rfl))) (i_bin o_mul (i_ix o_ix (iv 1) i_int (fun _ _ => rfl)) (i_ix o_ix (iv 0) i_int (fun _ _ => rfl))) rfl)))), hm, F.kp, hb⟩
noncomputable def b_floor_of_1 : Sm := sRet (eOp2 dDiv (eOp2 dIx (eVar 0) (eC (.int 0))) (eOp2 dIx (eVar 0) (eC (.int 1))))
noncomputable def b_floor_of : Sm :=
  b_floor_of_1
theorem b_floor_of_eq : b_floor_of = (sRet (eOp2 dDiv (eOp2 dIx (eVar 0) (eC (.int 0))) (eOp2 dIx (eVar 0) (eC (.int 1))))) := rfl
noncomputable def d_floor_of : FnD := runFn 1 1 b_floor_of
theorem D_floor_of (Tx : Txt P K mg T) : DefI P w K mg base T.base 1 "floor_of" d_floor_of := by
  obtain ⟨f, fd, F, hm, hb⟩ := Tx.fun_floor_of
  exact ⟨f, fd, _, FnG.scope (fnU_i (k := 0) (m := 1) (b := b_floor_of) F sc_floor_of rfl rfl fun cdv A outer s H E hroom tk =>
      (s_one (s_ret (i_bin o_div (i_ix o_ix (iv 0) i_int (fun _ _ => rfl)) (i_ix o_ix (iv 0) i_int (fun _ _ => rfl)))))), hm, F.kp, hb⟩
noncomputable def b_ceiling_of_1 : Sm := sRet (eOp1 dNeg (eOp2 dDiv (eOp1 dNeg (eOp2 dIx (eVar 0) (eC (.int 0)))) (eOp2 dIx (eVar 0) (eC (.int 1)))))
noncomputable def b_ceiling_of : Sm :=
  b_ceiling_of_1
theorem b_ceiling_of_eq : b_ceiling_of = (sRet (eOp1 dNeg (eOp2 dDiv (eOp1 dNeg (eOp2 dIx (eVar 0) (eC (.int 0)))) (eOp2 dIx (eVar 0) (eC (.int 1)))))) := rfl
noncomputable def d_ceiling_of : FnD := runFn 1 1 b_ceiling_of
theorem D_ceiling_of (Tx : Txt P K mg T) : DefI P w K mg base T.base 1 "ceiling_of" d_ceiling_of := by
  obtain ⟨f, fd, F, hm, hb⟩ := Tx.fun_ceiling_of
  exact ⟨f, fd, _, FnG.scope (fnU_i (k := 0) (m := 1) (b := b_ceiling_of) F sc_ceiling_of rfl rfl fun cdv A outer s H E hroom tk =>
      (s_one (s_ret (i_un o_neg (i_bin o_div (i_un o_neg (i_ix o_ix (iv 0) i_int (fun _ _ => rfl))) (i_ix o_ix (iv 0) i_int (fun _ _ => rfl))))))), hm, F.kp, hb⟩
noncomputable def b_nearest_1 : Sm := sRet (eOp2 dDiv (eOp2 dAdd (eOp2 dMul (eC (.int 2)) (eOp2 dIx (eVar 0) (eC (.int 0)))) (eOp2 dIx (eVar 0) (eC (.int 1)))) (eOp2 dMul (eC (.int 2)) (eOp2 dIx (eVar 0) (eC (.int 1)))))
noncomputable def b_nearest : Sm :=
  b_nearest_1
theorem b_nearest_eq : b_nearest = (sRet (eOp2 dDiv (eOp2 dAdd (eOp2 dMul (eC (.int 2)) (eOp2 dIx (eVar 0) (eC (.int 0)))) (eOp2 dIx (eVar 0) (eC (.int 1)))) (eOp2 dMul (eC (.int 2)) (eOp2 dIx (eVar 0) (eC (.int 1)))))) := rfl
noncomputable def d_nearest : FnD := runFn 1 1 b_nearest
theorem D_nearest (Tx : Txt P K mg T) : DefI P w K mg base T.base 1 "nearest" d_nearest := by
  obtain ⟨f, fd, F, hm, hb⟩ := Tx.fun_nearest
  exact ⟨f, fd, _, FnG.scope (fnU_i (k := 0) (m := 1) (b := b_nearest) F sc_nearest rfl rfl fun cdv A outer s H E hroom tk =>
      (s_one (s_ret (i_bin o_div (i_bin o_add (i_bin o_mul i_int (i_ix o_ix (iv 0) i_int (fun _ _ => rfl))) (i_ix o_ix (iv 0) i_int (fun _ _ => rfl))) (i_bin o_mul i_int (i_ix o_ix (iv 0) i_int (fun _ _ => rfl))))))), hm, F.kp, hb⟩
noncomputable def b_total_1 : Sm := sSet 1 (eOpN dTup (esCons (eC (.int 0)) (esCons (eC (.int 1)) esNil)))
noncomputable def b_total_2_1 : Sm := sSet 1 (eCall d_plus (esCons (eVar 1) (esCons (eVar 2) esNil)))
noncomputable def b_total_2 : Sm := sFor (iVal (eVar 0)) (.name 2) b_total_2_1
noncomputable def b_total_3 : Sm := sRet (eVar 1)
noncomputable def b_total : Sm :=
  (sSeq b_total_1 (sSeq b_total_2 b_total_3))
theorem b_total_eq : b_total = (sSeq (sSet 1 (eOpN dTup (esCons (eC (.int 0)) (esCons (eC (.int 1)) esNil)))) (sSeq (sFor (iVal (eVar 0)) (.name 2) (sSet 1 (eCall d_plus (esCons (eVar 1) (esCons (eVar 2) esNil))))) (sRet (eVar 1)))) := rfl
noncomputable def d_total : FnD := runFn 1 3 b_total
theorem D_total (Tx : Txt P K mg T) : DefI P w K mg base T.base 3 "total" d_total := by
  obtain ⟨f, fd, F, hm, hb⟩ := Tx.fun_total
  have H_plus : DefI P w K mg base T.base 2 "plus" d_plus := D_plus Tx
  exact ⟨f, fd, _, FnG.scope (fnU_i (k := 2) (m := 3) (b := b_total) F sc_total rfl rfl fun cdv A outer s H E hroom tk =>
      (s_cons (s_set (i := 1) sc_total.nd rfl (by first | exact Or.inl rfl | exact Or.inr rfl) (i_tup (a_cons i_int (a_cons i_int a_nil))))
      (s_cons (s_for (passes_of rfl) rfl (it_val (iv 0)) (g_name sc_total.nd (i := 2) rfl (by first | exact Or.inl rfl | exact Or.inr rfl)) (s_one (s_set (i := 1) sc_total.nd rfl (by first | exact Or.inl rfl | exact Or.inr rfl) (i_call H_plus (hroom.mono (by decide)) tk rfl (a_cons (iv 1) (a_cons (iv 2) a_nil))))))
      (s_one (s_ret (iv 1)))))), hm, F.kp, hb⟩
noncomputable def b_median_1 : Sm := sSet 1 (eOpN dNew (esCons (eOp2 dIx (eVar 0) (eC (.int 0))) esNil))
noncomputable def b_median_2_1 : Sm := sSet 3 (eOpN dLen (esCons (eCompS [6] (iSto (eVar 1)) (.name 6) (tNot (tOf (eCall d_is_less (esCons (eVar 2) (esCons (eVar 6) esNil))))) (eVar 6)) esNil))
noncomputable def b_median_2_2 : Sm := sExpr (eBM isLst dInsert (eVar 1) (esCons (eVar 3) (esCons (eVar 2) esNil)))
noncomputable def b_median_2 : Sm := sFor (iVal (eSl (eVar 0) (eoSome (eC (.int 1))) eoNone)) (.name 2) (sSeq b_median_2_1 b_median_2_2)
noncomputable def b_median_3 : Sm := sPar 4 5 (esCons (eOp2 dIx (eVar 1) (eOp2 dDiv (eOp2 dSub (eOpN dLen (esCons (eVar 1) esNil)) (eC (.int 1))) (eC (.int 2)))) (esCons (eOp2 dIx (eVar 1) (eOp2 dDiv (eOpN dLen (esCons (eVar 1) esNil)) (eC (.int 2)))) esNil))
noncomputable def b_median_4 : Sm := sRet (eCall d_times (esCons (eCall d_plus (esCons (eVar 4) (esCons (eVar 5) esNil))) (esCons (eOpN dTup (esCons (eC (.int 1)) (esCons (eC (.int 2)) esNil))) esNil)))
noncomputable def b_median : Sm :=
  (sSeq b_median_1 (sSeq b_median_2 (sSeq b_median_3 b_median_4)))
theorem b_median_eq : b_median = (sSeq (sSet 1 (eOpN dNew (esCons (eOp2 dIx (eVar 0) (eC (.int 0))) esNil))) (sSeq (sFor (iVal (eSl (eVar 0) (eoSome (eC (.int 1))) eoNone)) (.name 2) (sSeq (sSet 3 (eOpN dLen (esCons (eCompS [6] (iSto (eVar 1)) (.name 6) (tNot (tOf (eCall d_is_less (esCons (eVar 2) (esCons (eVar 6) esNil))))) (eVar 6)) esNil))) (sExpr (eBM isLst dInsert (eVar 1) (esCons (eVar 3) (esCons (eVar 2) esNil)))))) (sSeq (sPar 4 5 (esCons (eOp2 dIx (eVar 1) (eOp2 dDiv (eOp2 dSub (eOpN dLen (esCons (eVar 1) esNil)) (eC (.int 1))) (eC (.int 2)))) (esCons (eOp2 dIx (eVar 1) (eOp2 dDiv (eOpN dLen (esCons (eVar 1) esNil)) (eC (.int 2)))) esNil))) (sRet (eCall d_times (esCons (eCall d_plus (esCons (eVar 4) (esCons (eVar 5) esNil))) (esCons (eOpN dTup (esCons (eC (.int 1)) (esCons (eC (.int 2)) esNil))) esNil))))))) := rfl
noncomputable def d_median : FnD := runFn 1 7 b_median
theorem D_median (Tx : Txt P K mg T) : DefI P w K mg base T.base 3 "median" d_median := by
  obtain ⟨f, fd, F, hm, hb⟩ := Tx.fun_median
  have H_is_less : DefI P w K mg base T.base 1 "is_less" d_is_less := D_is_less Tx
  have H_plus : DefI P w K mg base T.base 2 "plus" d_plus := D_plus Tx
  have H_times : DefI P w K mg base T.base 2 "times" d_times := D_times Tx
  exact ⟨f, fd, _, FnG.scope (fnU_i (k := 2) (m := 7) (b := b_median) F sc_median rfl rfl fun cdv A outer s H E hroom tk =>
      (s_cons (s_set (i := 1) sc_median.nd rfl (by first | exact Or.inl rfl | exact Or.inr rfl) (i_new (a_cons (i_ix o_ix (iv 0) i_int (fun _ _ => rfl)) a_nil)))
      (s_cons (s_for (passes_of rfl) rfl (it_val (i_slice (iv 0) (oi_some i_int) oi_none)) (g_name sc_median.nd (i := 2) rfl (by first | exact Or.inl rfl | exact Or.inr rfl)) (s_cons (s_set (i := 3) sc_median.nd rfl (by first | exact Or.inl rfl | exact Or.inr rfl) (i_callB o_len rfl Tx.mg_len (by decide +kernel) (a_cons (i_compS (own := [("other", 6)]) rfl sc_median.nd (it_sto (iv 1)) (blkOk_by (by kernel_rfl)) (fun _ _ _ _ _ => (g_name sc_median.nd (i := 6) rfl (by first | exact Or.inl rfl | exact Or.inr rfl))) (fun _ _ _ _ _ => q_one (i_tnot (i_truth (i_call H_is_less (hroom.mono (by decide)) takes0 rfl (a_cons (iv 2) (a_cons (iv 6) a_nil)))))) (fun _ _ _ _ _ => (iv 6))) a_nil)))
      (s_one (s_expr (i_lm PySem.F.slot_list_insert PySem.F.type_list_insert m_insert (iv 1) (a_cons (iv 3) (a_cons (iv 2) a_nil)))))))
      (s_cons (s_par (i := 4) (j := 5) rfl sc_median.nd rfl rfl (by decide) rfl rfl (a_cons (i_ix o_ix (iv 1) (i_bin o_div (i_bin o_sub (i_callB o_len rfl Tx.mg_len (by decide +kernel) (a_cons (iv 1) a_nil)) i_int) i_int) (fun _ _ => rfl)) (a_cons (i_ix o_ix (iv 1) (i_bin o_div (i_callB o_len rfl Tx.mg_len (by decide +kernel) (a_cons (iv 1) a_nil)) i_int) (fun _ _ => rfl)) a_nil)) rfl)
      (s_one (s_ret (i_call H_times (hroom.mono (by decide)) tk rfl (a_cons (i_call H_plus (hroom.mono (by decide)) tk rfl (a_cons (iv 4) (a_cons (iv 5) a_nil))) (a_cons (i_tup (a_cons i_int (a_cons i_int a_nil))) a_nil))))))))), hm, F.kp, hb⟩
noncomputable def b_want_fraction_1_1 : Sm := sRaise 1 "value" (esCons (eVar 0) esNil)
noncomputable def b_want_fraction_1 : Sm := sIf (tNot (tOf (eCall d_is_fraction (esCons (eVar 0) esNil)))) b_want_fraction_1_1 sNop
noncomputable def b_want_fraction_2 : Sm := sRet (eOpN dTupleOf (esCons (eVar 0) esNil))
noncomputable def b_want_fraction : Sm :=
  (sSeq b_want_fraction_1 b_want_fraction_2)
theorem b_want_fraction_eq : b_want_fraction = (sSeq (sIf (tNot (tOf (eCall d_is_fraction (esCons (eVar 0) esNil)))) (sRaise 1 "value" (esCons (eVar 0) esNil)) sNop) (sRet (eOpN dTupleOf (esCons (eVar 0) esNil)))) := rfl
noncomputable def d_want_fraction : FnD := runFn 1 1 b_want_fraction
theorem D_want_fraction (Tx : Txt P K mg T) : DefI P w K mg base T.base 3 "want_fraction" d_want_fraction := by
  obtain ⟨f, fd, F, hm, hb⟩ := Tx.fun_want_fraction
  have H_is_fraction : DefI P w K mg base T.base 2 "is_fraction" d_is_fraction := D_is_fraction Tx
  exact ⟨f, fd, _, FnG.scope (fnU_i (k := 2) (m := 1) (b := b_want_fraction) F sc_want_fraction rfl rfl fun cdv A outer s H E hroom tk =>
      (s_cons (s_if (i_tnot (i_truth (i_call H_is_fraction (hroom.mono (by decide)) tk rfl (a_cons (iv 0) a_nil)))) (s_one (s_raise (c := 1) rfl Tx.x_BadNumber.2 fn_value Tx.x_BadNumber.1 hroom.r rfl tk (a_cons (iv 0) a_nil) rfl)) s_nil)
      (s_one (s_ret (i_callTy o_tuple rfl Tx.mg_tuple (by decide +kernel) (a_cons (iv 0) a_nil)))))), hm, F.kp, hb⟩
noncomputable def b_law_1 : Sm := sSet 1 (eOpN dNew (esCons (eVar 0) (esCons (eC (.int 0)) (esCons (eC (.int 61)) (esCons (eC (.int 0)) esNil)))))
noncomputable def b_law_2 : Sm := sAsg (.tup [(.name 9), (.name 10), (.name 11), (.name 12)]) (eOpN dTup (esCons (eOp2 dSub (eCall d__law_taken (esCons (eVar 1) (esCons (eC (.int 121)) esNil))) (eC (.int 60))) (esCons (eOp2 dAdd (eC (.int 1)) (eCall d__law_taken (esCons (eVar 1) (esCons (eC (.int 60)) esNil)))) (esCons (eOp2 dSub (eCall d__law_taken (esCons (eVar 1) (esCons (eC (.int 121)) esNil))) (eC (.int 60))) (esCons (eOp2 dAdd (eC (.int 1)) (eCall d__law_taken (esCons (eVar 1) (esCons (eC (.int 60)) esNil)))) esNil)))))
noncomputable def b_law_3 : Sm := sPar 13 14 (esCons (eCall d_reduced (esCons (eVar 9) (esCons (eVar 10) esNil))) (esCons (eCall d_reduced (esCons (eVar 11) (esCons (eVar 12) esNil))) esNil))
noncomputable def b_law_4_1 : Sm := sRet (eC (.bl false))
noncomputable def b_law_4 : Sm := sIf (tOr (tNot (tOf (eCall (d__law_alike 12) (esCons (eOpN dTup (esCons (eVar 13) (esCons (eVar 14) esNil))) (esCons (eOpN dTup (esCons (eCall d__law_low (esCons (eVar 9) (esCons (eVar 10) esNil))) (esCons (eCall d__law_low (esCons (eVar 11) (esCons (eVar 12) esNil))) esNil))) esNil))))) (tOr (tNot (tOf (eCall d_is_fraction (esCons (eVar 13) esNil)))) ((tOf (eCall d_is_fraction (esCons (eOpN dTup (esCons (eOp2 dMul (eVar 9) (eC (.int 2))) (esCons (eOp2 dMul (eVar 10) (eC (.int 2))) esNil))) esNil)))))) b_law_4_1 sNop
noncomputable def b_law_5_1 : Sm := sRet (eC (.bl false))
noncomputable def b_law_5 : Sm := sIf (tNot (tOf (eCall (d__law_alike 12) (esCons (eOpN dTup (esCons (eCall d_plus (esCons (eVar 13) (esCons (eVar 14) esNil))) (esCons (eCall d_minus (esCons (eVar 13) (esCons (eVar 14) esNil))) (esCons (eCall d_times (esCons (eVar 13) (esCons (eVar 14) esNil))) esNil)))) (esCons (eOpN dTup (esCons (eCall d__law_low (esCons (eOp2 dAdd (eOp2 dMul (eVar 9) (eVar 12)) (eOp2 dMul (eVar 11) (eVar 10))) (esCons (eOp2 dMul (eVar 10) (eVar 12)) esNil))) (esCons (eCall d__law_low (esCons (eOp2 dSub (eOp2 dMul (eVar 9) (eVar 12)) (eOp2 dMul (eVar 11) (eVar 10))) (esCons (eOp2 dMul (eVar 10) (eVar 12)) esNil))) (esCons (eCall d__law_low (esCons (eOp2 dMul (eVar 9) (eVar 11)) (esCons (eOp2 dMul (eVar 10) (eVar 12)) esNil))) esNil)))) esNil))))) b_law_5_1 sNop
noncomputable def b_law_6_1 : Sm := sRet (eC (.bl false))
noncomputable def b_law_6 : Sm := sIf (tOr (tAnd (tBl (eOp2 dGt (eVar 11) (eC (.int 0)))) ((tNot (tOf (eCall (d__law_alike 12) (esCons (eCall d_over (esCons (eVar 13) (esCons (eVar 14) esNil))) (esCons (eCall d__law_low (esCons (eOp2 dMul (eVar 9) (eVar 12)) (esCons (eOp2 dMul (eVar 10) (eVar 11)) esNil))) esNil))))))) ((tNot (tOf (eCall d__law_truth (esCons (eCall d_is_less (esCons (eVar 13) (esCons (eVar 14) esNil))) (esCons (eOp2 dLt (eOp2 dMul (eVar 9) (eVar 12)) (eOp2 dMul (eVar 11) (eVar 10))) esNil))))))) b_law_6_1 sNop
noncomputable def b_law_7 : Sm := sSet 2 (eRg false (eOp1 dNeg (eC (.int 61))) (eC (.int 62)))
noncomputable def b_law_8 : Sm := sPar 6 7 (esCons (eOpN dMaxL (esCons (eComp [18] (iVal (eVar 2)) (.name 18) (tBl (eOp2 dLe (eOp2 dMul (eVar 18) (eVar 10)) (eVar 9))) (eVar 18)) esNil)) (esCons (eOpN dMinL (esCons (eComp [18] (iVal (eVar 2)) (.name 18) (tBl (eOp2 dGe (eOp2 dMul (eVar 18) (eVar 10)) (eVar 9))) (eVar 18)) esNil)) esNil))
noncomputable def b_law_9 : Sm := sSet 3 (eOpN dMaxL (esCons (eComp [18] (iVal (eVar 2)) (.name 18) (tBl (eOp2 dLe (eOp2 dMul (eOp2 dSub (eOp2 dMul (eC (.int 2)) (eVar 18)) (eC (.int 1))) (eVar 10)) (eOp2 dMul (eC (.int 2)) (eVar 9)))) (eVar 18)) esNil))
noncomputable def b_law_10_1 : Sm := sRet (eC (.bl false))
noncomputable def b_law_10 : Sm := sIf (tNot (tOf (eCall (d__law_alike 12) (esCons (eOpN dTup (esCons (eCall d_floor_of (esCons (eVar 13) esNil)) (esCons (eCall d_ceiling_of (esCons (eVar 13) esNil)) (esCons (eCall d_nearest (esCons (eVar 13) esNil)) esNil)))) (esCons (eOpN dTup (esCons (eVar 6) (esCons (eVar 7) (esCons (eVar 3) esNil)))) esNil))))) b_law_10_1 sNop
noncomputable def b_law_11 : Sm := sPar 15 16 (esCons (eOp2 dAdd (eOpN dLst (esCons (eVar 13) (esCons (eVar 14) esNil))) (eComp [18] (iRange1 (esCons (eCall d__law_taken (esCons (eVar 1) (esCons (eC (.int 5)) esNil))) esNil)) (.name 18) tYesD (eCall d_reduced (esCons (eOp2 dSub (eCall d__law_taken (esCons (eVar 1) (esCons (eC (.int 40)) esNil))) (eC (.int 20))) (esCons (eOp2 dAdd (eC (.int 1)) (eCall d__law_taken (esCons (eVar 1) (esCons (eC (.int 6)) esNil)))) esNil))))) (esCons (eOpN dTup (esCons (eC (.int 0)) (esCons (eC (.int 1)) esNil))) esNil))
noncomputable def b_law_12_1 : Sm := sSet 16 (eCall d__law_low (esCons (eOp2 dAdd (eOp2 dMul (eOp2 dIx (eVar 16) (eC (.int 0))) (eOp2 dIx (eVar 4) (eC (.int 1)))) (eOp2 dMul (eOp2 dIx (eVar 4) (eC (.int 0))) (eOp2 dIx (eVar 16) (eC (.int 1))))) (esCons (eOp2 dMul (eOp2 dIx (eVar 16) (eC (.int 1))) (eOp2 dIx (eVar 4) (eC (.int 1)))) esNil)))
noncomputable def b_law_12 : Sm := sFor (iVal (eVar 15)) (.name 4) b_law_12_1
noncomputable def b_law_13_1 : Sm := sRet (eC (.bl false))
noncomputable def b_law_13 : Sm := sIf (tNot (tOf (eCall (d__law_alike 12) (esCons (eCall d_total (esCons (eVar 15) esNil)) (esCons (eVar 16) esNil))))) b_law_13_1 sNop
noncomputable def b_law_14 : Sm := sSet 5 (eCall d_median (esCons (eVar 15) esNil))
noncomputable def b_law_15 : Sm := sSet 6 (eOpN dLen (esCons (eComp [4] (iVal (eVar 15)) (.name 4) (tBl (eOp2 dLt (eOp2 dMul (eOp2 dIx (eVar 4) (eC (.int 0))) (eOp2 dIx (eVar 5) (eC (.int 1)))) (eOp2 dMul (eOp2 dIx (eVar 5) (eC (.int 0))) (eOp2 dIx (eVar 4) (eC (.int 1)))))) (eC (.int 1))) esNil))
noncomputable def b_law_16 : Sm := sSet 7 (eOpN dLen (esCons (eComp [4] (iVal (eVar 15)) (.name 4) (tBl (eOp2 dGt (eOp2 dMul (eOp2 dIx (eVar 4) (eC (.int 0))) (eOp2 dIx (eVar 5) (eC (.int 1)))) (eOp2 dMul (eOp2 dIx (eVar 5) (eC (.int 0))) (eOp2 dIx (eVar 4) (eC (.int 1)))))) (eC (.int 1))) esNil))
noncomputable def b_law_17_1 : Sm := sRet (eC (.bl false))
noncomputable def b_law_17 : Sm := sIf (tOr (tBl (eOp2 dGt (eOp2 dMul (eC (.int 2)) (eVar 6)) (eOpN dLen (esCons (eVar 15) esNil)))) (tOr (tBl (eOp2 dGt (eOp2 dMul (eC (.int 2)) (eVar 7)) (eOpN dLen (esCons (eVar 15) esNil)))) ((tAnd (tBl (eOp2 dEq (eOp2 dMod (eOpN dLen (esCons (eVar 15) esNil)) (eC (.int 2))) (eC (.int 1)))) ((tBl (eOp2 dNotIn (eVar 5) (eVar 15)))))))) b_law_17_1 sNop
noncomputable def b_law_18_1_1 : Sm := sRet (eC (.bl false))
noncomputable def b_law_18_1 : Sm := sIf (tOf (eCall d_is_fraction (esCons (eVar 8) esNil))) b_law_18_1_1 sNop
noncomputable def b_law_18_2_1 : Sm := sExpr (eCall d_want_fraction (esCons (eVar 8) esNil))
noncomputable def b_law_18_2_2 : Sm := sRet (eC (.bl false))
noncomputable def b_law_18_2_0_1_1_1 : Sm := sRet (eC (.bl false))
noncomputable def b_law_18_2_0_1_1 : Sm := sIf (tBl (eOp2 dNe (eOpN dRepr (esCons (eXf [1] 17 "value") esNil)) (eOpN dRepr (esCons (eVar 8) esNil)))) b_law_18_2_0_1_1_1 sNop
noncomputable def b_law_18_2 : Sm := sTry (sSeq b_law_18_2_1 b_law_18_2_2) [⟨[(1, true)], some 17, b_law_18_2_0_1_1⟩]
noncomputable def b_law_18 : Sm := sFor (iVal (eOpN dLst (esCons (eC .non) (esCons (eOpN dTup (esCons (eC (.int 1)) (esCons (eC (.int 0)) esNil))) (esCons (eOpN dTup (esCons (eC (.int 2)) (esCons (eC (.int 4)) esNil))) (esCons (eOpN dTup (esCons (eC (.int 0)) (esCons (eC (.int 2)) esNil))) (esCons (eOpN dTup (esCons (eC (.int 1)) esNil)) (esCons (eOpN dTup (esCons (eC (.bl true)) (esCons (eC (.int 2)) esNil))) (esCons (eOpN dLst (esCons (eC (.int 1)) (esCons (eC (.int 2)) (esCons (eC (.int 3)) esNil)))) (esCons (eC (.int 5)) (esCons (eOpN dTup (esCons (eC (.int 1)) (esCons (eOp1 dNeg (eC (.int 1))) esNil))) esNil))))))))))) (.name 8) (sSeq b_law_18_1 b_law_18_2)
noncomputable def b_law_19 : Sm := sRet (eCall (d__law_alike 12) (esCons (eCall d_want_fraction (esCons (eOpN dListOf (esCons (eVar 13) esNil)) esNil)) (esCons (eVar 13) esNil)))
noncomputable def b_law : Sm :=
  (sSeq b_law_1 (sSeq b_law_2 (sSeq b_law_3 (sSeq b_law_4 (sSeq b_law_5 (sSeq b_law_6 (sSeq b_law_7 (sSeq b_law_8 (sSeq b_law_9 (sSeq b_law_10 (sSeq b_law_11 (sSeq b_law_12 (sSeq b_law_13 (sSeq b_law_14 (sSeq b_law_15 (sSeq b_law_16 (sSeq b_law_17 (sSeq b_law_18 b_law_19))))))))))))))))))
noncomputable def d_law : FnD := runFn 1 19 b_law
theorem FnOk_law (Tx : Txt P K mg T) {f : Addr} {fd : FuncData} (F : Fun K "law" "law" s_law f fd) : FnG P w K mg base 14 f fd ["script"] (spI K T.base d_law) := by
  have H__law_alike : DefI P w K mg base T.base 13 "_law_alike" (d__law_alike 12) := D__law_alike Tx
  have H__law_low : DefI P w K mg base T.base 1 "_law_low" d__law_low := D__law_low Tx
  have H__law_taken : DefI P w K mg base T.base 1 "_law_taken" d__law_taken := D__law_taken Tx
  have H__law_truth : DefI P w K mg base T.base 1 "_law_truth" d__law_truth := D__law_truth Tx
  have H_ceiling_of : DefI P w K mg base T.base 1 "ceiling_of" d_ceiling_of := D_ceiling_of Tx
  have H_floor_of : DefI P w K mg base T.base 1 "floor_of" d_floor_of := D_floor_of Tx
  have H_is_fraction : DefI P w K mg base T.base 2 "is_fraction" d_is_fraction := D_is_fraction Tx
  have H_is_less : DefI P w K mg base T.base 1 "is_less" d_is_less := D_is_less Tx
  have H_median : DefI P w K mg base T.base 3 "median" d_median := D_median Tx
  have H_minus : DefI P w K mg base T.base 2 "minus" d_minus := D_minus Tx
  have H_nearest : DefI P w K mg base T.base 1 "nearest" d_nearest := D_nearest Tx
  have H_over : DefI P w K mg base T.base 2 "over" d_over := D_over Tx
  have H_plus : DefI P w K mg base T.base 2 "plus" d_plus := D_plus Tx
  have H_reduced : DefI P w K mg base T.base 1 "reduced" d_reduced := D_reduced Tx
  have H_times : DefI P w K mg base T.base 2 "times" d_times := D_times Tx
  have H_total : DefI P w K mg base T.base 3 "total" d_total := D_total Tx
  have H_want_fraction : DefI P w K mg base T.base 3 "want_fraction" d_want_fraction := D_want_fraction Tx
  exact FnG.scope (fnU_i (k := 13) (m := 19) (b := b_law) F sc_law rfl rfl fun cdv A outer s H E hroom tk =>
      (s_cons (s_set (i := 1) sc_law.nd rfl (by first | exact Or.inl rfl | exact Or.inr rfl) (i_new (a_cons (iv 0) (a_cons i_int (a_cons i_int (a_cons i_int a_nil))))))
      (s_cons (s_asg (i_tup (a_cons (i_bin o_sub (i_call H__law_taken (hroom.mono (by decide)) tk rfl (a_cons (iv 1) (a_cons i_int a_nil))) i_int) (a_cons (i_bin o_add i_int (i_call H__law_taken (hroom.mono (by decide)) tk rfl (a_cons (iv 1) (a_cons i_int a_nil)))) (a_cons (i_bin o_sub (i_call H__law_taken (hroom.mono (by decide)) tk rfl (a_cons (iv 1) (a_cons i_int a_nil))) i_int) (a_cons (i_bin o_add i_int (i_call H__law_taken (hroom.mono (by decide)) tk rfl (a_cons (iv 1) (a_cons i_int a_nil)))) a_nil))))) (g_tup (ts := [(.name 9), (.name 10), (.name 11), (.name 12)]) rfl (g_cons (g_name sc_law.nd (i := 9) rfl (by first | exact Or.inl rfl | exact Or.inr rfl)) (g_cons (g_name sc_law.nd (i := 10) rfl (by first | exact Or.inl rfl | exact Or.inr rfl)) (g_cons (g_name sc_law.nd (i := 11) rfl (by first | exact Or.inl rfl | exact Or.inr rfl)) (g_cons (g_name sc_law.nd (i := 12) rfl (by first | exact Or.inl rfl | exact Or.inr rfl)) g_nil))))))
      (s_cons (s_par (i := 13) (j := 14) rfl sc_law.nd rfl rfl (by decide) rfl rfl (a_cons (i_call H_reduced (hroom.mono (by decide)) tk rfl (a_cons (iv 9) (a_cons (iv 10) a_nil))) (a_cons (i_call H_reduced (hroom.mono (by decide)) tk rfl (a_cons (iv 11) (a_cons (iv 12) a_nil))) a_nil)) rfl)
      (s_cons (s_if (i_w (i_tor (i_tnot (i_truth (i_call H__law_alike (hroom.mono (by decide)) tk rfl (a_cons (i_tup (a_cons (iv 13) (a_cons (iv 14) a_nil))) (a_cons (i_tup (a_cons (i_call H__law_low (hroom.mono (by decide)) tk rfl (a_cons (iv 9) (a_cons (iv 10) a_nil))) (a_cons (i_call H__law_low (hroom.mono (by decide)) tk rfl (a_cons (iv 11) (a_cons (iv 12) a_nil))) a_nil))) a_nil))))) (i_tor (i_tnot (i_truth (i_call H_is_fraction (hroom.mono (by decide)) tk rfl (a_cons (iv 13) a_nil)))) (i_or1 (i_truth (i_call H_is_fraction (hroom.mono (by decide)) tk rfl (a_cons (i_tup (a_cons (i_bin o_mul (iv 9) i_int) (a_cons (i_bin o_mul (iv 10) i_int) a_nil))) a_nil))))))) (s_one (s_ret i_bl)) s_nil)
      (s_cons (s_if (i_tnot (i_truth (i_call H__law_alike (hroom.mono (by decide)) tk rfl (a_cons (i_tup (a_cons (i_call H_plus (hroom.mono (by decide)) tk rfl (a_cons (iv 13) (a_cons (iv 14) a_nil))) (a_cons (i_call H_minus (hroom.mono (by decide)) tk rfl (a_cons (iv 13) (a_cons (iv 14) a_nil))) (a_cons (i_call H_times (hroom.mono (by decide)) tk rfl (a_cons (iv 13) (a_cons (iv 14) a_nil))) a_nil)))) (a_cons (i_tup (a_cons (i_call H__law_low (hroom.mono (by decide)) tk rfl (a_cons (i_bin o_add (i_bin o_mul (iv 9) (iv 12)) (i_bin o_mul (iv 11) (iv 10))) (a_cons (i_bin o_mul (iv 10) (iv 12)) a_nil))) (a_cons (i_call H__law_low (hroom.mono (by decide)) tk rfl (a_cons (i_bin o_sub (i_bin o_mul (iv 9) (iv 12)) (i_bin o_mul (iv 11) (iv 10))) (a_cons (i_bin o_mul (iv 10) (iv 12)) a_nil))) (a_cons (i_call H__law_low (hroom.mono (by decide)) tk rfl (a_cons (i_bin o_mul (iv 9) (iv 11)) (a_cons (i_bin o_mul (iv 10) (iv 12)) a_nil))) a_nil)))) a_nil))))) (s_one (s_ret i_bl)) s_nil)
      (s_cons (s_if (i_w (i_tor (i_w (i_tand (i_tcmp o_gt (iv 11) i_int rfl) (i_and1 (i_tnot (i_truth (i_call H__law_alike (hroom.mono (by decide)) tk rfl (a_cons (i_call H_over (hroom.mono (by decide)) tk rfl (a_cons (iv 13) (a_cons (iv 14) a_nil))) (a_cons (i_call H__law_low (hroom.mono (by decide)) tk rfl (a_cons (i_bin o_mul (iv 9) (iv 12)) (a_cons (i_bin o_mul (iv 10) (iv 11)) a_nil))) a_nil)))))))) (i_or1 (i_tnot (i_truth (i_call H__law_truth (hroom.mono (by decide)) tk rfl (a_cons (i_call H_is_less (hroom.mono (by decide)) tk rfl (a_cons (iv 13) (a_cons (iv 14) a_nil))) (a_cons (i_cmp o_lt (i_bin o_mul (iv 9) (iv 12)) (i_bin o_mul (iv 11) (iv 10)) rfl) a_nil)))))))) (s_one (s_ret i_bl)) s_nil)
      (s_cons (s_set (i := 2) sc_law.nd rfl (by first | exact Or.inl rfl | exact Or.inr rfl) (i_listRg2 false rfl rfl Tx.mg_list rfl Tx.mg_range (i_un o_neg i_int) i_int))
      (s_cons (s_par (i := 6) (j := 7) rfl sc_law.nd rfl rfl (by decide) rfl rfl (a_cons (i_callB (o_maxL rfl) rfl Tx.mg_max (by decide +kernel) (a_cons (i_comp (own := [("k", 18)]) rfl sc_law.nd (it_val (iv 2)) (blkOk_by (by kernel_rfl)) (fun _ _ _ _ _ => (g_name sc_law.nd (i := 18) rfl (by first | exact Or.inl rfl | exact Or.inr rfl))) (fun _ _ _ _ _ => q_one (i_tcmp o_le (i_bin o_mul (iv 18) (iv 10)) (iv 9) rfl)) (fun _ _ _ _ _ => (iv 18))) a_nil)) (a_cons (i_callB (o_minL rfl) rfl Tx.mg_min (by decide +kernel) (a_cons (i_comp (own := [("k", 18)]) rfl sc_law.nd (it_val (iv 2)) (blkOk_by (by kernel_rfl)) (fun _ _ _ _ _ => (g_name sc_law.nd (i := 18) rfl (by first | exact Or.inl rfl | exact Or.inr rfl))) (fun _ _ _ _ _ => q_one (i_tcmp o_ge (i_bin o_mul (iv 18) (iv 10)) (iv 9) rfl)) (fun _ _ _ _ _ => (iv 18))) a_nil)) a_nil)) rfl)
      (s_cons (s_set (i := 3) sc_law.nd rfl (by first | exact Or.inl rfl | exact Or.inr rfl) (i_callB (o_maxL rfl) rfl Tx.mg_max (by decide +kernel) (a_cons (i_comp (own := [("k", 18)]) rfl sc_law.nd (it_val (iv 2)) (blkOk_by (by kernel_rfl)) (fun _ _ _ _ _ => (g_name sc_law.nd (i := 18) rfl (by first | exact Or.inl rfl | exact Or.inr rfl))) (fun _ _ _ _ _ => q_one (i_tcmp o_le (i_bin o_mul (i_bin o_sub (i_bin o_mul i_int (iv 18)) i_int) (iv 10)) (i_bin o_mul i_int (iv 9)) rfl)) (fun _ _ _ _ _ => (iv 18))) a_nil)))
      (s_cons (s_if (i_tnot (i_truth (i_call H__law_alike (hroom.mono (by decide)) tk rfl (a_cons (i_tup (a_cons (i_call H_floor_of (hroom.mono (by decide)) tk rfl (a_cons (iv 13) a_nil)) (a_cons (i_call H_ceiling_of (hroom.mono (by decide)) tk rfl (a_cons (iv 13) a_nil)) (a_cons (i_call H_nearest (hroom.mono (by decide)) tk rfl (a_cons (iv 13) a_nil)) a_nil)))) (a_cons (i_tup (a_cons (iv 6) (a_cons (iv 7) (a_cons (iv 3) a_nil)))) a_nil))))) (s_one (s_ret i_bl)) s_nil)
      (s_cons (s_par (i := 15) (j := 16) rfl sc_law.nd rfl rfl (by decide) rfl rfl (a_cons (i_bin o_add (i_lst (a_cons (iv 13) (a_cons (iv 14) a_nil))) (i_comp (own := [("k", 18)]) rfl sc_law.nd (it_range1 rfl Tx.mg_range (a_cons (i_call H__law_taken (hroom.mono (by decide)) tk rfl (a_cons (iv 1) (a_cons i_int a_nil))) a_nil)) (blkOk_by (by kernel_rfl)) (fun _ _ _ _ _ => (g_name sc_law.nd (i := 18) rfl (by first | exact Or.inl rfl | exact Or.inr rfl))) (fun _ _ _ _ _ => q_nil) (fun _ _ _ _ _ => (i_call H_reduced (hroom.mono (by decide)) takes0 rfl (a_cons (i_bin o_sub (i_call H__law_taken (hroom.mono (by decide)) takes0 rfl (a_cons (iv 1) (a_cons i_int a_nil))) i_int) (a_cons (i_bin o_add i_int (i_call H__law_taken (hroom.mono (by decide)) takes0 rfl (a_cons (iv 1) (a_cons i_int a_nil)))) a_nil)))))) (a_cons (i_tup (a_cons i_int (a_cons i_int a_nil))) a_nil)) rfl)
      (s_cons (s_for (passes_of rfl) rfl (it_val (iv 15)) (g_name sc_law.nd (i := 4) rfl (by first | exact Or.inl rfl | exact Or.inr rfl)) (s_one (s_set (i := 16) sc_law.nd rfl (by first | exact Or.inl rfl | exact Or.inr rfl) (i_call H__law_low (hroom.mono (by decide)) tk rfl (a_cons (i_bin o_add (i_bin o_mul (i_ix o_ix (iv 16) i_int (fun _ _ => rfl)) (i_ix o_ix (iv 4) i_int (fun _ _ => rfl))) (i_bin o_mul (i_ix o_ix (iv 4) i_int (fun _ _ => rfl)) (i_ix o_ix (iv 16) i_int (fun _ _ => rfl)))) (a_cons (i_bin o_mul (i_ix o_ix (iv 16) i_int (fun _ _ => rfl)) (i_ix o_ix (iv 4) i_int (fun _ _ => rfl))) a_nil))))))
      (s_cons (s_if (i_tnot (i_truth (i_call H__law_alike (hroom.mono (by decide)) tk rfl (a_cons (i_call H_total (hroom.mono (by decide)) tk rfl (a_cons (iv 15) a_nil)) (a_cons (iv 16) a_nil))))) (s_one (s_ret i_bl)) s_nil)
      (s_cons (s_set (i := 5) sc_law.nd rfl (by first | exact Or.inl rfl | exact Or.inr rfl) (i_call H_median (hroom.mono (by decide)) tk rfl (a_cons (iv 15) a_nil)))
      (s_cons (s_set (i := 6) sc_law.nd rfl (by first | exact Or.inl rfl | exact Or.inr rfl) (i_callB o_len rfl Tx.mg_len (by decide +kernel) (a_cons (i_comp (own := [("part", 4)]) rfl sc_law.nd (it_val (iv 15)) (blkOk_by (by kernel_rfl)) (fun _ _ _ _ _ => (g_name sc_law.nd (i := 4) rfl (by first | exact Or.inl rfl | exact Or.inr rfl))) (fun _ _ _ _ _ => q_one (i_tcmp o_lt (i_bin o_mul (i_ix o_ix (iv 4) i_int (fun _ _ => rfl)) (i_ix o_ix (iv 5) i_int (fun _ _ => rfl))) (i_bin o_mul (i_ix o_ix (iv 5) i_int (fun _ _ => rfl)) (i_ix o_ix (iv 4) i_int (fun _ _ => rfl))) rfl)) (fun _ _ _ _ _ => i_int)) a_nil)))
      (s_cons (s_set (i := 7) sc_law.nd rfl (by first | exact Or.inl rfl | exact Or.inr rfl) (i_callB o_len rfl Tx.mg_len (by decide +kernel) (a_cons (i_comp (own := [("part", 4)]) rfl sc_law.nd (it_val (iv 15)) (blkOk_by (by kernel_rfl)) (fun _ _ _ _ _ => (g_name sc_law.nd (i := 4) rfl (by first | exact Or.inl rfl | exact Or.inr rfl))) (fun _ _ _ _ _ => q_one (i_tcmp o_gt (i_bin o_mul (i_ix o_ix (iv 4) i_int (fun _ _ => rfl)) (i_ix o_ix (iv 5) i_int (fun _ _ => rfl))) (i_bin o_mul (i_ix o_ix (iv 5) i_int (fun _ _ => rfl)) (i_ix o_ix (iv 4) i_int (fun _ _ => rfl))) rfl)) (fun _ _ _ _ _ => i_int)) a_nil)))
      (s_cons (s_if (i_w (i_tor (i_tcmp o_gt (i_bin o_mul i_int (iv 6)) (i_callB o_len rfl Tx.mg_len (by decide +kernel) (a_cons (iv 15) a_nil)) rfl) (i_tor (i_tcmp o_gt (i_bin o_mul i_int (iv 7)) (i_callB o_len rfl Tx.mg_len (by decide +kernel) (a_cons (iv 15) a_nil)) rfl) (i_or1 (i_w (i_tand (i_tcmp (o_eq (hu64 hroom)) (i_bin o_mod (i_callB o_len rfl Tx.mg_len (by decide +kernel) (a_cons (iv 15) a_nil)) i_int) i_int rfl) (i_and1 (i_tcmp (o_notin (hu65 hroom)) (iv 5) (iv 15) rfl)))))))) (s_one (s_ret i_bl)) s_nil)
      (s_cons (s_for (passes_of rfl) rfl (it_val (i_lst (a_cons i_non (a_cons (i_tup (a_cons i_int (a_cons i_int a_nil))) (a_cons (i_tup (a_cons i_int (a_cons i_int a_nil))) (a_cons (i_tup (a_cons i_int (a_cons i_int a_nil))) (a_cons (i_tup (a_cons i_int a_nil)) (a_cons (i_tup (a_cons i_bl (a_cons i_int a_nil))) (a_cons (i_lst (a_cons i_int (a_cons i_int (a_cons i_int a_nil)))) (a_cons i_int (a_cons (i_tup (a_cons i_int (a_cons (i_un o_neg i_int) a_nil))) a_nil))))))))))) (g_name sc_law.nd (i := 8) rfl (by first | exact Or.inl rfl | exact Or.inr rfl)) (s_cons (s_if (i_truth (i_call H_is_fraction (hroom.mono (by decide)) tk rfl (a_cons (iv 8) a_nil))) (s_one (s_ret i_bl)) s_nil)
      (s_one (s_try rfl tk (fun W0 pn0 xe0 tk0 po0 => (s_cons (s_expr (i_call H_want_fraction (hroom.mono (by decide)) tk0 rfl (a_cons (iv 8) a_nil)))
      (s_one (s_ret i_bl)))) (HdsD.named (tbl := [(1, true)]) sc_law.nd (i := 17) rfl rfl ⟨rfl, by decide, Or.inl Tx.x_BadNumber.1⟩ (Tx.exm_BadNumber) (fun a oe cls d pn hz hf => (s_one (s_if (i_tcmp (o_ne (hu64m hroom)) (i_callB (o_repr hroom.g (hu70m hroom)) rfl Tx.mg_repr (by decide +kernel) (a_cons (i_xf (cs := [1]) (i := 17) hz hf rfl (by first | exact Or.inl rfl | exact Or.inr (Or.inl rfl)) (by simp only [List.mem_cons, List.not_mem_nil, or_false]; rintro c rfl; exact ⟨Tx.xf_BadNumber, Tx.xn_BadNumber_value⟩)) a_nil)) (i_callB (o_repr hroom.g (hu70m hroom)) rfl Tx.mg_repr (by decide +kernel) (a_cons (iv 8) a_nil)) rfl) (s_one (s_ret i_bl)) s_nil))) HdsD.nil)))))
      (s_one (s_ret (i_call H__law_alike (hroom.mono (by decide)) tk rfl (a_cons (i_call H_want_fraction (hroom.mono (by decide)) tk rfl (a_cons (i_callTy o_list rfl Tx.mg_list (by decide +kernel) (a_cons (iv 13) a_nil)) a_nil)) (a_cons (iv 13) a_nil))))))))))))))))))))))))
end
end Qk10

namespace G
open PySem PySem.Spec PyProof.Rows L2
theorem xv_non : isExv .non = false := id rfl
theorem xv_bl {b} : isExv (.bl b) = false := id rfl
theorem xv_int {b} : isExv (.int b) = false := id rfl
theorem xv_str {b} : isExv (.str b) = false := id rfl
theorem xv_lst {b} : isExv (.lst b) = false := id rfl
theorem xv_tup {b} : isExv (.tup b) = false := id rfl
theorem xv_scr {b} : isExv (.scr b) = false := id rfl
theorem xv_ref {b} : isExv (.ref b) = false := id rfl
theorem xv_ins {b c} : isExv (.ins b c) = false := id rfl
theorem xv_fn {b} : isExv (.fn b) = false := id rfl
theorem xv_ty {b} : isExv (.ty b) = false := id rfl
theorem bind_ok {α β : Type} {a : α} {S : Sto} {k : α → Sto → Rs β} : (Rs.ok a S).bind k = k a S := rfl
theorem lft_ok {α : Type} {a : α} {S : Sto} {ε : Env} {k : α → Sto → Fl} : lft (.ok a S) ε k = k a S := rfl
theorem lft_exc {α : Type} {c fs} {S : Sto} {ε : Env} {k : α → Sto → Fl} : lft (.exc c fs S) ε k = .ex c fs ε S := rfl
theorem lft_bad {α : Type} {ε : Env} {k : α → Sto → Fl} : lft (.bad : Rs α) ε k = .bad := rfl
theorem of_some {α : Type} {a : α} {S : Sto} : Rs.of (some (a, S)) = .ok a S := rfl
theorem atI_0 {α : Type} {x : α} {l : List α} : atI (x :: l) 0 = some x := by simp [atI, ixN]
theorem fnRes_rt {d : Da} {S : Sto} : fnRes (.rt d S) = .ok d S := rfl
theorem fnRes_nx {ε : Env} {S : Sto} : fnRes (.nx ε S) = .ok .non S := rfl
theorem fnRes_ex {c fs} {ε : Env} {S : Sto} : fnRes (.ex c fs ε S) = .exc c fs S := rfl
theorem dEq_ii {i j : Int} {S : Sto} : dEq (.int i) (.int j) S = some (.bl (i == j), S) := rfl
theorem dEq_bb {i j : Bool} {S : Sto} : dEq (.bl i) (.bl j) S = some (.bl (i == j), S) := rfl
theorem dEq_ss {i j : Str} {S : Sto} : dEq (.str i) (.str j) S = some (.bl (i == j), S) := rfl
theorem dEq_nn {S : Sto} : dEq .non .non S = some (.bl true, S) := rfl
theorem dNe_ii {i j : Int} {S : Sto} : dNe (.int i) (.int j) S = some (.bl (!(i == j)), S) := rfl
theorem dNe_bb {i j : Bool} {S : Sto} : dNe (.bl i) (.bl j) S = some (.bl (!(i == j)), S) := rfl
theorem dNe_ss {i j : Str} {S : Sto} : dNe (.str i) (.str j) S = some (.bl (!(i == j)), S) := rfl
theorem dNe_nn {S : Sto} : dNe .non .non S = some (.bl false, S) := rfl
theorem drf_shp {n : Nat} {d : Da} {S : Sto} (h : shp n d = true) : drf S d = d := by cases d <;> first | rfl | simp [shp] at h
theorem dEq_shp {x y : Da} {S : Sto} (hx : shp 64 x = true) (hy : shp 64 y = true) : dEq x y S = some (.bl (eqv x y), S) := by
  unfold dEq; rw [drf_shp hx, drf_shp hy, hx, hy, if_pos (by simp)]
theorem dNe_shp {x y : Da} {S : Sto} (hx : shp 64 x = true) (hy : shp 64 y = true) : dNe x y S = some (.bl (!eqv x y), S) := by
  unfold dNe; rw [drf_shp hx, drf_shp hy, hx, hy, if_pos (by simp)]
theorem dLst_s {xs : List Da} {S : Sto} (h : xs.length ≤ 1000) : dLst xs S = some (.lst xs, S) := by
  unfold dLst; rw [if_pos (by rw [sizeLine_eq]; omega)]
theorem dTup_s {xs : List Da} {S : Sto} (h : xs.length ≤ 1000) : dTup xs S = some (.tup xs, S) := by
  unfold dTup; rw [if_pos (by rw [sizeLine_eq]; omega)]
theorem dNew_s {xs : List Da} {S : Sto} (h : xs.length ≤ 1000) : dNew xs S = some (.ref S.length, S ++ [.lst xs]) := by
  unfold dNew; rw [if_pos (by rw [sizeLine_eq]; omega)]
theorem dEq_nil {S : Sto} : dEq (.lst []) (.lst []) S = some (.bl true, S) := rfl
theorem dEq_nilc {S : Sto} {d : Da} {ds : List Da} (h : shp 64 (.lst (d :: ds)) = true) : dEq (.lst (d :: ds)) (.lst []) S = some (.bl false, S) := by
  rw [dEq_shp h rfl]; rfl
theorem put_name {i : Nat} {d : Da} {ε : Env} : put (.name i) d ε = some (ε.set i (some d)) := by rw [put]
theorem put_tt {ts : List Tg} {ds : List Da} {ε : Env} : put (.tup ts) (.tup ds) ε = puts ts ds ε := by rw [put]
theorem put_tl {ts : List Tg} {ds : List Da} {ε : Env} : put (.tup ts) (.lst ds) ε = puts ts ds ε := by rw [put]
theorem puts_nil {ε : Env} : puts [] [] ε = some ε := by rw [puts]
theorem puts_cons {t : Tg} {ts : List Tg} {d : Da} {ds : List Da} {ε ε1 : Env} (h : put t d ε = some ε1) : puts (t :: ts) (d :: ds) ε = puts ts ds ε1 := by rw [puts, h]
theorem puts_name {i : Nat} {ts : List Tg} {d : Da} {ds : List Da} {ε : Env} : puts (.name i :: ts) (d :: ds) ε = puts ts ds (ε.set i (some d)) := puts_cons put_name
/-- the row of a law: the script, how many were read, the state, what is left of a large number -/
def rowL (ns : List Int) (i s p : Int) : Ob := .lst [.scr ns, .int i, .int s, .int p]
section
variable {S : Sto} {r : Nat} {ns : List Int} {i s p m : Int}
theorem row0 {i s p : Int} : atI [Da.scr ns, Da.int i, Da.int s, Da.int p] 0 = some (.scr ns) := rfl
theorem row1 {i s p : Int} : atI [Da.scr ns, Da.int i, Da.int s, Da.int p] 1 = some (.int i) := rfl
theorem row2 {i s p : Int} : atI [Da.scr ns, Da.int i, Da.int s, Da.int p] 2 = some (.int s) := rfl
theorem row3 {i s p : Int} : atI [Da.scr ns, Da.int i, Da.int s, Da.int p] 3 = some (.int p) := rfl
theorem ix1 {n : Nat} (h : 2 ≤ n) : ixN n 1 = some 1 := by unfold ixN; rw [if_pos (by decide), if_pos (by omega)]; rfl
theorem ixk (n : Nat) (k : Nat) (h : k < n) : ixN n (k : Int) = some k := by unfold ixN; rw [if_pos (by omega), if_pos (by omega)]; simp
theorem ix4_1 : ixN 4 1 = some 1 := rfl
theorem ix4_2 : ixN 4 2 = some 2 := rfl
theorem ix4_3 : ixN 4 3 = some 3 := rfl
theorem row_set {X : Ob} (h : r < S.length) : (S.set r X)[r]? = some X := List.getElem?_set_self h
theorem mulOk_s (h1 : 0 ≤ s) (h2 : s < 2147483647) : mulOk s 48271 = true := mulOk_r (by decide) (by decide)
theorem taken1 (h : S[r]? = some (.lst [.scr ns, .int i, .int s, .int p])) (hp : 0 < p) (hm : 0 < m) (hm2 : m < 1073741824) :
    runU 2 4 Qk10.b__law_taken [.ref r, .int m] S = .ok (.int (p % m)) (S.set r (.lst [.scr ns, .int i, .int s, .int (p / m)])) := by
  have hmm : 0 < m ∧ m < 1073741824 := ⟨hm, hm2⟩
  rw [Qk10.b__law_taken_eq]
  simp only [runU, eVar, eC, xv_non, xv_bl, xv_int, xv_str, xv_lst, xv_tup, xv_scr, xv_ref, xv_ins, xv_fn, xv_ty, bind_ok, lft_ok, lft_exc, of_some, fnRes_rt, fnRes_nx, fnRes_ex, eOp1, eOp2, eOpN, esNil, esCons, sSeq, sSet, sIf, sRet, sRetN, sExpr, sNop, tBl, tOf, tAnd, tOr, tNot, asB, sSetIx, List.map_cons, List.map_nil, List.replicate, Nat.zero_add, Nat.reduceAdd, Nat.reduceSub, List.cons_append, List.nil_append, List.getElem?_cons_zero, List.getElem?_cons_succ, List.set_cons_zero, List.set_cons_succ, List.length_cons, List.length_nil, dIx, dGt, dGe, dLt, dLe, dAdd, dSub, dMul, dMod, dDiv, dPow, dNeg, dInt, drf, dLen, if_true, if_false, Bool.false_eq_true, decide_eq_true_eq, dSetIx, Option.map_some, decide_true, decide_false, truth, eAnd, eOr, eNot, eIf, eIsT, dIsT, kindD, tysOf, dIsi, isB, dIs, dIsNot, isNon, List.any_cons, List.any_nil, Bool.or_false, Bool.or_true, Bool.false_or, Bool.true_or, Bool.and_true, Bool.true_and, Bool.and_false, Bool.false_and, Bool.not_true, Bool.not_false, Nat.reduceLeDiff, Nat.reduceLT, Int.reduceLT, Int.reduceLE, and_self, and_true, true_and, reduceIte, sFor, lft_bad, dEq_ii, dEq_bb, dEq_ss, dEq_nn, dNe_ii, dNe_bb, dNe_ss, dNe_nn, BEq.rfl, dLst_s, dTup_s, dNew_s, dEq_nil, Nat.zero_le, put_name, put_tt, put_tl, puts_nil, puts_name, sAsg, h, row0, row1, row2, row3, hp, hm, hmm, and_self, ix4_3]
theorem taken2 (h : S[r]? = some (.lst [.scr ns, .int i, .int s, .int p])) (hp : ¬ 0 < p) (h1 : 0 ≤ s) (h2 : s < 2147483647) (hi : (ns.length : Int) < i + 1) (hm : 0 < m) (hm2 : m < 1073741824) :
    runU 2 4 Qk10.b__law_taken [.ref r, .int m] S = .ok (.int ((s * 48271 + 11) % 2147483647 / 7 % m)) (S.set r (.lst [.scr ns, .int (i + 1), .int ((s * 48271 + 11) % 2147483647), .int p])) := by
  have hmm : 0 < m ∧ m < 1073741824 := ⟨hm, hm2⟩
  have hr : r < S.length := (List.getElem?_eq_some_iff.mp h).1
  rw [Qk10.b__law_taken_eq]
  simp only [runU, eVar, eC, xv_non, xv_bl, xv_int, xv_str, xv_lst, xv_tup, xv_scr, xv_ref, xv_ins, xv_fn, xv_ty, bind_ok, lft_ok, lft_exc, of_some, fnRes_rt, fnRes_nx, fnRes_ex, eOp1, eOp2, eOpN, esNil, esCons, sSeq, sSet, sIf, sRet, sRetN, sExpr, sNop, tBl, tOf, tAnd, tOr, tNot, asB, sSetIx, List.map_cons, List.map_nil, List.replicate, Nat.zero_add, Nat.reduceAdd, Nat.reduceSub, List.cons_append, List.nil_append, List.getElem?_cons_zero, List.getElem?_cons_succ, List.set_cons_zero, List.set_cons_succ, List.length_cons, List.length_nil, dIx, dGt, dGe, dLt, dLe, dAdd, dSub, dMul, dMod, dDiv, dPow, dNeg, dInt, drf, dLen, if_true, if_false, Bool.false_eq_true, decide_eq_true_eq, dSetIx, Option.map_some, decide_true, decide_false, truth, eAnd, eOr, eNot, eIf, eIsT, dIsT, kindD, tysOf, dIsi, isB, dIs, dIsNot, isNon, List.any_cons, List.any_nil, Bool.or_false, Bool.or_true, Bool.false_or, Bool.true_or, Bool.and_true, Bool.true_and, Bool.and_false, Bool.false_and, Bool.not_true, Bool.not_false, Nat.reduceLeDiff, Nat.reduceLT, Int.reduceLT, Int.reduceLE, and_self, and_true, true_and, reduceIte, sFor, lft_bad, dEq_ii, dEq_bb, dEq_ss, dEq_nn, dNe_ii, dNe_bb, dNe_ss, dNe_nn, BEq.rfl, dLst_s, dTup_s, dNew_s, dEq_nil, Nat.zero_le, put_name, put_tt, put_tl, puts_nil, puts_name, sAsg, h, row0, row1, row2, row3, hp, hm, hmm, and_self, ix4_3, ix4_1, ix4_2, row_set hr, hi, mulOk_s h1 h2, show (0 : Int) < 2147483647 from by decide, show (0 : Int) < 7 ∧ (7 : Int) < 1073741824 from by decide, List.length_set, List.set_set]
theorem taken3 {c : Int} (h : S[r]? = some (.lst [.scr ns, .int i, .int s, .int p])) (hp : ¬ 0 < p) (h1 : 0 ≤ s) (h2 : s < 2147483647) (hi : ¬ (ns.length : Int) < i + 1) (h0 : 0 ≤ i) (hc : ns[i.toNat]? = some c) (hm : 0 < m) (hm2 : m < 1073741824) :
    runU 2 4 Qk10.b__law_taken [.ref r, .int m] S = .ok (.int (c % m)) (S.set r (.lst [.scr ns, .int (i + 1), .int ((s * 48271 + c + 11) % 2147483647), .int (if 1000000000000000000 ≤ c then c / m else p)])) := by
  have hmm : 0 < m ∧ m < 1073741824 := ⟨hm, hm2⟩
  have hr : r < S.length := (List.getElem?_eq_some_iff.mp h).1
  have hat : atI ns (i + 1 - 1) = some c := by
    rw [Int.add_sub_cancel]
    have : i = ((i.toNat : Nat) : Int) := by omega
    rw [this]; exact atI_nat hc
  rw [Qk10.b__law_taken_eq]
  simp only [runU, eVar, eC, xv_non, xv_bl, xv_int, xv_str, xv_lst, xv_tup, xv_scr, xv_ref, xv_ins, xv_fn, xv_ty, bind_ok, lft_ok, lft_exc, of_some, fnRes_rt, fnRes_nx, fnRes_ex, eOp1, eOp2, eOpN, esNil, esCons, sSeq, sSet, sIf, sRet, sRetN, sExpr, sNop, tBl, tOf, tAnd, tOr, tNot, asB, sSetIx, List.map_cons, List.map_nil, List.replicate, Nat.zero_add, Nat.reduceAdd, Nat.reduceSub, List.cons_append, List.nil_append, List.getElem?_cons_zero, List.getElem?_cons_succ, List.set_cons_zero, List.set_cons_succ, List.length_cons, List.length_nil, dIx, dGt, dGe, dLt, dLe, dAdd, dSub, dMul, dMod, dDiv, dPow, dNeg, dInt, drf, dLen, if_true, if_false, Bool.false_eq_true, decide_eq_true_eq, dSetIx, Option.map_some, decide_true, decide_false, truth, eAnd, eOr, eNot, eIf, eIsT, dIsT, kindD, tysOf, dIsi, isB, dIs, dIsNot, isNon, List.any_cons, List.any_nil, Bool.or_false, Bool.or_true, Bool.false_or, Bool.true_or, Bool.and_true, Bool.true_and, Bool.and_false, Bool.false_and, Bool.not_true, Bool.not_false, Nat.reduceLeDiff, Nat.reduceLT, Int.reduceLT, Int.reduceLE, and_self, and_true, true_and, reduceIte, sFor, lft_bad, dEq_ii, dEq_bb, dEq_ss, dEq_nn, dNe_ii, dNe_bb, dNe_ss, dNe_nn, BEq.rfl, dLst_s, dTup_s, dNew_s, dEq_nil, Nat.zero_le, put_name, put_tt, put_tl, puts_nil, puts_name, sAsg, h, row0, row1, row2, row3, hp, hm, hmm, and_self, ix4_3, ix4_1, ix4_2, row_set hr, hi, hat, mulOk_s h1 h2, show (0 : Int) < 2147483647 from by decide, show (0 : Int) < 7 ∧ (7 : Int) < 1073741824 from by decide, List.length_set, List.set_set]
  have pc : powOk 10 18 = true := cdec_of (by decide)
  have pv : (10 : Int) ^ Int.toNat 18 = 1000000000000000000 := by decide
  by_cases hb : 1000000000000000000 ≤ c
  · simp only [runU, eVar, eC, xv_non, xv_bl, xv_int, xv_str, xv_lst, xv_tup, xv_scr, xv_ref, xv_ins, xv_fn, xv_ty, bind_ok, lft_ok, lft_exc, of_some, fnRes_rt, fnRes_nx, fnRes_ex, eOp1, eOp2, eOpN, esNil, esCons, sSeq, sSet, sIf, sRet, sRetN, sExpr, sNop, tBl, tOf, tAnd, tOr, tNot, asB, sSetIx, List.map_cons, List.map_nil, List.replicate, Nat.zero_add, Nat.reduceAdd, Nat.reduceSub, List.cons_append, List.nil_append, List.getElem?_cons_zero, List.getElem?_cons_succ, List.set_cons_zero, List.set_cons_succ, List.length_cons, List.length_nil, dIx, dGt, dGe, dLt, dLe, dAdd, dSub, dMul, dMod, dDiv, dPow, dNeg, dInt, drf, dLen, if_true, if_false, Bool.false_eq_true, decide_eq_true_eq, dSetIx, Option.map_some, decide_true, decide_false, truth, eAnd, eOr, eNot, eIf, eIsT, dIsT, kindD, tysOf, dIsi, isB, dIs, dIsNot, isNon, List.any_cons, List.any_nil, Bool.or_false, Bool.or_true, Bool.false_or, Bool.true_or, Bool.and_true, Bool.true_and, Bool.and_false, Bool.false_and, Bool.not_true, Bool.not_false, Nat.reduceLeDiff, Nat.reduceLT, Int.reduceLT, Int.reduceLE, and_self, and_true, true_and, reduceIte, sFor, lft_bad, dEq_ii, dEq_bb, dEq_ss, dEq_nn, dNe_ii, dNe_bb, dNe_ss, dNe_nn, BEq.rfl, dLst_s, dTup_s, dNew_s, dEq_nil, Nat.zero_le, put_name, put_tt, put_tl, puts_nil, puts_name, sAsg, pc, pv, hb, row_set hr, row3, hmm, and_self, ix4_3, List.set_set, hm]
  · simp only [runU, eVar, eC, xv_non, xv_bl, xv_int, xv_str, xv_lst, xv_tup, xv_scr, xv_ref, xv_ins, xv_fn, xv_ty, bind_ok, lft_ok, lft_exc, of_some, fnRes_rt, fnRes_nx, fnRes_ex, eOp1, eOp2, eOpN, esNil, esCons, sSeq, sSet, sIf, sRet, sRetN, sExpr, sNop, tBl, tOf, tAnd, tOr, tNot, asB, sSetIx, List.map_cons, List.map_nil, List.replicate, Nat.zero_add, Nat.reduceAdd, Nat.reduceSub, List.cons_append, List.nil_append, List.getElem?_cons_zero, List.getElem?_cons_succ, List.set_cons_zero, List.set_cons_succ, List.length_cons, List.length_nil, dIx, dGt, dGe, dLt, dLe, dAdd, dSub, dMul, dMod, dDiv, dPow, dNeg, dInt, drf, dLen, if_true, if_false, Bool.false_eq_true, decide_eq_true_eq, dSetIx, Option.map_some, decide_true, decide_false, truth, eAnd, eOr, eNot, eIf, eIsT, dIsT, kindD, tysOf, dIsi, isB, dIs, dIsNot, isNon, List.any_cons, List.any_nil, Bool.or_false, Bool.or_true, Bool.false_or, Bool.true_or, Bool.and_true, Bool.true_and, Bool.and_false, Bool.false_and, Bool.not_true, Bool.not_false, Nat.reduceLeDiff, Nat.reduceLT, Int.reduceLT, Int.reduceLE, and_self, and_true, true_and, reduceIte, sFor, lft_bad, dEq_ii, dEq_bb, dEq_ss, dEq_nn, dNe_ii, dNe_bb, dNe_ss, dNe_nn, BEq.rfl, dLst_s, dTup_s, dNew_s, dEq_nil, Nat.zero_le, put_name, put_tt, put_tl, puts_nil, puts_name, sAsg, pc, pv, hb, row_set hr, row3, hmm, and_self, ix4_3, List.set_set, hm]
end
/-! ### leaving a def -/
theorem scp_same {S : Sto} {d : Da} (h : belowD S.length d = true) : scp S (.ok d S) = .ok d S := by
  rw [scp_ok, if_pos ⟨h, Nat.le_refl _, fun i _ => .inl rfl⟩, List.take_length]
theorem scp_more {S X : Sto} {d : Da} (h : belowD S.length d = true) : scp S (.ok d (S ++ X)) = .ok d S := by
  rw [scp_ok, if_pos ⟨h, by simp, fun i hi => .inl (List.getElem?_append_left hi)⟩, List.take_left]
theorem scp_set {S : Sto} {d : Da} {r : Nat} {o : Ob} (h : belowD S.length d = true) (ho : belowO S.length o = true) : scp S (.ok d (S.set r o)) = .ok d (S.set r o) := by
  have e : (S.set r o).take S.length = S.set r o := by rw [← List.length_set (as := S) (i := r) (a := o), List.take_length]
  have sc : ScopeOk S (S.set r o) := ⟨by simp, fun i hi => by
    by_cases z : i = r
    · subst z
      exact .inr ⟨o, List.getElem?_set_self hi, ho⟩
    · exact .inl (List.getElem?_set_ne (Ne.symm z))⟩
  rw [scp_ok, if_pos ⟨h, sc⟩, e]
theorem scp_exc_same {S : Sto} {c : Nat} {fs : List (Str × Da)} (h : belowDf S.length fs = true) : scp S (.exc c fs S) = .exc c fs S := by
  rw [scp_exc, if_pos ⟨h, Nat.le_refl _, fun i _ => .inl rfl⟩, List.take_length]
theorem scp_exc_more {S X : Sto} {c : Nat} {fs : List (Str × Da)} (h : belowDf S.length fs = true) : scp S (.exc c fs (S ++ X)) = .exc c fs S := by
  rw [scp_exc, if_pos ⟨h, by simp, fun i hi => .inl (List.getElem?_append_left hi)⟩, List.take_left]
/-! ### _law_taken -/
/-- the row stands at r of the store -/
structure RowOk (S : Sto) (r : Nat) (ns : List Int) : Prop where
  ex : ∃ i s p : Int, S[r]? = some (.lst [.scr ns, .int i, .int s, .int p]) ∧ 0 ≤ i ∧ 0 ≤ s ∧ s < 2147483647
/-- the rest of the store is as it was -/
structure OnlyAt (r : Nat) (S S' : Sto) : Prop where
  len : S'.length = S.length
  old : ∀ j, j ≠ r → S'[j]? = S[j]?
theorem OnlyAt.refl (r : Nat) (S : Sto) : OnlyAt r S S := ⟨rfl, fun _ _ => rfl⟩
theorem OnlyAt.trans {r : Nat} {S1 S2 S3 : Sto} (a : OnlyAt r S1 S2) (b : OnlyAt r S2 S3) : OnlyAt r S1 S3 := ⟨b.len.trans a.len, fun j h => (b.old j h).trans (a.old j h)⟩
theorem OnlyAt.set (r : Nat) (S : Sto) (o : Ob) : OnlyAt r S (S.set r o) := ⟨by simp, fun j h => List.getElem?_set_ne (Ne.symm h)⟩
theorem taken_spec {S : Sto} {r : Nat} {ns : List Int} {m : Int} (h : RowOk S r ns) (hm : 0 < m) (hm2 : m < 1073741824) :
    ∃ v S', Qk10.d__law_taken [.ref r, .int m] S = .ok (.int v) S' ∧ 0 ≤ v ∧ v < m ∧ RowOk S' r ns ∧ OnlyAt r S S' := by
  obtain ⟨i, s, p, e, h0, h1, h2⟩ := h.ex
  have hr : r < S.length := (List.getElem?_eq_some_iff.mp e).1
  have bel : ∀ i s p : Int, belowO S.length (.lst [.scr ns, .int i, .int s, .int p]) = true := fun _ _ _ => rfl
  have fin : ∀ (v i' s' p' : Int), runU 2 4 Qk10.b__law_taken [.ref r, .int m] S = .ok (.int v) (S.set r (.lst [.scr ns, .int i', .int s', .int p'])) → 0 ≤ i' → 0 ≤ s' → s' < 2147483647 → 0 ≤ v → v < m →
      ∃ v S', Qk10.d__law_taken [.ref r, .int m] S = .ok (.int v) S' ∧ 0 ≤ v ∧ v < m ∧ RowOk S' r ns ∧ OnlyAt r S S' := fun v i' s' p' e1 a1 a2 a3 a4 a5 => by
    refine ⟨v, S.set r (.lst [.scr ns, .int i', .int s', .int p']), ?_, a4, a5, ⟨i', s', p', row_set hr, a1, a2, a3⟩, OnlyAt.set _ _ _⟩
    unfold Qk10.d__law_taken runFn
    rw [e1]
    exact scp_set rfl (bel _ _ _)
  have hmod : ∀ z : Int, 0 ≤ z % m ∧ z % m < m := fun z => ⟨Int.emod_nonneg _ (by omega), Int.emod_lt_of_pos _ hm⟩
  have hm7 : ∀ z : Int, 0 ≤ z % 2147483647 ∧ z % 2147483647 < 2147483647 := fun z => ⟨Int.emod_nonneg _ (by omega), Int.emod_lt_of_pos _ (by omega)⟩
  by_cases hp : 0 < p
  · exact fin _ _ _ _ (taken1 e hp hm hm2) h0 h1 h2 (hmod _).1 (hmod _).2
  · by_cases hi : (ns.length : Int) < i + 1
    · exact fin _ _ _ _ (taken2 e hp h1 h2 hi hm hm2) (by omega) (hm7 _).1 (hm7 _).2 (hmod _).1 (hmod _).2
    · have hi2 : i.toNat < ns.length := by omega
      exact fin _ _ _ _ (taken3 e hp h1 h2 hi h0 (List.getElem?_eq_getElem hi2) hm hm2) (by omega) (hm7 _).1 (hm7 _).2 (hmod _).1 (hmod _).2
end G

namespace G
open PySem PySem.Spec PyProof.Rows L2
/-! ### _law_alike -/
mutual
def dep : Da → Nat
  | .lst ds => deps ds + 1
  | .tup ds => deps ds + 1
  | _ => 0
def deps : List Da → Nat
  | [] => 0
  | d :: ds => max (dep d) (deps ds)
end
theorem deps_mem {d : Da} : ∀ {ds : List Da}, d ∈ ds → dep d ≤ deps ds
  | [], h => by cases h
  | e :: ds, h => by
    rcases List.mem_cons.mp h with h | h
    · subst h; exact Nat.le_max_left _ _
    · exact Nat.le_trans (deps_mem h) (Nat.le_max_right _ _)
mutual
theorem shp_refl : ∀ (n : Nat) (d : Da), shp n d = true → eqv d d = true
  | _, .non, _ => rfl
  | _, .bl b, _ => by simp [eqv]
  | _, .int b, _ => by simp [eqv]
  | _, .str b, _ => by simp [eqv]
  | n, .lst ds, h => by simp only [shp, Bool.and_eq_true] at h; simp only [eqv]; exact shps_refl (n - 1) ds h.2
  | n, .tup ds, h => by simp only [shp, Bool.and_eq_true] at h; simp only [eqv]; exact shps_refl (n - 1) ds h.2
  | _, .scr _, h => by simp [shp] at h
  | _, .ins _ _, h => by simp [shp] at h
  | _, .fn _, h => by simp [shp] at h
  | _, .ty _, h => by simp [shp] at h
  | _, .cls _, h => by simp [shp] at h
  | _, .exv _ _, h => by simp [shp] at h
  | _, .ref _, h => by simp [shp] at h
theorem shps_refl : ∀ (n : Nat) (ds : List Da), shps n ds = true → eqvs ds ds = true
  | _, [], _ => rfl
  | n, d :: ds, h => by simp only [shps, Bool.and_eq_true] at h; simp only [eqvs, Bool.and_eq_true]; exact ⟨shp_refl n d h.1, shps_refl n ds h.2⟩
end
theorem shps_mem {n : Nat} {d : Da} : ∀ {ds : List Da}, shps n ds = true → d ∈ ds → shp n d = true
  | [], _, h => by cases h
  | e :: ds, s, h => by
    simp only [shps, Bool.and_eq_true] at s
    rcases List.mem_cons.mp h with h | h
    · subst h; exact s.1
    · exact shps_mem s.2 h
mutual
theorem shp_mono : ∀ {n m : Nat} {d : Da}, n ≤ m → shp n d = true → shp m d = true
  | _, _, .non, _, _ => rfl
  | _, _, .bl b, _, _ => rfl
  | _, _, .int b, _, _ => rfl
  | _, _, .str b, _, h => h
  | n, m, .lst ds, l, h => by
    simp only [shp, Bool.and_eq_true, decide_eq_true_eq] at h ⊢
    exact ⟨by omega, shps_mono (by omega) h.2⟩
  | n, m, .tup ds, l, h => by
    simp only [shp, Bool.and_eq_true, decide_eq_true_eq] at h ⊢
    exact ⟨by omega, shps_mono (by omega) h.2⟩
  | _, _, .scr _, _, h => by simp [shp] at h
  | _, _, .ins _ _, _, h => by simp [shp] at h
  | _, _, .fn _, _, h => by simp [shp] at h
  | _, _, .ty _, _, h => by simp [shp] at h
  | _, _, .cls _, _, h => by simp [shp] at h
  | _, _, .exv _ _, _, h => by simp [shp] at h
  | _, _, .ref _, _, h => by simp [shp] at h
theorem shps_mono : ∀ {n m : Nat} {ds : List Da}, n ≤ m → shps n ds = true → shps m ds = true
  | _, _, [], _, _ => rfl
  | n, m, d :: ds, l, h => by simp only [shps, Bool.and_eq_true] at h ⊢; exact ⟨shp_mono l h.1, shps_mono l h.2⟩
end
/-- data: small, shallow -/
def okD (n : Nat) : Da → Bool
  | d => shp n d
mutual
/-- every row within is short -/
def shrt : Da → Bool
  | .lst ds => decide (ds.length ≤ sizeLine) && shrts ds
  | .tup ds => decide (ds.length ≤ sizeLine) && shrts ds
  | _ => true
def shrts : List Da → Bool
  | [] => true
  | d :: ds => shrt d && shrts ds
end
theorem shrts_mem {d : Da} : ∀ {ds : List Da}, shrts ds = true → d ∈ ds → shrt d = true
  | [], _, h => by cases h
  | e :: ds, s, h => by
    simp only [shrts, Bool.and_eq_true] at s
    rcases List.mem_cons.mp h with h | h
    · subst h; exact s.1
    · exact shrts_mem s.2 h
theorem shp_xv {n : Nat} {d : Da} (h : shp n d = true) : isExv d = false := by cases d <;> first | rfl | simp [shp] at h
mutual
theorem shp_below {m : Nat} : ∀ {n : Nat} {d : Da}, shp n d = true → belowD m d = true
  | _, .non, _ => rfl
  | _, .bl b, _ => rfl
  | _, .int b, _ => rfl
  | _, .str b, _ => rfl
  | n, .lst ds, h => by simp only [shp, Bool.and_eq_true] at h; exact shps_below h.2
  | n, .tup ds, h => by simp only [shp, Bool.and_eq_true] at h; exact shps_below h.2
  | _, .scr _, _ => rfl
  | _, .ins _ _, h => by simp [shp] at h
  | _, .fn _, _ => rfl
  | _, .ty _, _ => rfl
  | _, .cls _, _ => rfl
  | _, .exv _ _, h => by simp [shp] at h
  | _, .ref _, h => by simp [shp] at h
theorem shps_below {m : Nat} : ∀ {n : Nat} {ds : List Da}, shps n ds = true → belowDs m ds = true
  | _, [], _ => rfl
  | n, d :: ds, h => by simp only [shps, Bool.and_eq_true] at h; simp only [belowDs, Bool.and_eq_true]; exact ⟨shp_below h.1, shps_below h.2⟩
end
/-- a comprehension whose test never holds -/
theorem compL_none {g : Tg} {t : TeE} {a : E} {ε : Env} {S : Sto} : ∀ {ds : List Da}, (∀ d ∈ ds, ∃ ε1, put g d ε = some ε1 ∧ t ε1 S = .ok false S) → compL g t a ε ds S = .ok [] S
  | [], _ => rfl
  | d :: ds, h => by
    obtain ⟨ε1, e1, e2⟩ := h d List.mem_cons_self
    unfold compL
    rw [e1]
    dsimp only
    rw [e2]
    exact compL_none fun x hx => h x (List.mem_cons_of_mem _ hx)
def kids : Da → List Da
  | .lst ds => ds
  | .tup ds => ds
  | _ => []
theorem rng_mem {n : Nat} {z : Da} (h : z ∈ rng 0 (n : Int)) : ∃ j, j < n ∧ z = .int (j : Int) := by
  simp only [rng, List.mem_map, List.mem_range] at h
  obtain ⟨j, hj, rfl⟩ := h
  exact ⟨j, by simpa using hj, by rw [Int.zero_add]⟩
theorem rng_len (n : Nat) : (rng 0 (n : Int)).length = n := by simp [rng]
theorem len62 {n : Nat} (h : n ≤ sizeLine) : inW 62 (n : Int) = true := by
  rw [sizeLine_eq] at h
  exact inW_62 (by omega) (by omega)
theorem alike_comp {self : FnD} {x : Da} {ds : List Da} {S : Sto} (hlen : ds.length ≤ sizeLine) (hx : x = .lst ds ∨ x = .tup ds) (ih : ∀ y ∈ ds, self [y, y] S = .ok (.bl true) S) :
    eComp [2] (iRange1 (esCons (eOpN dLen (esCons (eVar 1) esNil)) esNil)) (.name 2) (tNot (tOf (eCall self (esCons (eOp2 dIx (eVar 0) (eVar 2)) (esCons (eOp2 dIx (eVar 1) (eVar 2)) esNil))))) (eVar 2) [some x, some x, none] S = .ok (.lst []) S := by
  have e1 : iRange1 (esCons (eOpN dLen (esCons (eVar 1) esNil)) esNil) [some x, some x, none] S = .ok (rng 0 ds.length) S := by
    unfold iRange1
    rcases hx with rfl | rfl
    · simp only [runU, eVar, eC, xv_non, xv_bl, xv_int, xv_str, xv_lst, xv_tup, xv_scr, xv_ref, xv_ins, xv_fn, xv_ty, bind_ok, lft_ok, lft_exc, of_some, fnRes_rt, fnRes_nx, fnRes_ex, eOp1, eOp2, eOpN, esNil, esCons, sSeq, sSet, sIf, sRet, sRetN, sExpr, sNop, tBl, tOf, tAnd, tOr, tNot, asB, sSetIx, List.map_cons, List.map_nil, List.replicate, Nat.zero_add, Nat.reduceAdd, Nat.reduceSub, List.cons_append, List.nil_append, List.getElem?_cons_zero, List.getElem?_cons_succ, List.set_cons_zero, List.set_cons_succ, List.length_cons, List.length_nil, dIx, dGt, dGe, dLt, dLe, dAdd, dSub, dMul, dMod, dDiv, dPow, dNeg, dInt, drf, dLen, if_true, if_false, Bool.false_eq_true, decide_eq_true_eq, dSetIx, Option.map_some, decide_true, decide_false, truth, eAnd, eOr, eNot, eIf, eIsT, dIsT, kindD, tysOf, dIsi, isB, dIs, dIsNot, isNon, List.any_cons, List.any_nil, Bool.or_false, Bool.or_true, Bool.false_or, Bool.true_or, Bool.and_true, Bool.true_and, Bool.and_false, Bool.false_and, Bool.not_true, Bool.not_false, Nat.reduceLeDiff, Nat.reduceLT, Int.reduceLT, Int.reduceLE, and_self, and_true, true_and, reduceIte, sFor, lft_bad, dEq_ii, dEq_bb, dEq_ss, dEq_nn, dNe_ii, dNe_bb, dNe_ss, dNe_nn, BEq.rfl, dLst_s, dTup_s, dNew_s, dEq_nil, Nat.zero_le, put_name, put_tt, put_tl, puts_nil, puts_name, sAsg]
      rw [if_pos (len62 hlen)]
    · simp only [runU, eVar, eC, xv_non, xv_bl, xv_int, xv_str, xv_lst, xv_tup, xv_scr, xv_ref, xv_ins, xv_fn, xv_ty, bind_ok, lft_ok, lft_exc, of_some, fnRes_rt, fnRes_nx, fnRes_ex, eOp1, eOp2, eOpN, esNil, esCons, sSeq, sSet, sIf, sRet, sRetN, sExpr, sNop, tBl, tOf, tAnd, tOr, tNot, asB, sSetIx, List.map_cons, List.map_nil, List.replicate, Nat.zero_add, Nat.reduceAdd, Nat.reduceSub, List.cons_append, List.nil_append, List.getElem?_cons_zero, List.getElem?_cons_succ, List.set_cons_zero, List.set_cons_succ, List.length_cons, List.length_nil, dIx, dGt, dGe, dLt, dLe, dAdd, dSub, dMul, dMod, dDiv, dPow, dNeg, dInt, drf, dLen, if_true, if_false, Bool.false_eq_true, decide_eq_true_eq, dSetIx, Option.map_some, decide_true, decide_false, truth, eAnd, eOr, eNot, eIf, eIsT, dIsT, kindD, tysOf, dIsi, isB, dIs, dIsNot, isNon, List.any_cons, List.any_nil, Bool.or_false, Bool.or_true, Bool.false_or, Bool.true_or, Bool.and_true, Bool.true_and, Bool.and_false, Bool.false_and, Bool.not_true, Bool.not_false, Nat.reduceLeDiff, Nat.reduceLT, Int.reduceLT, Int.reduceLE, and_self, and_true, true_and, reduceIte, sFor, lft_bad, dEq_ii, dEq_bb, dEq_ss, dEq_nn, dNe_ii, dNe_bb, dNe_ss, dNe_nn, BEq.rfl, dLst_s, dTup_s, dNew_s, dEq_nil, Nat.zero_le, put_name, put_tt, put_tl, puts_nil, puts_name, sAsg]
      rw [if_pos (len62 hlen)]
  unfold eComp
  rw [e1]
  simp only [bind_ok]
  rw [if_pos (by rw [rng_len]; exact hlen), compL_none]
  · rfl
  · intro z hz
    obtain ⟨j, hj, rfl⟩ := rng_mem hz
    refine ⟨_, rfl, ?_⟩
    have ix : atI ds (j : Int) = some ds[j] := atI_nat (List.getElem?_eq_getElem hj)
    have ihj := ih ds[j] (List.getElem_mem hj)
    show tNot (tOf (eCall self (esCons (eOp2 dIx (eVar 0) (eVar 2)) (esCons (eOp2 dIx (eVar 1) (eVar 2)) esNil)))) [some x, some x, some (.int (j : Int))] S = _
    rcases hx with rfl | rfl
    · simp only [runU, eVar, eC, xv_non, xv_bl, xv_int, xv_str, xv_lst, xv_tup, xv_scr, xv_ref, xv_ins, xv_fn, xv_ty, bind_ok, lft_ok, lft_exc, of_some, fnRes_rt, fnRes_nx, fnRes_ex, eOp1, eOp2, eOpN, esNil, esCons, sSeq, sSet, sIf, sRet, sRetN, sExpr, sNop, tBl, tOf, tAnd, tOr, tNot, asB, sSetIx, List.map_cons, List.map_nil, List.replicate, Nat.zero_add, Nat.reduceAdd, Nat.reduceSub, List.cons_append, List.nil_append, List.getElem?_cons_zero, List.getElem?_cons_succ, List.set_cons_zero, List.set_cons_succ, List.length_cons, List.length_nil, dIx, dGt, dGe, dLt, dLe, dAdd, dSub, dMul, dMod, dDiv, dPow, dNeg, dInt, drf, dLen, if_true, if_false, Bool.false_eq_true, decide_eq_true_eq, dSetIx, Option.map_some, decide_true, decide_false, truth, eAnd, eOr, eNot, eIf, eIsT, dIsT, kindD, tysOf, dIsi, isB, dIs, dIsNot, isNon, List.any_cons, List.any_nil, Bool.or_false, Bool.or_true, Bool.false_or, Bool.true_or, Bool.and_true, Bool.true_and, Bool.and_false, Bool.false_and, Bool.not_true, Bool.not_false, Nat.reduceLeDiff, Nat.reduceLT, Int.reduceLT, Int.reduceLE, and_self, and_true, true_and, reduceIte, sFor, lft_bad, dEq_ii, dEq_bb, dEq_ss, dEq_nn, dNe_ii, dNe_bb, dNe_ss, dNe_nn, BEq.rfl, dLst_s, dTup_s, dNew_s, dEq_nil, Nat.zero_le, put_name, put_tt, put_tl, puts_nil, puts_name, sAsg, eCall, ix, ihj]
    · simp only [runU, eVar, eC, xv_non, xv_bl, xv_int, xv_str, xv_lst, xv_tup, xv_scr, xv_ref, xv_ins, xv_fn, xv_ty, bind_ok, lft_ok, lft_exc, of_some, fnRes_rt, fnRes_nx, fnRes_ex, eOp1, eOp2, eOpN, esNil, esCons, sSeq, sSet, sIf, sRet, sRetN, sExpr, sNop, tBl, tOf, tAnd, tOr, tNot, asB, sSetIx, List.map_cons, List.map_nil, List.replicate, Nat.zero_add, Nat.reduceAdd, Nat.reduceSub, List.cons_append, List.nil_append, List.getElem?_cons_zero, List.getElem?_cons_succ, List.set_cons_zero, List.set_cons_succ, List.length_cons, List.length_nil, dIx, dGt, dGe, dLt, dLe, dAdd, dSub, dMul, dMod, dDiv, dPow, dNeg, dInt, drf, dLen, if_true, if_false, Bool.false_eq_true, decide_eq_true_eq, dSetIx, Option.map_some, decide_true, decide_false, truth, eAnd, eOr, eNot, eIf, eIsT, dIsT, kindD, tysOf, dIsi, isB, dIs, dIsNot, isNon, List.any_cons, List.any_nil, Bool.or_false, Bool.or_true, Bool.false_or, Bool.true_or, Bool.and_true, Bool.true_and, Bool.and_false, Bool.false_and, Bool.not_true, Bool.not_false, Nat.reduceLeDiff, Nat.reduceLT, Int.reduceLT, Int.reduceLE, and_self, and_true, true_and, reduceIte, sFor, lft_bad, dEq_ii, dEq_bb, dEq_ss, dEq_nn, dNe_ii, dNe_bb, dNe_ss, dNe_nn, BEq.rfl, dLst_s, dTup_s, dNew_s, dEq_nil, Nat.zero_le, put_name, put_tt, put_tl, puts_nil, puts_name, sAsg, eCall, ix, ihj]
theorem alike_step {self : FnD} {d : Da} {S : Sto} {k : Nat} (hs : shp k d = true) (hl : shrt d = true) (ih : ∀ y ∈ kids d, self [y, y] S = .ok (.bl true) S) : runU 2 3 (Qk10.b__law_alike self) [d, d] S = .ok (.bl true) S := by
  rw [Qk10.b__law_alike_eq]
  cases d with
  | non => simp only [runU, eVar, eC, xv_non, xv_bl, xv_int, xv_str, xv_lst, xv_tup, xv_scr, xv_ref, xv_ins, xv_fn, xv_ty, bind_ok, lft_ok, lft_exc, of_some, fnRes_rt, fnRes_nx, fnRes_ex, eOp1, eOp2, eOpN, esNil, esCons, sSeq, sSet, sIf, sRet, sRetN, sExpr, sNop, tBl, tOf, tAnd, tOr, tNot, asB, sSetIx, List.map_cons, List.map_nil, List.replicate, Nat.zero_add, Nat.reduceAdd, Nat.reduceSub, List.cons_append, List.nil_append, List.getElem?_cons_zero, List.getElem?_cons_succ, List.set_cons_zero, List.set_cons_succ, List.length_cons, List.length_nil, dIx, dGt, dGe, dLt, dLe, dAdd, dSub, dMul, dMod, dDiv, dPow, dNeg, dInt, drf, dLen, if_true, if_false, Bool.false_eq_true, decide_eq_true_eq, dSetIx, Option.map_some, decide_true, decide_false, truth, eAnd, eOr, eNot, eIf, eIsT, dIsT, kindD, tysOf, dIsi, isB, dIs, dIsNot, isNon, List.any_cons, List.any_nil, Bool.or_false, Bool.or_true, Bool.false_or, Bool.true_or, Bool.and_true, Bool.true_and, Bool.and_false, Bool.false_and, Bool.not_true, Bool.not_false, Nat.reduceLeDiff, Nat.reduceLT, Int.reduceLT, Int.reduceLE, and_self, and_true, true_and, reduceIte, sFor, lft_bad, dEq_ii, dEq_bb, dEq_ss, dEq_nn, dNe_ii, dNe_bb, dNe_ss, dNe_nn, BEq.rfl, dLst_s, dTup_s, dNew_s, dEq_nil, Nat.zero_le, put_name, put_tt, put_tl, puts_nil, puts_name, sAsg]
  | bl b => cases b <;> simp only [runU, eVar, eC, xv_non, xv_bl, xv_int, xv_str, xv_lst, xv_tup, xv_scr, xv_ref, xv_ins, xv_fn, xv_ty, bind_ok, lft_ok, lft_exc, of_some, fnRes_rt, fnRes_nx, fnRes_ex, eOp1, eOp2, eOpN, esNil, esCons, sSeq, sSet, sIf, sRet, sRetN, sExpr, sNop, tBl, tOf, tAnd, tOr, tNot, asB, sSetIx, List.map_cons, List.map_nil, List.replicate, Nat.zero_add, Nat.reduceAdd, Nat.reduceSub, List.cons_append, List.nil_append, List.getElem?_cons_zero, List.getElem?_cons_succ, List.set_cons_zero, List.set_cons_succ, List.length_cons, List.length_nil, dIx, dGt, dGe, dLt, dLe, dAdd, dSub, dMul, dMod, dDiv, dPow, dNeg, dInt, drf, dLen, if_true, if_false, Bool.false_eq_true, decide_eq_true_eq, dSetIx, Option.map_some, decide_true, decide_false, truth, eAnd, eOr, eNot, eIf, eIsT, dIsT, kindD, tysOf, dIsi, isB, dIs, dIsNot, isNon, List.any_cons, List.any_nil, Bool.or_false, Bool.or_true, Bool.false_or, Bool.true_or, Bool.and_true, Bool.true_and, Bool.and_false, Bool.false_and, Bool.not_true, Bool.not_false, Nat.reduceLeDiff, Nat.reduceLT, Int.reduceLT, Int.reduceLE, and_self, and_true, true_and, reduceIte, sFor, lft_bad, dEq_ii, dEq_bb, dEq_ss, dEq_nn, dNe_ii, dNe_bb, dNe_ss, dNe_nn, BEq.rfl, dLst_s, dTup_s, dNew_s, dEq_nil, Nat.zero_le, put_name, put_tt, put_tl, puts_nil, puts_name, sAsg]
  | int i => simp only [runU, eVar, eC, xv_non, xv_bl, xv_int, xv_str, xv_lst, xv_tup, xv_scr, xv_ref, xv_ins, xv_fn, xv_ty, bind_ok, lft_ok, lft_exc, of_some, fnRes_rt, fnRes_nx, fnRes_ex, eOp1, eOp2, eOpN, esNil, esCons, sSeq, sSet, sIf, sRet, sRetN, sExpr, sNop, tBl, tOf, tAnd, tOr, tNot, asB, sSetIx, List.map_cons, List.map_nil, List.replicate, Nat.zero_add, Nat.reduceAdd, Nat.reduceSub, List.cons_append, List.nil_append, List.getElem?_cons_zero, List.getElem?_cons_succ, List.set_cons_zero, List.set_cons_succ, List.length_cons, List.length_nil, dIx, dGt, dGe, dLt, dLe, dAdd, dSub, dMul, dMod, dDiv, dPow, dNeg, dInt, drf, dLen, if_true, if_false, Bool.false_eq_true, decide_eq_true_eq, dSetIx, Option.map_some, decide_true, decide_false, truth, eAnd, eOr, eNot, eIf, eIsT, dIsT, kindD, tysOf, dIsi, isB, dIs, dIsNot, isNon, List.any_cons, List.any_nil, Bool.or_false, Bool.or_true, Bool.false_or, Bool.true_or, Bool.and_true, Bool.true_and, Bool.and_false, Bool.false_and, Bool.not_true, Bool.not_false, Nat.reduceLeDiff, Nat.reduceLT, Int.reduceLT, Int.reduceLE, and_self, and_true, true_and, reduceIte, sFor, lft_bad, dEq_ii, dEq_bb, dEq_ss, dEq_nn, dNe_ii, dNe_bb, dNe_ss, dNe_nn, BEq.rfl, dLst_s, dTup_s, dNew_s, dEq_nil, Nat.zero_le, put_name, put_tt, put_tl, puts_nil, puts_name, sAsg, show (i == i) = true from by simp]
  | str i => simp only [runU, eVar, eC, xv_non, xv_bl, xv_int, xv_str, xv_lst, xv_tup, xv_scr, xv_ref, xv_ins, xv_fn, xv_ty, bind_ok, lft_ok, lft_exc, of_some, fnRes_rt, fnRes_nx, fnRes_ex, eOp1, eOp2, eOpN, esNil, esCons, sSeq, sSet, sIf, sRet, sRetN, sExpr, sNop, tBl, tOf, tAnd, tOr, tNot, asB, sSetIx, List.map_cons, List.map_nil, List.replicate, Nat.zero_add, Nat.reduceAdd, Nat.reduceSub, List.cons_append, List.nil_append, List.getElem?_cons_zero, List.getElem?_cons_succ, List.set_cons_zero, List.set_cons_succ, List.length_cons, List.length_nil, dIx, dGt, dGe, dLt, dLe, dAdd, dSub, dMul, dMod, dDiv, dPow, dNeg, dInt, drf, dLen, if_true, if_false, Bool.false_eq_true, decide_eq_true_eq, dSetIx, Option.map_some, decide_true, decide_false, truth, eAnd, eOr, eNot, eIf, eIsT, dIsT, kindD, tysOf, dIsi, isB, dIs, dIsNot, isNon, List.any_cons, List.any_nil, Bool.or_false, Bool.or_true, Bool.false_or, Bool.true_or, Bool.and_true, Bool.true_and, Bool.and_false, Bool.false_and, Bool.not_true, Bool.not_false, Nat.reduceLeDiff, Nat.reduceLT, Int.reduceLT, Int.reduceLE, and_self, and_true, true_and, reduceIte, sFor, lft_bad, dEq_ii, dEq_bb, dEq_ss, dEq_nn, dNe_ii, dNe_bb, dNe_ss, dNe_nn, BEq.rfl, dLst_s, dTup_s, dNew_s, dEq_nil, Nat.zero_le, put_name, put_tt, put_tl, puts_nil, puts_name, sAsg]
  | lst ds =>
    simp only [shrt, Bool.and_eq_true, decide_eq_true_eq] at hl
    have c := alike_comp (x := .lst ds) hl.1 (.inl rfl) ih
    simp only [runU, eVar, eC, xv_non, xv_bl, xv_int, xv_str, xv_lst, xv_tup, xv_scr, xv_ref, xv_ins, xv_fn, xv_ty, bind_ok, lft_ok, lft_exc, of_some, fnRes_rt, fnRes_nx, fnRes_ex, eOp1, eOp2, eOpN, esNil, esCons, sSeq, sSet, sIf, sRet, sRetN, sExpr, sNop, tBl, tOf, tAnd, tOr, tNot, asB, sSetIx, List.map_cons, List.map_nil, List.replicate, Nat.zero_add, Nat.reduceAdd, Nat.reduceSub, List.cons_append, List.nil_append, List.getElem?_cons_zero, List.getElem?_cons_succ, List.set_cons_zero, List.set_cons_succ, List.length_cons, List.length_nil, dIx, dGt, dGe, dLt, dLe, dAdd, dSub, dMul, dMod, dDiv, dPow, dNeg, dInt, drf, dLen, if_true, if_false, Bool.false_eq_true, decide_eq_true_eq, dSetIx, Option.map_some, decide_true, decide_false, truth, eAnd, eOr, eNot, eIf, eIsT, dIsT, kindD, tysOf, dIsi, isB, dIs, dIsNot, isNon, List.any_cons, List.any_nil, Bool.or_false, Bool.or_true, Bool.false_or, Bool.true_or, Bool.and_true, Bool.true_and, Bool.and_false, Bool.false_and, Bool.not_true, Bool.not_false, Nat.reduceLeDiff, Nat.reduceLT, Int.reduceLT, Int.reduceLE, and_self, and_true, true_and, reduceIte, sFor, lft_bad, dEq_ii, dEq_bb, dEq_ss, dEq_nn, dNe_ii, dNe_bb, dNe_ss, dNe_nn, BEq.rfl, dLst_s, dTup_s, dNew_s, dEq_nil, Nat.zero_le, put_name, put_tt, put_tl, puts_nil, puts_name, sAsg, c, show dEq (Da.lst []) (Da.lst []) S = some (.bl true, S) from rfl]
  | tup ds =>
    simp only [shrt, Bool.and_eq_true, decide_eq_true_eq] at hl
    have c := alike_comp (x := .tup ds) hl.1 (.inr rfl) ih
    simp only [runU, eVar, eC, xv_non, xv_bl, xv_int, xv_str, xv_lst, xv_tup, xv_scr, xv_ref, xv_ins, xv_fn, xv_ty, bind_ok, lft_ok, lft_exc, of_some, fnRes_rt, fnRes_nx, fnRes_ex, eOp1, eOp2, eOpN, esNil, esCons, sSeq, sSet, sIf, sRet, sRetN, sExpr, sNop, tBl, tOf, tAnd, tOr, tNot, asB, sSetIx, List.map_cons, List.map_nil, List.replicate, Nat.zero_add, Nat.reduceAdd, Nat.reduceSub, List.cons_append, List.nil_append, List.getElem?_cons_zero, List.getElem?_cons_succ, List.set_cons_zero, List.set_cons_succ, List.length_cons, List.length_nil, dIx, dGt, dGe, dLt, dLe, dAdd, dSub, dMul, dMod, dDiv, dPow, dNeg, dInt, drf, dLen, if_true, if_false, Bool.false_eq_true, decide_eq_true_eq, dSetIx, Option.map_some, decide_true, decide_false, truth, eAnd, eOr, eNot, eIf, eIsT, dIsT, kindD, tysOf, dIsi, isB, dIs, dIsNot, isNon, List.any_cons, List.any_nil, Bool.or_false, Bool.or_true, Bool.false_or, Bool.true_or, Bool.and_true, Bool.true_and, Bool.and_false, Bool.false_and, Bool.not_true, Bool.not_false, Nat.reduceLeDiff, Nat.reduceLT, Int.reduceLT, Int.reduceLE, and_self, and_true, true_and, reduceIte, sFor, lft_bad, dEq_ii, dEq_bb, dEq_ss, dEq_nn, dNe_ii, dNe_bb, dNe_ss, dNe_nn, BEq.rfl, dLst_s, dTup_s, dNew_s, dEq_nil, Nat.zero_le, put_name, put_tt, put_tl, puts_nil, puts_name, sAsg, c, show dEq (Da.lst []) (Da.lst []) S = some (.bl true, S) from rfl]
  | _ => simp [shp] at hs
theorem alike_true : ∀ (n k : Nat) (d : Da) (S : Sto), k < n → shp k d = true → shrt d = true → Qk10.d__law_alike n [d, d] S = .ok (.bl true) S
  | 0, _, _, _, h, _, _ => absurd h (Nat.not_lt_zero _)
  | n + 1, k, d, S, hn, hs, hl => by
    show scp S (runU 2 3 (Qk10.b__law_alike (Qk10.d__law_alike n)) [d, d] S) = _
    rw [alike_step hs hl fun y hy => ?_]
    · exact scp_same rfl
    · cases d with
      | lst ds =>
        simp only [shp, shrt, Bool.and_eq_true, decide_eq_true_eq] at hs hl
        exact alike_true n (k - 1) y S (by omega) (shps_mem hs.2 hy) (shrts_mem hl.2 hy)
      | tup ds =>
        simp only [shp, shrt, Bool.and_eq_true, decide_eq_true_eq] at hs hl
        exact alike_true n (k - 1) y S (by omega) (shps_mem hs.2 hy) (shrts_mem hl.2 hy)
      | _ => cases hy
end G

namespace G
open PySem PySem.Spec PyProof.Rows L2
/-! ### fractions -/
abbrev fr (p q : Int) : Da := .tup [.int p, .int q]
/-- reduced to lowest terms -/
def redD (a b : Int) : Da := fr (a / (Int.gcd a b : Int)) (b / (Int.gcd a b : Int))
theorem seq_nx {a b : Sm} {ε ε' : Env} {S S' : Sto} (h : a ε S = .nx ε' S') : sSeq a b ε S = b ε' S' := by unfold sSeq; rw [h]
theorem gcd_step {x y : Int} (hx : 0 ≤ x) (hy : 0 < y) : Int.gcd y (x % y) = Int.gcd x y := by
  obtain ⟨m, rfl⟩ := Int.eq_ofNat_of_zero_le hx
  obtain ⟨n, rfl⟩ := Int.eq_ofNat_of_zero_le (Int.le_of_lt hy)
  rw [← Int.natCast_emod, Int.gcd_natCast_natCast, Int.gcd_natCast_natCast, Nat.gcd_comm, ← Nat.gcd_rec, Nat.gcd_comm]
theorem red_loop {a b : Da} {S : Sto} : ∀ (k : Nat) (x y : Int), y.toNat ≤ k → 0 ≤ x → 0 ≤ y →
    ∃ n, whileN (tBl (eOp2 dGt (eVar 3) (eC (.int 0)))) (sPar 2 3 (esCons (eVar 3) (esCons (eOp2 dMod (eVar 2) (eVar 3)) esNil))) n [some a, some b, some (.int x), some (.int y)] S = .nx [some a, some b, some (.int (Int.gcd x y)), some (.int 0)] S := by
  intro k
  induction k with
  | zero =>
    intro x y hk hx hy
    have : y = 0 := by omega
    subst this
    refine ⟨1, ?_⟩
    unfold whileN
    simp only [runU, eVar, eC, xv_non, xv_bl, xv_int, xv_str, xv_lst, xv_tup, xv_scr, xv_ref, xv_ins, xv_fn, xv_ty, bind_ok, lft_ok, lft_exc, of_some, fnRes_rt, fnRes_nx, fnRes_ex, eOp1, eOp2, eOpN, esNil, esCons, sSeq, sSet, sIf, sRet, sRetN, sExpr, sNop, tBl, tOf, tAnd, tOr, tNot, asB, sSetIx, List.map_cons, List.map_nil, List.replicate, Nat.zero_add, Nat.reduceAdd, Nat.reduceSub, List.cons_append, List.nil_append, List.getElem?_cons_zero, List.getElem?_cons_succ, List.set_cons_zero, List.set_cons_succ, List.length_cons, List.length_nil, dIx, dGt, dGe, dLt, dLe, dAdd, dSub, dMul, dMod, dDiv, dPow, dNeg, dInt, drf, dLen, if_true, if_false, Bool.false_eq_true, decide_eq_true_eq, dSetIx, Option.map_some, decide_true, decide_false, truth, eAnd, eOr, eNot, eIf, eIsT, dIsT, kindD, tysOf, dIsi, isB, dIs, dIsNot, isNon, List.any_cons, List.any_nil, Bool.or_false, Bool.or_true, Bool.false_or, Bool.true_or, Bool.and_true, Bool.true_and, Bool.and_false, Bool.false_and, Bool.not_true, Bool.not_false, Nat.reduceLeDiff, Nat.reduceLT, Int.reduceLT, Int.reduceLE, and_self, and_true, true_and, reduceIte, sFor, lft_bad, dEq_ii, dEq_bb, dEq_ss, dEq_nn, dNe_ii, dNe_bb, dNe_ss, dNe_nn, BEq.rfl, dLst_s, dTup_s, dNew_s, dEq_nil, Nat.zero_le, put_name, put_tt, put_tl, puts_nil, puts_name, sAsg, show ¬ ((0 : Int) < 0) from by decide]
    rw [Int.gcd_zero_right, Int.natAbs_of_nonneg hx]
  | succ k ih =>
    intro x y hk hx hy
    by_cases h0 : 0 < y
    · have hm := Int.emod_nonneg x (b := y) (by omega)
      have hl := Int.emod_lt_of_pos x h0
      obtain ⟨n, hn⟩ := ih y (x % y) (by omega) (by omega) hm
      refine ⟨n + 1, ?_⟩
      unfold whileN
      simp only [runU, eVar, eC, xv_non, xv_bl, xv_int, xv_str, xv_lst, xv_tup, xv_scr, xv_ref, xv_ins, xv_fn, xv_ty, bind_ok, lft_ok, lft_exc, of_some, fnRes_rt, fnRes_nx, fnRes_ex, eOp1, eOp2, eOpN, esNil, esCons, sSeq, sSet, sIf, sRet, sRetN, sExpr, sNop, tBl, tOf, tAnd, tOr, tNot, asB, sSetIx, List.map_cons, List.map_nil, List.replicate, Nat.zero_add, Nat.reduceAdd, Nat.reduceSub, List.cons_append, List.nil_append, List.getElem?_cons_zero, List.getElem?_cons_succ, List.set_cons_zero, List.set_cons_succ, List.length_cons, List.length_nil, dIx, dGt, dGe, dLt, dLe, dAdd, dSub, dMul, dMod, dDiv, dPow, dNeg, dInt, drf, dLen, if_true, if_false, Bool.false_eq_true, decide_eq_true_eq, dSetIx, Option.map_some, decide_true, decide_false, truth, eAnd, eOr, eNot, eIf, eIsT, dIsT, kindD, tysOf, dIsi, isB, dIs, dIsNot, isNon, List.any_cons, List.any_nil, Bool.or_false, Bool.or_true, Bool.false_or, Bool.true_or, Bool.and_true, Bool.true_and, Bool.and_false, Bool.false_and, Bool.not_true, Bool.not_false, Nat.reduceLeDiff, Nat.reduceLT, Int.reduceLT, Int.reduceLE, and_self, and_true, true_and, reduceIte, sFor, lft_bad, dEq_ii, dEq_bb, dEq_ss, dEq_nn, dNe_ii, dNe_bb, dNe_ss, dNe_nn, BEq.rfl, dLst_s, dTup_s, dNew_s, dEq_nil, Nat.zero_le, put_name, put_tt, put_tl, puts_nil, puts_name, sAsg, h0, sPar]
      rw [hn, gcd_step hx h0]
    · have : y = 0 := by omega
      subst this
      refine ⟨1, ?_⟩
      unfold whileN
      simp only [runU, eVar, eC, xv_non, xv_bl, xv_int, xv_str, xv_lst, xv_tup, xv_scr, xv_ref, xv_ins, xv_fn, xv_ty, bind_ok, lft_ok, lft_exc, of_some, fnRes_rt, fnRes_nx, fnRes_ex, eOp1, eOp2, eOpN, esNil, esCons, sSeq, sSet, sIf, sRet, sRetN, sExpr, sNop, tBl, tOf, tAnd, tOr, tNot, asB, sSetIx, List.map_cons, List.map_nil, List.replicate, Nat.zero_add, Nat.reduceAdd, Nat.reduceSub, List.cons_append, List.nil_append, List.getElem?_cons_zero, List.getElem?_cons_succ, List.set_cons_zero, List.set_cons_succ, List.length_cons, List.length_nil, dIx, dGt, dGe, dLt, dLe, dAdd, dSub, dMul, dMod, dDiv, dPow, dNeg, dInt, drf, dLen, if_true, if_false, Bool.false_eq_true, decide_eq_true_eq, dSetIx, Option.map_some, decide_true, decide_false, truth, eAnd, eOr, eNot, eIf, eIsT, dIsT, kindD, tysOf, dIsi, isB, dIs, dIsNot, isNon, List.any_cons, List.any_nil, Bool.or_false, Bool.or_true, Bool.false_or, Bool.true_or, Bool.and_true, Bool.true_and, Bool.and_false, Bool.false_and, Bool.not_true, Bool.not_false, Nat.reduceLeDiff, Nat.reduceLT, Int.reduceLT, Int.reduceLE, and_self, and_true, true_and, reduceIte, sFor, lft_bad, dEq_ii, dEq_bb, dEq_ss, dEq_nn, dNe_ii, dNe_bb, dNe_ss, dNe_nn, BEq.rfl, dLst_s, dTup_s, dNew_s, dEq_nil, Nat.zero_le, put_name, put_tt, put_tl, puts_nil, puts_name, sAsg, show ¬ ((0 : Int) < 0) from by decide]
      rw [Int.gcd_zero_right, Int.natAbs_of_nonneg hx]
theorem reduced_spec {a b : Int} {S : Sto} (hb : 0 < b) (hb2 : b < 1073741824) : Qk10.d_reduced [.int a, .int b] S = .ok (redD a b) S := by
  show scp S (runU 2 4 Qk10.b_reduced [.int a, .int b] S) = _
  suffices e : runU 2 4 Qk10.b_reduced [.int a, .int b] S = .ok (redD a b) S by rw [e]; exact scp_same rfl
  have habs : (if a < 0 then -a else a) = (a.natAbs : Int) := by split <;> omega
  obtain ⟨n, hn⟩ := red_loop (a := .int a) (b := .int b) (S := S) _ (a.natAbs : Int) b (Nat.le_refl _) (by omega) (by omega)
  have hg : Int.gcd (a.natAbs : Int) b = Int.gcd a b := by simp [Int.gcd]
  rw [hg] at hn
  have hw := sWhile_of (n := n) (by rw [hn]; intro z; cases z)
  rw [hn] at hw
  have gpos : 0 < (Int.gcd a b : Int) := by
    have : Int.gcd a b ≠ 0 := by rw [Ne, Int.gcd_eq_zero_iff]; omega
    omega
  have gle : (Int.gcd a b : Int) ≤ b := Int.le_of_dvd hb (Int.gcd_dvd_right ..)
  rw [Qk10.b_reduced_eq]
  simp only [runU, eVar, eC, xv_non, xv_bl, xv_int, xv_str, xv_lst, xv_tup, xv_scr, xv_ref, xv_ins, xv_fn, xv_ty, bind_ok, lft_ok, lft_exc, of_some, fnRes_rt, fnRes_nx, fnRes_ex, eOp1, eOp2, eOpN, esNil, esCons, sSeq, sSet, sIf, sRet, sRetN, sExpr, sNop, tBl, tOf, tAnd, tOr, tNot, asB, sSetIx, List.map_cons, List.map_nil, List.replicate, Nat.zero_add, Nat.reduceAdd, Nat.reduceSub, List.cons_append, List.nil_append, List.getElem?_cons_zero, List.getElem?_cons_succ, List.set_cons_zero, List.set_cons_succ, List.length_cons, List.length_nil, dIx, dGt, dGe, dLt, dLe, dAdd, dSub, dMul, dMod, dDiv, dPow, dNeg, dInt, drf, dLen, if_true, if_false, Bool.false_eq_true, decide_eq_true_eq, dSetIx, Option.map_some, decide_true, decide_false, truth, eAnd, eOr, eNot, eIf, eIsT, dIsT, kindD, tysOf, dIsi, isB, dIs, dIsNot, isNon, List.any_cons, List.any_nil, Bool.or_false, Bool.or_true, Bool.false_or, Bool.true_or, Bool.and_true, Bool.true_and, Bool.and_false, Bool.false_and, Bool.not_true, Bool.not_false, Nat.reduceLeDiff, Nat.reduceLT, Int.reduceLT, Int.reduceLE, and_self, and_true, true_and, reduceIte, sFor, lft_bad, dEq_ii, dEq_bb, dEq_ss, dEq_nn, dNe_ii, dNe_bb, dNe_ss, dNe_nn, BEq.rfl, dLst_s, dTup_s, dNew_s, dEq_nil, Nat.zero_le, put_name, put_tt, put_tl, puts_nil, puts_name, sAsg, sPar, dAbs, habs, hw, gpos, show 0 < (Int.gcd a b : Int) ∧ (Int.gcd a b : Int) < 1073741824 from ⟨gpos, by omega⟩, redD]
/-! ### _law_low: by every divisor -/
theorem rng_nil {a b : Int} (h : b ≤ a) : rng a b = [] := by unfold rng; rw [show (b - a).toNat = 0 by omega]; rfl
theorem rng_cons {a b : Int} (h : a < b) : rng a b = .int a :: rng (a + 1) b := by
  unfold rng
  obtain ⟨n, hn⟩ : ∃ n : Nat, (b - a).toNat = n + 1 := ⟨(b - a).toNat - 1, by omega⟩
  rw [hn, show (b - (a + 1)).toNat = n by omega, List.range_succ_eq_map, List.map_cons, List.map_map]
  congr 1
  · simp
  · refine List.map_congr_left fun i _ => ?_
    show Da.int (a + ((i + 1 : Nat) : Int)) = Da.int (a + 1 + i)
    congr 1
    omega
theorem forL_cons {g : Tg} {b : Sm} {d : Da} {ds : List Da} {ε ε1 ε2 : Env} {S S2 : Sto} (h1 : put g d ε = some ε1) (h2 : b ε1 S = .nx ε2 S2) : forL g b (d :: ds) ε S = forL g b ds ε2 S2 := by
  rw [forL, h1]
  simp only [h2]
theorem forL_nil {g : Tg} {b : Sm} {ε : Env} {S : Sto} : forL g b [] ε S = .nx ε S := rfl
abbrev lowBody : Sm := sIf (tAnd (tBl (eOp2 dEq (eOp2 dMod (eOpN dInt (esCons (eVar 0) esNil)) (eVar 3)) (eC (.int 0)))) ((tBl (eOp2 dEq (eOp2 dMod (eOpN dInt (esCons (eVar 1) esNil)) (eVar 3)) (eC (.int 0)))))) (sSet 2 (eVar 3)) sNop
theorem dvd_mod {a d : Int} (h : 0 < d) : (a % d == 0) = true ↔ d ∣ a := by rw [beq_iff_eq]; exact ⟨Int.dvd_of_emod_eq_zero, Int.emod_eq_zero_of_dvd⟩
theorem low_step {a b h d : Int} {w : Option Da} {S : Sto} (hd : 0 < d) :
    ∃ h', lowBody [some (.int a), some (.int b), some (.int h), some (.int d)] S = .nx [some (.int a), some (.int b), some (.int h'), some (.int d)] S ∧ ((d ∣ a ∧ d ∣ b ∧ h' = d) ∨ (¬ (d ∣ a ∧ d ∣ b) ∧ h' = h)) := by
  unfold lowBody
  by_cases h1 : d ∣ a
  · by_cases h2 : d ∣ b
    · refine ⟨d, ?_, .inl ⟨h1, h2, rfl⟩⟩
      simp only [runU, eVar, eC, xv_non, xv_bl, xv_int, xv_str, xv_lst, xv_tup, xv_scr, xv_ref, xv_ins, xv_fn, xv_ty, bind_ok, lft_ok, lft_exc, of_some, fnRes_rt, fnRes_nx, fnRes_ex, eOp1, eOp2, eOpN, esNil, esCons, sSeq, sSet, sIf, sRet, sRetN, sExpr, sNop, tBl, tOf, tAnd, tOr, tNot, asB, sSetIx, List.map_cons, List.map_nil, List.replicate, Nat.zero_add, Nat.reduceAdd, Nat.reduceSub, List.cons_append, List.nil_append, List.getElem?_cons_zero, List.getElem?_cons_succ, List.set_cons_zero, List.set_cons_succ, List.length_cons, List.length_nil, dIx, dGt, dGe, dLt, dLe, dAdd, dSub, dMul, dMod, dDiv, dPow, dNeg, dInt, drf, dLen, if_true, if_false, Bool.false_eq_true, decide_eq_true_eq, dSetIx, Option.map_some, decide_true, decide_false, truth, eAnd, eOr, eNot, eIf, eIsT, dIsT, kindD, tysOf, dIsi, isB, dIs, dIsNot, isNon, List.any_cons, List.any_nil, Bool.or_false, Bool.or_true, Bool.false_or, Bool.true_or, Bool.and_true, Bool.true_and, Bool.and_false, Bool.false_and, Bool.not_true, Bool.not_false, Nat.reduceLeDiff, Nat.reduceLT, Int.reduceLT, Int.reduceLE, and_self, and_true, true_and, reduceIte, sFor, lft_bad, dEq_ii, dEq_bb, dEq_ss, dEq_nn, dNe_ii, dNe_bb, dNe_ss, dNe_nn, BEq.rfl, dLst_s, dTup_s, dNew_s, dEq_nil, Nat.zero_le, put_name, put_tt, put_tl, puts_nil, puts_name, sAsg, hd, (dvd_mod hd).mpr h1, (dvd_mod hd).mpr h2]
    · refine ⟨h, ?_, .inr ⟨fun z => h2 z.2, rfl⟩⟩
      have e : (b % d == 0) = false := by
        cases q : (b % d == 0) with
        | false => rfl
        | true => exact absurd ((dvd_mod hd).mp q) h2
      simp only [runU, eVar, eC, xv_non, xv_bl, xv_int, xv_str, xv_lst, xv_tup, xv_scr, xv_ref, xv_ins, xv_fn, xv_ty, bind_ok, lft_ok, lft_exc, of_some, fnRes_rt, fnRes_nx, fnRes_ex, eOp1, eOp2, eOpN, esNil, esCons, sSeq, sSet, sIf, sRet, sRetN, sExpr, sNop, tBl, tOf, tAnd, tOr, tNot, asB, sSetIx, List.map_cons, List.map_nil, List.replicate, Nat.zero_add, Nat.reduceAdd, Nat.reduceSub, List.cons_append, List.nil_append, List.getElem?_cons_zero, List.getElem?_cons_succ, List.set_cons_zero, List.set_cons_succ, List.length_cons, List.length_nil, dIx, dGt, dGe, dLt, dLe, dAdd, dSub, dMul, dMod, dDiv, dPow, dNeg, dInt, drf, dLen, if_true, if_false, Bool.false_eq_true, decide_eq_true_eq, dSetIx, Option.map_some, decide_true, decide_false, truth, eAnd, eOr, eNot, eIf, eIsT, dIsT, kindD, tysOf, dIsi, isB, dIs, dIsNot, isNon, List.any_cons, List.any_nil, Bool.or_false, Bool.or_true, Bool.false_or, Bool.true_or, Bool.and_true, Bool.true_and, Bool.and_false, Bool.false_and, Bool.not_true, Bool.not_false, Nat.reduceLeDiff, Nat.reduceLT, Int.reduceLT, Int.reduceLE, and_self, and_true, true_and, reduceIte, sFor, lft_bad, dEq_ii, dEq_bb, dEq_ss, dEq_nn, dNe_ii, dNe_bb, dNe_ss, dNe_nn, BEq.rfl, dLst_s, dTup_s, dNew_s, dEq_nil, Nat.zero_le, put_name, put_tt, put_tl, puts_nil, puts_name, sAsg, hd, (dvd_mod hd).mpr h1, e]
  · refine ⟨h, ?_, .inr ⟨fun z => h1 z.1, rfl⟩⟩
    have e : (a % d == 0) = false := by
      cases q : (a % d == 0) with
      | false => rfl
      | true => exact absurd ((dvd_mod hd).mp q) h1
    simp only [runU, eVar, eC, xv_non, xv_bl, xv_int, xv_str, xv_lst, xv_tup, xv_scr, xv_ref, xv_ins, xv_fn, xv_ty, bind_ok, lft_ok, lft_exc, of_some, fnRes_rt, fnRes_nx, fnRes_ex, eOp1, eOp2, eOpN, esNil, esCons, sSeq, sSet, sIf, sRet, sRetN, sExpr, sNop, tBl, tOf, tAnd, tOr, tNot, asB, sSetIx, List.map_cons, List.map_nil, List.replicate, Nat.zero_add, Nat.reduceAdd, Nat.reduceSub, List.cons_append, List.nil_append, List.getElem?_cons_zero, List.getElem?_cons_succ, List.set_cons_zero, List.set_cons_succ, List.length_cons, List.length_nil, dIx, dGt, dGe, dLt, dLe, dAdd, dSub, dMul, dMod, dDiv, dPow, dNeg, dInt, drf, dLen, if_true, if_false, Bool.false_eq_true, decide_eq_true_eq, dSetIx, Option.map_some, decide_true, decide_false, truth, eAnd, eOr, eNot, eIf, eIsT, dIsT, kindD, tysOf, dIsi, isB, dIs, dIsNot, isNon, List.any_cons, List.any_nil, Bool.or_false, Bool.or_true, Bool.false_or, Bool.true_or, Bool.and_true, Bool.true_and, Bool.and_false, Bool.false_and, Bool.not_true, Bool.not_false, Nat.reduceLeDiff, Nat.reduceLT, Int.reduceLT, Int.reduceLE, and_self, and_true, true_and, reduceIte, sFor, lft_bad, dEq_ii, dEq_bb, dEq_ss, dEq_nn, dNe_ii, dNe_bb, dNe_ss, dNe_nn, BEq.rfl, dLst_s, dTup_s, dNew_s, dEq_nil, Nat.zero_le, put_name, put_tt, put_tl, puts_nil, puts_name, sAsg, hd, e]
theorem low_loop {a b : Int} {S : Sto} (hb : 0 < b) : ∀ (n : Nat) (s h : Int) (w : Option Da), (b + 1 - s).toNat = n → 1 ≤ s → s ≤ b + 1 → 1 ≤ h → h ∣ a → h ∣ b → (∀ d, 1 ≤ d → d < s → d ∣ a → d ∣ b → d ≤ h) →
    ∃ w', forL (.name 3) lowBody (rng s (b + 1)) [some (.int a), some (.int b), some (.int h), w] S = .nx [some (.int a), some (.int b), some (.int (Int.gcd a b)), w'] S := by
  intro n
  induction n with
  | zero =>
    intro s h w hn h1 h2 h3 h4 h5 h6
    have : s = b + 1 := by omega
    subst this
    rw [rng_nil (Int.le_refl _)]
    refine ⟨w, ?_⟩
    rw [forL_nil]
    have gpos : 0 < (Int.gcd a b : Int) := by
      have : Int.gcd a b ≠ 0 := by rw [Ne, Int.gcd_eq_zero_iff]; omega
      omega
    have g1 : (Int.gcd a b : Int) ≤ b := Int.le_of_dvd hb (Int.gcd_dvd_right ..)
    have g2 := h6 (Int.gcd a b) (by omega) (by omega) (Int.gcd_dvd_left ..) (Int.gcd_dvd_right ..)
    have g3 : h ≤ (Int.gcd a b : Int) := Int.le_of_dvd gpos (Int.dvd_coe_gcd h4 h5)
    have : h = (Int.gcd a b : Int) := by omega
    rw [this]
  | succ n ih =>
    intro s h w hn h1 h2 h3 h4 h5 h6
    have hs : s < b + 1 := by omega
    rw [rng_cons hs]
    obtain ⟨h', e, hh⟩ := low_step (a := a) (b := b) (h := h) (d := s) (w := w) (S := S) (by omega)
    have e2 : forL (.name 3) lowBody (.int s :: rng (s + 1) (b + 1)) [some (.int a), some (.int b), some (.int h), w] S = forL (.name 3) lowBody (rng (s + 1) (b + 1)) [some (.int a), some (.int b), some (.int h'), some (.int s)] S := forL_cons rfl e
    rw [e2]
    rcases hh with ⟨d1, d2, rfl⟩ | ⟨nd, rfl⟩
    · exact ih (h' + 1) h' _ (by omega) (by omega) (by omega) (by omega) d1 d2 fun d q1 q2 _ _ => by omega
    · exact ih (s + 1) h' _ (by omega) (by omega) (by omega) h3 h4 h5 fun d q1 q2 q3 q4 => by
        by_cases z : d = s
        · subst z; exact absurd ⟨q3, q4⟩ nd
        · exact h6 d q1 (by omega) q3 q4
theorem low_spec {a b : Int} {S : Sto} (hb : 0 < b) (hb2 : b < 1073741824) : Qk10.d__law_low [.int a, .int b] S = .ok (redD a b) S := by
  show scp S (runU 2 4 Qk10.b__law_low [.int a, .int b] S) = _
  suffices e : runU 2 4 Qk10.b__law_low [.int a, .int b] S = .ok (redD a b) S by rw [e]; exact scp_same rfl
  obtain ⟨w, hl⟩ := low_loop (a := a) (S := S) hb _ 1 1 none rfl (by omega) (by omega) (by omega) (Int.one_dvd _) (Int.one_dvd _) (fun d q1 q2 _ _ => by omega)
  have gpos : 0 < (Int.gcd a b : Int) := by
    have : Int.gcd a b ≠ 0 := by rw [Ne, Int.gcd_eq_zero_iff]; omega
    omega
  have gle : (Int.gcd a b : Int) ≤ b := Int.le_of_dvd hb (Int.gcd_dvd_right ..)
  rw [Qk10.b__law_low_eq]
  simp only [runU, eVar, eC, xv_non, xv_bl, xv_int, xv_str, xv_lst, xv_tup, xv_scr, xv_ref, xv_ins, xv_fn, xv_ty, bind_ok, lft_ok, lft_exc, of_some, fnRes_rt, fnRes_nx, fnRes_ex, eOp1, eOp2, eOpN, esNil, esCons, sSeq, sSet, sIf, sRet, sRetN, sExpr, sNop, tBl, tOf, tAnd, tOr, tNot, asB, sSetIx, List.map_cons, List.map_nil, List.replicate, Nat.zero_add, Nat.reduceAdd, Nat.reduceSub, List.cons_append, List.nil_append, List.getElem?_cons_zero, List.getElem?_cons_succ, List.set_cons_zero, List.set_cons_succ, List.length_cons, List.length_nil, dIx, dGt, dGe, dLt, dLe, dAdd, dSub, dMul, dMod, dDiv, dPow, dNeg, dInt, drf, dLen, if_true, if_false, Bool.false_eq_true, decide_eq_true_eq, dSetIx, Option.map_some, decide_true, decide_false, truth, eAnd, eOr, eNot, eIf, eIsT, dIsT, kindD, tysOf, dIsi, isB, dIs, dIsNot, isNon, List.any_cons, List.any_nil, Bool.or_false, Bool.or_true, Bool.false_or, Bool.true_or, Bool.and_true, Bool.true_and, Bool.and_false, Bool.false_and, Bool.not_true, Bool.not_false, Nat.reduceLeDiff, Nat.reduceLT, Int.reduceLT, Int.reduceLE, and_self, and_true, true_and, reduceIte, sFor, lft_bad, dEq_ii, dEq_bb, dEq_ss, dEq_nn, dNe_ii, dNe_bb, dNe_ss, dNe_nn, BEq.rfl, dLst_s, dTup_s, dNew_s, dEq_nil, Nat.zero_le, put_name, put_tt, put_tl, puts_nil, puts_name, sAsg, iRange2, inW_62 (i := 1) (by omega) (by omega), inW_62 (i := b + 1) (by omega) (by omega), hl, show 0 < (Int.gcd a b : Int) ∧ (Int.gcd a b : Int) < 1073741824 from ⟨gpos, by omega⟩, redD]
end G

namespace G
open PySem PySem.Spec PyProof.Rows L2
/-! ### the fractions of the package -/
section
variable {p q r s : Int} {S : Sto}
theorem at2_0 {x y : Da} : atI [x, y] 0 = some x := rfl
theorem at2_1 {x y : Da} : atI [x, y] 1 = some y := rfl
theorem scp_red {a b : Int} : scp S (.ok (redD a b) S) = .ok (redD a b) S := scp_same rfl
theorem small_r {i j : Int} (h : 0 < j) (h2 : j < 1073741824) : mulOk i j = true := mulOk_r (by omega) (by omega)
theorem small_l {i j : Int} (h : 0 < i) (h2 : i < 1073741824) : mulOk i j = true := mulOk_l (by omega) (by omega)
theorem plus_spec (hq : 0 < q) (hs : 0 < s) (hqs : q * s < 1073741824) (hq2 : q < 1073741824) (hs2 : s < 1073741824) : Qk10.d_plus [fr p q, fr r s] S = .ok (redD (p * s + r * q) (q * s)) S := by
  show scp S (runU 2 2 Qk10.b_plus [fr p q, fr r s] S) = _
  rw [Qk10.b_plus_eq]
  simp only [runU, eVar, eC, xv_non, xv_bl, xv_int, xv_str, xv_lst, xv_tup, xv_scr, xv_ref, xv_ins, xv_fn, xv_ty, bind_ok, lft_ok, lft_exc, of_some, fnRes_rt, fnRes_nx, fnRes_ex, eOp1, eOp2, eOpN, esNil, esCons, sSeq, sSet, sIf, sRet, sRetN, sExpr, sNop, tBl, tOf, tAnd, tOr, tNot, asB, sSetIx, List.map_cons, List.map_nil, List.replicate, Nat.zero_add, Nat.reduceAdd, Nat.reduceSub, List.cons_append, List.nil_append, List.getElem?_cons_zero, List.getElem?_cons_succ, List.set_cons_zero, List.set_cons_succ, List.length_cons, List.length_nil, dIx, dGt, dGe, dLt, dLe, dAdd, dSub, dMul, dMod, dDiv, dPow, dNeg, dInt, drf, dLen, if_true, if_false, Bool.false_eq_true, decide_eq_true_eq, dSetIx, Option.map_some, decide_true, decide_false, truth, eAnd, eOr, eNot, eIf, eIsT, dIsT, kindD, tysOf, dIsi, isB, dIs, dIsNot, isNon, List.any_cons, List.any_nil, Bool.or_false, Bool.or_true, Bool.false_or, Bool.true_or, Bool.and_true, Bool.true_and, Bool.and_false, Bool.false_and, Bool.not_true, Bool.not_false, Nat.reduceLeDiff, Nat.reduceLT, Int.reduceLT, Int.reduceLE, and_self, and_true, true_and, reduceIte, sFor, lft_bad, dEq_ii, dEq_bb, dEq_ss, dEq_nn, dNe_ii, dNe_bb, dNe_ss, dNe_nn, BEq.rfl, dLst_s, dTup_s, dNew_s, dEq_nil, Nat.zero_le, put_name, put_tt, put_tl, puts_nil, puts_name, sAsg, eCall, at2_0, at2_1, small_r hs hs2, small_r hq hq2, reduced_spec (a := p * s + r * q) (Int.mul_pos hq hs) hqs, scp_red]
theorem minus_spec (hq : 0 < q) (hs : 0 < s) (hqs : q * s < 1073741824) (hq2 : q < 1073741824) (hs2 : s < 1073741824) : Qk10.d_minus [fr p q, fr r s] S = .ok (redD (p * s - r * q) (q * s)) S := by
  show scp S (runU 2 2 Qk10.b_minus [fr p q, fr r s] S) = _
  rw [Qk10.b_minus_eq]
  simp only [runU, eVar, eC, xv_non, xv_bl, xv_int, xv_str, xv_lst, xv_tup, xv_scr, xv_ref, xv_ins, xv_fn, xv_ty, bind_ok, lft_ok, lft_exc, of_some, fnRes_rt, fnRes_nx, fnRes_ex, eOp1, eOp2, eOpN, esNil, esCons, sSeq, sSet, sIf, sRet, sRetN, sExpr, sNop, tBl, tOf, tAnd, tOr, tNot, asB, sSetIx, List.map_cons, List.map_nil, List.replicate, Nat.zero_add, Nat.reduceAdd, Nat.reduceSub, List.cons_append, List.nil_append, List.getElem?_cons_zero, List.getElem?_cons_succ, List.set_cons_zero, List.set_cons_succ, List.length_cons, List.length_nil, dIx, dGt, dGe, dLt, dLe, dAdd, dSub, dMul, dMod, dDiv, dPow, dNeg, dInt, drf, dLen, if_true, if_false, Bool.false_eq_true, decide_eq_true_eq, dSetIx, Option.map_some, decide_true, decide_false, truth, eAnd, eOr, eNot, eIf, eIsT, dIsT, kindD, tysOf, dIsi, isB, dIs, dIsNot, isNon, List.any_cons, List.any_nil, Bool.or_false, Bool.or_true, Bool.false_or, Bool.true_or, Bool.and_true, Bool.true_and, Bool.and_false, Bool.false_and, Bool.not_true, Bool.not_false, Nat.reduceLeDiff, Nat.reduceLT, Int.reduceLT, Int.reduceLE, and_self, and_true, true_and, reduceIte, sFor, lft_bad, dEq_ii, dEq_bb, dEq_ss, dEq_nn, dNe_ii, dNe_bb, dNe_ss, dNe_nn, BEq.rfl, dLst_s, dTup_s, dNew_s, dEq_nil, Nat.zero_le, put_name, put_tt, put_tl, puts_nil, puts_name, sAsg, eCall, at2_0, at2_1, small_r hs hs2, small_r hq hq2, reduced_spec (a := p * s - r * q) (Int.mul_pos hq hs) hqs, scp_red]
theorem times_spec (hq : 0 < q) (hs : 0 < s) (hqs : q * s < 1073741824) (hq2 : q < 1073741824) (hs2 : s < 1073741824) (hm : mulOk p r = true) : Qk10.d_times [fr p q, fr r s] S = .ok (redD (p * r) (q * s)) S := by
  show scp S (runU 2 2 Qk10.b_times [fr p q, fr r s] S) = _
  rw [Qk10.b_times_eq]
  simp only [runU, eVar, eC, xv_non, xv_bl, xv_int, xv_str, xv_lst, xv_tup, xv_scr, xv_ref, xv_ins, xv_fn, xv_ty, bind_ok, lft_ok, lft_exc, of_some, fnRes_rt, fnRes_nx, fnRes_ex, eOp1, eOp2, eOpN, esNil, esCons, sSeq, sSet, sIf, sRet, sRetN, sExpr, sNop, tBl, tOf, tAnd, tOr, tNot, asB, sSetIx, List.map_cons, List.map_nil, List.replicate, Nat.zero_add, Nat.reduceAdd, Nat.reduceSub, List.cons_append, List.nil_append, List.getElem?_cons_zero, List.getElem?_cons_succ, List.set_cons_zero, List.set_cons_succ, List.length_cons, List.length_nil, dIx, dGt, dGe, dLt, dLe, dAdd, dSub, dMul, dMod, dDiv, dPow, dNeg, dInt, drf, dLen, if_true, if_false, Bool.false_eq_true, decide_eq_true_eq, dSetIx, Option.map_some, decide_true, decide_false, truth, eAnd, eOr, eNot, eIf, eIsT, dIsT, kindD, tysOf, dIsi, isB, dIs, dIsNot, isNon, List.any_cons, List.any_nil, Bool.or_false, Bool.or_true, Bool.false_or, Bool.true_or, Bool.and_true, Bool.true_and, Bool.and_false, Bool.false_and, Bool.not_true, Bool.not_false, Nat.reduceLeDiff, Nat.reduceLT, Int.reduceLT, Int.reduceLE, and_self, and_true, true_and, reduceIte, sFor, lft_bad, dEq_ii, dEq_bb, dEq_ss, dEq_nn, dNe_ii, dNe_bb, dNe_ss, dNe_nn, BEq.rfl, dLst_s, dTup_s, dNew_s, dEq_nil, Nat.zero_le, put_name, put_tt, put_tl, puts_nil, puts_name, sAsg, eCall, at2_0, at2_1, small_r hs hs2, small_r hq hq2, hm, reduced_spec (a := p * r) (Int.mul_pos hq hs) hqs, scp_red]
theorem over_spec (hq : 0 < q) (hs : 0 < s) (hr : 0 < r) (hqr : q * r < 1073741824) (hq2 : q < 1073741824) (hs2 : s < 1073741824) (hr2 : r < 1073741824) : Qk10.d_over [fr p q, fr r s] S = .ok (redD (p * s) (q * r)) S := by
  show scp S (runU 2 2 Qk10.b_over [fr p q, fr r s] S) = _
  rw [Qk10.b_over_eq]
  simp only [runU, eVar, eC, xv_non, xv_bl, xv_int, xv_str, xv_lst, xv_tup, xv_scr, xv_ref, xv_ins, xv_fn, xv_ty, bind_ok, lft_ok, lft_exc, of_some, fnRes_rt, fnRes_nx, fnRes_ex, eOp1, eOp2, eOpN, esNil, esCons, sSeq, sSet, sIf, sRet, sRetN, sExpr, sNop, tBl, tOf, tAnd, tOr, tNot, asB, sSetIx, List.map_cons, List.map_nil, List.replicate, Nat.zero_add, Nat.reduceAdd, Nat.reduceSub, List.cons_append, List.nil_append, List.getElem?_cons_zero, List.getElem?_cons_succ, List.set_cons_zero, List.set_cons_succ, List.length_cons, List.length_nil, dIx, dGt, dGe, dLt, dLe, dAdd, dSub, dMul, dMod, dDiv, dPow, dNeg, dInt, drf, dLen, if_true, if_false, Bool.false_eq_true, decide_eq_true_eq, dSetIx, Option.map_some, decide_true, decide_false, truth, eAnd, eOr, eNot, eIf, eIsT, dIsT, kindD, tysOf, dIsi, isB, dIs, dIsNot, isNon, List.any_cons, List.any_nil, Bool.or_false, Bool.or_true, Bool.false_or, Bool.true_or, Bool.and_true, Bool.true_and, Bool.and_false, Bool.false_and, Bool.not_true, Bool.not_false, Nat.reduceLeDiff, Nat.reduceLT, Int.reduceLT, Int.reduceLE, and_self, and_true, true_and, reduceIte, sFor, lft_bad, dEq_ii, dEq_bb, dEq_ss, dEq_nn, dNe_ii, dNe_bb, dNe_ss, dNe_nn, BEq.rfl, dLst_s, dTup_s, dNew_s, dEq_nil, Nat.zero_le, put_name, put_tt, put_tl, puts_nil, puts_name, sAsg, eCall, at2_0, at2_1, small_r hs hs2, small_r hr hr2, reduced_spec (a := p * s) (Int.mul_pos hq hr) hqr, scp_red]
theorem less_spec (hq : 0 < q) (hs : 0 < s) (hq2 : q < 1073741824) (hs2 : s < 1073741824) : Qk10.d_is_less [fr p q, fr r s] S = .ok (.bl (decide (p * s < r * q))) S := by
  show scp S (runU 2 2 Qk10.b_is_less [fr p q, fr r s] S) = _
  rw [Qk10.b_is_less_eq]
  simp only [runU, eVar, eC, xv_non, xv_bl, xv_int, xv_str, xv_lst, xv_tup, xv_scr, xv_ref, xv_ins, xv_fn, xv_ty, bind_ok, lft_ok, lft_exc, of_some, fnRes_rt, fnRes_nx, fnRes_ex, eOp1, eOp2, eOpN, esNil, esCons, sSeq, sSet, sIf, sRet, sRetN, sExpr, sNop, tBl, tOf, tAnd, tOr, tNot, asB, sSetIx, List.map_cons, List.map_nil, List.replicate, Nat.zero_add, Nat.reduceAdd, Nat.reduceSub, List.cons_append, List.nil_append, List.getElem?_cons_zero, List.getElem?_cons_succ, List.set_cons_zero, List.set_cons_succ, List.length_cons, List.length_nil, dIx, dGt, dGe, dLt, dLe, dAdd, dSub, dMul, dMod, dDiv, dPow, dNeg, dInt, drf, dLen, if_true, if_false, Bool.false_eq_true, decide_eq_true_eq, dSetIx, Option.map_some, decide_true, decide_false, truth, eAnd, eOr, eNot, eIf, eIsT, dIsT, kindD, tysOf, dIsi, isB, dIs, dIsNot, isNon, List.any_cons, List.any_nil, Bool.or_false, Bool.or_true, Bool.false_or, Bool.true_or, Bool.and_true, Bool.true_and, Bool.and_false, Bool.false_and, Bool.not_true, Bool.not_false, Nat.reduceLeDiff, Nat.reduceLT, Int.reduceLT, Int.reduceLE, and_self, and_true, true_and, reduceIte, sFor, lft_bad, dEq_ii, dEq_bb, dEq_ss, dEq_nn, dNe_ii, dNe_bb, dNe_ss, dNe_nn, BEq.rfl, dLst_s, dTup_s, dNew_s, dEq_nil, Nat.zero_le, put_name, put_tt, put_tl, puts_nil, puts_name, sAsg, at2_0, at2_1, small_r hs hs2, small_r hq hq2]
  exact scp_same rfl
theorem floor_spec (hq : 0 < q) (hq2 : q < 1073741824) : Qk10.d_floor_of [fr p q] S = .ok (.int (p / q)) S := by
  show scp S (runU 1 1 Qk10.b_floor_of [fr p q] S) = _
  rw [Qk10.b_floor_of_eq]
  simp only [runU, eVar, eC, xv_non, xv_bl, xv_int, xv_str, xv_lst, xv_tup, xv_scr, xv_ref, xv_ins, xv_fn, xv_ty, bind_ok, lft_ok, lft_exc, of_some, fnRes_rt, fnRes_nx, fnRes_ex, eOp1, eOp2, eOpN, esNil, esCons, sSeq, sSet, sIf, sRet, sRetN, sExpr, sNop, tBl, tOf, tAnd, tOr, tNot, asB, sSetIx, List.map_cons, List.map_nil, List.replicate, Nat.zero_add, Nat.reduceAdd, Nat.reduceSub, List.cons_append, List.nil_append, List.getElem?_cons_zero, List.getElem?_cons_succ, List.set_cons_zero, List.set_cons_succ, List.length_cons, List.length_nil, dIx, dGt, dGe, dLt, dLe, dAdd, dSub, dMul, dMod, dDiv, dPow, dNeg, dInt, drf, dLen, if_true, if_false, Bool.false_eq_true, decide_eq_true_eq, dSetIx, Option.map_some, decide_true, decide_false, truth, eAnd, eOr, eNot, eIf, eIsT, dIsT, kindD, tysOf, dIsi, isB, dIs, dIsNot, isNon, List.any_cons, List.any_nil, Bool.or_false, Bool.or_true, Bool.false_or, Bool.true_or, Bool.and_true, Bool.true_and, Bool.and_false, Bool.false_and, Bool.not_true, Bool.not_false, Nat.reduceLeDiff, Nat.reduceLT, Int.reduceLT, Int.reduceLE, and_self, and_true, true_and, reduceIte, sFor, lft_bad, dEq_ii, dEq_bb, dEq_ss, dEq_nn, dNe_ii, dNe_bb, dNe_ss, dNe_nn, BEq.rfl, dLst_s, dTup_s, dNew_s, dEq_nil, Nat.zero_le, put_name, put_tt, put_tl, puts_nil, puts_name, sAsg, at2_0, at2_1, hq, hq2]
  exact scp_same rfl
theorem ceil_spec (hq : 0 < q) (hq2 : q < 1073741824) : Qk10.d_ceiling_of [fr p q] S = .ok (.int (-(-p / q))) S := by
  show scp S (runU 1 1 Qk10.b_ceiling_of [fr p q] S) = _
  rw [Qk10.b_ceiling_of_eq]
  simp only [runU, eVar, eC, xv_non, xv_bl, xv_int, xv_str, xv_lst, xv_tup, xv_scr, xv_ref, xv_ins, xv_fn, xv_ty, bind_ok, lft_ok, lft_exc, of_some, fnRes_rt, fnRes_nx, fnRes_ex, eOp1, eOp2, eOpN, esNil, esCons, sSeq, sSet, sIf, sRet, sRetN, sExpr, sNop, tBl, tOf, tAnd, tOr, tNot, asB, sSetIx, List.map_cons, List.map_nil, List.replicate, Nat.zero_add, Nat.reduceAdd, Nat.reduceSub, List.cons_append, List.nil_append, List.getElem?_cons_zero, List.getElem?_cons_succ, List.set_cons_zero, List.set_cons_succ, List.length_cons, List.length_nil, dIx, dGt, dGe, dLt, dLe, dAdd, dSub, dMul, dMod, dDiv, dPow, dNeg, dInt, drf, dLen, if_true, if_false, Bool.false_eq_true, decide_eq_true_eq, dSetIx, Option.map_some, decide_true, decide_false, truth, eAnd, eOr, eNot, eIf, eIsT, dIsT, kindD, tysOf, dIsi, isB, dIs, dIsNot, isNon, List.any_cons, List.any_nil, Bool.or_false, Bool.or_true, Bool.false_or, Bool.true_or, Bool.and_true, Bool.true_and, Bool.and_false, Bool.false_and, Bool.not_true, Bool.not_false, Nat.reduceLeDiff, Nat.reduceLT, Int.reduceLT, Int.reduceLE, and_self, and_true, true_and, reduceIte, sFor, lft_bad, dEq_ii, dEq_bb, dEq_ss, dEq_nn, dNe_ii, dNe_bb, dNe_ss, dNe_nn, BEq.rfl, dLst_s, dTup_s, dNew_s, dEq_nil, Nat.zero_le, put_name, put_tt, put_tl, puts_nil, puts_name, sAsg, at2_0, at2_1, hq, hq2]
  exact scp_same rfl
theorem near_spec (hq : 0 < q) (hq2 : q < 500000000) : Qk10.d_nearest [fr p q] S = .ok (.int ((2 * p + q) / (2 * q))) S := by
  show scp S (runU 1 1 Qk10.b_nearest [fr p q] S) = _
  rw [Qk10.b_nearest_eq]
  simp only [runU, eVar, eC, xv_non, xv_bl, xv_int, xv_str, xv_lst, xv_tup, xv_scr, xv_ref, xv_ins, xv_fn, xv_ty, bind_ok, lft_ok, lft_exc, of_some, fnRes_rt, fnRes_nx, fnRes_ex, eOp1, eOp2, eOpN, esNil, esCons, sSeq, sSet, sIf, sRet, sRetN, sExpr, sNop, tBl, tOf, tAnd, tOr, tNot, asB, sSetIx, List.map_cons, List.map_nil, List.replicate, Nat.zero_add, Nat.reduceAdd, Nat.reduceSub, List.cons_append, List.nil_append, List.getElem?_cons_zero, List.getElem?_cons_succ, List.set_cons_zero, List.set_cons_succ, List.length_cons, List.length_nil, dIx, dGt, dGe, dLt, dLe, dAdd, dSub, dMul, dMod, dDiv, dPow, dNeg, dInt, drf, dLen, if_true, if_false, Bool.false_eq_true, decide_eq_true_eq, dSetIx, Option.map_some, decide_true, decide_false, truth, eAnd, eOr, eNot, eIf, eIsT, dIsT, kindD, tysOf, dIsi, isB, dIs, dIsNot, isNon, List.any_cons, List.any_nil, Bool.or_false, Bool.or_true, Bool.false_or, Bool.true_or, Bool.and_true, Bool.true_and, Bool.and_false, Bool.false_and, Bool.not_true, Bool.not_false, Nat.reduceLeDiff, Nat.reduceLT, Int.reduceLT, Int.reduceLE, and_self, and_true, true_and, reduceIte, sFor, lft_bad, dEq_ii, dEq_bb, dEq_ss, dEq_nn, dNe_ii, dNe_bb, dNe_ss, dNe_nn, BEq.rfl, dLst_s, dTup_s, dNew_s, dEq_nil, Nat.zero_le, put_name, put_tt, put_tl, puts_nil, puts_name, sAsg, at2_0, at2_1, mulOk_l (i := 2) (j := p) (by omega) (by omega), mulOk_l (i := 2) (j := q) (by omega) (by omega), show 0 < 2 * q ∧ 2 * q < 1073741824 from ⟨by omega, by omega⟩]
  exact scp_same rfl
theorem row_tup {ds : List Da} : Qk10.d_is_row [.tup ds] S = .ok (.bl true) S := by
  show scp S (runU 1 1 Qk10.b_is_row [.tup ds] S) = _
  rw [Qk10.b_is_row_eq]
  simp only [runU, eVar, eC, xv_non, xv_bl, xv_int, xv_str, xv_lst, xv_tup, xv_scr, xv_ref, xv_ins, xv_fn, xv_ty, bind_ok, lft_ok, lft_exc, of_some, fnRes_rt, fnRes_nx, fnRes_ex, eOp1, eOp2, eOpN, esNil, esCons, sSeq, sSet, sIf, sRet, sRetN, sExpr, sNop, tBl, tOf, tAnd, tOr, tNot, asB, sSetIx, List.map_cons, List.map_nil, List.replicate, Nat.zero_add, Nat.reduceAdd, Nat.reduceSub, List.cons_append, List.nil_append, List.getElem?_cons_zero, List.getElem?_cons_succ, List.set_cons_zero, List.set_cons_succ, List.length_cons, List.length_nil, dIx, dGt, dGe, dLt, dLe, dAdd, dSub, dMul, dMod, dDiv, dPow, dNeg, dInt, drf, dLen, if_true, if_false, Bool.false_eq_true, decide_eq_true_eq, dSetIx, Option.map_some, decide_true, decide_false, truth, eAnd, eOr, eNot, eIf, eIsT, dIsT, kindD, tysOf, dIsi, isB, dIs, dIsNot, isNon, List.any_cons, List.any_nil, Bool.or_false, Bool.or_true, Bool.false_or, Bool.true_or, Bool.and_true, Bool.true_and, Bool.and_false, Bool.false_and, Bool.not_true, Bool.not_false, Nat.reduceLeDiff, Nat.reduceLT, Int.reduceLT, Int.reduceLE, and_self, and_true, true_and, reduceIte, sFor, lft_bad, dEq_ii, dEq_bb, dEq_ss, dEq_nn, dNe_ii, dNe_bb, dNe_ss, dNe_nn, BEq.rfl, dLst_s, dTup_s, dNew_s, dEq_nil, Nat.zero_le, put_name, put_tt, put_tl, puts_nil, puts_name, sAsg]
  exact scp_same rfl
theorem row_lst {ds : List Da} : Qk10.d_is_row [.lst ds] S = .ok (.bl true) S := by
  show scp S (runU 1 1 Qk10.b_is_row [.lst ds] S) = _
  rw [Qk10.b_is_row_eq]
  simp only [runU, eVar, eC, xv_non, xv_bl, xv_int, xv_str, xv_lst, xv_tup, xv_scr, xv_ref, xv_ins, xv_fn, xv_ty, bind_ok, lft_ok, lft_exc, of_some, fnRes_rt, fnRes_nx, fnRes_ex, eOp1, eOp2, eOpN, esNil, esCons, sSeq, sSet, sIf, sRet, sRetN, sExpr, sNop, tBl, tOf, tAnd, tOr, tNot, asB, sSetIx, List.map_cons, List.map_nil, List.replicate, Nat.zero_add, Nat.reduceAdd, Nat.reduceSub, List.cons_append, List.nil_append, List.getElem?_cons_zero, List.getElem?_cons_succ, List.set_cons_zero, List.set_cons_succ, List.length_cons, List.length_nil, dIx, dGt, dGe, dLt, dLe, dAdd, dSub, dMul, dMod, dDiv, dPow, dNeg, dInt, drf, dLen, if_true, if_false, Bool.false_eq_true, decide_eq_true_eq, dSetIx, Option.map_some, decide_true, decide_false, truth, eAnd, eOr, eNot, eIf, eIsT, dIsT, kindD, tysOf, dIsi, isB, dIs, dIsNot, isNon, List.any_cons, List.any_nil, Bool.or_false, Bool.or_true, Bool.false_or, Bool.true_or, Bool.and_true, Bool.true_and, Bool.and_false, Bool.false_and, Bool.not_true, Bool.not_false, Nat.reduceLeDiff, Nat.reduceLT, Int.reduceLT, Int.reduceLE, and_self, and_true, true_and, reduceIte, sFor, lft_bad, dEq_ii, dEq_bb, dEq_ss, dEq_nn, dNe_ii, dNe_bb, dNe_ss, dNe_nn, BEq.rfl, dLst_s, dTup_s, dNew_s, dEq_nil, Nat.zero_le, put_name, put_tt, put_tl, puts_nil, puts_name, sAsg]
  exact scp_same rfl
theorem row_non : Qk10.d_is_row [.non] S = .ok (.bl false) S := by
  show scp S (runU 1 1 Qk10.b_is_row [.non] S) = _
  rw [Qk10.b_is_row_eq]
  simp only [runU, eVar, eC, xv_non, xv_bl, xv_int, xv_str, xv_lst, xv_tup, xv_scr, xv_ref, xv_ins, xv_fn, xv_ty, bind_ok, lft_ok, lft_exc, of_some, fnRes_rt, fnRes_nx, fnRes_ex, eOp1, eOp2, eOpN, esNil, esCons, sSeq, sSet, sIf, sRet, sRetN, sExpr, sNop, tBl, tOf, tAnd, tOr, tNot, asB, sSetIx, List.map_cons, List.map_nil, List.replicate, Nat.zero_add, Nat.reduceAdd, Nat.reduceSub, List.cons_append, List.nil_append, List.getElem?_cons_zero, List.getElem?_cons_succ, List.set_cons_zero, List.set_cons_succ, List.length_cons, List.length_nil, dIx, dGt, dGe, dLt, dLe, dAdd, dSub, dMul, dMod, dDiv, dPow, dNeg, dInt, drf, dLen, if_true, if_false, Bool.false_eq_true, decide_eq_true_eq, dSetIx, Option.map_some, decide_true, decide_false, truth, eAnd, eOr, eNot, eIf, eIsT, dIsT, kindD, tysOf, dIsi, isB, dIs, dIsNot, isNon, List.any_cons, List.any_nil, Bool.or_false, Bool.or_true, Bool.false_or, Bool.true_or, Bool.and_true, Bool.true_and, Bool.and_false, Bool.false_and, Bool.not_true, Bool.not_false, Nat.reduceLeDiff, Nat.reduceLT, Int.reduceLT, Int.reduceLE, and_self, and_true, true_and, reduceIte, sFor, lft_bad, dEq_ii, dEq_bb, dEq_ss, dEq_nn, dNe_ii, dNe_bb, dNe_ss, dNe_nn, BEq.rfl, dLst_s, dTup_s, dNew_s, dEq_nil, Nat.zero_le, put_name, put_tt, put_tl, puts_nil, puts_name, sAsg]
  exact scp_same rfl
theorem row_int {i : Int} : Qk10.d_is_row [.int i] S = .ok (.bl false) S := by
  show scp S (runU 1 1 Qk10.b_is_row [.int i] S) = _
  rw [Qk10.b_is_row_eq]
  simp only [runU, eVar, eC, xv_non, xv_bl, xv_int, xv_str, xv_lst, xv_tup, xv_scr, xv_ref, xv_ins, xv_fn, xv_ty, bind_ok, lft_ok, lft_exc, of_some, fnRes_rt, fnRes_nx, fnRes_ex, eOp1, eOp2, eOpN, esNil, esCons, sSeq, sSet, sIf, sRet, sRetN, sExpr, sNop, tBl, tOf, tAnd, tOr, tNot, asB, sSetIx, List.map_cons, List.map_nil, List.replicate, Nat.zero_add, Nat.reduceAdd, Nat.reduceSub, List.cons_append, List.nil_append, List.getElem?_cons_zero, List.getElem?_cons_succ, List.set_cons_zero, List.set_cons_succ, List.length_cons, List.length_nil, dIx, dGt, dGe, dLt, dLe, dAdd, dSub, dMul, dMod, dDiv, dPow, dNeg, dInt, drf, dLen, if_true, if_false, Bool.false_eq_true, decide_eq_true_eq, dSetIx, Option.map_some, decide_true, decide_false, truth, eAnd, eOr, eNot, eIf, eIsT, dIsT, kindD, tysOf, dIsi, isB, dIs, dIsNot, isNon, List.any_cons, List.any_nil, Bool.or_false, Bool.or_true, Bool.false_or, Bool.true_or, Bool.and_true, Bool.true_and, Bool.and_false, Bool.false_and, Bool.not_true, Bool.not_false, Nat.reduceLeDiff, Nat.reduceLT, Int.reduceLT, Int.reduceLE, and_self, and_true, true_and, reduceIte, sFor, lft_bad, dEq_ii, dEq_bb, dEq_ss, dEq_nn, dNe_ii, dNe_bb, dNe_ss, dNe_nn, BEq.rfl, dLst_s, dTup_s, dNew_s, dEq_nil, Nat.zero_le, put_name, put_tt, put_tl, puts_nil, puts_name, sAsg]
  exact scp_same rfl
theorem whole_int {i : Int} : Qk10.d_is_whole [.int i] S = .ok (.bl true) S := by
  show scp S (runU 1 1 Qk10.b_is_whole [.int i] S) = _
  rw [Qk10.b_is_whole_eq]
  simp only [runU, eVar, eC, xv_non, xv_bl, xv_int, xv_str, xv_lst, xv_tup, xv_scr, xv_ref, xv_ins, xv_fn, xv_ty, bind_ok, lft_ok, lft_exc, of_some, fnRes_rt, fnRes_nx, fnRes_ex, eOp1, eOp2, eOpN, esNil, esCons, sSeq, sSet, sIf, sRet, sRetN, sExpr, sNop, tBl, tOf, tAnd, tOr, tNot, asB, sSetIx, List.map_cons, List.map_nil, List.replicate, Nat.zero_add, Nat.reduceAdd, Nat.reduceSub, List.cons_append, List.nil_append, List.getElem?_cons_zero, List.getElem?_cons_succ, List.set_cons_zero, List.set_cons_succ, List.length_cons, List.length_nil, dIx, dGt, dGe, dLt, dLe, dAdd, dSub, dMul, dMod, dDiv, dPow, dNeg, dInt, drf, dLen, if_true, if_false, Bool.false_eq_true, decide_eq_true_eq, dSetIx, Option.map_some, decide_true, decide_false, truth, eAnd, eOr, eNot, eIf, eIsT, dIsT, kindD, tysOf, dIsi, isB, dIs, dIsNot, isNon, List.any_cons, List.any_nil, Bool.or_false, Bool.or_true, Bool.false_or, Bool.true_or, Bool.and_true, Bool.true_and, Bool.and_false, Bool.false_and, Bool.not_true, Bool.not_false, Nat.reduceLeDiff, Nat.reduceLT, Int.reduceLT, Int.reduceLE, and_self, and_true, true_and, reduceIte, sFor, lft_bad, dEq_ii, dEq_bb, dEq_ss, dEq_nn, dNe_ii, dNe_bb, dNe_ss, dNe_nn, BEq.rfl, dLst_s, dTup_s, dNew_s, dEq_nil, Nat.zero_le, put_name, put_tt, put_tl, puts_nil, puts_name, sAsg]
  exact scp_same rfl
theorem whole_bl {i : Bool} : Qk10.d_is_whole [.bl i] S = .ok (.bl false) S := by
  show scp S (runU 1 1 Qk10.b_is_whole [.bl i] S) = _
  rw [Qk10.b_is_whole_eq]
  simp only [runU, eVar, eC, xv_non, xv_bl, xv_int, xv_str, xv_lst, xv_tup, xv_scr, xv_ref, xv_ins, xv_fn, xv_ty, bind_ok, lft_ok, lft_exc, of_some, fnRes_rt, fnRes_nx, fnRes_ex, eOp1, eOp2, eOpN, esNil, esCons, sSeq, sSet, sIf, sRet, sRetN, sExpr, sNop, tBl, tOf, tAnd, tOr, tNot, asB, sSetIx, List.map_cons, List.map_nil, List.replicate, Nat.zero_add, Nat.reduceAdd, Nat.reduceSub, List.cons_append, List.nil_append, List.getElem?_cons_zero, List.getElem?_cons_succ, List.set_cons_zero, List.set_cons_succ, List.length_cons, List.length_nil, dIx, dGt, dGe, dLt, dLe, dAdd, dSub, dMul, dMod, dDiv, dPow, dNeg, dInt, drf, dLen, if_true, if_false, Bool.false_eq_true, decide_eq_true_eq, dSetIx, Option.map_some, decide_true, decide_false, truth, eAnd, eOr, eNot, eIf, eIsT, dIsT, kindD, tysOf, dIsi, isB, dIs, dIsNot, isNon, List.any_cons, List.any_nil, Bool.or_false, Bool.or_true, Bool.false_or, Bool.true_or, Bool.and_true, Bool.true_and, Bool.and_false, Bool.false_and, Bool.not_true, Bool.not_false, Nat.reduceLeDiff, Nat.reduceLT, Int.reduceLT, Int.reduceLE, and_self, and_true, true_and, reduceIte, sFor, lft_bad, dEq_ii, dEq_bb, dEq_ss, dEq_nn, dNe_ii, dNe_bb, dNe_ss, dNe_nn, BEq.rfl, dLst_s, dTup_s, dNew_s, dEq_nil, Nat.zero_le, put_name, put_tt, put_tl, puts_nil, puts_name, sAsg]
  exact scp_same rfl
theorem fr_shp {p q : Int} {n : Nat} (h : 0 < n) : shp n (fr p q) = true := by simp [shp, shps, h]
theorem fr_shrt {p q : Int} : shrt (fr p q) = true := by
  simp only [shrt, shrts, Bool.and_eq_true, List.length_cons, List.length_nil]; exact ⟨decide_eq_true (by rw [sizeLine_eq]; omega), trivial, trivial, trivial⟩
theorem red_shp {a b : Int} {n : Nat} (h : 0 < n) : shp n (redD a b) = true := fr_shp h
theorem isfr_tup (hq : 0 < q) (hq2 : q < 1073741824) : Qk10.d_is_fraction [fr p q] S = .ok (.bl (eqv (redD p q) (fr p q))) S := by
  show scp S (runU 1 1 Qk10.b_is_fraction [fr p q] S) = _
  rw [Qk10.b_is_fraction_eq]
  simp only [runU, eVar, eC, xv_non, xv_bl, xv_int, xv_str, xv_lst, xv_tup, xv_scr, xv_ref, xv_ins, xv_fn, xv_ty, bind_ok, lft_ok, lft_exc, of_some, fnRes_rt, fnRes_nx, fnRes_ex, eOp1, eOp2, eOpN, esNil, esCons, sSeq, sSet, sIf, sRet, sRetN, sExpr, sNop, tBl, tOf, tAnd, tOr, tNot, asB, sSetIx, List.map_cons, List.map_nil, List.replicate, Nat.zero_add, Nat.reduceAdd, Nat.reduceSub, List.cons_append, List.nil_append, List.getElem?_cons_zero, List.getElem?_cons_succ, List.set_cons_zero, List.set_cons_succ, List.length_cons, List.length_nil, dIx, dGt, dGe, dLt, dLe, dAdd, dSub, dMul, dMod, dDiv, dPow, dNeg, dInt, drf, dLen, if_true, if_false, Bool.false_eq_true, decide_eq_true_eq, dSetIx, Option.map_some, decide_true, decide_false, truth, eAnd, eOr, eNot, eIf, eIsT, dIsT, kindD, tysOf, dIsi, isB, dIs, dIsNot, isNon, List.any_cons, List.any_nil, Bool.or_false, Bool.or_true, Bool.false_or, Bool.true_or, Bool.and_true, Bool.true_and, Bool.and_false, Bool.false_and, Bool.not_true, Bool.not_false, Nat.reduceLeDiff, Nat.reduceLT, Int.reduceLT, Int.reduceLE, and_self, and_true, true_and, reduceIte, sFor, lft_bad, dEq_ii, dEq_bb, dEq_ss, dEq_nn, dNe_ii, dNe_bb, dNe_ss, dNe_nn, BEq.rfl, dLst_s, dTup_s, dNew_s, dEq_nil, Nat.zero_le, put_name, put_tt, put_tl, puts_nil, puts_name, sAsg, eCall, row_tup, whole_int, at2_0, at2_1, show ¬ q < 1 from by omega, reduced_spec (a := p) hq hq2, dEq_shp (red_shp (a := p) (b := q) (n := 64) (by decide)) (fr_shp (p := p) (q := q) (by decide)), dNe_ii, show (((2 : Nat) : Int) == 2) = true from rfl]
  exact scp_same rfl
theorem isfr_lst (hq : 0 < q) (hq2 : q < 1073741824) : Qk10.d_is_fraction [.lst [.int p, .int q]] S = .ok (.bl (eqv (redD p q) (fr p q))) S := by
  show scp S (runU 1 1 Qk10.b_is_fraction [.lst [.int p, .int q]] S) = _
  rw [Qk10.b_is_fraction_eq]
  simp only [runU, eVar, eC, xv_non, xv_bl, xv_int, xv_str, xv_lst, xv_tup, xv_scr, xv_ref, xv_ins, xv_fn, xv_ty, bind_ok, lft_ok, lft_exc, of_some, fnRes_rt, fnRes_nx, fnRes_ex, eOp1, eOp2, eOpN, esNil, esCons, sSeq, sSet, sIf, sRet, sRetN, sExpr, sNop, tBl, tOf, tAnd, tOr, tNot, asB, sSetIx, List.map_cons, List.map_nil, List.replicate, Nat.zero_add, Nat.reduceAdd, Nat.reduceSub, List.cons_append, List.nil_append, List.getElem?_cons_zero, List.getElem?_cons_succ, List.set_cons_zero, List.set_cons_succ, List.length_cons, List.length_nil, dIx, dGt, dGe, dLt, dLe, dAdd, dSub, dMul, dMod, dDiv, dPow, dNeg, dInt, drf, dLen, if_true, if_false, Bool.false_eq_true, decide_eq_true_eq, dSetIx, Option.map_some, decide_true, decide_false, truth, eAnd, eOr, eNot, eIf, eIsT, dIsT, kindD, tysOf, dIsi, isB, dIs, dIsNot, isNon, List.any_cons, List.any_nil, Bool.or_false, Bool.or_true, Bool.false_or, Bool.true_or, Bool.and_true, Bool.true_and, Bool.and_false, Bool.false_and, Bool.not_true, Bool.not_false, Nat.reduceLeDiff, Nat.reduceLT, Int.reduceLT, Int.reduceLE, and_self, and_true, true_and, reduceIte, sFor, lft_bad, dEq_ii, dEq_bb, dEq_ss, dEq_nn, dNe_ii, dNe_bb, dNe_ss, dNe_nn, BEq.rfl, dLst_s, dTup_s, dNew_s, dEq_nil, Nat.zero_le, put_name, put_tt, put_tl, puts_nil, puts_name, sAsg, eCall, row_lst, whole_int, at2_0, at2_1, show ¬ q < 1 from by omega, reduced_spec (a := p) hq hq2, dEq_shp (red_shp (a := p) (b := q) (n := 64) (by decide)) (fr_shp (p := p) (q := q) (by decide)), dNe_ii, show (((2 : Nat) : Int) == 2) = true from rfl]
  exact scp_same rfl
theorem isfr_low (hq : q < 1) : Qk10.d_is_fraction [fr p q] S = .ok (.bl false) S := by
  show scp S (runU 1 1 Qk10.b_is_fraction [fr p q] S) = _
  rw [Qk10.b_is_fraction_eq]
  simp only [runU, eVar, eC, xv_non, xv_bl, xv_int, xv_str, xv_lst, xv_tup, xv_scr, xv_ref, xv_ins, xv_fn, xv_ty, bind_ok, lft_ok, lft_exc, of_some, fnRes_rt, fnRes_nx, fnRes_ex, eOp1, eOp2, eOpN, esNil, esCons, sSeq, sSet, sIf, sRet, sRetN, sExpr, sNop, tBl, tOf, tAnd, tOr, tNot, asB, sSetIx, List.map_cons, List.map_nil, List.replicate, Nat.zero_add, Nat.reduceAdd, Nat.reduceSub, List.cons_append, List.nil_append, List.getElem?_cons_zero, List.getElem?_cons_succ, List.set_cons_zero, List.set_cons_succ, List.length_cons, List.length_nil, dIx, dGt, dGe, dLt, dLe, dAdd, dSub, dMul, dMod, dDiv, dPow, dNeg, dInt, drf, dLen, if_true, if_false, Bool.false_eq_true, decide_eq_true_eq, dSetIx, Option.map_some, decide_true, decide_false, truth, eAnd, eOr, eNot, eIf, eIsT, dIsT, kindD, tysOf, dIsi, isB, dIs, dIsNot, isNon, List.any_cons, List.any_nil, Bool.or_false, Bool.or_true, Bool.false_or, Bool.true_or, Bool.and_true, Bool.true_and, Bool.and_false, Bool.false_and, Bool.not_true, Bool.not_false, Nat.reduceLeDiff, Nat.reduceLT, Int.reduceLT, Int.reduceLE, and_self, and_true, true_and, reduceIte, sFor, lft_bad, dEq_ii, dEq_bb, dEq_ss, dEq_nn, dNe_ii, dNe_bb, dNe_ss, dNe_nn, BEq.rfl, dLst_s, dTup_s, dNew_s, dEq_nil, Nat.zero_le, put_name, put_tt, put_tl, puts_nil, puts_name, sAsg, eCall, row_tup, whole_int, at2_0, at2_1, hq, dNe_ii, show (((2 : Nat) : Int) == 2) = true from rfl]
  exact scp_same rfl
theorem isfr_non : Qk10.d_is_fraction [.non] S = .ok (.bl false) S := by
  show scp S (runU 1 1 Qk10.b_is_fraction [.non] S) = _
  rw [Qk10.b_is_fraction_eq]
  simp only [runU, eVar, eC, xv_non, xv_bl, xv_int, xv_str, xv_lst, xv_tup, xv_scr, xv_ref, xv_ins, xv_fn, xv_ty, bind_ok, lft_ok, lft_exc, of_some, fnRes_rt, fnRes_nx, fnRes_ex, eOp1, eOp2, eOpN, esNil, esCons, sSeq, sSet, sIf, sRet, sRetN, sExpr, sNop, tBl, tOf, tAnd, tOr, tNot, asB, sSetIx, List.map_cons, List.map_nil, List.replicate, Nat.zero_add, Nat.reduceAdd, Nat.reduceSub, List.cons_append, List.nil_append, List.getElem?_cons_zero, List.getElem?_cons_succ, List.set_cons_zero, List.set_cons_succ, List.length_cons, List.length_nil, dIx, dGt, dGe, dLt, dLe, dAdd, dSub, dMul, dMod, dDiv, dPow, dNeg, dInt, drf, dLen, if_true, if_false, Bool.false_eq_true, decide_eq_true_eq, dSetIx, Option.map_some, decide_true, decide_false, truth, eAnd, eOr, eNot, eIf, eIsT, dIsT, kindD, tysOf, dIsi, isB, dIs, dIsNot, isNon, List.any_cons, List.any_nil, Bool.or_false, Bool.or_true, Bool.false_or, Bool.true_or, Bool.and_true, Bool.true_and, Bool.and_false, Bool.false_and, Bool.not_true, Bool.not_false, Nat.reduceLeDiff, Nat.reduceLT, Int.reduceLT, Int.reduceLE, and_self, and_true, true_and, reduceIte, sFor, lft_bad, dEq_ii, dEq_bb, dEq_ss, dEq_nn, dNe_ii, dNe_bb, dNe_ss, dNe_nn, BEq.rfl, dLst_s, dTup_s, dNew_s, dEq_nil, Nat.zero_le, put_name, put_tt, put_tl, puts_nil, puts_name, sAsg, eCall, row_non]
  exact scp_same rfl
theorem isfr_int {i : Int} : Qk10.d_is_fraction [.int i] S = .ok (.bl false) S := by
  show scp S (runU 1 1 Qk10.b_is_fraction [.int i] S) = _
  rw [Qk10.b_is_fraction_eq]
  simp only [runU, eVar, eC, xv_non, xv_bl, xv_int, xv_str, xv_lst, xv_tup, xv_scr, xv_ref, xv_ins, xv_fn, xv_ty, bind_ok, lft_ok, lft_exc, of_some, fnRes_rt, fnRes_nx, fnRes_ex, eOp1, eOp2, eOpN, esNil, esCons, sSeq, sSet, sIf, sRet, sRetN, sExpr, sNop, tBl, tOf, tAnd, tOr, tNot, asB, sSetIx, List.map_cons, List.map_nil, List.replicate, Nat.zero_add, Nat.reduceAdd, Nat.reduceSub, List.cons_append, List.nil_append, List.getElem?_cons_zero, List.getElem?_cons_succ, List.set_cons_zero, List.set_cons_succ, List.length_cons, List.length_nil, dIx, dGt, dGe, dLt, dLe, dAdd, dSub, dMul, dMod, dDiv, dPow, dNeg, dInt, drf, dLen, if_true, if_false, Bool.false_eq_true, decide_eq_true_eq, dSetIx, Option.map_some, decide_true, decide_false, truth, eAnd, eOr, eNot, eIf, eIsT, dIsT, kindD, tysOf, dIsi, isB, dIs, dIsNot, isNon, List.any_cons, List.any_nil, Bool.or_false, Bool.or_true, Bool.false_or, Bool.true_or, Bool.and_true, Bool.true_and, Bool.and_false, Bool.false_and, Bool.not_true, Bool.not_false, Nat.reduceLeDiff, Nat.reduceLT, Int.reduceLT, Int.reduceLE, and_self, and_true, true_and, reduceIte, sFor, lft_bad, dEq_ii, dEq_bb, dEq_ss, dEq_nn, dNe_ii, dNe_bb, dNe_ss, dNe_nn, BEq.rfl, dLst_s, dTup_s, dNew_s, dEq_nil, Nat.zero_le, put_name, put_tt, put_tl, puts_nil, puts_name, sAsg, eCall, row_int]
  exact scp_same rfl
theorem isfr_bl {b : Bool} {i : Int} : Qk10.d_is_fraction [.tup [.bl b, .int i]] S = .ok (.bl false) S := by
  show scp S (runU 1 1 Qk10.b_is_fraction [.tup [.bl b, .int i]] S) = _
  rw [Qk10.b_is_fraction_eq]
  simp only [runU, eVar, eC, xv_non, xv_bl, xv_int, xv_str, xv_lst, xv_tup, xv_scr, xv_ref, xv_ins, xv_fn, xv_ty, bind_ok, lft_ok, lft_exc, of_some, fnRes_rt, fnRes_nx, fnRes_ex, eOp1, eOp2, eOpN, esNil, esCons, sSeq, sSet, sIf, sRet, sRetN, sExpr, sNop, tBl, tOf, tAnd, tOr, tNot, asB, sSetIx, List.map_cons, List.map_nil, List.replicate, Nat.zero_add, Nat.reduceAdd, Nat.reduceSub, List.cons_append, List.nil_append, List.getElem?_cons_zero, List.getElem?_cons_succ, List.set_cons_zero, List.set_cons_succ, List.length_cons, List.length_nil, dIx, dGt, dGe, dLt, dLe, dAdd, dSub, dMul, dMod, dDiv, dPow, dNeg, dInt, drf, dLen, if_true, if_false, Bool.false_eq_true, decide_eq_true_eq, dSetIx, Option.map_some, decide_true, decide_false, truth, eAnd, eOr, eNot, eIf, eIsT, dIsT, kindD, tysOf, dIsi, isB, dIs, dIsNot, isNon, List.any_cons, List.any_nil, Bool.or_false, Bool.or_true, Bool.false_or, Bool.true_or, Bool.and_true, Bool.true_and, Bool.and_false, Bool.false_and, Bool.not_true, Bool.not_false, Nat.reduceLeDiff, Nat.reduceLT, Int.reduceLT, Int.reduceLE, and_self, and_true, true_and, reduceIte, sFor, lft_bad, dEq_ii, dEq_bb, dEq_ss, dEq_nn, dNe_ii, dNe_bb, dNe_ss, dNe_nn, BEq.rfl, dLst_s, dTup_s, dNew_s, dEq_nil, Nat.zero_le, put_name, put_tt, put_tl, puts_nil, puts_name, sAsg, eCall, row_tup, whole_bl, at2_0, at2_1, dNe_ii, show (((2 : Nat) : Int) == 2) = true from rfl]
  exact scp_same rfl
theorem isfr_one {x : Da} (hx : isExv x = false) : Qk10.d_is_fraction [.tup [x]] S = .ok (.bl false) S := by
  show scp S (runU 1 1 Qk10.b_is_fraction [.tup [x]] S) = _
  rw [Qk10.b_is_fraction_eq]
  simp only [runU, eVar, eC, xv_non, xv_bl, xv_int, xv_str, xv_lst, xv_tup, xv_scr, xv_ref, xv_ins, xv_fn, xv_ty, bind_ok, lft_ok, lft_exc, of_some, fnRes_rt, fnRes_nx, fnRes_ex, eOp1, eOp2, eOpN, esNil, esCons, sSeq, sSet, sIf, sRet, sRetN, sExpr, sNop, tBl, tOf, tAnd, tOr, tNot, asB, sSetIx, List.map_cons, List.map_nil, List.replicate, Nat.zero_add, Nat.reduceAdd, Nat.reduceSub, List.cons_append, List.nil_append, List.getElem?_cons_zero, List.getElem?_cons_succ, List.set_cons_zero, List.set_cons_succ, List.length_cons, List.length_nil, dIx, dGt, dGe, dLt, dLe, dAdd, dSub, dMul, dMod, dDiv, dPow, dNeg, dInt, drf, dLen, if_true, if_false, Bool.false_eq_true, decide_eq_true_eq, dSetIx, Option.map_some, decide_true, decide_false, truth, eAnd, eOr, eNot, eIf, eIsT, dIsT, kindD, tysOf, dIsi, isB, dIs, dIsNot, isNon, List.any_cons, List.any_nil, Bool.or_false, Bool.or_true, Bool.false_or, Bool.true_or, Bool.and_true, Bool.true_and, Bool.and_false, Bool.false_and, Bool.not_true, Bool.not_false, Nat.reduceLeDiff, Nat.reduceLT, Int.reduceLT, Int.reduceLE, and_self, and_true, true_and, reduceIte, sFor, lft_bad, dEq_ii, dEq_bb, dEq_ss, dEq_nn, dNe_ii, dNe_bb, dNe_ss, dNe_nn, BEq.rfl, dLst_s, dTup_s, dNew_s, dEq_nil, Nat.zero_le, put_name, put_tt, put_tl, puts_nil, puts_name, sAsg, eCall, row_tup, dNe_ii, show (((1 : Nat) : Int) == 2) = false from rfl]
  exact scp_same rfl
theorem isfr_three {x y z : Da} : Qk10.d_is_fraction [.lst [x, y, z]] S = .ok (.bl false) S := by
  show scp S (runU 1 1 Qk10.b_is_fraction [.lst [x, y, z]] S) = _
  rw [Qk10.b_is_fraction_eq]
  simp only [runU, eVar, eC, xv_non, xv_bl, xv_int, xv_str, xv_lst, xv_tup, xv_scr, xv_ref, xv_ins, xv_fn, xv_ty, bind_ok, lft_ok, lft_exc, of_some, fnRes_rt, fnRes_nx, fnRes_ex, eOp1, eOp2, eOpN, esNil, esCons, sSeq, sSet, sIf, sRet, sRetN, sExpr, sNop, tBl, tOf, tAnd, tOr, tNot, asB, sSetIx, List.map_cons, List.map_nil, List.replicate, Nat.zero_add, Nat.reduceAdd, Nat.reduceSub, List.cons_append, List.nil_append, List.getElem?_cons_zero, List.getElem?_cons_succ, List.set_cons_zero, List.set_cons_succ, List.length_cons, List.length_nil, dIx, dGt, dGe, dLt, dLe, dAdd, dSub, dMul, dMod, dDiv, dPow, dNeg, dInt, drf, dLen, if_true, if_false, Bool.false_eq_true, decide_eq_true_eq, dSetIx, Option.map_some, decide_true, decide_false, truth, eAnd, eOr, eNot, eIf, eIsT, dIsT, kindD, tysOf, dIsi, isB, dIs, dIsNot, isNon, List.any_cons, List.any_nil, Bool.or_false, Bool.or_true, Bool.false_or, Bool.true_or, Bool.and_true, Bool.true_and, Bool.and_false, Bool.false_and, Bool.not_true, Bool.not_false, Nat.reduceLeDiff, Nat.reduceLT, Int.reduceLT, Int.reduceLE, and_self, and_true, true_and, reduceIte, sFor, lft_bad, dEq_ii, dEq_bb, dEq_ss, dEq_nn, dNe_ii, dNe_bb, dNe_ss, dNe_nn, BEq.rfl, dLst_s, dTup_s, dNew_s, dEq_nil, Nat.zero_le, put_name, put_tt, put_tl, puts_nil, puts_name, sAsg, eCall, row_lst, dNe_ii, show (((3 : Nat) : Int) == 2) = false from rfl]
  exact scp_same rfl
/-! ### lowest terms -/
theorem gpos {a b : Int} (hb : 0 < b) : 0 < (Int.gcd a b : Int) := by
  have : Int.gcd a b ≠ 0 := by rw [Ne, Int.gcd_eq_zero_iff]; omega
  omega
theorem red_scale {a b k : Int} (hk : 0 < k) (hb : 0 < b) : redD (a * k) (b * k) = redD a b := by
  have e : (Int.gcd (a * k) (b * k) : Int) = (Int.gcd a b : Int) * k := by
    rw [Int.gcd_mul_right, Int.natCast_mul, Int.natAbs_of_nonneg (by omega)]
  unfold redD
  rw [e, Int.mul_ediv_mul_of_pos_left _ _ hk, Int.mul_ediv_mul_of_pos_left _ _ hk]
/-- a fraction in lowest terms -/
structure Low (a b p q : Int) : Prop where
  red : redD a b = fr p q
  g : ∃ g : Int, 0 < g ∧ a = p * g ∧ b = q * g
  q0 : 0 < q
  qb : q ≤ b
  cop : Int.gcd p q = 1
theorem low_of {a b : Int} (hb : 0 < b) : ∃ p q, Low a b p q := by
  have g0 := gpos (a := a) hb
  have ha := Int.ediv_mul_cancel (Int.gcd_dvd_left a b)
  have hbb := Int.ediv_mul_cancel (Int.gcd_dvd_right a b)
  have q0 : 0 < b / (Int.gcd a b : Int) := Int.ediv_pos_of_pos_of_dvd hb (by omega) (Int.gcd_dvd_right ..)
  refine ⟨a / Int.gcd a b, b / Int.gcd a b, rfl, ⟨_, g0, ha.symm, hbb.symm⟩, q0, ?_, ?_⟩
  · exact Int.ediv_le_self _ (by omega)
  · exact Int.gcd_ediv_gcd_ediv_gcd (by omega)
theorem red_low {p q : Int} (hc : Int.gcd p q = 1) : redD p q = fr p q := by
  unfold redD; rw [hc]; simp
theorem eqv_fr {p q r s : Int} : eqv (fr p q) (fr r s) = (p == r && q == s) := by simp [eqv, eqvs]
end
end G

namespace G
open PySem PySem.Spec PyProof.Rows L2
/-! ### comprehensions whose parts change nothing -/
theorem compL_filter {g : Tg} {t : TeE} {a : E} {ε : Env} {S : Sto} {f : Da → Bool} {v : Da → Da} : ∀ {ds : List Da}, (∀ d ∈ ds, ∃ ε1, put g d ε = some ε1 ∧ t ε1 S = .ok (f d) S ∧ (f d = true → a ε1 S = .ok (v d) S)) → compL g t a ε ds S = .ok ((ds.filter f).map v) S
  | [], _ => rfl
  | d :: ds, h => by
    obtain ⟨ε1, e1, e2, e3⟩ := h d List.mem_cons_self
    have ih := compL_filter (f := f) (v := v) (ds := ds) fun x hx => h x (List.mem_cons_of_mem _ hx)
    unfold compL
    rw [e1]
    dsimp only
    rw [e2]
    cases q : f d with
    | false => simp only [Rs.bindN, Bool.false_eq_true, if_false, ih, List.filter_cons_of_neg (show ¬ f d = true from by rw [q]; exact Bool.false_ne_true)]
    | true => simp only [Rs.bindN, if_true, e3 q, ih, List.filter_cons_of_pos q, List.map_cons]
theorem intsOf_map : ∀ ns : List Int, intsOf (ns.map Da.int) = some ns
  | [] => rfl
  | n :: ns => by simp only [List.map_cons, intsOf, intsOf_map ns, Option.map_some]
theorem dMaxL_ints {ns : List Int} {S : Sto} (h : ns ≠ []) : dMaxL [.lst (ns.map Da.int)] S = some (.int (maxL ns), S) := by
  unfold dMaxL listOf
  simp only [drf, Option.bind_some, intsOf_map]
  cases ns with
  | nil => exact absurd rfl h
  | cons => rfl
theorem dMinL_ints {ns : List Int} {S : Sto} (h : ns ≠ []) : dMinL [.lst (ns.map Da.int)] S = some (.int (minL ns), S) := by
  unfold dMinL listOf
  simp only [drf, Option.bind_some, intsOf_map]
  cases ns with
  | nil => exact absurd rfl h
  | cons => rfl
theorem maxL_eq {m : Int} {ns : List Int} (h1 : m ∈ ns) (h2 : ∀ y ∈ ns, y ≤ m) : maxL ns = m := by
  obtain ⟨q1, q2⟩ := maxL_spec ns (List.ne_nil_of_mem h1)
  exact Int.le_antisymm (h2 _ q1) (q2 _ h1)
theorem minL_eq {m : Int} {ns : List Int} (h1 : m ∈ ns) (h2 : ∀ y ∈ ns, m ≤ y) : minL ns = m := by
  obtain ⟨q1, q2⟩ := minL_spec ns (List.ne_nil_of_mem h1)
  exact Int.le_antisymm (q2 _ h1) (h2 _ q1)
/-- the wholes a .. b - 1 -/
def whl (a b : Int) : List Int := (List.range (b - a).toNat).map fun i => a + (i : Nat)
theorem rngD_whl (a b : Int) : rngD a b = (whl a b).map Da.int := by unfold rngD whl; rw [List.map_map]; rfl
theorem rng_whl (a b : Int) : rng a b = (whl a b).map Da.int := by unfold rng whl; rw [List.map_map]; rfl
theorem mem_whl {a b z : Int} : z ∈ whl a b ↔ a ≤ z ∧ z < b := by
  unfold whl
  simp only [List.mem_map, List.mem_range]
  constructor
  · rintro ⟨i, hi, rfl⟩; omega
  · rintro ⟨h1, h2⟩; exact ⟨(z - a).toNat, by omega, by omega⟩
theorem len_whl (a b : Int) : (whl a b).length = (b - a).toNat := by simp [whl]
/-- [k for k in ints if f k] -/
theorem comp_ints {j : Nat} {t : TeE} {ε : Env} {S : Sto} {f : Int → Bool} (ns : List Int) (hj : j < ε.length) (ht : ∀ k : Int, t (ε.set j (some (.int k))) S = .ok (f k) S) :
    compL (.name j) t (eVar j) ε (ns.map Da.int) S = .ok (.map Da.int (ns.filter f)) S := by
  have h := compL_filter (g := .name j) (t := t) (a := eVar j) (ε := ε) (S := S) (f := fun d => match d with | .int k => f k | _ => false) (v := id) (ds := ns.map Da.int) fun d hd => by
    simp only [List.mem_map] at hd
    obtain ⟨k, _, rfl⟩ := hd
    refine ⟨_, rfl, ht k, fun _ => ?_⟩
    unfold eVar
    rw [List.getElem?_set_self hj]
    rfl
  rw [h, List.map_id, List.filter_map]
  rfl
theorem scale_le {k b a : Int} (hb : 0 < b) : k * b ≤ a ↔ k ≤ a / b := by rw [Int.le_ediv_iff_mul_le hb]
end G

namespace G
open PySem PySem.Spec PyProof.Rows L2
theorem le_mul_r {a b : Int} (ha : 0 ≤ a) (hb : 1 ≤ b) : a ≤ a * b := by
  have h := Int.mul_le_mul_of_nonneg_left hb ha
  rwa [Int.mul_one] at h
theorem le_mul_l {a b : Int} (ha : 0 ≤ a) (hb : 1 ≤ b) : a ≤ b * a := by rw [Int.mul_comm]; exact le_mul_r ha hb
abbrev QQ := Int × Int
abbrev frP (x : QQ) : Da := fr x.1 x.2
def redP (a b : Int) : QQ := (a / (Int.gcd a b : Int), b / (Int.gcd a b : Int))
theorem redD_P (a b : Int) : redD a b = frP (redP a b) := rfl
theorem redP_pos {a b : Int} (hb : 0 < b) : 0 < (redP a b).2 ∧ (redP a b).2 ≤ b :=
  ⟨Int.ediv_pos_of_pos_of_dvd hb (by have := gpos (a := a) hb; omega) (Int.gcd_dvd_right ..), Int.ediv_le_self _ (by omega)⟩
def stp (acc x : QQ) : QQ := redP (acc.1 * x.2 + x.1 * acc.2) (acc.2 * x.2)
def prodq : List QQ → Int
  | [] => 1
  | x :: l => x.2 * prodq l
theorem prodq_pos : ∀ {l : List QQ}, (∀ x ∈ l, 0 < x.2) → 0 < prodq l
  | [], _ => by decide
  | x :: l, h => Int.mul_pos (h x List.mem_cons_self) (prodq_pos fun y hy => h y (List.mem_cons_of_mem _ hy))
/-- one step stays small -/
theorem stp_ok {acc x : QQ} {l : List QQ} (h0 : 0 < acc.2) (hx : 0 < x.2) (hl : ∀ y ∈ l, 0 < y.2) (hb : acc.2 * prodq (x :: l) < 1073741824) :
    acc.2 * x.2 < 1073741824 ∧ 0 < (stp acc x).2 ∧ (stp acc x).2 * prodq l < 1073741824 ∧ acc.2 < 1073741824 ∧ x.2 < 1073741824 := by
  have p0 := prodq_pos hl
  have e : acc.2 * prodq (x :: l) = acc.2 * x.2 * prodq l := by show acc.2 * (x.2 * prodq l) = _; grind
  rw [e] at hb
  have m0 : 0 < acc.2 * x.2 := Int.mul_pos h0 hx
  have m1 : acc.2 * x.2 ≤ acc.2 * x.2 * prodq l := le_mul_r (by omega) (by omega)
  obtain ⟨r0, r1⟩ := redP_pos (a := acc.1 * x.2 + x.1 * acc.2) m0
  have m2 : (stp acc x).2 * prodq l ≤ acc.2 * x.2 * prodq l := Int.mul_le_mul_of_nonneg_right r1 (by omega)
  have m3 : acc.2 ≤ acc.2 * x.2 := le_mul_r (by omega) (by omega)
  have m4 : x.2 ≤ acc.2 * x.2 := le_mul_l (by omega) (by omega)
  exact ⟨by omega, r0, by omega, by omega, by omega⟩
theorem total_loop {x0 : Option Da} {S : Sto} : ∀ (l : List QQ) (acc : QQ) (w : Option Da), 0 < acc.2 → (∀ y ∈ l, 0 < y.2) → acc.2 * prodq l < 1073741824 →
    ∃ w', forL (.name 2) (sSet 1 (eCall Qk10.d_plus (esCons (eVar 1) (esCons (eVar 2) esNil)))) (l.map frP) [x0, some (frP acc), w] S = .nx [x0, some (frP (l.foldl stp acc)), w'] S
  | [], acc, w, _, _, _ => ⟨w, rfl⟩
  | x :: l, acc, w, h0, hl, hb => by
    have hx := hl x List.mem_cons_self
    have hl' : ∀ y ∈ l, 0 < y.2 := fun y hy => hl y (List.mem_cons_of_mem _ hy)
    obtain ⟨a1, a2, a3, a4, a5⟩ := stp_ok h0 hx hl' hb
    obtain ⟨w', ih⟩ := total_loop l (stp acc x) (some (frP x)) a2 hl' a3
    refine ⟨w', ?_⟩
    rw [List.map_cons, forL_cons (ε1 := [x0, some (frP acc), some (frP x)]) (ε2 := [x0, some (frP (stp acc x)), some (frP x)]) (S2 := S) rfl ?_]
    · exact ih
    · simp only [runU, eVar, eC, xv_non, xv_bl, xv_int, xv_str, xv_lst, xv_tup, xv_scr, xv_ref, xv_ins, xv_fn, xv_ty, bind_ok, lft_ok, lft_exc, of_some, fnRes_rt, fnRes_nx, fnRes_ex, eOp1, eOp2, eOpN, esNil, esCons, sSeq, sSet, sIf, sRet, sRetN, sExpr, sNop, tBl, tOf, tAnd, tOr, tNot, asB, sSetIx, List.map_cons, List.map_nil, List.replicate, Nat.zero_add, Nat.reduceAdd, Nat.reduceSub, List.cons_append, List.nil_append, List.getElem?_cons_zero, List.getElem?_cons_succ, List.set_cons_zero, List.set_cons_succ, List.length_cons, List.length_nil, dIx, dGt, dGe, dLt, dLe, dAdd, dSub, dMul, dMod, dDiv, dPow, dNeg, dInt, drf, dLen, if_true, if_false, Bool.false_eq_true, decide_eq_true_eq, dSetIx, Option.map_some, decide_true, decide_false, truth, eAnd, eOr, eNot, eIf, eIsT, dIsT, kindD, tysOf, dIsi, isB, dIs, dIsNot, isNon, List.any_cons, List.any_nil, Bool.or_false, Bool.or_true, Bool.false_or, Bool.true_or, Bool.and_true, Bool.true_and, Bool.and_false, Bool.false_and, Bool.not_true, Bool.not_false, Nat.reduceLeDiff, Nat.reduceLT, Int.reduceLT, Int.reduceLE, and_self, and_true, true_and, reduceIte, sFor, lft_bad, dEq_ii, dEq_bb, dEq_ss, dEq_nn, dNe_ii, dNe_bb, dNe_ss, dNe_nn, BEq.rfl, dLst_s, dTup_s, dNew_s, dEq_nil, Nat.zero_le, put_name, put_tt, put_tl, puts_nil, puts_name, sAsg, eCall, plus_spec (p := acc.1) (r := x.1) (S := S) h0 hx a1 a4 a5]
      rfl
def tot (l : List QQ) : QQ := l.foldl stp (0, 1)
theorem total_spec {l : List QQ} {S : Sto} (hl : ∀ y ∈ l, 0 < y.2) (hb : prodq l < 1073741824) : Qk10.d_total [.lst (l.map frP)] S = .ok (frP (tot l)) S := by
  show scp S (runU 1 3 Qk10.b_total [.lst (l.map frP)] S) = _
  suffices e : runU 1 3 Qk10.b_total [.lst (l.map frP)] S = .ok (frP (tot l)) S by rw [e]; exact scp_same rfl
  obtain ⟨w, e⟩ := total_loop (x0 := some (.lst (l.map frP))) (S := S) l (0, 1) none (by decide) hl (by simpa using hb)
  rw [Qk10.b_total_eq]
  simp only [runU, eVar, eC, xv_non, xv_bl, xv_int, xv_str, xv_lst, xv_tup, xv_scr, xv_ref, xv_ins, xv_fn, xv_ty, bind_ok, lft_ok, lft_exc, of_some, fnRes_rt, fnRes_nx, fnRes_ex, eOp1, eOp2, eOpN, esNil, esCons, sSeq, sSet, sIf, sRet, sRetN, sExpr, sNop, tBl, tOf, tAnd, tOr, tNot, asB, sSetIx, List.map_cons, List.map_nil, List.replicate, Nat.zero_add, Nat.reduceAdd, Nat.reduceSub, List.cons_append, List.nil_append, List.getElem?_cons_zero, List.getElem?_cons_succ, List.set_cons_zero, List.set_cons_succ, List.length_cons, List.length_nil, dIx, dGt, dGe, dLt, dLe, dAdd, dSub, dMul, dMod, dDiv, dPow, dNeg, dInt, drf, dLen, if_true, if_false, Bool.false_eq_true, decide_eq_true_eq, dSetIx, Option.map_some, decide_true, decide_false, truth, eAnd, eOr, eNot, eIf, eIsT, dIsT, kindD, tysOf, dIsi, isB, dIs, dIsNot, isNon, List.any_cons, List.any_nil, Bool.or_false, Bool.or_true, Bool.false_or, Bool.true_or, Bool.and_true, Bool.true_and, Bool.and_false, Bool.false_and, Bool.not_true, Bool.not_false, Nat.reduceLeDiff, Nat.reduceLT, Int.reduceLT, Int.reduceLE, and_self, and_true, true_and, reduceIte, sFor, lft_bad, dEq_ii, dEq_bb, dEq_ss, dEq_nn, dNe_ii, dNe_bb, dNe_ss, dNe_nn, BEq.rfl, dLst_s, dTup_s, dNew_s, dEq_nil, Nat.zero_le, put_name, put_tt, put_tl, puts_nil, puts_name, sAsg, iVal, items, e]
  rfl
/-! ### the middle -/
def leQ (x y : QQ) : Prop := x.1 * y.2 ≤ y.1 * x.2
def leB (x y : QQ) : Bool := decide (x.1 * y.2 ≤ y.1 * x.2)
theorem leB_iff {x y : QQ} : leB x y = true ↔ leQ x y := by unfold leB leQ; exact decide_eq_true_iff
theorem leB_no {x y : QQ} (h : ¬ leQ x y) : leB x y = false := by
  cases e : leB x y with
  | false => rfl
  | true => exact absurd (leB_iff.mp e) h
theorem le_trans {x y z : QQ} (hx : 0 < x.2) (hy : 0 < y.2) (hz : 0 < z.2) (a : leQ x y) (b : leQ y z) : leQ x z := by
  unfold leQ at *
  have h1 : x.1 * y.2 * z.2 ≤ y.1 * x.2 * z.2 := Int.mul_le_mul_of_nonneg_right a (by omega)
  have h2 : y.1 * z.2 * x.2 ≤ z.1 * y.2 * x.2 := Int.mul_le_mul_of_nonneg_right b (by omega)
  have h3 : y.2 * (x.1 * z.2) ≤ y.2 * (z.1 * x.2) := by grind
  exact Int.le_of_mul_le_mul_left h3 hy
theorem le_total {x y : QQ} (h : ¬ leQ x y) : leQ y x := by unfold leQ at *; omega
/-- one is laid behind all that are no greater -/
def insQ (one : QQ) (L : List QQ) : List QQ := L.take (L.filter fun x => leB x one).length ++ [one] ++ L.drop (L.filter fun x => leB x one).length
theorem split_at {one : QQ} : ∀ {L : List QQ}, (∀ x ∈ L, 0 < x.2) → 0 < one.2 → L.Pairwise leQ →
    L.take (L.filter fun x => leB x one).length = L.filter (fun x => leB x one) ∧ L.drop (L.filter fun x => leB x one).length = L.filter (fun x => !leB x one)
  | [], _, _, _ => ⟨rfl, rfl⟩
  | x :: L, hp, ho, hs => by
    obtain ⟨h1, h2⟩ := List.pairwise_cons.mp hs
    have hpx := hp x List.mem_cons_self
    have hpL : ∀ y ∈ L, 0 < y.2 := fun y hy => hp y (List.mem_cons_of_mem _ hy)
    by_cases c : leQ x one
    · obtain ⟨i1, i2⟩ := split_at hpL ho h2
      rw [List.filter_cons_of_pos (p := fun x => leB x one) (leB_iff.mpr c), List.filter_cons_of_neg (p := fun x => !leB x one) (by rw [leB_iff.mpr c]; decide)]
      simp only [List.length_cons, List.take_succ_cons, List.drop_succ_cons, i1, i2, and_self]
    · have none : ∀ y ∈ L, ¬ leQ y one := fun y hy z => c (le_trans hpx (hpL y hy) ho (h1 y hy) z)
      have e1 : L.filter (fun x => leB x one) = [] := List.filter_eq_nil_iff.mpr fun y hy => by rw [leB_no (none y hy)]; decide
      have e2 : L.filter (fun x => !leB x one) = L := List.filter_eq_self.mpr fun y hy => by rw [leB_no (none y hy)]; rfl
      rw [List.filter_cons_of_neg (p := fun x => leB x one) (by rw [leB_no c]; decide), List.filter_cons_of_pos (p := fun x => !leB x one) (by rw [leB_no c]; rfl), e1, e2]
      simp
theorem ins_ok {one : QQ} {L : List QQ} (hp : ∀ x ∈ L, 0 < x.2) (ho : 0 < one.2) (hs : L.Pairwise leQ) : (insQ one L).Pairwise leQ ∧ (insQ one L).Perm (one :: L) := by
  obtain ⟨e1, e2⟩ := split_at hp ho hs
  unfold insQ
  rw [e1, e2]
  have pm : (L.filter (fun x => leB x one) ++ L.filter (fun x => !leB x one)).Perm L := List.filter_append_perm _ _
  refine ⟨?_, ?_⟩
  · rw [List.append_assoc, List.pairwise_append]
    refine ⟨hs.filter _, ?_, ?_⟩
    · rw [List.singleton_append, List.pairwise_cons]
      refine ⟨fun y hy => ?_, hs.filter _⟩
      exact le_total fun z => by have := (List.mem_filter.mp hy).2; rw [leB_iff.mpr z] at this; cases this
    · intro x hx y hy
      have lx : leQ x one := leB_iff.mp (List.mem_filter.mp hx).2
      rcases List.mem_append.mp hy with hy | hy
      · rw [List.mem_singleton.mp hy]; exact lx
      · have ly : leQ one y := le_total fun z => by have := (List.mem_filter.mp hy).2; rw [leB_iff.mpr z] at this; cases this
        exact le_trans (hp x (List.mem_filter.mp hx).1) ho (hp y (List.mem_filter.mp hy).1) lx ly
  · rw [List.append_assoc, List.singleton_append]
    exact List.perm_middle.trans (pm.cons one)
end G

namespace G
open PySem PySem.Spec PyProof.Rows L2
theorem compS_filter {n : Nat} {d0 : List Da} {g : Tg} {t : TeE} {a : E} {ε : Env} {S : Sto} {f : Da → Bool} {v : Da → Da} (hS : S[n]? = some (.lst d0)) : ∀ {ds : List Da}, (∀ d ∈ ds, ∃ ε1, put g d ε = some ε1 ∧ t ε1 S = .ok (f d) S ∧ (f d = true → a ε1 S = .ok (v d) S)) → compS n d0 g t a ε ds S = .ok ((ds.filter f).map v) S
  | [], _ => by unfold compS; rw [if_pos hS]; rfl
  | d :: ds, h => by
    obtain ⟨ε1, e1, e2, e3⟩ := h d List.mem_cons_self
    have ih := compS_filter (f := f) (v := v) hS (ds := ds) fun x hx => h x (List.mem_cons_of_mem _ hx)
    unfold compS
    rw [if_pos hS, e1]
    dsimp only
    rw [e2]
    cases q : f d with
    | false => simp only [Rs.bindN, Bool.false_eq_true, if_false, ih, List.filter_cons_of_neg (show ¬ f d = true from by rw [q]; exact Bool.false_ne_true)]
    | true => simp only [Rs.bindN, if_true, e3 q, ih, List.filter_cons_of_pos q, List.map_cons]
theorem app_get {S : Sto} {X : Ob} : (S ++ [X])[S.length]? = some X := by simp
theorem app_set {S : Sto} {X Y : Ob} : (S ++ [X]).set S.length Y = S ++ [Y] := by simp
def frI : Da → QQ
  | .tup [.int p, .int q] => (p, q)
  | _ => (0, 1)
theorem frI_P (x : QQ) : frI (frP x) = x := rfl
/-- how many are no greater -/
theorem med_comp {x0 x3 x4 x5 x6 : Option Da} {S : Sto} {one : QQ} {L : List QQ} (h1 : 0 < one.2 ∧ one.2 < 1073741824) (hL : ∀ x ∈ L, 0 < x.2 ∧ x.2 < 1073741824) (hl : L.length ≤ 1000) :
    eCompS [6] (iSto (eVar 1)) (.name 6) (tNot (tOf (eCall Qk10.d_is_less (esCons (eVar 2) (esCons (eVar 6) esNil))))) (eVar 6) [x0, some (.ref S.length), some (frP one), x3, x4, x5, x6] (S ++ [.lst (L.map frP)]) =
      .ok (.lst ((L.filter fun x => leB x one).map frP)) (S ++ [.lst (L.map frP)]) := by
  have e0 : iSto (eVar 1) [x0, some (.ref S.length), some (frP one), x3, x4, x5, x6] (S ++ [.lst (L.map frP)]) = .ok (S.length, L.map frP) (S ++ [.lst (L.map frP)]) := by
    unfold iSto
    simp only [runU, eVar, eC, xv_non, xv_bl, xv_int, xv_str, xv_lst, xv_tup, xv_scr, xv_ref, xv_ins, xv_fn, xv_ty, bind_ok, lft_ok, lft_exc, of_some, fnRes_rt, fnRes_nx, fnRes_ex, eOp1, eOp2, eOpN, esNil, esCons, sSeq, sSet, sIf, sRet, sRetN, sExpr, sNop, tBl, tOf, tAnd, tOr, tNot, asB, sSetIx, List.map_cons, List.map_nil, List.replicate, Nat.zero_add, Nat.reduceAdd, Nat.reduceSub, List.cons_append, List.nil_append, List.getElem?_cons_zero, List.getElem?_cons_succ, List.set_cons_zero, List.set_cons_succ, List.length_cons, List.length_nil, dIx, dGt, dGe, dLt, dLe, dAdd, dSub, dMul, dMod, dDiv, dPow, dNeg, dInt, drf, dLen, if_true, if_false, Bool.false_eq_true, decide_eq_true_eq, dSetIx, Option.map_some, decide_true, decide_false, truth, eAnd, eOr, eNot, eIf, eIsT, dIsT, kindD, tysOf, dIsi, isB, dIs, dIsNot, isNon, List.any_cons, List.any_nil, Bool.or_false, Bool.or_true, Bool.false_or, Bool.true_or, Bool.and_true, Bool.true_and, Bool.and_false, Bool.false_and, Bool.not_true, Bool.not_false, Nat.reduceLeDiff, Nat.reduceLT, Int.reduceLT, Int.reduceLE, and_self, and_true, true_and, reduceIte, sFor, lft_bad, dEq_ii, dEq_bb, dEq_ss, dEq_nn, dNe_ii, dNe_bb, dNe_ss, dNe_nn, BEq.rfl, dLst_s, dTup_s, dNew_s, dEq_nil, Nat.zero_le, put_name, put_tt, put_tl, puts_nil, puts_name, sAsg, app_get]
  unfold eCompS
  rw [e0]
  simp only [bind_ok]
  rw [if_pos (by rw [List.length_map, sizeLine_eq]; omega)]
  have h := compS_filter (n := S.length) (d0 := L.map frP) (g := .name 6) (t := tNot (tOf (eCall Qk10.d_is_less (esCons (eVar 2) (esCons (eVar 6) esNil))))) (a := eVar 6) (ε := wipeE [x0, some (.ref S.length), some (frP one), x3, x4, x5, x6] [6]) (S := S ++ [.lst (L.map frP)])
    (f := fun d => leB (frI d) one) (v := id) app_get (ds := L.map frP) fun d hd => by
      simp only [List.mem_map] at hd
      obtain ⟨x, hx, rfl⟩ := hd
      refine ⟨_, rfl, ?_, fun _ => ?_⟩
      · show tNot (tOf (eCall Qk10.d_is_less (esCons (eVar 2) (esCons (eVar 6) esNil)))) [x0, some (.ref S.length), some (frP one), x3, x4, x5, some (frP x)] _ = _
        simp only [runU, eVar, eC, xv_non, xv_bl, xv_int, xv_str, xv_lst, xv_tup, xv_scr, xv_ref, xv_ins, xv_fn, xv_ty, bind_ok, lft_ok, lft_exc, of_some, fnRes_rt, fnRes_nx, fnRes_ex, eOp1, eOp2, eOpN, esNil, esCons, sSeq, sSet, sIf, sRet, sRetN, sExpr, sNop, tBl, tOf, tAnd, tOr, tNot, asB, sSetIx, List.map_cons, List.map_nil, List.replicate, Nat.zero_add, Nat.reduceAdd, Nat.reduceSub, List.cons_append, List.nil_append, List.getElem?_cons_zero, List.getElem?_cons_succ, List.set_cons_zero, List.set_cons_succ, List.length_cons, List.length_nil, dIx, dGt, dGe, dLt, dLe, dAdd, dSub, dMul, dMod, dDiv, dPow, dNeg, dInt, drf, dLen, if_true, if_false, Bool.false_eq_true, decide_eq_true_eq, dSetIx, Option.map_some, decide_true, decide_false, truth, eAnd, eOr, eNot, eIf, eIsT, dIsT, kindD, tysOf, dIsi, isB, dIs, dIsNot, isNon, List.any_cons, List.any_nil, Bool.or_false, Bool.or_true, Bool.false_or, Bool.true_or, Bool.and_true, Bool.true_and, Bool.and_false, Bool.false_and, Bool.not_true, Bool.not_false, Nat.reduceLeDiff, Nat.reduceLT, Int.reduceLT, Int.reduceLE, and_self, and_true, true_and, reduceIte, sFor, lft_bad, dEq_ii, dEq_bb, dEq_ss, dEq_nn, dNe_ii, dNe_bb, dNe_ss, dNe_nn, BEq.rfl, dLst_s, dTup_s, dNew_s, dEq_nil, Nat.zero_le, put_name, put_tt, put_tl, puts_nil, puts_name, sAsg, eCall, less_spec (p := one.1) (r := x.1) h1.1 (hL x hx).1 h1.2 (hL x hx).2, frI]
        have e : leB x one = !decide (one.1 * x.2 < x.1 * one.2) := by
          unfold leB
          by_cases c : one.1 * x.2 < x.1 * one.2
          · rw [decide_eq_true c, decide_eq_false (by omega)]; rfl
          · rw [decide_eq_false c, decide_eq_true (by omega)]; rfl
        rw [← e]
      · rfl
  rw [h]
  simp only [Rs.bindN, List.map_id, List.filter_map]
  rfl
theorem med_loop {x0 x4 x5 x6 : Option Da} {S : Sto} : ∀ (l L : List QQ) (w2 w3 : Option Da), (∀ x ∈ l, 0 < x.2 ∧ x.2 < 1073741824) → (∀ x ∈ L, 0 < x.2 ∧ x.2 < 1073741824) → L.length + l.length ≤ 1000 → L.Pairwise leQ →
    ∃ (M : List QQ) (w2' w3' : Option Da), forL (.name 2) (sSeq (sSet 3 (eOpN dLen (esCons (eCompS [6] (iSto (eVar 1)) (.name 6) (tNot (tOf (eCall Qk10.d_is_less (esCons (eVar 2) (esCons (eVar 6) esNil))))) (eVar 6)) esNil))) (sExpr (eBM isLst dInsert (eVar 1) (esCons (eVar 3) (esCons (eVar 2) esNil)))))
      (l.map frP) [x0, some (.ref S.length), w2, w3, x4, x5, x6] (S ++ [.lst (L.map frP)]) = .nx [x0, some (.ref S.length), w2', w3', x4, x5, x6] (S ++ [.lst (M.map frP)]) ∧ M.Pairwise leQ ∧ M.Perm (l ++ L)
  | [], L, w2, w3, _, _, _, hs => ⟨L, w2, w3, rfl, hs, List.Perm.refl _⟩
  | one :: l, L, w2, w3, hl, hL, hn, hs => by
    have h1 := hl one List.mem_cons_self
    have hl' : ∀ x ∈ l, 0 < x.2 ∧ x.2 < 1073741824 := fun y hy => hl y (List.mem_cons_of_mem _ hy)
    rw [List.length_cons] at hn
    obtain ⟨i1, i2⟩ := ins_ok (fun x hx => (hL x hx).1) h1.1 hs
    have hM : ∀ x ∈ insQ one L, 0 < x.2 ∧ x.2 < 1073741824 := fun x hx => by
      rcases List.mem_cons.mp (i2.mem_iff.mp hx) with e | e
      · rw [e]; exact h1
      · exact hL x e
    have hlen : (insQ one L).length = L.length + 1 := i2.length_eq
    have hpl : (L.filter fun x => leB x one).length ≤ L.length := List.length_filter_le _ _
    obtain ⟨M, w2', w3', e, m1, m2⟩ := med_loop (x0 := x0) (x4 := x4) (x5 := x5) (x6 := x6) (S := S) l (insQ one L) (some (frP one)) (some (.int ((L.filter fun x => leB x one).length : Int))) hl' hM (by omega) i1
    refine ⟨M, w2', w3', ?_, m1, m2.trans ?_⟩
    · rw [List.map_cons, forL_cons (ε1 := [x0, some (.ref S.length), some (frP one), w3, x4, x5, x6]) (ε2 := [x0, some (.ref S.length), some (frP one), some (.int ((L.filter fun x => leB x one).length : Int)), x4, x5, x6]) (S2 := S ++ [.lst ((insQ one L).map frP)]) rfl ?_]
      · exact e
      · have c := med_comp (x0 := x0) (x3 := w3) (x4 := x4) (x5 := x5) (x6 := x6) (S := S) (one := one) h1 hL (by omega)
        have hk : (L.map frP).length < sizeLine ∧ (0 : Int) ≤ ((L.filter fun x => leB x one).length : Int) ∧ inW 63 ((L.filter fun x => leB x one).length : Int) = true :=
          ⟨by rw [List.length_map, sizeLine_eq]; omega, by omega, inW_63 (by omega) (by omega)⟩
        simp only [runU, eVar, eC, xv_non, xv_bl, xv_int, xv_str, xv_lst, xv_tup, xv_scr, xv_ref, xv_ins, xv_fn, xv_ty, bind_ok, lft_ok, lft_exc, of_some, fnRes_rt, fnRes_nx, fnRes_ex, eOp1, eOp2, eOpN, esNil, esCons, sSeq, sSet, sIf, sRet, sRetN, sExpr, sNop, tBl, tOf, tAnd, tOr, tNot, asB, sSetIx, List.map_cons, List.map_nil, List.replicate, Nat.zero_add, Nat.reduceAdd, Nat.reduceSub, List.cons_append, List.nil_append, List.getElem?_cons_zero, List.getElem?_cons_succ, List.set_cons_zero, List.set_cons_succ, List.length_cons, List.length_nil, dIx, dGt, dGe, dLt, dLe, dAdd, dSub, dMul, dMod, dDiv, dPow, dNeg, dInt, drf, dLen, if_true, if_false, Bool.false_eq_true, decide_eq_true_eq, dSetIx, Option.map_some, decide_true, decide_false, truth, eAnd, eOr, eNot, eIf, eIsT, dIsT, kindD, tysOf, dIsi, isB, dIs, dIsNot, isNon, List.any_cons, List.any_nil, Bool.or_false, Bool.or_true, Bool.false_or, Bool.true_or, Bool.and_true, Bool.true_and, Bool.and_false, Bool.false_and, Bool.not_true, Bool.not_false, Nat.reduceLeDiff, Nat.reduceLT, Int.reduceLT, Int.reduceLE, and_self, and_true, true_and, reduceIte, sFor, lft_bad, dEq_ii, dEq_bb, dEq_ss, dEq_nn, dNe_ii, dNe_bb, dNe_ss, dNe_nn, BEq.rfl, dLst_s, dTup_s, dNew_s, dEq_nil, Nat.zero_le, put_name, put_tt, put_tl, puts_nil, puts_name, sAsg, c, List.length_map, eBM, isLst, app_get, dInsert, app_set]
        rw [if_pos (by rw [← List.length_map (f := frP) (as := L)]; exact hk)]
        simp only [of_some, lft_ok, Int.toNat_natCast]
        unfold insQ
        simp only [List.map_append, List.map_take, List.map_drop, List.map_cons, List.map_nil]
    · have : (l ++ insQ one L).Perm (l ++ one :: L) := List.Perm.append_left l i2
      exact this.trans List.perm_middle
end G

namespace G
open PySem PySem.Spec PyProof.Rows L2
theorem cutD_1 {d : Da} {ds : List Da} : cutD (d :: ds) (some 1) none = ds := by
  unfold cutD
  have e1 : HT.sIx (d :: ds).length 0 (some 1) = 1 := by
    rw [show (1 : Int) = ((1 : Nat) : Int) from rfl, HT.sIx_nat]
    rw [List.length_cons]; omega
  rw [e1, HT.sIx_none]
  simp
/-- the middle of two -/
def midP (f s : QQ) : QQ := let t := redP (f.1 * s.2 + s.1 * f.2) (f.2 * s.2); redP (t.1 * 1) (t.2 * 2)
theorem median_spec {x : QQ} {xs : List QQ} {S : Sto} (hp : ∀ y ∈ x :: xs, 0 < y.2 ∧ y.2 ≤ 60) (hn : xs.length ≤ 100) :
    ∃ M : List QQ, M.Pairwise leQ ∧ M.Perm (x :: xs) ∧ ∃ f s, M[(M.length - 1) / 2]? = some f ∧ M[M.length / 2]? = some s ∧ Qk10.d_median [.lst ((x :: xs).map frP)] S = .ok (frP (midP f s)) S := by
  have hp' : ∀ y ∈ x :: xs, 0 < y.2 ∧ y.2 < 1073741824 := fun y hy => ⟨(hp y hy).1, by have := (hp y hy).2; omega⟩
  obtain ⟨M, w2, w3, e, m1, m2⟩ := med_loop (x0 := some (.lst ((x :: xs).map frP))) (x4 := none) (x5 := none) (x6 := none) (S := S) xs [x] none none (fun y hy => hp' y (List.mem_cons_of_mem _ hy)) (fun y hy => by rw [List.mem_singleton.mp hy]; exact hp' x List.mem_cons_self) (by simp; omega) (List.pairwise_singleton _ _)
  have m3 : M.Perm (x :: xs) := m2.trans (List.perm_append_singleton _ _)
  have hlen : M.length = xs.length + 1 := m3.length_eq
  have hM : ∀ y ∈ M, 0 < y.2 ∧ y.2 ≤ 60 := fun y hy => hp y (m3.mem_iff.mp hy)
  have l1 : (M.length - 1) / 2 < M.length := by omega
  have l2 : M.length / 2 < M.length := by omega
  refine ⟨M, m1, m3, M[(M.length - 1) / 2], M[M.length / 2], List.getElem?_eq_getElem l1, List.getElem?_eq_getElem l2, ?_⟩
  generalize hf : M[(M.length - 1) / 2] = f
  generalize hs : M[M.length / 2] = s
  have hfM : f ∈ M := hf ▸ List.getElem_mem l1
  have hsM : s ∈ M := hs ▸ List.getElem_mem l2
  obtain ⟨f1, f2⟩ := hM f hfM
  obtain ⟨s1, s2⟩ := hM s hsM
  have a1 : atI (M.map frP) (((M.length : Int) - 1) / 2) = some (frP f) := by
    rw [show ((M.length : Int) - 1) / 2 = (((M.length - 1) / 2 : Nat) : Int) from by omega]
    refine atI_nat ?_
    rw [List.getElem?_map, List.getElem?_eq_getElem l1, hf]; rfl
  have a2 : atI (M.map frP) ((M.length : Int) / 2) = some (frP s) := by
    rw [show (M.length : Int) / 2 = ((M.length / 2 : Nat) : Int) from by omega]
    refine atI_nat ?_
    rw [List.getElem?_map, List.getElem?_eq_getElem l2, hs]; rfl
  have fs0 : 0 < f.2 * s.2 := Int.mul_pos f1 s1
  have fs1 : f.2 * s.2 ≤ 3600 := by
    have : f.2 * s.2 ≤ 60 * 60 := Int.mul_le_mul f2 s2 (by omega) (by omega)
    omega
  obtain ⟨t0, t1⟩ := redP_pos (a := f.1 * s.2 + s.1 * f.2) fs0
  have pl := plus_spec (p := f.1) (q := f.2) (r := s.1) (s := s.2) (S := S ++ [.lst (M.map frP)]) f1 s1 (by omega) (by omega) (by omega)
  have tm := times_spec (p := (redP (f.1 * s.2 + s.1 * f.2) (f.2 * s.2)).1) (q := (redP (f.1 * s.2 + s.1 * f.2) (f.2 * s.2)).2) (r := 1) (s := 2) (S := S ++ [.lst (M.map frP)]) t0 (by decide) (by omega) (by omega) (by decide) (mulOk_r (by decide) (by decide))
  show scp S (runU 1 7 Qk10.b_median [.lst ((x :: xs).map frP)] S) = _
  suffices q : runU 1 7 Qk10.b_median [.lst ((x :: xs).map frP)] S = .ok (frP (midP f s)) (S ++ [.lst (M.map frP)]) by rw [q]; exact scp_more rfl
  have e0 : iVal (eSl (eVar 0) (eoSome (eC (.int 1))) eoNone) [some (.lst ((x :: xs).map frP)), some (.ref S.length), none, none, none, none, none] (S ++ [.lst [frP x]]) = .ok (xs.map frP) (S ++ [.lst [frP x]]) := by
    unfold iVal
    simp only [runU, eVar, eC, xv_non, xv_bl, xv_int, xv_str, xv_lst, xv_tup, xv_scr, xv_ref, xv_ins, xv_fn, xv_ty, bind_ok, lft_ok, lft_exc, of_some, fnRes_rt, fnRes_nx, fnRes_ex, eOp1, eOp2, eOpN, esNil, esCons, sSeq, sSet, sIf, sRet, sRetN, sExpr, sNop, tBl, tOf, tAnd, tOr, tNot, asB, sSetIx, List.map_cons, List.map_nil, List.replicate, Nat.zero_add, Nat.reduceAdd, Nat.reduceSub, List.cons_append, List.nil_append, List.getElem?_cons_zero, List.getElem?_cons_succ, List.set_cons_zero, List.set_cons_succ, List.length_cons, List.length_nil, dIx, dGt, dGe, dLt, dLe, dAdd, dSub, dMul, dMod, dDiv, dPow, dNeg, dInt, drf, dLen, if_true, if_false, Bool.false_eq_true, decide_eq_true_eq, dSetIx, Option.map_some, decide_true, decide_false, truth, eAnd, eOr, eNot, eIf, eIsT, dIsT, kindD, tysOf, dIsi, isB, dIs, dIsNot, isNon, List.any_cons, List.any_nil, Bool.or_false, Bool.or_true, Bool.false_or, Bool.true_or, Bool.and_true, Bool.true_and, Bool.and_false, Bool.false_and, Bool.not_true, Bool.not_false, Nat.reduceLeDiff, Nat.reduceLT, Int.reduceLT, Int.reduceLE, and_self, and_true, true_and, reduceIte, sFor, lft_bad, dEq_ii, dEq_bb, dEq_ss, dEq_nn, dNe_ii, dNe_bb, dNe_ss, dNe_nn, BEq.rfl, dLst_s, dTup_s, dNew_s, dEq_nil, Nat.zero_le, put_name, put_tt, put_tl, puts_nil, puts_name, sAsg, eSl, eoSome, eoNone, dSl, cutD_1, items]
  have h2 : (0 : Int) < 2 ∧ (2 : Int) < 1073741824 := by decide
  have a0 : atI ((x :: xs).map frP) 0 = some (frP x) := by rw [List.map_cons]; exact atI_0
  rw [Qk10.b_median_eq]
  rw [List.map_cons] at a0 e0 e ⊢
  simp only [runU, eVar, eC, xv_non, xv_bl, xv_int, xv_str, xv_lst, xv_tup, xv_scr, xv_ref, xv_ins, xv_fn, xv_ty, bind_ok, lft_ok, lft_exc, of_some, fnRes_rt, fnRes_nx, fnRes_ex, eOp1, eOp2, eOpN, esNil, esCons, sSeq, sSet, sIf, sRet, sRetN, sExpr, sNop, tBl, tOf, tAnd, tOr, tNot, asB, sSetIx, List.map_cons, List.map_nil, List.replicate, Nat.zero_add, Nat.reduceAdd, Nat.reduceSub, List.cons_append, List.nil_append, List.getElem?_cons_zero, List.getElem?_cons_succ, List.set_cons_zero, List.set_cons_succ, List.length_cons, List.length_nil, dIx, dGt, dGe, dLt, dLe, dAdd, dSub, dMul, dMod, dDiv, dPow, dNeg, dInt, drf, dLen, if_true, if_false, Bool.false_eq_true, decide_eq_true_eq, dSetIx, Option.map_some, decide_true, decide_false, truth, eAnd, eOr, eNot, eIf, eIsT, dIsT, kindD, tysOf, dIsi, isB, dIs, dIsNot, isNon, List.any_cons, List.any_nil, Bool.or_false, Bool.or_true, Bool.false_or, Bool.true_or, Bool.and_true, Bool.true_and, Bool.and_false, Bool.false_and, Bool.not_true, Bool.not_false, Nat.reduceLeDiff, Nat.reduceLT, Int.reduceLT, Int.reduceLE, and_self, and_true, true_and, reduceIte, sFor, lft_bad, dEq_ii, dEq_bb, dEq_ss, dEq_nn, dNe_ii, dNe_bb, dNe_ss, dNe_nn, BEq.rfl, dLst_s, dTup_s, dNew_s, dEq_nil, Nat.zero_le, put_name, put_tt, put_tl, puts_nil, puts_name, sAsg, a0, e0, sPar, eCall]
  rw [show [frP x] = [x].map frP from rfl, e]
  simp only [runU, eVar, eC, xv_non, xv_bl, xv_int, xv_str, xv_lst, xv_tup, xv_scr, xv_ref, xv_ins, xv_fn, xv_ty, bind_ok, lft_ok, lft_exc, of_some, fnRes_rt, fnRes_nx, fnRes_ex, eOp1, eOp2, eOpN, esNil, esCons, sSeq, sSet, sIf, sRet, sRetN, sExpr, sNop, tBl, tOf, tAnd, tOr, tNot, asB, sSetIx, List.map_cons, List.map_nil, List.replicate, Nat.zero_add, Nat.reduceAdd, Nat.reduceSub, List.cons_append, List.nil_append, List.getElem?_cons_zero, List.getElem?_cons_succ, List.set_cons_zero, List.set_cons_succ, List.length_cons, List.length_nil, dIx, dGt, dGe, dLt, dLe, dAdd, dSub, dMul, dMod, dDiv, dPow, dNeg, dInt, drf, dLen, if_true, if_false, Bool.false_eq_true, decide_eq_true_eq, dSetIx, Option.map_some, decide_true, decide_false, truth, eAnd, eOr, eNot, eIf, eIsT, dIsT, kindD, tysOf, dIsi, isB, dIs, dIsNot, isNon, List.any_cons, List.any_nil, Bool.or_false, Bool.or_true, Bool.false_or, Bool.true_or, Bool.and_true, Bool.true_and, Bool.and_false, Bool.false_and, Bool.not_true, Bool.not_false, Nat.reduceLeDiff, Nat.reduceLT, Int.reduceLT, Int.reduceLE, and_self, and_true, true_and, reduceIte, sFor, lft_bad, dEq_ii, dEq_bb, dEq_ss, dEq_nn, dNe_ii, dNe_bb, dNe_ss, dNe_nn, BEq.rfl, dLst_s, dTup_s, dNew_s, dEq_nil, Nat.zero_le, put_name, put_tt, put_tl, puts_nil, puts_name, sAsg, app_get, List.length_map, h2, a1, a2, pl, redD, tm, sPar, eCall]
  exact congrArg (fun r => fnRes (lft r [some (Da.lst (frP x :: List.map frP xs)), some (Da.ref (List.length S)), w2, w3, some (frP f), some (frP s), none] fun d S => Fl.rt d S)) tm
end G

namespace G
open PySem PySem.Spec PyProof.Rows L2
open Qk10
theorem alike_eq {x y : Da} {S : Sto} (e : x = y) (h1 : shp 11 x = true) (h2 : shrt x = true) : d__law_alike 12 [x, y] S = .ok (.bl true) S := by
  subst e; exact alike_true 12 11 x S (by omega) h1 h2
theorem truth_eq {b : Bool} {S : Sto} : d__law_truth [.bl b, .bl b] S = .ok (.bl true) S := by
  show scp S (runU 2 2 b__law_truth [.bl b, .bl b] S) = _
  rw [b__law_truth_eq]
  simp only [runU, eVar, eC, xv_non, xv_bl, xv_int, xv_str, xv_lst, xv_tup, xv_scr, xv_ref, xv_ins, xv_fn, xv_ty, bind_ok, lft_ok, lft_exc, of_some, fnRes_rt, fnRes_nx, fnRes_ex, eOp1, eOp2, eOpN, esNil, esCons, sSeq, sSet, sIf, sRet, sRetN, sExpr, sNop, tBl, tOf, tAnd, tOr, tNot, asB, sSetIx, List.map_cons, List.map_nil, List.replicate, Nat.zero_add, Nat.reduceAdd, Nat.reduceSub, List.cons_append, List.nil_append, List.getElem?_cons_zero, List.getElem?_cons_succ, List.set_cons_zero, List.set_cons_succ, List.length_cons, List.length_nil, dIx, dGt, dGe, dLt, dLe, dAdd, dSub, dMul, dMod, dDiv, dPow, dNeg, dInt, drf, dLen, if_true, if_false, Bool.false_eq_true, decide_eq_true_eq, dSetIx, Option.map_some, decide_true, decide_false, truth, eAnd, eOr, eNot, eIf, eIsT, dIsT, kindD, tysOf, dIsi, isB, dIs, dIsNot, isNon, List.any_cons, List.any_nil, Bool.or_false, Bool.or_true, Bool.false_or, Bool.true_or, Bool.and_true, Bool.true_and, Bool.and_false, Bool.false_and, Bool.not_true, Bool.not_false, Nat.reduceLeDiff, Nat.reduceLT, Int.reduceLT, Int.reduceLE, and_self, and_true, true_and, reduceIte, sFor, lft_bad, dEq_ii, dEq_bb, dEq_ss, dEq_nn, dNe_ii, dNe_bb, dNe_ss, dNe_nn, BEq.rfl, dLst_s, dTup_s, dNew_s, dEq_nil, Nat.zero_le, put_name, put_tt, put_tl, puts_nil, puts_name, sAsg]
  exact scp_same rfl
/-- what the law draws first -/
structure Drawn4 (a b c d : Int) : Prop where
  a1 : -60 ≤ a
  a2 : a ≤ 60
  b1 : 1 ≤ b
  b2 : b ≤ 60
  c1 : -60 ≤ c
  c2 : c ≤ 60
  d1 : 1 ≤ d
  d2 : d ≤ 60
theorem st1 {ns : List Int} : b_law_1 (some (.scr ns) :: List.replicate 18 none) [] = .nx (some (.scr ns) :: some (.ref 0) :: List.replicate 17 none) [.lst [.scr ns, .int 0, .int 61, .int 0]] := by
  unfold b_law_1
  simp only [runU, eVar, eC, xv_non, xv_bl, xv_int, xv_str, xv_lst, xv_tup, xv_scr, xv_ref, xv_ins, xv_fn, xv_ty, bind_ok, lft_ok, lft_exc, of_some, fnRes_rt, fnRes_nx, fnRes_ex, eOp1, eOp2, eOpN, esNil, esCons, sSeq, sSet, sIf, sRet, sRetN, sExpr, sNop, tBl, tOf, tAnd, tOr, tNot, asB, sSetIx, List.map_cons, List.map_nil, List.replicate, Nat.zero_add, Nat.reduceAdd, Nat.reduceSub, List.cons_append, List.nil_append, List.getElem?_cons_zero, List.getElem?_cons_succ, List.set_cons_zero, List.set_cons_succ, List.length_cons, List.length_nil, dIx, dGt, dGe, dLt, dLe, dAdd, dSub, dMul, dMod, dDiv, dPow, dNeg, dInt, drf, dLen, if_true, if_false, Bool.false_eq_true, decide_eq_true_eq, dSetIx, Option.map_some, decide_true, decide_false, truth, eAnd, eOr, eNot, eIf, eIsT, dIsT, kindD, tysOf, dIsi, isB, dIs, dIsNot, isNon, List.any_cons, List.any_nil, Bool.or_false, Bool.or_true, Bool.false_or, Bool.true_or, Bool.and_true, Bool.true_and, Bool.and_false, Bool.false_and, Bool.not_true, Bool.not_false, Nat.reduceLeDiff, Nat.reduceLT, Int.reduceLT, Int.reduceLE, and_self, and_true, true_and, reduceIte, sFor, lft_bad, dEq_ii, dEq_bb, dEq_ss, dEq_nn, dNe_ii, dNe_bb, dNe_ss, dNe_nn, BEq.rfl, dLst_s, dTup_s, dNew_s, dEq_nil, Nat.zero_le, put_name, put_tt, put_tl, puts_nil, puts_name, sAsg]
theorem st2 {ns : List Int} {S : Sto} (h : RowOk S 0 ns) : ∃ a b c d S', b_law_2 (some (.scr ns) :: some (.ref 0) :: List.replicate 17 none) S =
    .nx [some (.scr ns), some (.ref 0), none, none, none, none, none, none, none, some (.int a), some (.int b), some (.int c), some (.int d), none, none, none, none, none, none] S' ∧ RowOk S' 0 ns ∧ Drawn4 a b c d := by
  obtain ⟨v1, S1, e1, p1, q1, h1, _⟩ := taken_spec (m := 121) h (by decide) (by decide)
  obtain ⟨v2, S2, e2, p2, q2, h2, _⟩ := taken_spec (m := 60) h1 (by decide) (by decide)
  obtain ⟨v3, S3, e3, p3, q3, h3, _⟩ := taken_spec (m := 121) h2 (by decide) (by decide)
  obtain ⟨v4, S4, e4, p4, q4, h4, _⟩ := taken_spec (m := 60) h3 (by decide) (by decide)
  refine ⟨v1 - 60, 1 + v2, v3 - 60, 1 + v4, S4, ?_, h4, ⟨by omega, by omega, by omega, by omega, by omega, by omega, by omega, by omega⟩⟩
  unfold b_law_2
  simp only [runU, eVar, eC, xv_non, xv_bl, xv_int, xv_str, xv_lst, xv_tup, xv_scr, xv_ref, xv_ins, xv_fn, xv_ty, bind_ok, lft_ok, lft_exc, of_some, fnRes_rt, fnRes_nx, fnRes_ex, eOp1, eOp2, eOpN, esNil, esCons, sSeq, sSet, sIf, sRet, sRetN, sExpr, sNop, tBl, tOf, tAnd, tOr, tNot, asB, sSetIx, List.map_cons, List.map_nil, List.replicate, Nat.zero_add, Nat.reduceAdd, Nat.reduceSub, List.cons_append, List.nil_append, List.getElem?_cons_zero, List.getElem?_cons_succ, List.set_cons_zero, List.set_cons_succ, List.length_cons, List.length_nil, dIx, dGt, dGe, dLt, dLe, dAdd, dSub, dMul, dMod, dDiv, dPow, dNeg, dInt, drf, dLen, if_true, if_false, Bool.false_eq_true, decide_eq_true_eq, dSetIx, Option.map_some, decide_true, decide_false, truth, eAnd, eOr, eNot, eIf, eIsT, dIsT, kindD, tysOf, dIsi, isB, dIs, dIsNot, isNon, List.any_cons, List.any_nil, Bool.or_false, Bool.or_true, Bool.false_or, Bool.true_or, Bool.and_true, Bool.true_and, Bool.and_false, Bool.false_and, Bool.not_true, Bool.not_false, Nat.reduceLeDiff, Nat.reduceLT, Int.reduceLT, Int.reduceLE, and_self, and_true, true_and, reduceIte, sFor, lft_bad, dEq_ii, dEq_bb, dEq_ss, dEq_nn, dNe_ii, dNe_bb, dNe_ss, dNe_nn, BEq.rfl, dLst_s, dTup_s, dNew_s, dEq_nil, Nat.zero_le, put_name, put_tt, put_tl, puts_nil, puts_name, sAsg, eCall, e1, e2, e3, e4]
/-- the frame behind the draws -/
abbrev fr4 (ns : List Int) (a b c d : Int) (x2 x3 x4 x5 x6 x7 x8 x13 x14 x15 x16 x17 x18 : Option Da) : Env := [some (.scr ns), some (.ref 0), x2, x3, x4, x5, x6, x7, x8, some (.int a), some (.int b), some (.int c), some (.int d), x13, x14, x15, x16, x17, x18]
variable {ns : List Int} {a b c d : Int} {S : Sto} {x2 x3 x4 x5 x6 x7 x8 x13 x14 x15 x16 x17 x18 : Option Da}
theorem st3 (D : Drawn4 a b c d) : b_law_3 (fr4 ns a b c d x2 x3 x4 x5 x6 x7 x8 none none x15 x16 x17 x18) S = .nx (fr4 ns a b c d x2 x3 x4 x5 x6 x7 x8 (some (redD a b)) (some (redD c d)) x15 x16 x17 x18) S := by
  unfold b_law_3
  simp only [runU, eVar, eC, xv_non, xv_bl, xv_int, xv_str, xv_lst, xv_tup, xv_scr, xv_ref, xv_ins, xv_fn, xv_ty, bind_ok, lft_ok, lft_exc, of_some, fnRes_rt, fnRes_nx, fnRes_ex, eOp1, eOp2, eOpN, esNil, esCons, sSeq, sSet, sIf, sRet, sRetN, sExpr, sNop, tBl, tOf, tAnd, tOr, tNot, asB, sSetIx, List.map_cons, List.map_nil, List.replicate, Nat.zero_add, Nat.reduceAdd, Nat.reduceSub, List.cons_append, List.nil_append, List.getElem?_cons_zero, List.getElem?_cons_succ, List.set_cons_zero, List.set_cons_succ, List.length_cons, List.length_nil, dIx, dGt, dGe, dLt, dLe, dAdd, dSub, dMul, dMod, dDiv, dPow, dNeg, dInt, drf, dLen, if_true, if_false, Bool.false_eq_true, decide_eq_true_eq, dSetIx, Option.map_some, decide_true, decide_false, truth, eAnd, eOr, eNot, eIf, eIsT, dIsT, kindD, tysOf, dIsi, isB, dIs, dIsNot, isNon, List.any_cons, List.any_nil, Bool.or_false, Bool.or_true, Bool.false_or, Bool.true_or, Bool.and_true, Bool.true_and, Bool.and_false, Bool.false_and, Bool.not_true, Bool.not_false, Nat.reduceLeDiff, Nat.reduceLT, Int.reduceLT, Int.reduceLE, and_self, and_true, true_and, reduceIte, sFor, lft_bad, dEq_ii, dEq_bb, dEq_ss, dEq_nn, dNe_ii, dNe_bb, dNe_ss, dNe_nn, BEq.rfl, dLst_s, dTup_s, dNew_s, dEq_nil, Nat.zero_le, put_name, put_tt, put_tl, puts_nil, puts_name, sAsg, sPar, eCall, reduced_spec (a := a) (b := b) (S := S) (by have := D.b1; omega) (by have := D.b2; omega), reduced_spec (a := c) (b := d) (S := S) (by have := D.d1; omega) (by have := D.d2; omega)]
theorem pair_shp {x y : Da} (hx : shp 10 x = true) (hy : shp 10 y = true) : shp 11 (.tup [x, y]) = true := by simp [shp, shps, hx, hy]
theorem small_tup {ds : List Da} (hl : ds.length ≤ 1000) (h : shrts ds = true) : shrt (.tup ds) = true := by
  simp only [shrt, Bool.and_eq_true]; exact ⟨decide_eq_true (by rw [sizeLine_eq]; omega), h⟩
theorem red_shrt {p q : Int} : shrt (redD p q) = true := fr_shrt
theorem isfr_red {a b p q : Int} (L : Low a b p q) (hb : b ≤ 60) : d_is_fraction [redD a b] S = .ok (.bl true) S := by
  rw [L.red, isfr_tup L.q0 (by have := L.qb; omega), red_low L.cop, eqv_fr]
  simp
theorem isfr_two {a b p q : Int} (L : Low a b p q) (hb0 : 1 ≤ b) (hb : b ≤ 60) : d_is_fraction [.tup [.int (a * 2), .int (b * 2)]] S = .ok (.bl false) S := by
  rw [isfr_tup (by omega) (by omega), red_scale (by decide) (by omega), L.red, eqv_fr]
  have : (q == b * 2) = false := by have := L.qb; have := L.q0; exact beq_eq_false_iff_ne.mpr (by omega)
  rw [this, Bool.and_false]
theorem st4 (D : Drawn4 a b c d) : b_law_4 (fr4 ns a b c d x2 x3 x4 x5 x6 x7 x8 (some (redD a b)) (some (redD c d)) x15 x16 x17 x18) S = .nx (fr4 ns a b c d x2 x3 x4 x5 x6 x7 x8 (some (redD a b)) (some (redD c d)) x15 x16 x17 x18) S := by
  obtain ⟨a1, a2, b1, b2, c1, c2, d1, d2⟩ := D
  obtain ⟨p, q, L⟩ := low_of (a := a) (b := b) (by omega)
  unfold b_law_4 b_law_4_1
  have al := alike_eq (S := S) (x := .tup [redD a b, redD c d]) rfl (pair_shp (red_shp (by decide)) (red_shp (by decide))) (small_tup (by simp) (by simp [shrts, red_shrt]))
  have xr : ∀ x y, isExv (redD x y) = false := fun _ _ => id rfl
  simp only [runU, eVar, eC, xv_non, xv_bl, xv_int, xv_str, xv_lst, xv_tup, xv_scr, xv_ref, xv_ins, xv_fn, xv_ty, bind_ok, lft_ok, lft_exc, of_some, fnRes_rt, fnRes_nx, fnRes_ex, eOp1, eOp2, eOpN, esNil, esCons, sSeq, sSet, sIf, sRet, sRetN, sExpr, sNop, tBl, tOf, tAnd, tOr, tNot, asB, sSetIx, List.map_cons, List.map_nil, List.replicate, Nat.zero_add, Nat.reduceAdd, Nat.reduceSub, List.cons_append, List.nil_append, List.getElem?_cons_zero, List.getElem?_cons_succ, List.set_cons_zero, List.set_cons_succ, List.length_cons, List.length_nil, dIx, dGt, dGe, dLt, dLe, dAdd, dSub, dMul, dMod, dDiv, dPow, dNeg, dInt, drf, dLen, if_true, if_false, Bool.false_eq_true, decide_eq_true_eq, dSetIx, Option.map_some, decide_true, decide_false, truth, eAnd, eOr, eNot, eIf, eIsT, dIsT, kindD, tysOf, dIsi, isB, dIs, dIsNot, isNon, List.any_cons, List.any_nil, Bool.or_false, Bool.or_true, Bool.false_or, Bool.true_or, Bool.and_true, Bool.true_and, Bool.and_false, Bool.false_and, Bool.not_true, Bool.not_false, Nat.reduceLeDiff, Nat.reduceLT, Int.reduceLT, Int.reduceLE, and_self, and_true, true_and, reduceIte, sFor, lft_bad, dEq_ii, dEq_bb, dEq_ss, dEq_nn, dNe_ii, dNe_bb, dNe_ss, dNe_nn, BEq.rfl, dLst_s, dTup_s, dNew_s, dEq_nil, Nat.zero_le, put_name, put_tt, put_tl, puts_nil, puts_name, sAsg, eCall, xr, low_spec (a := a) (b := b) (S := S) (by omega) (by omega), low_spec (a := c) (b := d) (S := S) (by omega) (by omega), dTup_s, al, isfr_red (S := S) L b2, isfr_two (S := S) L b1 b2, mulOk_r (i := a) (j := 2) (by decide) (by decide), mulOk_r (i := b) (j := 2) (by decide) (by decide)]
end G

namespace G
open PySem PySem.Spec PyProof.Rows L2
open Qk10
variable {ns : List Int} {a b c d p q r s : Int} {S : Sto} {x2 x3 x4 x5 x6 x7 x8 x13 x14 x15 x16 x17 x18 : Option Da}
theorem red_plus (L : Low a b p q) (M : Low c d r s) : redD (p * s + r * q) (q * s) = redD (a * d + c * b) (b * d) := by
  obtain ⟨g, g0, ea, eb⟩ := L.g
  obtain ⟨h, h0, ec, ed⟩ := M.g
  have e1 : a * d + c * b = (p * s + r * q) * (g * h) := by rw [ea, eb, ec, ed]; grind
  have e2 : b * d = (q * s) * (g * h) := by rw [eb, ed]; grind
  rw [e1, e2, red_scale (Int.mul_pos g0 h0) (Int.mul_pos L.q0 M.q0)]
theorem red_minus (L : Low a b p q) (M : Low c d r s) : redD (p * s - r * q) (q * s) = redD (a * d - c * b) (b * d) := by
  obtain ⟨g, g0, ea, eb⟩ := L.g
  obtain ⟨h, h0, ec, ed⟩ := M.g
  have e1 : a * d - c * b = (p * s - r * q) * (g * h) := by rw [ea, eb, ec, ed]; grind
  have e2 : b * d = (q * s) * (g * h) := by rw [eb, ed]; grind
  rw [e1, e2, red_scale (Int.mul_pos g0 h0) (Int.mul_pos L.q0 M.q0)]
theorem red_times (L : Low a b p q) (M : Low c d r s) : redD (p * r) (q * s) = redD (a * c) (b * d) := by
  obtain ⟨g, g0, ea, eb⟩ := L.g
  obtain ⟨h, h0, ec, ed⟩ := M.g
  have e1 : a * c = (p * r) * (g * h) := by rw [ea, ec]; grind
  have e2 : b * d = (q * s) * (g * h) := by rw [eb, ed]; grind
  rw [e1, e2, red_scale (Int.mul_pos g0 h0) (Int.mul_pos L.q0 M.q0)]
theorem red_over (L : Low a b p q) (M : Low c d r s) (hc : 0 < c) : 0 < r ∧ r ≤ c ∧ redD (p * s) (q * r) = redD (a * d) (b * c) := by
  obtain ⟨g, g0, ea, eb⟩ := L.g
  obtain ⟨h, h0, ec, ed⟩ := M.g
  have r0 : 0 < r := by
    by_cases z : 0 < r
    · exact z
    · have : r * h ≤ 0 := Int.mul_nonpos_of_nonpos_of_nonneg (by omega) (by omega)
      omega
  have r1 : r ≤ c := by rw [ec]; exact le_mul_r (by omega) (by omega)
  have e1 : a * d = (p * s) * (g * h) := by rw [ea, ed]; grind
  have e2 : b * c = (q * r) * (g * h) := by rw [eb, ec]; grind
  exact ⟨r0, r1, by rw [e1, e2, red_scale (Int.mul_pos g0 h0) (Int.mul_pos L.q0 r0)]⟩
theorem less_same (L : Low a b p q) (M : Low c d r s) : (p * s < r * q) ↔ (a * d < c * b) := by
  obtain ⟨g, g0, ea, eb⟩ := L.g
  obtain ⟨h, h0, ec, ed⟩ := M.g
  have e1 : a * d = (p * s) * (g * h) := by rw [ea, ed]; grind
  have e2 : c * b = (r * q) * (g * h) := by rw [eb, ec]; grind
  have k0 := Int.mul_pos g0 h0
  rw [e1, e2]
  constructor
  · intro z; exact Int.mul_lt_mul_of_pos_right z k0
  · intro z; exact Int.lt_of_mul_lt_mul_right z (by omega)
theorem trip_shp {x y z : Da} (hx : shp 10 x = true) (hy : shp 10 y = true) (hz : shp 10 z = true) : shp 11 (.tup [x, y, z]) = true := by simp [shp, shps, hx, hy, hz]
theorem prod60 {x y : Int} (h1 : 1 ≤ x) (h2 : x ≤ 60) (h3 : 1 ≤ y) (h4 : y ≤ 60) : 0 < x * y ∧ x * y ≤ 3600 :=
  ⟨Int.mul_pos (by omega) (by omega), by have := Int.mul_le_mul h2 h4 (by omega) (by omega); omega⟩
theorem st5 (D : Drawn4 a b c d) (L : Low a b p q) (M : Low c d r s) : b_law_5 (fr4 ns a b c d x2 x3 x4 x5 x6 x7 x8 (some (fr p q)) (some (fr r s)) x15 x16 x17 x18) S = .nx (fr4 ns a b c d x2 x3 x4 x5 x6 x7 x8 (some (fr p q)) (some (fr r s)) x15 x16 x17 x18) S := by
  obtain ⟨a1, a2, b1, b2, c1, c2, d1, d2⟩ := D
  have q0 := L.q0
  have q1 := L.qb
  have s0 := M.q0
  have s1 := M.qb
  obtain ⟨m0, m1⟩ := prod60 (x := q) (y := s) (by omega) (by omega) (by omega) (by omega)
  obtain ⟨n0, n1⟩ := prod60 (x := b) (y := d) (by omega) (by omega) (by omega) (by omega)
  have hr : mulOk p r = true := by
    obtain ⟨g, g0, ea, _⟩ := L.g
    have : p.natAbs ≤ a.natAbs := by
      rw [ea, Int.natAbs_mul]
      exact Nat.le_mul_of_pos_right _ (by omega)
    exact mulOk_l (by omega) (by omega)
  have al := alike_eq (S := S) (x := .tup [redD (p * s + r * q) (q * s), redD (p * s - r * q) (q * s), redD (p * r) (q * s)]) (y := .tup [redD (a * d + c * b) (b * d), redD (a * d - c * b) (b * d), redD (a * c) (b * d)])
    (by rw [red_plus L M, red_minus L M, red_times L M]) (trip_shp (red_shp (by decide)) (red_shp (by decide)) (red_shp (by decide))) (small_tup (by simp) (by simp [shrts, red_shrt]))
  unfold b_law_5 b_law_5_1
  simp only [runU, eVar, eC, xv_non, xv_bl, xv_int, xv_str, xv_lst, xv_tup, xv_scr, xv_ref, xv_ins, xv_fn, xv_ty, bind_ok, lft_ok, lft_exc, of_some, fnRes_rt, fnRes_nx, fnRes_ex, eOp1, eOp2, eOpN, esNil, esCons, sSeq, sSet, sIf, sRet, sRetN, sExpr, sNop, tBl, tOf, tAnd, tOr, tNot, asB, sSetIx, List.map_cons, List.map_nil, List.replicate, Nat.zero_add, Nat.reduceAdd, Nat.reduceSub, List.cons_append, List.nil_append, List.getElem?_cons_zero, List.getElem?_cons_succ, List.set_cons_zero, List.set_cons_succ, List.length_cons, List.length_nil, dIx, dGt, dGe, dLt, dLe, dAdd, dSub, dMul, dMod, dDiv, dPow, dNeg, dInt, drf, dLen, if_true, if_false, Bool.false_eq_true, decide_eq_true_eq, dSetIx, Option.map_some, decide_true, decide_false, truth, eAnd, eOr, eNot, eIf, eIsT, dIsT, kindD, tysOf, dIsi, isB, dIs, dIsNot, isNon, List.any_cons, List.any_nil, Bool.or_false, Bool.or_true, Bool.false_or, Bool.true_or, Bool.and_true, Bool.true_and, Bool.and_false, Bool.false_and, Bool.not_true, Bool.not_false, Nat.reduceLeDiff, Nat.reduceLT, Int.reduceLT, Int.reduceLE, and_self, and_true, true_and, reduceIte, sFor, lft_bad, dEq_ii, dEq_bb, dEq_ss, dEq_nn, dNe_ii, dNe_bb, dNe_ss, dNe_nn, BEq.rfl, dLst_s, dTup_s, dNew_s, dEq_nil, Nat.zero_le, put_name, put_tt, put_tl, puts_nil, puts_name, sAsg, eCall, plus_spec (p := p) (r := r) (S := S) q0 s0 (by omega) (by omega) (by omega), minus_spec (p := p) (r := r) (S := S) q0 s0 (by omega) (by omega) (by omega), times_spec (p := p) (r := r) (S := S) q0 s0 (by omega) (by omega) (by omega) hr,
    low_spec (a := a * d + c * b) (b := b * d) (S := S) n0 (by omega), low_spec (a := a * d - c * b) (b := b * d) (S := S) n0 (by omega), low_spec (a := a * c) (b := b * d) (S := S) n0 (by omega), dTup_s, al,
    mulOk_r (i := a) (j := d) (by omega) (by omega), mulOk_r (i := c) (j := b) (by omega) (by omega), mulOk_r (i := b) (j := d) (by omega) (by omega), mulOk_r (i := a) (j := c) (by omega) (by omega)]
theorem st6 (D : Drawn4 a b c d) (L : Low a b p q) (M : Low c d r s) : b_law_6 (fr4 ns a b c d x2 x3 x4 x5 x6 x7 x8 (some (fr p q)) (some (fr r s)) x15 x16 x17 x18) S = .nx (fr4 ns a b c d x2 x3 x4 x5 x6 x7 x8 (some (fr p q)) (some (fr r s)) x15 x16 x17 x18) S := by
  obtain ⟨a1, a2, b1, b2, c1, c2, d1, d2⟩ := D
  have q0 := L.q0
  have q1 := L.qb
  have s0 := M.q0
  have s1 := M.qb
  have tr : d__law_truth [.bl (decide (p * s < r * q)), .bl (decide (a * d < c * b))] S = .ok (.bl true) S := by
    rw [decide_eq_decide.mpr (less_same L M)]; exact truth_eq
  have ls := less_spec (p := p) (q := q) (r := r) (s := s) (S := S) q0 s0 (by omega) (by omega)
  unfold b_law_6 b_law_6_1
  by_cases hc : 0 < c
  · obtain ⟨r0, r1, e⟩ := red_over L M hc
    obtain ⟨m0, m1⟩ := prod60 (x := q) (y := r) (by omega) (by omega) (by omega) (by omega)
    obtain ⟨n0, n1⟩ := prod60 (x := b) (y := c) (by omega) (by omega) (by omega) (by omega)
    have al := alike_eq (S := S) (x := redD (p * s) (q * r)) (y := redD (a * d) (b * c)) e (red_shp (by decide)) red_shrt
    simp only [runU, eVar, eC, xv_non, xv_bl, xv_int, xv_str, xv_lst, xv_tup, xv_scr, xv_ref, xv_ins, xv_fn, xv_ty, bind_ok, lft_ok, lft_exc, of_some, fnRes_rt, fnRes_nx, fnRes_ex, eOp1, eOp2, eOpN, esNil, esCons, sSeq, sSet, sIf, sRet, sRetN, sExpr, sNop, tBl, tOf, tAnd, tOr, tNot, asB, sSetIx, List.map_cons, List.map_nil, List.replicate, Nat.zero_add, Nat.reduceAdd, Nat.reduceSub, List.cons_append, List.nil_append, List.getElem?_cons_zero, List.getElem?_cons_succ, List.set_cons_zero, List.set_cons_succ, List.length_cons, List.length_nil, dIx, dGt, dGe, dLt, dLe, dAdd, dSub, dMul, dMod, dDiv, dPow, dNeg, dInt, drf, dLen, if_true, if_false, Bool.false_eq_true, decide_eq_true_eq, dSetIx, Option.map_some, decide_true, decide_false, truth, eAnd, eOr, eNot, eIf, eIsT, dIsT, kindD, tysOf, dIsi, isB, dIs, dIsNot, isNon, List.any_cons, List.any_nil, Bool.or_false, Bool.or_true, Bool.false_or, Bool.true_or, Bool.and_true, Bool.true_and, Bool.and_false, Bool.false_and, Bool.not_true, Bool.not_false, Nat.reduceLeDiff, Nat.reduceLT, Int.reduceLT, Int.reduceLE, and_self, and_true, true_and, reduceIte, sFor, lft_bad, dEq_ii, dEq_bb, dEq_ss, dEq_nn, dNe_ii, dNe_bb, dNe_ss, dNe_nn, BEq.rfl, dLst_s, dTup_s, dNew_s, dEq_nil, Nat.zero_le, put_name, put_tt, put_tl, puts_nil, puts_name, sAsg, eCall, hc, over_spec (p := p) (S := S) q0 s0 r0 (by omega) (by omega) (by omega) (by omega), low_spec (a := a * d) (b := b * c) (S := S) n0 (by omega), al, ls, tr,
      mulOk_r (i := a) (j := d) (by omega) (by omega), mulOk_r (i := c) (j := b) (by omega) (by omega), mulOk_r (i := b) (j := c) (by omega) (by omega)]
  · simp only [runU, eVar, eC, xv_non, xv_bl, xv_int, xv_str, xv_lst, xv_tup, xv_scr, xv_ref, xv_ins, xv_fn, xv_ty, bind_ok, lft_ok, lft_exc, of_some, fnRes_rt, fnRes_nx, fnRes_ex, eOp1, eOp2, eOpN, esNil, esCons, sSeq, sSet, sIf, sRet, sRetN, sExpr, sNop, tBl, tOf, tAnd, tOr, tNot, asB, sSetIx, List.map_cons, List.map_nil, List.replicate, Nat.zero_add, Nat.reduceAdd, Nat.reduceSub, List.cons_append, List.nil_append, List.getElem?_cons_zero, List.getElem?_cons_succ, List.set_cons_zero, List.set_cons_succ, List.length_cons, List.length_nil, dIx, dGt, dGe, dLt, dLe, dAdd, dSub, dMul, dMod, dDiv, dPow, dNeg, dInt, drf, dLen, if_true, if_false, Bool.false_eq_true, decide_eq_true_eq, dSetIx, Option.map_some, decide_true, decide_false, truth, eAnd, eOr, eNot, eIf, eIsT, dIsT, kindD, tysOf, dIsi, isB, dIs, dIsNot, isNon, List.any_cons, List.any_nil, Bool.or_false, Bool.or_true, Bool.false_or, Bool.true_or, Bool.and_true, Bool.true_and, Bool.and_false, Bool.false_and, Bool.not_true, Bool.not_false, Nat.reduceLeDiff, Nat.reduceLT, Int.reduceLT, Int.reduceLE, and_self, and_true, true_and, reduceIte, sFor, lft_bad, dEq_ii, dEq_bb, dEq_ss, dEq_nn, dNe_ii, dNe_bb, dNe_ss, dNe_nn, BEq.rfl, dLst_s, dTup_s, dNew_s, dEq_nil, Nat.zero_le, put_name, put_tt, put_tl, puts_nil, puts_name, sAsg, eCall, hc, ls, tr, mulOk_r (i := a) (j := d) (by omega) (by omega), mulOk_r (i := c) (j := b) (by omega) (by omega)]
end G

namespace G
open PySem PySem.Spec PyProof.Rows L2
open Qk10
variable {ns : List Int} {a b c d p q r s : Int} {S : Sto} {x2 x3 x4 x5 x6 x7 x8 x13 x14 x15 x16 x17 x18 : Option Da}
theorem st7 : b_law_7 (fr4 ns a b c d x2 x3 x4 x5 x6 x7 x8 x13 x14 x15 x16 x17 x18) S = .nx (fr4 ns a b c d (some (.lst ((whl (-61) 62).map Da.int))) x3 x4 x5 x6 x7 x8 x13 x14 x15 x16 x17 x18) S := by
  have h : rgOk (-61) 62 = true := cdec_of ⟨by omega, by omega, by omega, by omega, by omega⟩
  unfold b_law_7
  simp only [runU, eVar, eC, xv_non, xv_bl, xv_int, xv_str, xv_lst, xv_tup, xv_scr, xv_ref, xv_ins, xv_fn, xv_ty, bind_ok, lft_ok, lft_exc, of_some, fnRes_rt, fnRes_nx, fnRes_ex, eOp1, eOp2, eOpN, esNil, esCons, sSeq, sSet, sIf, sRet, sRetN, sExpr, sNop, tBl, tOf, tAnd, tOr, tNot, asB, sSetIx, List.map_cons, List.map_nil, List.replicate, Nat.zero_add, Nat.reduceAdd, Nat.reduceSub, List.cons_append, List.nil_append, List.getElem?_cons_zero, List.getElem?_cons_succ, List.set_cons_zero, List.set_cons_succ, List.length_cons, List.length_nil, dIx, dGt, dGe, dLt, dLe, dAdd, dSub, dMul, dMod, dDiv, dPow, dNeg, dInt, drf, dLen, if_true, if_false, Bool.false_eq_true, decide_eq_true_eq, dSetIx, Option.map_some, decide_true, decide_false, truth, eAnd, eOr, eNot, eIf, eIsT, dIsT, kindD, tysOf, dIsi, isB, dIs, dIsNot, isNon, List.any_cons, List.any_nil, Bool.or_false, Bool.or_true, Bool.false_or, Bool.true_or, Bool.and_true, Bool.true_and, Bool.and_false, Bool.false_and, Bool.not_true, Bool.not_false, Nat.reduceLeDiff, Nat.reduceLT, Int.reduceLT, Int.reduceLE, and_self, and_true, true_and, reduceIte, sFor, lft_bad, dEq_ii, dEq_bb, dEq_ss, dEq_nn, dNe_ii, dNe_bb, dNe_ss, dNe_nn, BEq.rfl, dLst_s, dTup_s, dNew_s, dEq_nil, Nat.zero_le, put_name, put_tt, put_tl, puts_nil, puts_name, sAsg, eRg, rgRes, h, rngD_whl]
theorem fl_bd {x y : Int} (h1 : -60 ≤ x) (h2 : x ≤ 60) (h3 : 1 ≤ y) : -60 ≤ x / y ∧ x / y ≤ 60 := by
  constructor
  · rw [Int.le_ediv_iff_mul_le (by omega)]
    have : (60 : Int) ≤ 60 * y := le_mul_r (by omega) h3
    omega
  · have hy : 0 < y := by omega
    have h := (Int.le_ediv_iff_mul_le (a := x / y) (b := x) hy).mp (Int.le_refl _)
    by_cases z : x / y ≤ 60
    · exact z
    · exfalso
      have : (x / y) ≤ (x / y) * y := le_mul_r (by omega) h3
      omega
theorem cdv_mem {x y : Int} (hy : 0 < y) (k : Int) : x ≤ k * y ↔ -(-x / y) ≤ k := by
  have h := Int.le_ediv_iff_mul_le (a := -k) (b := -x) hy
  rw [Int.neg_mul] at h
  omega
theorem max_comp {t : TeE} {ε : Env} {f : Int → Bool} {m : Int} (hj : 18 < ε.length) (h2 : ε[2]? = some (some (.lst ((whl (-61) 62).map Da.int))))
    (ht : ∀ k : Int, -61 ≤ k → k < 62 → t ((ε.set 18 none).set 18 (some (.int k))) S = .ok (f k) S) (hm : -61 ≤ m ∧ m < 62 ∧ f m = true) :
    ∃ l : List Int, eComp [18] (iVal (eVar 2)) (.name 18) t (eVar 18) ε S = .ok (.lst (l.map Da.int)) S ∧ m ∈ l ∧ ∀ k ∈ l, f k = true := by
  have hc := compL_filter (g := .name 18) (t := t) (a := eVar 18) (ε := ε.set 18 none) (S := S) (f := fun d => match d with | .int k => f k | _ => false) (v := id) (ds := (whl (-61) 62).map Da.int) fun d hd => by
    simp only [List.mem_map] at hd
    obtain ⟨k, hk, rfl⟩ := hd
    obtain ⟨k1, k2⟩ := mem_whl.mp hk
    refine ⟨_, rfl, ht k k1 k2, fun _ => ?_⟩
    unfold eVar
    rw [List.getElem?_set_self (by rw [List.length_set]; exact hj)]
    rfl
  refine ⟨(whl (-61) 62).filter f, ?_, List.mem_filter.mpr ⟨mem_whl.mpr ⟨hm.1, hm.2.1⟩, hm.2.2⟩, fun k hk => (List.mem_filter.mp hk).2⟩
  have e0 : iVal (eVar 2) ε S = .ok ((whl (-61) 62).map Da.int) S := by
    unfold iVal eVar
    rw [h2]
    rfl
  have e1 : ((whl (-61) 62).map Da.int).length ≤ sizeLine := by rw [List.length_map, len_whl, sizeLine_eq]; omega
  have e2 : wipeE ε [18] = ε.set 18 none := rfl
  unfold eComp
  rw [e0, bind_ok, if_pos e1, e2, hc, List.map_id, List.filter_map]
  rfl
end G

namespace G
open PySem PySem.Spec PyProof.Rows L2
open Qk10
variable {ns : List Int} {a b c d p q r s : Int} {S : Sto} {x2 x3 x4 x5 x6 x7 x8 x13 x14 x15 x16 x17 x18 : Option Da}
abbrev WW : Da := .lst ((whl (-61) 62).map Da.int)
theorem st8 (D : Drawn4 a b c d) : b_law_8 (fr4 ns a b c d (some WW) x3 x4 x5 x6 x7 x8 x13 x14 x15 x16 x17 x18) S = .nx (fr4 ns a b c d (some WW) x3 x4 x5 (some (.int (a / b))) (some (.int (-(-a / b)))) x8 x13 x14 x15 x16 x17 x18) S := by
  obtain ⟨a1, a2, b1, b2, c1, c2, d1, d2⟩ := D
  have f1 := fl_bd (x := a) (y := b) a1 a2 b1
  have f2 := fl_bd (x := -a) (y := b) (by omega) (by omega) b1
  have mo : ∀ k : Int, mulOk k b = true := fun k => mulOk_r (by omega) (by omega)
  obtain ⟨l, e1, m1, u1⟩ := max_comp (S := S) (ε := fr4 ns a b c d (some WW) x3 x4 x5 x6 x7 x8 x13 x14 x15 x16 x17 x18) (t := tBl (eOp2 dLe (eOp2 dMul (eVar 18) (eVar 10)) (eVar 9))) (f := fun k => decide (k * b ≤ a)) (m := a / b) (by simp) rfl
    (fun k _ _ => by simp only [runU, eVar, eC, xv_non, xv_bl, xv_int, xv_str, xv_lst, xv_tup, xv_scr, xv_ref, xv_ins, xv_fn, xv_ty, bind_ok, lft_ok, lft_exc, of_some, fnRes_rt, fnRes_nx, fnRes_ex, eOp1, eOp2, eOpN, esNil, esCons, sSeq, sSet, sIf, sRet, sRetN, sExpr, sNop, tBl, tOf, tAnd, tOr, tNot, asB, sSetIx, List.map_cons, List.map_nil, List.replicate, Nat.zero_add, Nat.reduceAdd, Nat.reduceSub, List.cons_append, List.nil_append, List.getElem?_cons_zero, List.getElem?_cons_succ, List.set_cons_zero, List.set_cons_succ, List.length_cons, List.length_nil, dIx, dGt, dGe, dLt, dLe, dAdd, dSub, dMul, dMod, dDiv, dPow, dNeg, dInt, drf, dLen, if_true, if_false, Bool.false_eq_true, decide_eq_true_eq, dSetIx, Option.map_some, decide_true, decide_false, truth, eAnd, eOr, eNot, eIf, eIsT, dIsT, kindD, tysOf, dIsi, isB, dIs, dIsNot, isNon, List.any_cons, List.any_nil, Bool.or_false, Bool.or_true, Bool.false_or, Bool.true_or, Bool.and_true, Bool.true_and, Bool.and_false, Bool.false_and, Bool.not_true, Bool.not_false, Nat.reduceLeDiff, Nat.reduceLT, Int.reduceLT, Int.reduceLE, and_self, and_true, true_and, reduceIte, sFor, lft_bad, dEq_ii, dEq_bb, dEq_ss, dEq_nn, dNe_ii, dNe_bb, dNe_ss, dNe_nn, BEq.rfl, dLst_s, dTup_s, dNew_s, dEq_nil, Nat.zero_le, put_name, put_tt, put_tl, puts_nil, puts_name, sAsg, mo k]) ⟨by omega, by omega, decide_eq_true ((Int.le_ediv_iff_mul_le (by omega)).mp (Int.le_refl _))⟩
  obtain ⟨l', e2, m2, u2⟩ := max_comp (S := S) (ε := fr4 ns a b c d (some WW) x3 x4 x5 x6 x7 x8 x13 x14 x15 x16 x17 x18) (t := tBl (eOp2 dGe (eOp2 dMul (eVar 18) (eVar 10)) (eVar 9))) (f := fun k => decide (a ≤ k * b)) (m := -(-a / b)) (by simp) rfl
    (fun k _ _ => by simp only [runU, eVar, eC, xv_non, xv_bl, xv_int, xv_str, xv_lst, xv_tup, xv_scr, xv_ref, xv_ins, xv_fn, xv_ty, bind_ok, lft_ok, lft_exc, of_some, fnRes_rt, fnRes_nx, fnRes_ex, eOp1, eOp2, eOpN, esNil, esCons, sSeq, sSet, sIf, sRet, sRetN, sExpr, sNop, tBl, tOf, tAnd, tOr, tNot, asB, sSetIx, List.map_cons, List.map_nil, List.replicate, Nat.zero_add, Nat.reduceAdd, Nat.reduceSub, List.cons_append, List.nil_append, List.getElem?_cons_zero, List.getElem?_cons_succ, List.set_cons_zero, List.set_cons_succ, List.length_cons, List.length_nil, dIx, dGt, dGe, dLt, dLe, dAdd, dSub, dMul, dMod, dDiv, dPow, dNeg, dInt, drf, dLen, if_true, if_false, Bool.false_eq_true, decide_eq_true_eq, dSetIx, Option.map_some, decide_true, decide_false, truth, eAnd, eOr, eNot, eIf, eIsT, dIsT, kindD, tysOf, dIsi, isB, dIs, dIsNot, isNon, List.any_cons, List.any_nil, Bool.or_false, Bool.or_true, Bool.false_or, Bool.true_or, Bool.and_true, Bool.true_and, Bool.and_false, Bool.false_and, Bool.not_true, Bool.not_false, Nat.reduceLeDiff, Nat.reduceLT, Int.reduceLT, Int.reduceLE, and_self, and_true, true_and, reduceIte, sFor, lft_bad, dEq_ii, dEq_bb, dEq_ss, dEq_nn, dNe_ii, dNe_bb, dNe_ss, dNe_nn, BEq.rfl, dLst_s, dTup_s, dNew_s, dEq_nil, Nat.zero_le, put_name, put_tt, put_tl, puts_nil, puts_name, sAsg, mo k]) ⟨by omega, by omega, decide_eq_true ((cdv_mem (by omega) _).mpr (Int.le_refl _))⟩
  have g1 : maxL l = a / b := maxL_eq m1 fun y hy => (Int.le_ediv_iff_mul_le (by omega)).mpr (of_decide_eq_true (u1 y hy))
  have g2 : minL l' = -(-a / b) := minL_eq m2 fun y hy => (cdv_mem (by omega) _).mp (of_decide_eq_true (u2 y hy))
  unfold b_law_8
  simp only [runU, eVar, eC, xv_non, xv_bl, xv_int, xv_str, xv_lst, xv_tup, xv_scr, xv_ref, xv_ins, xv_fn, xv_ty, bind_ok, lft_ok, lft_exc, of_some, fnRes_rt, fnRes_nx, fnRes_ex, eOp1, eOp2, eOpN, esNil, esCons, sSeq, sSet, sIf, sRet, sRetN, sExpr, sNop, tBl, tOf, tAnd, tOr, tNot, asB, sSetIx, List.map_cons, List.map_nil, List.replicate, Nat.zero_add, Nat.reduceAdd, Nat.reduceSub, List.cons_append, List.nil_append, List.getElem?_cons_zero, List.getElem?_cons_succ, List.set_cons_zero, List.set_cons_succ, List.length_cons, List.length_nil, dIx, dGt, dGe, dLt, dLe, dAdd, dSub, dMul, dMod, dDiv, dPow, dNeg, dInt, drf, dLen, if_true, if_false, Bool.false_eq_true, decide_eq_true_eq, dSetIx, Option.map_some, decide_true, decide_false, truth, eAnd, eOr, eNot, eIf, eIsT, dIsT, kindD, tysOf, dIsi, isB, dIs, dIsNot, isNon, List.any_cons, List.any_nil, Bool.or_false, Bool.or_true, Bool.false_or, Bool.true_or, Bool.and_true, Bool.true_and, Bool.and_false, Bool.false_and, Bool.not_true, Bool.not_false, Nat.reduceLeDiff, Nat.reduceLT, Int.reduceLT, Int.reduceLE, and_self, and_true, true_and, reduceIte, sFor, lft_bad, dEq_ii, dEq_bb, dEq_ss, dEq_nn, dNe_ii, dNe_bb, dNe_ss, dNe_nn, BEq.rfl, dLst_s, dTup_s, dNew_s, dEq_nil, Nat.zero_le, put_name, put_tt, put_tl, puts_nil, puts_name, sAsg, sPar, e1, e2, dMaxL_ints (List.ne_nil_of_mem m1), dMinL_ints (List.ne_nil_of_mem m2), g1, g2]
theorem st9 (D : Drawn4 a b c d) : b_law_9 (fr4 ns a b c d (some WW) x3 x4 x5 x6 x7 x8 x13 x14 x15 x16 x17 x18) S = .nx (fr4 ns a b c d (some WW) (some (.int ((2 * a + b) / (2 * b)))) x4 x5 x6 x7 x8 x13 x14 x15 x16 x17 x18) S := by
  obtain ⟨a1, a2, b1, b2, c1, c2, d1, d2⟩ := D
  have hb : 0 < 2 * b := by omega
  have key : ∀ k : Int, (2 * k - 1) * b ≤ 2 * a ↔ k ≤ (2 * a + b) / (2 * b) := fun k => by
    rw [Int.le_ediv_iff_mul_le hb]
    have : (2 * k - 1) * b = k * (2 * b) - b := by grind
    omega
  have lo : -61 ≤ (2 * a + b) / (2 * b) := (key _).mp (by
    have : (123 : Int) ≤ 123 * b := le_mul_r (by omega) b1
    have : (2 * (-61) - 1) * b = - (123 * b) := by grind
    omega)
  have hi : (2 * a + b) / (2 * b) < 62 := by
    by_cases z : (2 * a + b) / (2 * b) < 62
    · exact z
    · exfalso
      have h := (key 62).mpr (by omega)
      have : (123 : Int) ≤ 123 * b := le_mul_r (by omega) b1
      have e : (2 * 62 - 1) * b = 123 * b := by grind
      omega
  have mo : ∀ k : Int, mulOk k b = true := fun k => mulOk_r (by omega) (by omega)
  have m2 : ∀ k : Int, mulOk 2 k = true := fun k => mulOk_l (by omega) (by omega)
  obtain ⟨l, e1, m1, u1⟩ := max_comp (S := S) (ε := fr4 ns a b c d (some WW) x3 x4 x5 x6 x7 x8 x13 x14 x15 x16 x17 x18) (t := tBl (eOp2 dLe (eOp2 dMul (eOp2 dSub (eOp2 dMul (eC (.int 2)) (eVar 18)) (eC (.int 1))) (eVar 10)) (eOp2 dMul (eC (.int 2)) (eVar 9)))) (f := fun k => decide ((2 * k - 1) * b ≤ 2 * a)) (m := (2 * a + b) / (2 * b)) (by simp) rfl
    (fun k _ _ => by simp only [runU, eVar, eC, xv_non, xv_bl, xv_int, xv_str, xv_lst, xv_tup, xv_scr, xv_ref, xv_ins, xv_fn, xv_ty, bind_ok, lft_ok, lft_exc, of_some, fnRes_rt, fnRes_nx, fnRes_ex, eOp1, eOp2, eOpN, esNil, esCons, sSeq, sSet, sIf, sRet, sRetN, sExpr, sNop, tBl, tOf, tAnd, tOr, tNot, asB, sSetIx, List.map_cons, List.map_nil, List.replicate, Nat.zero_add, Nat.reduceAdd, Nat.reduceSub, List.cons_append, List.nil_append, List.getElem?_cons_zero, List.getElem?_cons_succ, List.set_cons_zero, List.set_cons_succ, List.length_cons, List.length_nil, dIx, dGt, dGe, dLt, dLe, dAdd, dSub, dMul, dMod, dDiv, dPow, dNeg, dInt, drf, dLen, if_true, if_false, Bool.false_eq_true, decide_eq_true_eq, dSetIx, Option.map_some, decide_true, decide_false, truth, eAnd, eOr, eNot, eIf, eIsT, dIsT, kindD, tysOf, dIsi, isB, dIs, dIsNot, isNon, List.any_cons, List.any_nil, Bool.or_false, Bool.or_true, Bool.false_or, Bool.true_or, Bool.and_true, Bool.true_and, Bool.and_false, Bool.false_and, Bool.not_true, Bool.not_false, Nat.reduceLeDiff, Nat.reduceLT, Int.reduceLT, Int.reduceLE, and_self, and_true, true_and, reduceIte, sFor, lft_bad, dEq_ii, dEq_bb, dEq_ss, dEq_nn, dNe_ii, dNe_bb, dNe_ss, dNe_nn, BEq.rfl, dLst_s, dTup_s, dNew_s, dEq_nil, Nat.zero_le, put_name, put_tt, put_tl, puts_nil, puts_name, sAsg, mo, m2]) ⟨lo, hi, decide_eq_true ((key _).mpr (Int.le_refl _))⟩
  have g1 : maxL l = (2 * a + b) / (2 * b) := maxL_eq m1 fun y hy => (key y).mp (of_decide_eq_true (u1 y hy))
  unfold b_law_9
  simp only [runU, eVar, eC, xv_non, xv_bl, xv_int, xv_str, xv_lst, xv_tup, xv_scr, xv_ref, xv_ins, xv_fn, xv_ty, bind_ok, lft_ok, lft_exc, of_some, fnRes_rt, fnRes_nx, fnRes_ex, eOp1, eOp2, eOpN, esNil, esCons, sSeq, sSet, sIf, sRet, sRetN, sExpr, sNop, tBl, tOf, tAnd, tOr, tNot, asB, sSetIx, List.map_cons, List.map_nil, List.replicate, Nat.zero_add, Nat.reduceAdd, Nat.reduceSub, List.cons_append, List.nil_append, List.getElem?_cons_zero, List.getElem?_cons_succ, List.set_cons_zero, List.set_cons_succ, List.length_cons, List.length_nil, dIx, dGt, dGe, dLt, dLe, dAdd, dSub, dMul, dMod, dDiv, dPow, dNeg, dInt, drf, dLen, if_true, if_false, Bool.false_eq_true, decide_eq_true_eq, dSetIx, Option.map_some, decide_true, decide_false, truth, eAnd, eOr, eNot, eIf, eIsT, dIsT, kindD, tysOf, dIsi, isB, dIs, dIsNot, isNon, List.any_cons, List.any_nil, Bool.or_false, Bool.or_true, Bool.false_or, Bool.true_or, Bool.and_true, Bool.true_and, Bool.and_false, Bool.false_and, Bool.not_true, Bool.not_false, Nat.reduceLeDiff, Nat.reduceLT, Int.reduceLT, Int.reduceLE, and_self, and_true, true_and, reduceIte, sFor, lft_bad, dEq_ii, dEq_bb, dEq_ss, dEq_nn, dNe_ii, dNe_bb, dNe_ss, dNe_nn, BEq.rfl, dLst_s, dTup_s, dNew_s, dEq_nil, Nat.zero_le, put_name, put_tt, put_tl, puts_nil, puts_name, sAsg, e1, dMaxL_ints (List.ne_nil_of_mem m1), g1]
theorem ints_shp {x y z : Int} : shp 11 (.tup [.int x, .int y, .int z]) = true := by simp [shp, shps]
theorem st10 (D : Drawn4 a b c d) (L : Low a b p q) : b_law_10 (fr4 ns a b c d x2 (some (.int ((2 * a + b) / (2 * b)))) x4 x5 (some (.int (a / b))) (some (.int (-(-a / b)))) x8 (some (fr p q)) x14 x15 x16 x17 x18) S = .nx (fr4 ns a b c d x2 (some (.int ((2 * a + b) / (2 * b)))) x4 x5 (some (.int (a / b))) (some (.int (-(-a / b)))) x8 (some (fr p q)) x14 x15 x16 x17 x18) S := by
  obtain ⟨a1, a2, b1, b2, c1, c2, d1, d2⟩ := D
  have q0 := L.q0
  have q1 := L.qb
  obtain ⟨g, g0, ea, eb⟩ := L.g
  have e1 : p / q = a / b := by rw [ea, eb, Int.mul_ediv_mul_of_pos_left _ _ g0]
  have e2 : -p / q = -a / b := by rw [ea, eb, ← Int.neg_mul, Int.mul_ediv_mul_of_pos_left _ _ g0]
  have e3 : (2 * p + q) / (2 * q) = (2 * a + b) / (2 * b) := by
    rw [ea, eb, show 2 * (p * g) + q * g = (2 * p + q) * g from by grind, show 2 * (q * g) = (2 * q) * g from by grind, Int.mul_ediv_mul_of_pos_left _ _ g0]
  have al := alike_eq (S := S) (x := .tup [.int (p / q), .int (-(-p / q)), .int ((2 * p + q) / (2 * q))]) (y := .tup [.int (a / b), .int (-(-a / b)), .int ((2 * a + b) / (2 * b))]) (by rw [e1, e2, e3]) ints_shp (small_tup (by simp) (by simp [shrts, shrt]))
  unfold b_law_10 b_law_10_1
  simp only [runU, eVar, eC, xv_non, xv_bl, xv_int, xv_str, xv_lst, xv_tup, xv_scr, xv_ref, xv_ins, xv_fn, xv_ty, bind_ok, lft_ok, lft_exc, of_some, fnRes_rt, fnRes_nx, fnRes_ex, eOp1, eOp2, eOpN, esNil, esCons, sSeq, sSet, sIf, sRet, sRetN, sExpr, sNop, tBl, tOf, tAnd, tOr, tNot, asB, sSetIx, List.map_cons, List.map_nil, List.replicate, Nat.zero_add, Nat.reduceAdd, Nat.reduceSub, List.cons_append, List.nil_append, List.getElem?_cons_zero, List.getElem?_cons_succ, List.set_cons_zero, List.set_cons_succ, List.length_cons, List.length_nil, dIx, dGt, dGe, dLt, dLe, dAdd, dSub, dMul, dMod, dDiv, dPow, dNeg, dInt, drf, dLen, if_true, if_false, Bool.false_eq_true, decide_eq_true_eq, dSetIx, Option.map_some, decide_true, decide_false, truth, eAnd, eOr, eNot, eIf, eIsT, dIsT, kindD, tysOf, dIsi, isB, dIs, dIsNot, isNon, List.any_cons, List.any_nil, Bool.or_false, Bool.or_true, Bool.false_or, Bool.true_or, Bool.and_true, Bool.true_and, Bool.and_false, Bool.false_and, Bool.not_true, Bool.not_false, Nat.reduceLeDiff, Nat.reduceLT, Int.reduceLT, Int.reduceLE, and_self, and_true, true_and, reduceIte, sFor, lft_bad, dEq_ii, dEq_bb, dEq_ss, dEq_nn, dNe_ii, dNe_bb, dNe_ss, dNe_nn, BEq.rfl, dLst_s, dTup_s, dNew_s, dEq_nil, Nat.zero_le, put_name, put_tt, put_tl, puts_nil, puts_name, sAsg, eCall, floor_spec (p := p) (S := S) q0 (by omega), ceil_spec (p := p) (S := S) q0 (by omega), near_spec (p := p) (S := S) q0 (by omega), al]
end G

namespace G
open PySem PySem.Spec PyProof.Rows L2
open Qk10
variable {ns : List Int} {a b c d p q r s : Int} {S : Sto} {x2 x3 x4 x5 x6 x7 x8 x13 x14 x15 x16 x17 x18 : Option Da}
/-- a fraction in lowest terms, with a bound -/
def LowQ (m : Int) (x : QQ) : Prop := 0 < x.2 ∧ x.2 ≤ m ∧ Int.gcd x.1 x.2 = 1
theorem lowq_red {a b m : Int} (hb : 0 < b) (h : b ≤ m) : LowQ m (redP a b) := by
  obtain ⟨h1, h2⟩ := redP_pos (a := a) hb
  have g0 := gpos (a := a) hb
  exact ⟨h1, by omega, Int.gcd_ediv_gcd_ediv_gcd (by omega)⟩
noncomputable abbrev rowE : E := eCall d_reduced (esCons (eOp2 dSub (eCall d__law_taken (esCons (eVar 1) (esCons (eC (.int 40)) esNil))) (eC (.int 20))) (esCons (eOp2 dAdd (eC (.int 1)) (eCall d__law_taken (esCons (eVar 1) (esCons (eC (.int 6)) esNil)))) esNil))
theorem rowE_ok {ε : Env} (h : RowOk S 0 ns) (h1 : ε[1]? = some (some (.ref 0))) : ∃ x S', rowE ε S = .ok (frP x) S' ∧ RowOk S' 0 ns ∧ LowQ 6 x := by
  obtain ⟨v1, S1, e1, p1, q1, k1, _⟩ := taken_spec (m := 40) h (by decide) (by decide)
  obtain ⟨v2, S2, e2, p2, q2, k2, _⟩ := taken_spec (m := 6) k1 (by decide) (by decide)
  refine ⟨redP (v1 - 20) (1 + v2), S2, ?_, k2, lowq_red (by omega) (by omega)⟩
  unfold rowE
  simp only [runU, eVar, eC, xv_non, xv_bl, xv_int, xv_str, xv_lst, xv_tup, xv_scr, xv_ref, xv_ins, xv_fn, xv_ty, bind_ok, lft_ok, lft_exc, of_some, fnRes_rt, fnRes_nx, fnRes_ex, eOp1, eOp2, eOpN, esNil, esCons, sSeq, sSet, sIf, sRet, sRetN, sExpr, sNop, tBl, tOf, tAnd, tOr, tNot, asB, sSetIx, List.map_cons, List.map_nil, List.replicate, Nat.zero_add, Nat.reduceAdd, Nat.reduceSub, List.cons_append, List.nil_append, List.getElem?_cons_zero, List.getElem?_cons_succ, List.set_cons_zero, List.set_cons_succ, List.length_cons, List.length_nil, dIx, dGt, dGe, dLt, dLe, dAdd, dSub, dMul, dMod, dDiv, dPow, dNeg, dInt, drf, dLen, if_true, if_false, Bool.false_eq_true, decide_eq_true_eq, dSetIx, Option.map_some, decide_true, decide_false, truth, eAnd, eOr, eNot, eIf, eIsT, dIsT, kindD, tysOf, dIsi, isB, dIs, dIsNot, isNon, List.any_cons, List.any_nil, Bool.or_false, Bool.or_true, Bool.false_or, Bool.true_or, Bool.and_true, Bool.true_and, Bool.and_false, Bool.false_and, Bool.not_true, Bool.not_false, Nat.reduceLeDiff, Nat.reduceLT, Int.reduceLT, Int.reduceLE, and_self, and_true, true_and, reduceIte, sFor, lft_bad, dEq_ii, dEq_bb, dEq_ss, dEq_nn, dNe_ii, dNe_bb, dNe_ss, dNe_nn, BEq.rfl, dLst_s, dTup_s, dNew_s, dEq_nil, Nat.zero_le, put_name, put_tt, put_tl, puts_nil, puts_name, sAsg, eCall, h1, e1, e2, reduced_spec (a := v1 - 20) (b := 1 + v2) (S := S2) (by omega) (by omega), show ∀ x y, isExv (redD x y) = false from fun _ _ => id rfl]
  rfl
theorem rows_comp {ε : Env} (hj : 18 < ε.length) (h1 : ε[1]? = some (some (.ref 0))) : ∀ (ds : List Da) (S : Sto), RowOk S 0 ns → ∃ (l : List QQ) (S' : Sto), compL (.name 18) tYesD rowE ε ds S = .ok (l.map frP) S' ∧ RowOk S' 0 ns ∧ l.length = ds.length ∧ ∀ y ∈ l, LowQ 6 y
  | [], S, h => ⟨[], S, rfl, h, rfl, fun y hy => by cases hy⟩
  | d :: ds, S, h => by
    obtain ⟨x, S1, e1, k1, u1⟩ := rowE_ok (ε := ε.set 18 (some d)) h (by rw [List.getElem?_set_ne (by decide)]; exact h1)
    obtain ⟨l, S2, e2, k2, n2, u2⟩ := rows_comp hj h1 ds S1 k1
    refine ⟨x :: l, S2, ?_, k2, by simp [n2], fun y hy => ?_⟩
    · unfold compL
      rw [put_name]
      simp only [tYesD, Rs.bindN, if_true, e1, e2, List.map_cons]
    · rcases List.mem_cons.mp hy with e | e
      · rw [e]; exact u1
      · exact u2 y e
/-- the rows that the law draws -/
structure Rows (l : List QQ) : Prop where
  len : l.length ≤ 4
  low : ∀ y ∈ l, LowQ 6 y
theorem st11 (h : RowOk S 0 ns) : ∃ (l : List QQ) (S' : Sto), b_law_11 (fr4 ns a b c d x2 x3 x4 x5 x6 x7 x8 (some (fr p q)) (some (fr r s)) x15 x16 x17 x18) S =
    .nx (fr4 ns a b c d x2 x3 x4 x5 x6 x7 x8 (some (fr p q)) (some (fr r s)) (some (.lst (((p, q) :: (r, s) :: l).map frP))) (some (frP (0, 1))) x17 x18) S' ∧ RowOk S' 0 ns ∧ Rows l := by
  obtain ⟨v, S1, e1, p1, q1, k1, _⟩ := taken_spec (m := 5) h (by decide) (by decide)
  obtain ⟨l, S2, e2, k2, n2, u2⟩ := rows_comp (ε := (fr4 ns a b c d x2 x3 x4 x5 x6 x7 x8 (some (fr p q)) (some (fr r s)) x15 x16 x17 x18).set 18 none) (by simp) rfl (rng 0 v) S1 k1
  have hn : (rng 0 v).length = v.toNat := by simp [rng]
  have hl : l.length ≤ 4 := by omega
  refine ⟨l, S2, ?_, k2, ⟨hl, u2⟩⟩
  have ec : eComp [18] (iRange1 (esCons (eCall d__law_taken (esCons (eVar 1) (esCons (eC (.int 5)) esNil))) esNil)) (.name 18) tYesD rowE (fr4 ns a b c d x2 x3 x4 x5 x6 x7 x8 (some (fr p q)) (some (fr r s)) x15 x16 x17 x18) S = .ok (.lst (l.map frP)) S2 := by
    have e0 : iRange1 (esCons (eCall d__law_taken (esCons (eVar 1) (esCons (eC (.int 5)) esNil))) esNil) (fr4 ns a b c d x2 x3 x4 x5 x6 x7 x8 (some (fr p q)) (some (fr r s)) x15 x16 x17 x18) S = .ok (rng 0 v) S1 := by
      unfold iRange1
      simp only [runU, eVar, eC, xv_non, xv_bl, xv_int, xv_str, xv_lst, xv_tup, xv_scr, xv_ref, xv_ins, xv_fn, xv_ty, bind_ok, lft_ok, lft_exc, of_some, fnRes_rt, fnRes_nx, fnRes_ex, eOp1, eOp2, eOpN, esNil, esCons, sSeq, sSet, sIf, sRet, sRetN, sExpr, sNop, tBl, tOf, tAnd, tOr, tNot, asB, sSetIx, List.map_cons, List.map_nil, List.replicate, Nat.zero_add, Nat.reduceAdd, Nat.reduceSub, List.cons_append, List.nil_append, List.getElem?_cons_zero, List.getElem?_cons_succ, List.set_cons_zero, List.set_cons_succ, List.length_cons, List.length_nil, dIx, dGt, dGe, dLt, dLe, dAdd, dSub, dMul, dMod, dDiv, dPow, dNeg, dInt, drf, dLen, if_true, if_false, Bool.false_eq_true, decide_eq_true_eq, dSetIx, Option.map_some, decide_true, decide_false, truth, eAnd, eOr, eNot, eIf, eIsT, dIsT, kindD, tysOf, dIsi, isB, dIs, dIsNot, isNon, List.any_cons, List.any_nil, Bool.or_false, Bool.or_true, Bool.false_or, Bool.true_or, Bool.and_true, Bool.true_and, Bool.and_false, Bool.false_and, Bool.not_true, Bool.not_false, Nat.reduceLeDiff, Nat.reduceLT, Int.reduceLT, Int.reduceLE, and_self, and_true, true_and, reduceIte, sFor, lft_bad, dEq_ii, dEq_bb, dEq_ss, dEq_nn, dNe_ii, dNe_bb, dNe_ss, dNe_nn, BEq.rfl, dLst_s, dTup_s, dNew_s, dEq_nil, Nat.zero_le, put_name, put_tt, put_tl, puts_nil, puts_name, sAsg, eCall, e1]
      rw [if_pos (inW_62 (by omega) (by omega))]
    have e4 : (rng 0 v).length ≤ sizeLine := by rw [hn, sizeLine_eq]; omega
    have e3 : wipeE (fr4 ns a b c d x2 x3 x4 x5 x6 x7 x8 (some (fr p q)) (some (fr r s)) x15 x16 x17 x18) [18] = (fr4 ns a b c d x2 x3 x4 x5 x6 x7 x8 (some (fr p q)) (some (fr r s)) x15 x16 x17 x18).set 18 none := rfl
    unfold eComp
    rw [e0, bind_ok, if_pos e4, e3, e2]
    rfl
  have hs : 2 + (l.map frP).length ≤ sizeLine := by rw [List.length_map, sizeLine_eq]; omega
  unfold b_law_11
  unfold rowE at ec
  simp only [runU, eVar, eC, xv_non, xv_bl, xv_int, xv_str, xv_lst, xv_tup, xv_scr, xv_ref, xv_ins, xv_fn, xv_ty, bind_ok, lft_ok, lft_exc, of_some, fnRes_rt, fnRes_nx, fnRes_ex, eOp1, eOp2, eOpN, esNil, esCons, sSeq, sSet, sIf, sRet, sRetN, sExpr, sNop, tBl, tOf, tAnd, tOr, tNot, asB, sSetIx, List.map_cons, List.map_nil, List.replicate, Nat.zero_add, Nat.reduceAdd, Nat.reduceSub, List.cons_append, List.nil_append, List.getElem?_cons_zero, List.getElem?_cons_succ, List.set_cons_zero, List.set_cons_succ, List.length_cons, List.length_nil, dIx, dGt, dGe, dLt, dLe, dAdd, dSub, dMul, dMod, dDiv, dPow, dNeg, dInt, drf, dLen, if_true, if_false, Bool.false_eq_true, decide_eq_true_eq, dSetIx, Option.map_some, decide_true, decide_false, truth, eAnd, eOr, eNot, eIf, eIsT, dIsT, kindD, tysOf, dIsi, isB, dIs, dIsNot, isNon, List.any_cons, List.any_nil, Bool.or_false, Bool.or_true, Bool.false_or, Bool.true_or, Bool.and_true, Bool.true_and, Bool.and_false, Bool.false_and, Bool.not_true, Bool.not_false, Nat.reduceLeDiff, Nat.reduceLT, Int.reduceLT, Int.reduceLE, and_self, and_true, true_and, reduceIte, sFor, lft_bad, dEq_ii, dEq_bb, dEq_ss, dEq_nn, dNe_ii, dNe_bb, dNe_ss, dNe_nn, BEq.rfl, dLst_s, dTup_s, dNew_s, dEq_nil, Nat.zero_le, put_name, put_tt, put_tl, puts_nil, puts_name, sAsg, sPar, ec]
  rw [if_pos hs]
  simp only [runU, eVar, eC, xv_non, xv_bl, xv_int, xv_str, xv_lst, xv_tup, xv_scr, xv_ref, xv_ins, xv_fn, xv_ty, bind_ok, lft_ok, lft_exc, of_some, fnRes_rt, fnRes_nx, fnRes_ex, eOp1, eOp2, eOpN, esNil, esCons, sSeq, sSet, sIf, sRet, sRetN, sExpr, sNop, tBl, tOf, tAnd, tOr, tNot, asB, sSetIx, List.map_cons, List.map_nil, List.replicate, Nat.zero_add, Nat.reduceAdd, Nat.reduceSub, List.cons_append, List.nil_append, List.getElem?_cons_zero, List.getElem?_cons_succ, List.set_cons_zero, List.set_cons_succ, List.length_cons, List.length_nil, dIx, dGt, dGe, dLt, dLe, dAdd, dSub, dMul, dMod, dDiv, dPow, dNeg, dInt, drf, dLen, if_true, if_false, Bool.false_eq_true, decide_eq_true_eq, dSetIx, Option.map_some, decide_true, decide_false, truth, eAnd, eOr, eNot, eIf, eIsT, dIsT, kindD, tysOf, dIsi, isB, dIs, dIsNot, isNon, List.any_cons, List.any_nil, Bool.or_false, Bool.or_true, Bool.false_or, Bool.true_or, Bool.and_true, Bool.true_and, Bool.and_false, Bool.false_and, Bool.not_true, Bool.not_false, Nat.reduceLeDiff, Nat.reduceLT, Int.reduceLT, Int.reduceLE, and_self, and_true, true_and, reduceIte, sFor, lft_bad, dEq_ii, dEq_bb, dEq_ss, dEq_nn, dNe_ii, dNe_bb, dNe_ss, dNe_nn, BEq.rfl, dLst_s, dTup_s, dNew_s, dEq_nil, Nat.zero_le, put_name, put_tt, put_tl, puts_nil, puts_name, sAsg]
end G

namespace G
open PySem PySem.Spec PyProof.Rows L2
open Qk10
variable {ns : List Int} {a b c d p q r s : Int} {S : Sto} {x2 x3 x4 x5 x6 x7 x8 x13 x14 x15 x16 x17 x18 : Option Da}
theorem st12_loop : ∀ (l : List QQ) (acc : QQ) (w : Option Da), 0 < acc.2 → (∀ y ∈ l, 0 < y.2) → acc.2 * prodq l < 1073741824 →
    ∃ w', forL (.name 4) b_law_12_1 (l.map frP) (fr4 ns a b c d x2 x3 w x5 x6 x7 x8 x13 x14 x15 (some (frP acc)) x17 x18) S = .nx (fr4 ns a b c d x2 x3 w' x5 x6 x7 x8 x13 x14 x15 (some (frP (l.foldl stp acc))) x17 x18) S ∧ (w' = w ∨ ∃ x, w' = some (frP x))
  | [], acc, w, _, _, _ => ⟨w, rfl, .inl rfl⟩
  | x :: l, acc, w, h0, hl, hb => by
    have hx := hl x List.mem_cons_self
    have hl' : ∀ y ∈ l, 0 < y.2 := fun y hy => hl y (List.mem_cons_of_mem _ hy)
    obtain ⟨a1, a2, a3, a4, a5⟩ := stp_ok h0 hx hl' hb
    obtain ⟨w', ih, iw⟩ := st12_loop l (stp acc x) (some (frP x)) a2 hl' a3
    refine ⟨w', ?_, iw.elim (fun e => .inr ⟨x, e⟩) .inr⟩
    rw [List.map_cons, forL_cons (ε1 := fr4 ns a b c d x2 x3 (some (frP x)) x5 x6 x7 x8 x13 x14 x15 (some (frP acc)) x17 x18) (ε2 := fr4 ns a b c d x2 x3 (some (frP x)) x5 x6 x7 x8 x13 x14 x15 (some (frP (stp acc x))) x17 x18) (S2 := S) rfl ?_]
    · exact ih
    · unfold b_law_12_1
      simp only [runU, eVar, eC, xv_non, xv_bl, xv_int, xv_str, xv_lst, xv_tup, xv_scr, xv_ref, xv_ins, xv_fn, xv_ty, bind_ok, lft_ok, lft_exc, of_some, fnRes_rt, fnRes_nx, fnRes_ex, eOp1, eOp2, eOpN, esNil, esCons, sSeq, sSet, sIf, sRet, sRetN, sExpr, sNop, tBl, tOf, tAnd, tOr, tNot, asB, sSetIx, List.map_cons, List.map_nil, List.replicate, Nat.zero_add, Nat.reduceAdd, Nat.reduceSub, List.cons_append, List.nil_append, List.getElem?_cons_zero, List.getElem?_cons_succ, List.set_cons_zero, List.set_cons_succ, List.length_cons, List.length_nil, dIx, dGt, dGe, dLt, dLe, dAdd, dSub, dMul, dMod, dDiv, dPow, dNeg, dInt, drf, dLen, if_true, if_false, Bool.false_eq_true, decide_eq_true_eq, dSetIx, Option.map_some, decide_true, decide_false, truth, eAnd, eOr, eNot, eIf, eIsT, dIsT, kindD, tysOf, dIsi, isB, dIs, dIsNot, isNon, List.any_cons, List.any_nil, Bool.or_false, Bool.or_true, Bool.false_or, Bool.true_or, Bool.and_true, Bool.true_and, Bool.and_false, Bool.false_and, Bool.not_true, Bool.not_false, Nat.reduceLeDiff, Nat.reduceLT, Int.reduceLT, Int.reduceLE, and_self, and_true, true_and, reduceIte, sFor, lft_bad, dEq_ii, dEq_bb, dEq_ss, dEq_nn, dNe_ii, dNe_bb, dNe_ss, dNe_nn, BEq.rfl, dLst_s, dTup_s, dNew_s, dEq_nil, Nat.zero_le, put_name, put_tt, put_tl, puts_nil, puts_name, sAsg, eCall, at2_0, at2_1, mulOk_r (i := acc.1) (j := x.2) (by omega) (by omega), mulOk_r (i := x.1) (j := acc.2) (by omega) (by omega), mulOk_r (i := acc.2) (j := x.2) (by omega) (by omega), low_spec (a := acc.1 * x.2 + x.1 * acc.2) (b := acc.2 * x.2) (S := S) (Int.mul_pos h0 hx) a1]
      rfl
/-- all the rows of the law -/
structure AllRows (l : List QQ) : Prop where
  low : ∀ y ∈ l, LowQ 60 y
  prod : prodq l < 1073741824
  ne : 2 ≤ l.length
  len : l.length ≤ 6
theorem prod6 : ∀ {l : List QQ}, (∀ y ∈ l, LowQ 6 y) → 0 < prodq l ∧ prodq l ≤ 6 ^ l.length
  | [], _ => by decide
  | x :: l, h => by
    obtain ⟨h1, h2⟩ := prod6 (l := l) fun y hy => h y (List.mem_cons_of_mem _ hy)
    obtain ⟨g1, g2, _⟩ := h x List.mem_cons_self
    refine ⟨Int.mul_pos g1 h1, ?_⟩
    show x.2 * prodq l ≤ _
    have := Int.mul_le_mul g2 h2 (by omega) (by omega)
    rw [List.length_cons, Int.pow_succ]
    omega
theorem all_rows {l : List QQ} (R : Rows l) (hp : LowQ 60 (p, q)) (hr : LowQ 60 (r, s)) : AllRows ((p, q) :: (r, s) :: l) := by
  obtain ⟨h1, h2⟩ := prod6 R.low
  have h3 : prodq l ≤ 1296 := by
    have hl := R.len
    have : (6 : Int) ^ l.length ≤ 1296 := by
      match h : l.length, hl with
      | 0, _ => decide
      | 1, _ => decide
      | 2, _ => decide
      | 3, _ => decide
      | 4, _ => decide
    omega
  have hs60 : s ≤ 60 := hr.2.1
  have hq60 : q ≤ 60 := hp.2.1
  have hs0 : 0 < s := hr.1
  have hq0 : 0 < q := hp.1
  have m1 : s * prodq l ≤ 60 * 1296 := Int.mul_le_mul hs60 h3 (by omega) (by omega)
  have m0 : 0 < s * prodq l := Int.mul_pos hs0 h1
  have m2 : q * (s * prodq l) ≤ 60 * (60 * 1296) := Int.mul_le_mul hq60 m1 (by omega) (by omega)
  refine ⟨fun y hy => ?_, ?_, by simp, by simp; have := R.len; omega⟩
  · rcases List.mem_cons.mp hy with e | hy
    · rw [e]; exact hp
    · rcases List.mem_cons.mp hy with e | hy
      · rw [e]; exact hr
      · obtain ⟨g1, g2, g3⟩ := R.low y hy
        exact ⟨g1, by omega, g3⟩
  · show q * (s * prodq l) < _
    omega
theorem st12 {l : List QQ} (R : AllRows l) : ∃ w, b_law_12 (fr4 ns a b c d x2 x3 x4 x5 x6 x7 x8 x13 x14 (some (.lst (l.map frP))) (some (frP (0, 1))) x17 x18) S = .nx (fr4 ns a b c d x2 x3 w x5 x6 x7 x8 x13 x14 (some (.lst (l.map frP))) (some (frP (tot l))) x17 x18) S ∧ (w = x4 ∨ ∃ x, w = some (frP x)) := by
  obtain ⟨w, e, ew⟩ := st12_loop (ns := ns) (a := a) (b := b) (c := c) (d := d) (x2 := x2) (x3 := x3) (x5 := x5) (x6 := x6) (x7 := x7) (x8 := x8) (x13 := x13) (x14 := x14) (x15 := some (.lst (l.map frP))) (x17 := x17) (x18 := x18) (S := S) l (0, 1) x4 (by decide) (fun y hy => (R.low y hy).1) (by have := R.prod; simpa using this)
  refine ⟨w, ?_, ew⟩
  unfold b_law_12
  simp only [runU, eVar, eC, xv_non, xv_bl, xv_int, xv_str, xv_lst, xv_tup, xv_scr, xv_ref, xv_ins, xv_fn, xv_ty, bind_ok, lft_ok, lft_exc, of_some, fnRes_rt, fnRes_nx, fnRes_ex, eOp1, eOp2, eOpN, esNil, esCons, sSeq, sSet, sIf, sRet, sRetN, sExpr, sNop, tBl, tOf, tAnd, tOr, tNot, asB, sSetIx, List.map_cons, List.map_nil, List.replicate, Nat.zero_add, Nat.reduceAdd, Nat.reduceSub, List.cons_append, List.nil_append, List.getElem?_cons_zero, List.getElem?_cons_succ, List.set_cons_zero, List.set_cons_succ, List.length_cons, List.length_nil, dIx, dGt, dGe, dLt, dLe, dAdd, dSub, dMul, dMod, dDiv, dPow, dNeg, dInt, drf, dLen, if_true, if_false, Bool.false_eq_true, decide_eq_true_eq, dSetIx, Option.map_some, decide_true, decide_false, truth, eAnd, eOr, eNot, eIf, eIsT, dIsT, kindD, tysOf, dIsi, isB, dIs, dIsNot, isNon, List.any_cons, List.any_nil, Bool.or_false, Bool.or_true, Bool.false_or, Bool.true_or, Bool.and_true, Bool.true_and, Bool.and_false, Bool.false_and, Bool.not_true, Bool.not_false, Nat.reduceLeDiff, Nat.reduceLT, Int.reduceLT, Int.reduceLE, and_self, and_true, true_and, reduceIte, sFor, lft_bad, dEq_ii, dEq_bb, dEq_ss, dEq_nn, dNe_ii, dNe_bb, dNe_ss, dNe_nn, BEq.rfl, dLst_s, dTup_s, dNew_s, dEq_nil, Nat.zero_le, put_name, put_tt, put_tl, puts_nil, puts_name, sAsg, iVal, items, e]
  rfl
theorem st13 {l : List QQ} (R : AllRows l) : b_law_13 (fr4 ns a b c d x2 x3 x4 x5 x6 x7 x8 x13 x14 (some (.lst (l.map frP))) (some (frP (tot l))) x17 x18) S = .nx (fr4 ns a b c d x2 x3 x4 x5 x6 x7 x8 x13 x14 (some (.lst (l.map frP))) (some (frP (tot l))) x17 x18) S := by
  have al := alike_eq (S := S) (x := frP (tot l)) rfl (fr_shp (by decide)) fr_shrt
  unfold b_law_13 b_law_13_1
  simp only [runU, eVar, eC, xv_non, xv_bl, xv_int, xv_str, xv_lst, xv_tup, xv_scr, xv_ref, xv_ins, xv_fn, xv_ty, bind_ok, lft_ok, lft_exc, of_some, fnRes_rt, fnRes_nx, fnRes_ex, eOp1, eOp2, eOpN, esNil, esCons, sSeq, sSet, sIf, sRet, sRetN, sExpr, sNop, tBl, tOf, tAnd, tOr, tNot, asB, sSetIx, List.map_cons, List.map_nil, List.replicate, Nat.zero_add, Nat.reduceAdd, Nat.reduceSub, List.cons_append, List.nil_append, List.getElem?_cons_zero, List.getElem?_cons_succ, List.set_cons_zero, List.set_cons_succ, List.length_cons, List.length_nil, dIx, dGt, dGe, dLt, dLe, dAdd, dSub, dMul, dMod, dDiv, dPow, dNeg, dInt, drf, dLen, if_true, if_false, Bool.false_eq_true, decide_eq_true_eq, dSetIx, Option.map_some, decide_true, decide_false, truth, eAnd, eOr, eNot, eIf, eIsT, dIsT, kindD, tysOf, dIsi, isB, dIs, dIsNot, isNon, List.any_cons, List.any_nil, Bool.or_false, Bool.or_true, Bool.false_or, Bool.true_or, Bool.and_true, Bool.true_and, Bool.and_false, Bool.false_and, Bool.not_true, Bool.not_false, Nat.reduceLeDiff, Nat.reduceLT, Int.reduceLT, Int.reduceLE, and_self, and_true, true_and, reduceIte, sFor, lft_bad, dEq_ii, dEq_bb, dEq_ss, dEq_nn, dNe_ii, dNe_bb, dNe_ss, dNe_nn, BEq.rfl, dLst_s, dTup_s, dNew_s, dEq_nil, Nat.zero_le, put_name, put_tt, put_tl, puts_nil, puts_name, sAsg, eCall, total_spec (S := S) (fun y hy => (R.low y hy).1) R.prod, al]
theorem st14 {l : List QQ} (R : AllRows l) : ∃ M : List QQ, M.Pairwise leQ ∧ M.Perm l ∧ ∃ f g, M[(M.length - 1) / 2]? = some f ∧ M[M.length / 2]? = some g ∧
    b_law_14 (fr4 ns a b c d x2 x3 x4 x5 x6 x7 x8 x13 x14 (some (.lst (l.map frP))) x16 x17 x18) S = .nx (fr4 ns a b c d x2 x3 x4 (some (frP (midP f g))) x6 x7 x8 x13 x14 (some (.lst (l.map frP))) x16 x17 x18) S := by
  match l, R with
  | [], R => exact absurd R.ne (by decide)
  | x :: xs, R =>
    have hn := R.len
    rw [List.length_cons] at hn
    obtain ⟨M, h1, h2, f, g, e1, e2, e3⟩ := median_spec (S := S) (fun y hy => ⟨(R.low y hy).1, (R.low y hy).2.1⟩) (show xs.length ≤ 100 by omega)
    refine ⟨M, h1, h2, f, g, e1, e2, ?_⟩
    rw [List.map_cons] at e3
    unfold b_law_14
    simp only [runU, eVar, eC, xv_non, xv_bl, xv_int, xv_str, xv_lst, xv_tup, xv_scr, xv_ref, xv_ins, xv_fn, xv_ty, bind_ok, lft_ok, lft_exc, of_some, fnRes_rt, fnRes_nx, fnRes_ex, eOp1, eOp2, eOpN, esNil, esCons, sSeq, sSet, sIf, sRet, sRetN, sExpr, sNop, tBl, tOf, tAnd, tOr, tNot, asB, sSetIx, List.map_cons, List.map_nil, List.replicate, Nat.zero_add, Nat.reduceAdd, Nat.reduceSub, List.cons_append, List.nil_append, List.getElem?_cons_zero, List.getElem?_cons_succ, List.set_cons_zero, List.set_cons_succ, List.length_cons, List.length_nil, dIx, dGt, dGe, dLt, dLe, dAdd, dSub, dMul, dMod, dDiv, dPow, dNeg, dInt, drf, dLen, if_true, if_false, Bool.false_eq_true, decide_eq_true_eq, dSetIx, Option.map_some, decide_true, decide_false, truth, eAnd, eOr, eNot, eIf, eIsT, dIsT, kindD, tysOf, dIsi, isB, dIs, dIsNot, isNon, List.any_cons, List.any_nil, Bool.or_false, Bool.or_true, Bool.false_or, Bool.true_or, Bool.and_true, Bool.true_and, Bool.and_false, Bool.false_and, Bool.not_true, Bool.not_false, Nat.reduceLeDiff, Nat.reduceLT, Int.reduceLT, Int.reduceLE, and_self, and_true, true_and, reduceIte, sFor, lft_bad, dEq_ii, dEq_bb, dEq_ss, dEq_nn, dNe_ii, dNe_bb, dNe_ss, dNe_nn, BEq.rfl, dLst_s, dTup_s, dNew_s, dEq_nil, Nat.zero_le, put_name, put_tt, put_tl, puts_nil, puts_name, sAsg, eCall, e3]
end G

namespace G
open PySem PySem.Spec PyProof.Rows L2
open Qk10
variable {ns : List Int} {a b c d p q r s : Int} {S : Sto} {x2 x3 x4 x5 x6 x7 x8 x13 x14 x15 x16 x17 x18 : Option Da}
/-- the middle of two lies between them -/
theorem redP_x {a b : Int} (hb : 0 < b) : (redP a b).1 * b = a * (redP a b).2 := by
  obtain ⟨p, q, L⟩ := low_of (a := a) (b := b) hb
  have e : frP (redP a b) = fr p q := L.red
  have e1 : (redP a b).1 = p := by simpa [frP, fr] using congrArg (fun d => match d with | Da.tup [.int x, _] => x | _ => 0) e
  have e2 : (redP a b).2 = q := by simpa [frP, fr] using congrArg (fun d => match d with | Da.tup [_, .int x] => x | _ => 0) e
  obtain ⟨g, g0, ea, eb⟩ := L.g
  rw [e1, e2, ea, eb]
  grind
theorem mid_ok {f g : QQ} (hf : 0 < f.2) (hg : 0 < g.2) (h : leQ f g) : 0 < (midP f g).2 ∧ leQ f (midP f g) ∧ leQ (midP f g) g := by
  have m0 : 0 < f.2 * g.2 := Int.mul_pos hf hg
  obtain ⟨t0, _⟩ := redP_pos (a := f.1 * g.2 + g.1 * f.2) m0
  have tx := redP_x (a := f.1 * g.2 + g.1 * f.2) m0
  unfold midP
  generalize redP (f.1 * g.2 + g.1 * f.2) (f.2 * g.2) = t at t0 tx ⊢
  dsimp only
  have n0 : 0 < t.2 * 2 := by omega
  obtain ⟨u0, _⟩ := redP_pos (a := t.1 * 1) n0
  have ux := redP_x (a := t.1 * 1) n0
  generalize redP (t.1 * 1) (t.2 * 2) = m at u0 ux ⊢
  have key : m.1 * 2 * (f.2 * g.2) = (f.1 * g.2 + g.1 * f.2) * m.2 := by
    have e : t.2 * (m.1 * 2 * (f.2 * g.2)) = t.2 * ((f.1 * g.2 + g.1 * f.2) * m.2) := by grind
    exact Int.eq_of_mul_eq_mul_left (by omega) e
  unfold leQ at *
  have hm : f.1 * g.2 * m.2 ≤ g.1 * f.2 * m.2 := Int.mul_le_mul_of_nonneg_right h (by omega)
  refine ⟨u0, ?_, ?_⟩
  · have : (2 * g.2) * (f.1 * m.2) ≤ (2 * g.2) * (m.1 * f.2) := by grind
    exact Int.le_of_mul_le_mul_left this (by omega)
  · have : (2 * f.2) * (m.1 * g.2) ≤ (2 * f.2) * (g.1 * m.2) := by grind
    exact Int.le_of_mul_le_mul_left this (by omega)
theorem frP_inj {x y : QQ} (e : frP x = frP y) : x = y := by
  obtain ⟨a, b⟩ := x
  obtain ⟨c, d⟩ := y
  simp [frP, fr] at e
  rw [e.1, e.2]
theorem mid_same {f : QQ} {m : Int} (h : LowQ m f) : midP f f = f := by
  obtain ⟨h0, _, hc⟩ := h
  have m0 : 0 < f.2 * f.2 := Int.mul_pos h0 h0
  apply frP_inj
  unfold midP
  dsimp only
  have e1 : redP (f.1 * f.2 + f.1 * f.2) (f.2 * f.2) = redP (2 * f.1) f.2 := frP_inj (by
    show redD _ _ = redD _ _
    rw [show f.1 * f.2 + f.1 * f.2 = (2 * f.1) * f.2 from by grind, red_scale h0 h0])
  rw [e1]
  obtain ⟨p, q, L⟩ := low_of (a := 2 * f.1) (b := f.2) h0
  have e2 : redP (2 * f.1) f.2 = (p, q) := frP_inj L.red
  rw [e2]
  obtain ⟨g, g0, ea, eb⟩ := L.g
  have q0 := L.q0
  show redD (p * 1) (q * 2) = _
  rw [← red_scale g0 (by omega), show p * 1 * g = f.1 * 2 from by grind, show q * 2 * g = f.2 * 2 from by rw [eb]; grind, red_scale (by decide) h0]
  exact red_low hc
theorem cnt_take {P : QQ → Bool} {M : List QQ} {k : Nat} (h : ∀ i x, k ≤ i → M[i]? = some x → P x = false) : (M.filter P).length ≤ k := by
  have e : (M.drop k).filter P = [] := List.filter_eq_nil_iff.mpr fun x hx => by
    obtain ⟨i, hi⟩ := List.getElem?_of_mem hx
    rw [List.getElem?_drop] at hi
    rw [h _ _ (Nat.le_add_right _ _) hi]; decide
  have e2 : (M.filter P).length = ((M.take k).filter P).length := by
    conv => lhs; rw [← List.take_append_drop k M, List.filter_append, e, List.append_nil]
  rw [e2]
  exact Nat.le_trans (List.length_filter_le _ _) (by rw [List.length_take]; exact Nat.min_le_left _ _)
theorem cnt_drop {P : QQ → Bool} {M : List QQ} {k : Nat} (h : ∀ i x, i < k → M[i]? = some x → P x = false) : (M.filter P).length ≤ M.length - k := by
  have e : (M.take k).filter P = [] := List.filter_eq_nil_iff.mpr fun x hx => by
    obtain ⟨i, hi⟩ := List.getElem?_of_mem hx
    rw [List.getElem?_take] at hi
    by_cases z : i < k
    · rw [if_pos z] at hi; rw [h _ _ z hi]; decide
    · rw [if_neg z] at hi; cases hi
  have e2 : (M.filter P).length = ((M.drop k).filter P).length := by
    conv => lhs; rw [← List.take_append_drop k M, List.filter_append, e, List.nil_append]
  rw [e2, ← List.length_drop]
  exact List.length_filter_le _ _
theorem sorted_at {M : List QQ} (hs : M.Pairwise leQ) {i j : Nat} {x y : QQ} (h : i ≤ j) (hx : M[i]? = some x) (hy : M[j]? = some y) : leQ x y := by
  by_cases z : i = j
  · subst z
    rw [hx] at hy
    cases hy
    exact Int.le_refl _
  · obtain ⟨h1, e1⟩ := List.getElem?_eq_some_iff.mp hx
    obtain ⟨h2, e2⟩ := List.getElem?_eq_some_iff.mp hy
    rw [← e1, ← e2]
    exact List.pairwise_iff_getElem.mp hs i j h1 h2 (by omega)
/-- what the counts say -/
theorem counts {l M : List QQ} {f g : QQ} (R : AllRows l) (hs : M.Pairwise leQ) (hp : M.Perm l) (hf : M[(M.length - 1) / 2]? = some f) (hg : M[M.length / 2]? = some g) :
    0 < (midP f g).2 ∧ 2 * (l.filter fun x => decide (x.1 * (midP f g).2 < (midP f g).1 * x.2)).length ≤ l.length ∧
    2 * (l.filter fun x => decide ((midP f g).1 * x.2 < x.1 * (midP f g).2)).length ≤ l.length ∧ (l.length % 2 = 1 → midP f g ∈ l) := by
  have hM : ∀ y ∈ M, LowQ 60 y := fun y hy => R.low y (hp.mem_iff.mp hy)
  have hfm := List.mem_of_getElem? hf
  have hgm := List.mem_of_getElem? hg
  have hne := R.ne
  have hlen := hp.length_eq
  obtain ⟨m0, m1, m2⟩ := mid_ok (hM f hfm).1 (hM g hgm).1 (sorted_at hs (by omega) hf hg)
  refine ⟨m0, ?_, ?_, fun ho => ?_⟩
  · rw [← (hp.filter _).length_eq]
    have := cnt_take (M := M) (k := M.length / 2) (P := fun x => decide (x.1 * (midP f g).2 < (midP f g).1 * x.2)) fun i x hi hx => by
      have h1 : leQ g x := sorted_at hs hi hg hx
      have h2 : leQ (midP f g) x := le_trans m0 (hM g hgm).1 (hM x (List.mem_of_getElem? hx)).1 m2 h1
      unfold leQ at h2
      exact decide_eq_false (by omega)
    omega
  · rw [← (hp.filter _).length_eq]
    have := cnt_drop (M := M) (k := (M.length - 1) / 2 + 1) (P := fun x => decide ((midP f g).1 * x.2 < x.1 * (midP f g).2)) fun i x hi hx => by
      have h1 : leQ x f := sorted_at hs (by omega) hx hf
      have h2 : leQ x (midP f g) := le_trans (hM x (List.mem_of_getElem? hx)).1 (hM f hfm).1 m0 h1 m1
      unfold leQ at h2
      exact decide_eq_false (by omega)
    omega
  · have e : (M.length - 1) / 2 = M.length / 2 := by omega
    rw [e, hg] at hf
    cases hf
    rw [mid_same (hM _ hgm)]
    exact hp.mem_iff.mp hgm
end G

namespace G
open PySem PySem.Spec PyProof.Rows L2
open Qk10
variable {ns : List Int} {a b c d p q r s : Int} {S : Sto} {x2 x3 x4 x5 x6 x7 x8 x13 x14 x15 x16 x17 x18 : Option Da}
theorem cnt_comp {t : TeE} {ε : Env} {f : QQ → Bool} {l : List QQ} (hl : l.length ≤ 6) (h : ε[15]? = some (some (.lst (l.map frP)))) (ht : ∀ x ∈ l, t ((ε.set 4 none).set 4 (some (frP x))) S = .ok (f x) S) :
    ∃ ds : List Da, eComp [4] (iVal (eVar 15)) (.name 4) t (eC (.int 1)) ε S = .ok (.lst ds) S ∧ ds.length = (l.filter f).length := by
  have hc := compL_filter (g := .name 4) (t := t) (a := eC (.int 1)) (ε := ε.set 4 none) (S := S) (f := fun d => f (frI d)) (v := fun _ => .int 1) (ds := l.map frP) fun d hd => by
    simp only [List.mem_map] at hd
    obtain ⟨x, hx, rfl⟩ := hd
    exact ⟨_, put_name, ht x hx, fun _ => rfl⟩
  have e0 : iVal (eVar 15) ε S = .ok (l.map frP) S := by
    unfold iVal eVar
    rw [h]
    rfl
  have e1 : (l.map frP).length ≤ sizeLine := by rw [List.length_map, sizeLine_eq]; omega
  have e2 : wipeE ε [4] = ε.set 4 none := rfl
  refine ⟨((l.map frP).filter fun d => f (frI d)).map fun _ => .int 1, ?_, ?_⟩
  · unfold eComp
    rw [e0, bind_ok, if_pos e1, e2, hc]
    rfl
  · rw [List.length_map, List.filter_map, List.length_map]
    rfl
theorem st15 {l : List QQ} {m : QQ} (R : AllRows l) (m0 : 0 < m.2 ∧ m.2 < 1073741824) : b_law_15 (fr4 ns a b c d x2 x3 x4 (some (frP m)) x6 x7 x8 x13 x14 (some (.lst (l.map frP))) x16 x17 x18) S =
    .nx (fr4 ns a b c d x2 x3 x4 (some (frP m)) (some (.int ((l.filter fun x => decide (x.1 * m.2 < m.1 * x.2)).length : Int))) x7 x8 x13 x14 (some (.lst (l.map frP))) x16 x17 x18) S := by
  obtain ⟨ds, e, n⟩ := cnt_comp (S := S) (ε := fr4 ns a b c d x2 x3 x4 (some (frP m)) x6 x7 x8 x13 x14 (some (.lst (l.map frP))) x16 x17 x18) (t := tBl (eOp2 dLt (eOp2 dMul (eOp2 dIx (eVar 4) (eC (.int 0))) (eOp2 dIx (eVar 5) (eC (.int 1)))) (eOp2 dMul (eOp2 dIx (eVar 5) (eC (.int 0))) (eOp2 dIx (eVar 4) (eC (.int 1)))))) (f := fun x => decide (x.1 * m.2 < m.1 * x.2)) R.len rfl fun x hx => by
    obtain ⟨h0, h1, _⟩ := R.low x hx
    simp only [runU, eVar, eC, xv_non, xv_bl, xv_int, xv_str, xv_lst, xv_tup, xv_scr, xv_ref, xv_ins, xv_fn, xv_ty, bind_ok, lft_ok, lft_exc, of_some, fnRes_rt, fnRes_nx, fnRes_ex, eOp1, eOp2, eOpN, esNil, esCons, sSeq, sSet, sIf, sRet, sRetN, sExpr, sNop, tBl, tOf, tAnd, tOr, tNot, asB, sSetIx, List.map_cons, List.map_nil, List.replicate, Nat.zero_add, Nat.reduceAdd, Nat.reduceSub, List.cons_append, List.nil_append, List.getElem?_cons_zero, List.getElem?_cons_succ, List.set_cons_zero, List.set_cons_succ, List.length_cons, List.length_nil, dIx, dGt, dGe, dLt, dLe, dAdd, dSub, dMul, dMod, dDiv, dPow, dNeg, dInt, drf, dLen, if_true, if_false, Bool.false_eq_true, decide_eq_true_eq, dSetIx, Option.map_some, decide_true, decide_false, truth, eAnd, eOr, eNot, eIf, eIsT, dIsT, kindD, tysOf, dIsi, isB, dIs, dIsNot, isNon, List.any_cons, List.any_nil, Bool.or_false, Bool.or_true, Bool.false_or, Bool.true_or, Bool.and_true, Bool.true_and, Bool.and_false, Bool.false_and, Bool.not_true, Bool.not_false, Nat.reduceLeDiff, Nat.reduceLT, Int.reduceLT, Int.reduceLE, and_self, and_true, true_and, reduceIte, sFor, lft_bad, dEq_ii, dEq_bb, dEq_ss, dEq_nn, dNe_ii, dNe_bb, dNe_ss, dNe_nn, BEq.rfl, dLst_s, dTup_s, dNew_s, dEq_nil, Nat.zero_le, put_name, put_tt, put_tl, puts_nil, puts_name, sAsg, at2_0, at2_1, mulOk_r (i := x.1) (j := m.2) (by omega) (by omega), mulOk_r (i := m.1) (j := x.2) (by omega) (by omega)]
  unfold b_law_15
  simp only [runU, eVar, eC, xv_non, xv_bl, xv_int, xv_str, xv_lst, xv_tup, xv_scr, xv_ref, xv_ins, xv_fn, xv_ty, bind_ok, lft_ok, lft_exc, of_some, fnRes_rt, fnRes_nx, fnRes_ex, eOp1, eOp2, eOpN, esNil, esCons, sSeq, sSet, sIf, sRet, sRetN, sExpr, sNop, tBl, tOf, tAnd, tOr, tNot, asB, sSetIx, List.map_cons, List.map_nil, List.replicate, Nat.zero_add, Nat.reduceAdd, Nat.reduceSub, List.cons_append, List.nil_append, List.getElem?_cons_zero, List.getElem?_cons_succ, List.set_cons_zero, List.set_cons_succ, List.length_cons, List.length_nil, dIx, dGt, dGe, dLt, dLe, dAdd, dSub, dMul, dMod, dDiv, dPow, dNeg, dInt, drf, dLen, if_true, if_false, Bool.false_eq_true, decide_eq_true_eq, dSetIx, Option.map_some, decide_true, decide_false, truth, eAnd, eOr, eNot, eIf, eIsT, dIsT, kindD, tysOf, dIsi, isB, dIs, dIsNot, isNon, List.any_cons, List.any_nil, Bool.or_false, Bool.or_true, Bool.false_or, Bool.true_or, Bool.and_true, Bool.true_and, Bool.and_false, Bool.false_and, Bool.not_true, Bool.not_false, Nat.reduceLeDiff, Nat.reduceLT, Int.reduceLT, Int.reduceLE, and_self, and_true, true_and, reduceIte, sFor, lft_bad, dEq_ii, dEq_bb, dEq_ss, dEq_nn, dNe_ii, dNe_bb, dNe_ss, dNe_nn, BEq.rfl, dLst_s, dTup_s, dNew_s, dEq_nil, Nat.zero_le, put_name, put_tt, put_tl, puts_nil, puts_name, sAsg, e, n]
theorem st16 {l : List QQ} {m : QQ} (R : AllRows l) (m0 : 0 < m.2 ∧ m.2 < 1073741824) : b_law_16 (fr4 ns a b c d x2 x3 x4 (some (frP m)) x6 x7 x8 x13 x14 (some (.lst (l.map frP))) x16 x17 x18) S =
    .nx (fr4 ns a b c d x2 x3 x4 (some (frP m)) x6 (some (.int ((l.filter fun x => decide (m.1 * x.2 < x.1 * m.2)).length : Int))) x8 x13 x14 (some (.lst (l.map frP))) x16 x17 x18) S := by
  obtain ⟨ds, e, n⟩ := cnt_comp (S := S) (ε := fr4 ns a b c d x2 x3 x4 (some (frP m)) x6 x7 x8 x13 x14 (some (.lst (l.map frP))) x16 x17 x18) (t := tBl (eOp2 dGt (eOp2 dMul (eOp2 dIx (eVar 4) (eC (.int 0))) (eOp2 dIx (eVar 5) (eC (.int 1)))) (eOp2 dMul (eOp2 dIx (eVar 5) (eC (.int 0))) (eOp2 dIx (eVar 4) (eC (.int 1)))))) (f := fun x => decide (m.1 * x.2 < x.1 * m.2)) R.len rfl fun x hx => by
    obtain ⟨h0, h1, _⟩ := R.low x hx
    simp only [runU, eVar, eC, xv_non, xv_bl, xv_int, xv_str, xv_lst, xv_tup, xv_scr, xv_ref, xv_ins, xv_fn, xv_ty, bind_ok, lft_ok, lft_exc, of_some, fnRes_rt, fnRes_nx, fnRes_ex, eOp1, eOp2, eOpN, esNil, esCons, sSeq, sSet, sIf, sRet, sRetN, sExpr, sNop, tBl, tOf, tAnd, tOr, tNot, asB, sSetIx, List.map_cons, List.map_nil, List.replicate, Nat.zero_add, Nat.reduceAdd, Nat.reduceSub, List.cons_append, List.nil_append, List.getElem?_cons_zero, List.getElem?_cons_succ, List.set_cons_zero, List.set_cons_succ, List.length_cons, List.length_nil, dIx, dGt, dGe, dLt, dLe, dAdd, dSub, dMul, dMod, dDiv, dPow, dNeg, dInt, drf, dLen, if_true, if_false, Bool.false_eq_true, decide_eq_true_eq, dSetIx, Option.map_some, decide_true, decide_false, truth, eAnd, eOr, eNot, eIf, eIsT, dIsT, kindD, tysOf, dIsi, isB, dIs, dIsNot, isNon, List.any_cons, List.any_nil, Bool.or_false, Bool.or_true, Bool.false_or, Bool.true_or, Bool.and_true, Bool.true_and, Bool.and_false, Bool.false_and, Bool.not_true, Bool.not_false, Nat.reduceLeDiff, Nat.reduceLT, Int.reduceLT, Int.reduceLE, and_self, and_true, true_and, reduceIte, sFor, lft_bad, dEq_ii, dEq_bb, dEq_ss, dEq_nn, dNe_ii, dNe_bb, dNe_ss, dNe_nn, BEq.rfl, dLst_s, dTup_s, dNew_s, dEq_nil, Nat.zero_le, put_name, put_tt, put_tl, puts_nil, puts_name, sAsg, at2_0, at2_1, mulOk_r (i := x.1) (j := m.2) (by omega) (by omega), mulOk_r (i := m.1) (j := x.2) (by omega) (by omega)]
  unfold b_law_16
  simp only [runU, eVar, eC, xv_non, xv_bl, xv_int, xv_str, xv_lst, xv_tup, xv_scr, xv_ref, xv_ins, xv_fn, xv_ty, bind_ok, lft_ok, lft_exc, of_some, fnRes_rt, fnRes_nx, fnRes_ex, eOp1, eOp2, eOpN, esNil, esCons, sSeq, sSet, sIf, sRet, sRetN, sExpr, sNop, tBl, tOf, tAnd, tOr, tNot, asB, sSetIx, List.map_cons, List.map_nil, List.replicate, Nat.zero_add, Nat.reduceAdd, Nat.reduceSub, List.cons_append, List.nil_append, List.getElem?_cons_zero, List.getElem?_cons_succ, List.set_cons_zero, List.set_cons_succ, List.length_cons, List.length_nil, dIx, dGt, dGe, dLt, dLe, dAdd, dSub, dMul, dMod, dDiv, dPow, dNeg, dInt, drf, dLen, if_true, if_false, Bool.false_eq_true, decide_eq_true_eq, dSetIx, Option.map_some, decide_true, decide_false, truth, eAnd, eOr, eNot, eIf, eIsT, dIsT, kindD, tysOf, dIsi, isB, dIs, dIsNot, isNon, List.any_cons, List.any_nil, Bool.or_false, Bool.or_true, Bool.false_or, Bool.true_or, Bool.and_true, Bool.true_and, Bool.and_false, Bool.false_and, Bool.not_true, Bool.not_false, Nat.reduceLeDiff, Nat.reduceLT, Int.reduceLT, Int.reduceLE, and_self, and_true, true_and, reduceIte, sFor, lft_bad, dEq_ii, dEq_bb, dEq_ss, dEq_nn, dNe_ii, dNe_bb, dNe_ss, dNe_nn, BEq.rfl, dLst_s, dTup_s, dNew_s, dEq_nil, Nat.zero_le, put_name, put_tt, put_tl, puts_nil, puts_name, sAsg, e, n]
theorem rows_shp : ∀ {l : List QQ} {n : Nat}, 0 < n → shps n (l.map frP) = true
  | [], _, _ => rfl
  | x :: l, n, h => by simp only [List.map_cons, shps, Bool.and_eq_true]; exact ⟨fr_shp h, rows_shp h⟩
theorem any_in {l : List QQ} {m : QQ} (h : m ∈ l) : ((l.map frP).any fun z => eqv z (frP m)) = true :=
  List.any_eq_true.mpr ⟨frP m, List.mem_map_of_mem h, shp_refl 64 _ (fr_shp (by decide))⟩
theorem st17 {l : List QQ} {m : QQ} {nb na : Nat} (R : AllRows l) (h1 : 2 * nb ≤ l.length) (h2 : 2 * na ≤ l.length) (h3 : l.length % 2 = 1 → m ∈ l) :
    b_law_17 (fr4 ns a b c d x2 x3 x4 (some (frP m)) (some (.int (nb : Int))) (some (.int (na : Int))) x8 x13 x14 (some (.lst (l.map frP))) x16 x17 x18) S =
    .nx (fr4 ns a b c d x2 x3 x4 (some (frP m)) (some (.int (nb : Int))) (some (.int (na : Int))) x8 x13 x14 (some (.lst (l.map frP))) x16 x17 x18) S := by
  have i1 : ¬ ((l.length : Int) < 2 * (nb : Int)) := by omega
  have i2 : ¬ ((l.length : Int) < 2 * (na : Int)) := by omega
  have mo : ∀ k : Int, mulOk 2 k = true := fun k => mulOk_l (by omega) (by omega)
  have h2' : (0 : Int) < 2 ∧ (2 : Int) < 1073741824 := by decide
  have sh : shp 64 (.lst (l.map frP)) = true := by simp only [shp, Bool.and_eq_true]; exact ⟨by decide, rows_shp (by decide)⟩
  have sm : shp 64 (frP m) = true := fr_shp (by decide)
  unfold b_law_17 b_law_17_1
  by_cases ho : l.length % 2 = 1
  · have e : (((l.length : Int) % 2 == 1) = true) := by rw [beq_iff_eq]; omega
    have hin : inSeq S (frP m) (.lst (l.map frP)) = some true := by
      unfold inSeq
      simp only [drf]
      rw [if_pos (by rw [sm, sh]; rfl), any_in (h3 ho)]
    simp only [runU, eVar, eC, xv_non, xv_bl, xv_int, xv_str, xv_lst, xv_tup, xv_scr, xv_ref, xv_ins, xv_fn, xv_ty, bind_ok, lft_ok, lft_exc, of_some, fnRes_rt, fnRes_nx, fnRes_ex, eOp1, eOp2, eOpN, esNil, esCons, sSeq, sSet, sIf, sRet, sRetN, sExpr, sNop, tBl, tOf, tAnd, tOr, tNot, asB, sSetIx, List.map_cons, List.map_nil, List.replicate, Nat.zero_add, Nat.reduceAdd, Nat.reduceSub, List.cons_append, List.nil_append, List.getElem?_cons_zero, List.getElem?_cons_succ, List.set_cons_zero, List.set_cons_succ, List.length_cons, List.length_nil, dIx, dGt, dGe, dLt, dLe, dAdd, dSub, dMul, dMod, dDiv, dPow, dNeg, dInt, drf, dLen, if_true, if_false, Bool.false_eq_true, decide_eq_true_eq, dSetIx, Option.map_some, decide_true, decide_false, truth, eAnd, eOr, eNot, eIf, eIsT, dIsT, kindD, tysOf, dIsi, isB, dIs, dIsNot, isNon, List.any_cons, List.any_nil, Bool.or_false, Bool.or_true, Bool.false_or, Bool.true_or, Bool.and_true, Bool.true_and, Bool.and_false, Bool.false_and, Bool.not_true, Bool.not_false, Nat.reduceLeDiff, Nat.reduceLT, Int.reduceLT, Int.reduceLE, and_self, and_true, true_and, reduceIte, sFor, lft_bad, dEq_ii, dEq_bb, dEq_ss, dEq_nn, dNe_ii, dNe_bb, dNe_ss, dNe_nn, BEq.rfl, dLst_s, dTup_s, dNew_s, dEq_nil, Nat.zero_le, put_name, put_tt, put_tl, puts_nil, puts_name, sAsg, List.length_map, mo, i1, i2, h2', e, dNotIn, hin]
  · have e : (((l.length : Int) % 2 == 1) = false) := beq_eq_false_iff_ne.mpr (by omega)
    simp only [runU, eVar, eC, xv_non, xv_bl, xv_int, xv_str, xv_lst, xv_tup, xv_scr, xv_ref, xv_ins, xv_fn, xv_ty, bind_ok, lft_ok, lft_exc, of_some, fnRes_rt, fnRes_nx, fnRes_ex, eOp1, eOp2, eOpN, esNil, esCons, sSeq, sSet, sIf, sRet, sRetN, sExpr, sNop, tBl, tOf, tAnd, tOr, tNot, asB, sSetIx, List.map_cons, List.map_nil, List.replicate, Nat.zero_add, Nat.reduceAdd, Nat.reduceSub, List.cons_append, List.nil_append, List.getElem?_cons_zero, List.getElem?_cons_succ, List.set_cons_zero, List.set_cons_succ, List.length_cons, List.length_nil, dIx, dGt, dGe, dLt, dLe, dAdd, dSub, dMul, dMod, dDiv, dPow, dNeg, dInt, drf, dLen, if_true, if_false, Bool.false_eq_true, decide_eq_true_eq, dSetIx, Option.map_some, decide_true, decide_false, truth, eAnd, eOr, eNot, eIf, eIsT, dIsT, kindD, tysOf, dIsi, isB, dIs, dIsNot, isNon, List.any_cons, List.any_nil, Bool.or_false, Bool.or_true, Bool.false_or, Bool.true_or, Bool.and_true, Bool.true_and, Bool.and_false, Bool.false_and, Bool.not_true, Bool.not_false, Nat.reduceLeDiff, Nat.reduceLT, Int.reduceLT, Int.reduceLE, and_self, and_true, true_and, reduceIte, sFor, lft_bad, dEq_ii, dEq_bb, dEq_ss, dEq_nn, dNe_ii, dNe_bb, dNe_ss, dNe_nn, BEq.rfl, dLst_s, dTup_s, dNew_s, dEq_nil, Nat.zero_le, put_name, put_tt, put_tl, puts_nil, puts_name, sAsg, List.length_map, mo, i1, i2, h2', e]
end G

namespace G
open PySem PySem.Spec PyProof.Rows L2
open Qk10
variable {ns : List Int} {a b c d p q r s : Int} {S : Sto} {x2 x3 x4 x5 x6 x7 x8 x13 x14 x15 x16 x17 x18 : Option Da}
theorem want_raise {v : Da} (h : d_is_fraction [v] S = .ok (.bl false) S) (hx : isExv v = false) (hb : belowD S.length v = true) : d_want_fraction [v] S = .exc 1 [("value", v)] S := by
  show scp S (runU 1 1 b_want_fraction [v] S) = _
  suffices e : runU 1 1 b_want_fraction [v] S = .exc 1 [("value", v)] S by
    rw [e]; exact scp_exc_same (by simp [belowDf, hb])
  rw [b_want_fraction_eq]
  simp only [runU, eVar, eC, xv_non, xv_bl, xv_int, xv_str, xv_lst, xv_tup, xv_scr, xv_ref, xv_ins, xv_fn, xv_ty, bind_ok, lft_ok, lft_exc, of_some, fnRes_rt, fnRes_nx, fnRes_ex, eOp1, eOp2, eOpN, esNil, esCons, sSeq, sSet, sIf, sRet, sRetN, sExpr, sNop, tBl, tOf, tAnd, tOr, tNot, asB, sSetIx, List.map_cons, List.map_nil, List.replicate, Nat.zero_add, Nat.reduceAdd, Nat.reduceSub, List.cons_append, List.nil_append, List.getElem?_cons_zero, List.getElem?_cons_succ, List.set_cons_zero, List.set_cons_succ, List.length_cons, List.length_nil, dIx, dGt, dGe, dLt, dLe, dAdd, dSub, dMul, dMod, dDiv, dPow, dNeg, dInt, drf, dLen, if_true, if_false, Bool.false_eq_true, decide_eq_true_eq, dSetIx, Option.map_some, decide_true, decide_false, truth, eAnd, eOr, eNot, eIf, eIsT, dIsT, kindD, tysOf, dIsi, isB, dIs, dIsNot, isNon, List.any_cons, List.any_nil, Bool.or_false, Bool.or_true, Bool.false_or, Bool.true_or, Bool.and_true, Bool.true_and, Bool.and_false, Bool.false_and, Bool.not_true, Bool.not_false, Nat.reduceLeDiff, Nat.reduceLT, Int.reduceLT, Int.reduceLE, and_self, and_true, true_and, reduceIte, sFor, lft_bad, dEq_ii, dEq_bb, dEq_ss, dEq_nn, dNe_ii, dNe_bb, dNe_ss, dNe_nn, BEq.rfl, dLst_s, dTup_s, dNew_s, dEq_nil, Nat.zero_le, put_name, put_tt, put_tl, puts_nil, puts_name, sAsg, eCall, hx, h, sRaise]
theorem bad_step {v : Da} {t : Str} {bst lo hi : Int} {m P Q T : QQ} {ds : List Da} (h : d_is_fraction [v] S = .ok (.bl false) S) (hs : shp 64 v = true) (hr : reprD v = some t) (h4 : x4 = none ∨ ∃ x : QQ, x4 = some (frP x)) :
    sSeq b_law_18_1 b_law_18_2 (fr4 ns a b c d (some WW) (some (.int bst)) x4 (some (frP m)) (some (.int lo)) (some (.int hi)) (some v) (some (frP P)) (some (frP Q)) (some (.lst ds)) (some (frP T)) none none) S =
      .nx (fr4 ns a b c d (some WW) (some (.int bst)) x4 (some (frP m)) (some (.int lo)) (some (.int hi)) (some v) (some (frP P)) (some (frP Q)) (some (.lst ds)) (some (frP T)) none none) S := by
  have hx := shp_xv hs
  have wr := want_raise h hx (shp_below hs)
  have lk1 : List.lookup 1 [(1, true)] = some true := rfl
  have lk : List.lookup (Str.ofString "value") [(Str.ofString "value", v)] = some v := by simp [List.lookup]
  have rp : dRepr [v] S = some (.str t, S) := by
    unfold dRepr
    dsimp only
    rw [drf_shp hs, if_pos hs, hr]
    rfl
  unfold b_law_18_1 b_law_18_1_1 b_law_18_2 b_law_18_2_1 b_law_18_2_2 b_law_18_2_0_1_1 b_law_18_2_0_1_1_1
  simp only [runU, eVar, eC, xv_non, xv_bl, xv_int, xv_str, xv_lst, xv_tup, xv_scr, xv_ref, xv_ins, xv_fn, xv_ty, bind_ok, lft_ok, lft_exc, of_some, fnRes_rt, fnRes_nx, fnRes_ex, eOp1, eOp2, eOpN, esNil, esCons, sSeq, sSet, sIf, sRet, sRetN, sExpr, sNop, tBl, tOf, tAnd, tOr, tNot, asB, sSetIx, List.map_cons, List.map_nil, List.replicate, Nat.zero_add, Nat.reduceAdd, Nat.reduceSub, List.cons_append, List.nil_append, List.getElem?_cons_zero, List.getElem?_cons_succ, List.set_cons_zero, List.set_cons_succ, List.length_cons, List.length_nil, dIx, dGt, dGe, dLt, dLe, dAdd, dSub, dMul, dMod, dDiv, dPow, dNeg, dInt, drf, dLen, if_true, if_false, Bool.false_eq_true, decide_eq_true_eq, dSetIx, Option.map_some, decide_true, decide_false, truth, eAnd, eOr, eNot, eIf, eIsT, dIsT, kindD, tysOf, dIsi, isB, dIs, dIsNot, isNon, List.any_cons, List.any_nil, Bool.or_false, Bool.or_true, Bool.false_or, Bool.true_or, Bool.and_true, Bool.true_and, Bool.and_false, Bool.false_and, Bool.not_true, Bool.not_false, Nat.reduceLeDiff, Nat.reduceLT, Int.reduceLT, Int.reduceLE, and_self, and_true, true_and, reduceIte, sFor, lft_bad, dEq_ii, dEq_bb, dEq_ss, dEq_nn, dNe_ii, dNe_bb, dNe_ss, dNe_nn, BEq.rfl, dLst_s, dTup_s, dNew_s, dEq_nil, Nat.zero_le, put_name, put_tt, put_tl, puts_nil, puts_name, sAsg, eCall, hx, h, sTry, wr, catchL, lk1, insE, eXf, List.mem_singleton, lk, rp]
  have fin : unsE (some 17) (clrX (fr4 ns a b c d (some WW) (some (.int bst)) x4 (some (frP m)) (some (.int lo)) (some (.int hi)) (some v) (some (frP P)) (some (frP Q)) (some (.lst ds)) (some (frP T)) (some (.exv 1 [(Str.ofString "value", v)])) none)) = (fr4 ns a b c d (some WW) (some (.int bst)) x4 (some (frP m)) (some (.int lo)) (some (.int hi)) (some v) (some (frP P)) (some (frP Q)) (some (.lst ds)) (some (frP T)) none none) := by
    have hv : (match (some v : Option Da) with | some (.exv _ _) => none | o => o) = some v := by cases v <;> first | rfl | simp [shp] at hs
    rcases h4 with rfl | ⟨x, rfl⟩
    · cases v <;> first | rfl | simp [shp] at hs
    · cases v <;> first | rfl | simp [shp] at hs
  unfold sufl
  first | exact congrArg (fun e => Fl.nx e S) fin | (simp only [fin])
end G

namespace G
open PySem PySem.Spec PyProof.Rows L2
open Qk10
variable {ns : List Int} {a b c d p q r s : Int} {S : Sto} {x2 x3 x4 x5 x6 x7 x8 x13 x14 x15 x16 x17 x18 : Option Da}
theorem rep_ok {v : Da} {p : PyData} (h : toPy v = some p) (h1 : p.showable = true) (h2 : p.shown.length ≤ 1000) : ∃ t, reprD v = some t := by
  refine ⟨p.shown, ?_⟩
  unfold reprD
  rw [h]
  dsimp only
  rw [if_pos ⟨h1, by rw [sizeLine_eq]; omega⟩]
def bads : List Da := [.non, .tup [.int 1, .int 0], .tup [.int 2, .int 4], .tup [.int 0, .int 2], .tup [.int 1], .tup [.bl true, .int 2], .lst [.int 1, .int 2, .int 3], .int 5, .tup [.int 1, .int (-1)]]
theorem bads_ok : ∀ v ∈ bads, d_is_fraction [v] S = .ok (.bl false) S ∧ shp 64 v = true ∧ ∃ t, reprD v = some t := by
  intro v hv
  simp only [bads, List.mem_cons, List.not_mem_nil, or_false] at hv
  rcases hv with rfl | rfl | rfl | rfl | rfl | rfl | rfl | rfl | rfl
  · exact ⟨isfr_non, rfl, rep_ok rfl (by decide +kernel) (by decide +kernel)⟩
  · exact ⟨isfr_low (by decide), rfl, rep_ok rfl (by decide +kernel) (by decide +kernel)⟩
  · exact ⟨(isfr_tup (p := 2) (q := 4) (by decide) (by decide)).trans (by congr 2), rfl, rep_ok rfl (by decide +kernel) (by decide +kernel)⟩
  · exact ⟨(isfr_tup (p := 0) (q := 2) (by decide) (by decide)).trans (by congr 2), rfl, rep_ok rfl (by decide +kernel) (by decide +kernel)⟩
  · exact ⟨isfr_one rfl, rfl, rep_ok rfl (by decide +kernel) (by decide +kernel)⟩
  · exact ⟨isfr_bl, rfl, rep_ok rfl (by decide +kernel) (by decide +kernel)⟩
  · exact ⟨isfr_three, rfl, rep_ok rfl (by decide +kernel) (by decide +kernel)⟩
  · exact ⟨isfr_int, rfl, rep_ok rfl (by decide +kernel) (by decide +kernel)⟩
  · exact ⟨isfr_low (by decide), rfl, rep_ok rfl (by decide +kernel) (by decide +kernel)⟩
theorem bad_loop {bst lo hi : Int} {m P Q T : QQ} {ds : List Da} (h4 : x4 = none ∨ ∃ x : QQ, x4 = some (frP x)) : ∀ (vs : List Da) (w : Option Da), (∀ v ∈ vs, v ∈ bads) → ∃ w',
    forL (.name 8) (sSeq b_law_18_1 b_law_18_2) vs (fr4 ns a b c d (some WW) (some (.int bst)) x4 (some (frP m)) (some (.int lo)) (some (.int hi)) w (some (frP P)) (some (frP Q)) (some (.lst ds)) (some (frP T)) none none) S =
      .nx (fr4 ns a b c d (some WW) (some (.int bst)) x4 (some (frP m)) (some (.int lo)) (some (.int hi)) w' (some (frP P)) (some (frP Q)) (some (.lst ds)) (some (frP T)) none none) S
  | [], w, _ => ⟨w, rfl⟩
  | v :: vs, w, h => by
    obtain ⟨w', e⟩ := bad_loop h4 vs (some v) fun x hx => h x (List.mem_cons_of_mem _ hx)
    obtain ⟨h1, h2, t, h3⟩ := bads_ok (S := S) v (h v List.mem_cons_self)
    exact ⟨w', (forL_cons rfl (bad_step h1 h2 h3 h4)).trans e⟩
theorem st18 {bst lo hi : Int} {m P Q T : QQ} {ds : List Da} (h4 : x4 = none ∨ ∃ x : QQ, x4 = some (frP x)) : ∃ w',
    b_law_18 (fr4 ns a b c d (some WW) (some (.int bst)) x4 (some (frP m)) (some (.int lo)) (some (.int hi)) x8 (some (frP P)) (some (frP Q)) (some (.lst ds)) (some (frP T)) none none) S =
      .nx (fr4 ns a b c d (some WW) (some (.int bst)) x4 (some (frP m)) (some (.int lo)) (some (.int hi)) w' (some (frP P)) (some (frP Q)) (some (.lst ds)) (some (frP T)) none none) S := by
  obtain ⟨w', e⟩ := bad_loop (ns := ns) (a := a) (b := b) (c := c) (d := d) (S := S) (bst := bst) (lo := lo) (hi := hi) (m := m) (P := P) (Q := Q) (T := T) (ds := ds) h4 bads x8 fun v hv => hv
  refine ⟨w', ?_⟩
  unfold bads at e
  unfold b_law_18
  simp only [runU, eVar, eC, xv_non, xv_bl, xv_int, xv_str, xv_lst, xv_tup, xv_scr, xv_ref, xv_ins, xv_fn, xv_ty, bind_ok, lft_ok, lft_exc, of_some, fnRes_rt, fnRes_nx, fnRes_ex, eOp1, eOp2, eOpN, esNil, esCons, sSeq, sSet, sIf, sRet, sRetN, sExpr, sNop, tBl, tOf, tAnd, tOr, tNot, asB, sSetIx, List.map_cons, List.map_nil, List.replicate, Nat.zero_add, Nat.reduceAdd, Nat.reduceSub, List.cons_append, List.nil_append, List.getElem?_cons_zero, List.getElem?_cons_succ, List.set_cons_zero, List.set_cons_succ, List.length_cons, List.length_nil, dIx, dGt, dGe, dLt, dLe, dAdd, dSub, dMul, dMod, dDiv, dPow, dNeg, dInt, drf, dLen, if_true, if_false, Bool.false_eq_true, decide_eq_true_eq, dSetIx, Option.map_some, decide_true, decide_false, truth, eAnd, eOr, eNot, eIf, eIsT, dIsT, kindD, tysOf, dIsi, isB, dIs, dIsNot, isNon, List.any_cons, List.any_nil, Bool.or_false, Bool.or_true, Bool.false_or, Bool.true_or, Bool.and_true, Bool.true_and, Bool.and_false, Bool.false_and, Bool.not_true, Bool.not_false, Nat.reduceLeDiff, Nat.reduceLT, Int.reduceLT, Int.reduceLE, and_self, and_true, true_and, reduceIte, sFor, lft_bad, dEq_ii, dEq_bb, dEq_ss, dEq_nn, dNe_ii, dNe_bb, dNe_ss, dNe_nn, BEq.rfl, dLst_s, dTup_s, dNew_s, dEq_nil, Nat.zero_le, put_name, put_tt, put_tl, puts_nil, puts_name, sAsg, iVal, items, e]
theorem want_ok {P : QQ} (h : LowQ 60 P) : d_want_fraction [.lst [.int P.1, .int P.2]] S = .ok (frP P) S := by
  obtain ⟨h0, h1, hc⟩ := h
  show scp S (runU 1 1 b_want_fraction [.lst [.int P.1, .int P.2]] S) = _
  have i := isfr_lst (p := P.1) (q := P.2) (S := S) h0 (by omega)
  rw [red_low hc, shp_refl 64 _ (fr_shp (by decide))] at i
  rw [b_want_fraction_eq]
  simp only [runU, eVar, eC, xv_non, xv_bl, xv_int, xv_str, xv_lst, xv_tup, xv_scr, xv_ref, xv_ins, xv_fn, xv_ty, bind_ok, lft_ok, lft_exc, of_some, fnRes_rt, fnRes_nx, fnRes_ex, eOp1, eOp2, eOpN, esNil, esCons, sSeq, sSet, sIf, sRet, sRetN, sExpr, sNop, tBl, tOf, tAnd, tOr, tNot, asB, sSetIx, List.map_cons, List.map_nil, List.replicate, Nat.zero_add, Nat.reduceAdd, Nat.reduceSub, List.cons_append, List.nil_append, List.getElem?_cons_zero, List.getElem?_cons_succ, List.set_cons_zero, List.set_cons_succ, List.length_cons, List.length_nil, dIx, dGt, dGe, dLt, dLe, dAdd, dSub, dMul, dMod, dDiv, dPow, dNeg, dInt, drf, dLen, if_true, if_false, Bool.false_eq_true, decide_eq_true_eq, dSetIx, Option.map_some, decide_true, decide_false, truth, eAnd, eOr, eNot, eIf, eIsT, dIsT, kindD, tysOf, dIsi, isB, dIs, dIsNot, isNon, List.any_cons, List.any_nil, Bool.or_false, Bool.or_true, Bool.false_or, Bool.true_or, Bool.and_true, Bool.true_and, Bool.and_false, Bool.false_and, Bool.not_true, Bool.not_false, Nat.reduceLeDiff, Nat.reduceLT, Int.reduceLT, Int.reduceLE, and_self, and_true, true_and, reduceIte, sFor, lft_bad, dEq_ii, dEq_bb, dEq_ss, dEq_nn, dNe_ii, dNe_bb, dNe_ss, dNe_nn, BEq.rfl, dLst_s, dTup_s, dNew_s, dEq_nil, Nat.zero_le, put_name, put_tt, put_tl, puts_nil, puts_name, sAsg, eCall, i, dTupleOf, seqOf]
  exact scp_same rfl
theorem st19 {P : QQ} (h : LowQ 60 P) : b_law_19 (fr4 ns a b c d x2 x3 x4 x5 x6 x7 x8 (some (frP P)) x14 x15 x16 x17 x18) S = .rt (.bl true) S := by
  have al := alike_eq (S := S) (x := frP P) rfl (fr_shp (by decide)) fr_shrt
  unfold b_law_19
  simp only [runU, eVar, eC, xv_non, xv_bl, xv_int, xv_str, xv_lst, xv_tup, xv_scr, xv_ref, xv_ins, xv_fn, xv_ty, bind_ok, lft_ok, lft_exc, of_some, fnRes_rt, fnRes_nx, fnRes_ex, eOp1, eOp2, eOpN, esNil, esCons, sSeq, sSet, sIf, sRet, sRetN, sExpr, sNop, tBl, tOf, tAnd, tOr, tNot, asB, sSetIx, List.map_cons, List.map_nil, List.replicate, Nat.zero_add, Nat.reduceAdd, Nat.reduceSub, List.cons_append, List.nil_append, List.getElem?_cons_zero, List.getElem?_cons_succ, List.set_cons_zero, List.set_cons_succ, List.length_cons, List.length_nil, dIx, dGt, dGe, dLt, dLe, dAdd, dSub, dMul, dMod, dDiv, dPow, dNeg, dInt, drf, dLen, if_true, if_false, Bool.false_eq_true, decide_eq_true_eq, dSetIx, Option.map_some, decide_true, decide_false, truth, eAnd, eOr, eNot, eIf, eIsT, dIsT, kindD, tysOf, dIsi, isB, dIs, dIsNot, isNon, List.any_cons, List.any_nil, Bool.or_false, Bool.or_true, Bool.false_or, Bool.true_or, Bool.and_true, Bool.true_and, Bool.and_false, Bool.false_and, Bool.not_true, Bool.not_false, Nat.reduceLeDiff, Nat.reduceLT, Int.reduceLT, Int.reduceLE, and_self, and_true, true_and, reduceIte, sFor, lft_bad, dEq_ii, dEq_bb, dEq_ss, dEq_nn, dNe_ii, dNe_bb, dNe_ss, dNe_nn, BEq.rfl, dLst_s, dTup_s, dNew_s, dEq_nil, Nat.zero_le, put_name, put_tt, put_tl, puts_nil, puts_name, sAsg, eCall, dListOf, seqOf, want_ok (S := S) h, al]
end G

namespace G
open PySem PySem.Spec PyProof.Rows L2
open Qk10
theorem law_run {ns : List Int} : ∃ S, b_law (some (.scr ns) :: List.replicate 18 none) [] = .rt (.bl true) S := by
  obtain ⟨a, b, c, d, S2, e2, k2, D⟩ := st2 (ns := ns) (S := [.lst [.scr ns, .int 0, .int 61, .int 0]]) ⟨0, 61, 0, rfl, by decide, by decide, by decide⟩
  obtain ⟨p, q, L⟩ := low_of (a := a) (b := b) (by have := D.b1; omega)
  obtain ⟨r, s, M⟩ := low_of (a := c) (b := d) (by have := D.d1; omega)
  have hp : LowQ 60 (p, q) := ⟨L.q0, by have := L.qb; have := D.b2; show q ≤ 60; omega, L.cop⟩
  have hr : LowQ 60 (r, s) := ⟨M.q0, by have := M.qb; have := D.d2; show s ≤ 60; omega, M.cop⟩
  obtain ⟨l, S3, e11, k3, R⟩ := st11 (ns := ns) (a := a) (b := b) (c := c) (d := d) (p := p) (q := q) (r := r) (s := s) (x2 := some WW) (x3 := some (.int ((2 * a + b) / (2 * b)))) (x4 := none) (x5 := none) (x6 := some (.int (a / b))) (x7 := some (.int (-(-a / b)))) (x8 := none) (x15 := none) (x16 := none) (x17 := none) (x18 := none) k2
  have A := all_rows R hp hr
  obtain ⟨w, e12, hw⟩ := st12 (ns := ns) (a := a) (b := b) (c := c) (d := d) (x2 := some WW) (x3 := some (.int ((2 * a + b) / (2 * b)))) (x4 := none) (x5 := none) (x6 := some (.int (a / b))) (x7 := some (.int (-(-a / b)))) (x8 := none) (x13 := some (fr p q)) (x14 := some (fr r s)) (x17 := none) (x18 := none) (S := S3) A
  obtain ⟨N, n1, n2, f, g, n3, n4, e14⟩ := st14 (ns := ns) (a := a) (b := b) (c := c) (d := d) (x2 := some WW) (x3 := some (.int ((2 * a + b) / (2 * b)))) (x4 := w) (x5 := none) (x6 := some (.int (a / b))) (x7 := some (.int (-(-a / b)))) (x8 := none) (x13 := some (fr p q)) (x14 := some (fr r s)) (x16 := some (frP (tot ((p, q) :: (r, s) :: l)))) (x17 := none) (x18 := none) (S := S3) A
  obtain ⟨m0, c1, c2, c3⟩ := counts A n1 n2 n3 n4
  have m1 : 0 < (midP f g).2 ∧ (midP f g).2 < 1073741824 := by
    refine ⟨m0, ?_⟩
    have hf := A.low f (n2.mem_iff.mp (List.mem_of_getElem? n3))
    have hg := A.low g (n2.mem_iff.mp (List.mem_of_getElem? n4))
    obtain ⟨f0, f1, _⟩ := hf
    obtain ⟨g0, g1, _⟩ := hg
    have u0 : 0 < f.2 * g.2 := Int.mul_pos f0 g0
    have u1 : f.2 * g.2 ≤ 60 * 60 := Int.mul_le_mul f1 g1 (by omega) (by omega)
    obtain ⟨t0, t1⟩ := redP_pos (a := f.1 * g.2 + g.1 * f.2) u0
    have t2 := (redP_pos (a := (redP (f.1 * g.2 + g.1 * f.2) (f.2 * g.2)).1 * 1) (b := (redP (f.1 * g.2 + g.1 * f.2) (f.2 * g.2)).2 * 2) (by omega)).2
    show (redP ((redP (f.1 * g.2 + g.1 * f.2) (f.2 * g.2)).1 * 1) ((redP (f.1 * g.2 + g.1 * f.2) (f.2 * g.2)).2 * 2)).2 < _
    omega
  obtain ⟨w8, e18⟩ := st18 (ns := ns) (a := a) (b := b) (c := c) (d := d) (x4 := w) (x8 := none) (S := S3) (bst := (2 * a + b) / (2 * b)) (m := midP f g) (P := (p, q)) (Q := (r, s)) (T := tot ((p, q) :: (r, s) :: l)) (ds := ((p, q) :: (r, s) :: l).map frP)
    (lo := ((((p, q) :: (r, s) :: l).filter fun x => decide (x.1 * (midP f g).2 < (midP f g).1 * x.2)).length : Int)) (hi := ((((p, q) :: (r, s) :: l).filter fun x => decide ((midP f g).1 * x.2 < x.1 * (midP f g).2)).length : Int)) hw
  refine ⟨S3, ?_⟩
  have e3 := st3 (ns := ns) (S := S2) (x2 := none) (x3 := none) (x4 := none) (x5 := none) (x6 := none) (x7 := none) (x8 := none) (x15 := none) (x16 := none) (x17 := none) (x18 := none) D
  have e4 := st4 (ns := ns) (S := S2) (x2 := none) (x3 := none) (x4 := none) (x5 := none) (x6 := none) (x7 := none) (x8 := none) (x15 := none) (x16 := none) (x17 := none) (x18 := none) D
  unfold b_law
  rw [seq_nx st1, seq_nx e2, seq_nx e3, seq_nx e4, L.red, M.red, seq_nx (st5 D L M), seq_nx (st6 D L M), seq_nx st7, seq_nx (st8 D), seq_nx (st9 D), seq_nx (st10 D L), seq_nx e11, seq_nx e12, seq_nx (st13 A), seq_nx e14, seq_nx (st15 A m1), seq_nx (st16 A m1), seq_nx (st17 A c1 c2 c3), seq_nx e18]
  exact st19 hp
end G
namespace Qk10
open PySem PySem.Spec PyProof.Rows L2 G
theorem law_true (ns : List Int) (h : ns.length ≤ 63) : ∃ S, d_law [.scr ns] [] = .ok (.bl true) S := by
  obtain ⟨S, e⟩ := G.law_run (ns := ns)
  refine ⟨S.take 0, ?_⟩
  show scp [] (runU 1 19 b_law [.scr ns] []) = _
  have e1 : runU 1 19 b_law [.scr ns] [] = .ok (.bl true) S := by
    unfold runU
    show fnRes (b_law (some (.scr ns) :: List.replicate 18 none) []) = _
    rw [e]; rfl
  rw [e1, scp_ok, if_pos ⟨rfl, Nat.zero_le _, fun i hi => absurd hi (Nat.not_lt_zero _)⟩]
  rfl
end Qk10

namespace Qk10
open PySem PySem.Spec PyProof.Rows L2 G
def spLaw (K : PySem.W.Frag) : Sp := fun vs H Q _ => ∃ (a : Addr) (ns : List Int), vs = [.ref a] ∧ SqL K H a (ns.map V.int) ∧ ns.length ≤ 63 ∧ ∀ H', Q (.bl true) H'
theorem law_sp {K : PySem.W.Frag} {T : Tab} (vs : List V) (H : Hp) (Q : VK) (E : XK) (h : spLaw K vs H Q E) : spI K T d_law vs H Q E := by
  obtain ⟨a, ns, rfl, hs, hl, k⟩ := h
  have s : SL K ⟨[], [], H⟩ a (ns.map V.int) := by
    rcases hs with r | w
    · exact .inl ⟨r, by simp [Hv.free]⟩
    · exact .inr w
  obtain ⟨S, e⟩ := law_true ns hl
  refine ⟨⟨[], [], H⟩, [], [.scr ns], rfl, ⟨rfl, fun i j a e => by simp at e, fun n a ob e => by simp at e, fun n e => by simp at e, fun a e => by simp at e⟩, .cons (.scr s) .nil, ?_⟩
  rw [e]
  intro v h' _ r _
  cases r
  exact k _
theorem all_mk {P : Program} {w : World} {K : PySem.W.Frag} {h : Heap} {mg : Str → Option Value} {fa : Addr} (X : K.In h) (G : h.Ns mainGlobals mg) (hfa : mg "law" = some (.ref fa))
    {f__law_taken f_reduced f__law_alike f__law_low f_is_row f_is_whole f_is_fraction f_plus f_minus f_times f_over f__law_truth f_is_less f_floor_of f_ceiling_of f_nearest f_total f_median f_want_fraction f_law CW C_BadNumber fi_BadNumber nsA_BadNumber cda_BadNumber cc_BadNumber : Addr} {od__law_taken an__law_taken od_reduced an_reduced od__law_alike an__law_alike od__law_low an__law_low od_is_row an_is_row od_is_whole an_is_whole od_is_fraction an_is_fraction od_plus an_plus od_minus an_minus od_times an_times od_over an_over od__law_truth an__law_truth od_is_less an_is_less od_floor_of an_floor_of od_ceiling_of an_ceiling_of od_nearest an_nearest od_total an_total od_median an_median od_want_fraction an_want_fraction od_law an_law dd_BadNumber xo_BadNumber xa_BadNumber xd_BadNumber xe_BadNumber : Option Addr} {sl__law_taken sl_reduced sl__law_alike sl__law_low sl_is_row sl_is_whole sl_is_fraction sl_plus sl_minus sl_times sl_over sl__law_truth sl_is_less sl_floor_of sl_ceiling_of sl_nearest sl_total sl_median sl_want_fraction sl_law xs_BadNumber xcs_BadNumber xes_BadNumber : Array (Option Value)} {oc__law_taken kV__law_taken dc__law_taken pm__law_taken cd__law_taken ct__law_taken oc_reduced kV_reduced dc_reduced pm_reduced cd_reduced ct_reduced oc__law_alike kV__law_alike dc__law_alike pm__law_alike cd__law_alike ct__law_alike oc__law_low kV__law_low dc__law_low pm__law_low cd__law_low ct__law_low oc_is_row kV_is_row dc_is_row pm_is_row cd_is_row ct_is_row oc_is_whole kV_is_whole dc_is_whole pm_is_whole cd_is_whole ct_is_whole oc_is_fraction kV_is_fraction dc_is_fraction pm_is_fraction cd_is_fraction ct_is_fraction oc_plus kV_plus dc_plus pm_plus cd_plus ct_plus oc_minus kV_minus dc_minus pm_minus cd_minus ct_minus oc_times kV_times dc_times pm_times cd_times ct_times oc_over kV_over dc_over pm_over cd_over ct_over oc__law_truth kV__law_truth dc__law_truth pm__law_truth cd__law_truth ct__law_truth oc_is_less kV_is_less dc_is_less pm_is_less cd_is_less ct_is_less oc_floor_of kV_floor_of dc_floor_of pm_floor_of cd_floor_of ct_floor_of oc_ceiling_of kV_ceiling_of dc_ceiling_of pm_ceiling_of cd_ceiling_of ct_ceiling_of oc_nearest kV_nearest dc_nearest pm_nearest cd_nearest ct_nearest oc_total kV_total dc_total pm_total cd_total ct_total oc_median kV_median dc_median pm_median cd_median ct_median oc_want_fraction kV_want_fraction dc_want_fraction pm_want_fraction cd_want_fraction ct_want_fraction oc_law kV_law dc_law pm_law cd_law ct_law xc_BadNumber xdc_BadNumber xpm_BadNumber xct_BadNumber xcl_BadNumber xce_BadNumber : Value} {nm_BadNumber qn_BadNumber : Str} {bs_BadNumber sub_BadNumber : List Value} {sn_BadNumber : List Str} {ab_BadNumber : Bool} {col_BadNumber : Option Bool} {m0_BadNumber m1_BadNumber m2_BadNumber m3_BadNumber m5_BadNumber : Option Value} {r1_BadNumber r2_BadNumber p0_BadNumber p1_BadNumber p2_BadNumber p3_BadNumber p4_BadNumber p5_BadNumber q1_BadNumber q2_BadNumber q3_BadNumber q4_BadNumber : Pos} {xv_BadNumber : Array Value} {xf_BadNumber : Str} {xt_BadNumber : Tok}
    (a__law_taken : PySem.W.nsIn K mainGlobals "_law_taken" = some (some (.ref f__law_taken)))
    (l__law_taken : K.lookup f__law_taken = some ⟨oc__law_taken, od__law_taken, .func (PySem.W.fnOf "_law_taken" "_law_taken" (defArgs s__law_taken) (defBody s__law_taken) (defScope s__law_taken) .none kV__law_taken dc__law_taken pm__law_taken an__law_taken cd__law_taken ct__law_taken), sl__law_taken⟩)
    (c__law_taken : PySem.W.codeIn K cd__law_taken "_law_taken" = true)
    (k__law_taken : PySem.W.keepIn K (.ref f__law_taken) = true)
    (a_reduced : PySem.W.nsIn K mainGlobals "reduced" = some (some (.ref f_reduced)))
    (l_reduced : K.lookup f_reduced = some ⟨oc_reduced, od_reduced, .func (PySem.W.fnOf "reduced" "reduced" (defArgs s_reduced) (defBody s_reduced) (defScope s_reduced) .none kV_reduced dc_reduced pm_reduced an_reduced cd_reduced ct_reduced), sl_reduced⟩)
    (c_reduced : PySem.W.codeIn K cd_reduced "reduced" = true)
    (k_reduced : PySem.W.keepIn K (.ref f_reduced) = true)
    (a__law_alike : PySem.W.nsIn K mainGlobals "_law_alike" = some (some (.ref f__law_alike)))
    (l__law_alike : K.lookup f__law_alike = some ⟨oc__law_alike, od__law_alike, .func (PySem.W.fnOf "_law_alike" "_law_alike" (defArgs s__law_alike) (defBody s__law_alike) (defScope s__law_alike) .none kV__law_alike dc__law_alike pm__law_alike an__law_alike cd__law_alike ct__law_alike), sl__law_alike⟩)
    (c__law_alike : PySem.W.codeIn K cd__law_alike "_law_alike" = true)
    (k__law_alike : PySem.W.keepIn K (.ref f__law_alike) = true)
    (a__law_low : PySem.W.nsIn K mainGlobals "_law_low" = some (some (.ref f__law_low)))
    (l__law_low : K.lookup f__law_low = some ⟨oc__law_low, od__law_low, .func (PySem.W.fnOf "_law_low" "_law_low" (defArgs s__law_low) (defBody s__law_low) (defScope s__law_low) .none kV__law_low dc__law_low pm__law_low an__law_low cd__law_low ct__law_low), sl__law_low⟩)
    (c__law_low : PySem.W.codeIn K cd__law_low "_law_low" = true)
    (k__law_low : PySem.W.keepIn K (.ref f__law_low) = true)
    (a_is_row : PySem.W.nsIn K mainGlobals "is_row" = some (some (.ref f_is_row)))
    (l_is_row : K.lookup f_is_row = some ⟨oc_is_row, od_is_row, .func (PySem.W.fnOf "is_row" "is_row" (defArgs s_is_row) (defBody s_is_row) (defScope s_is_row) .none kV_is_row dc_is_row pm_is_row an_is_row cd_is_row ct_is_row), sl_is_row⟩)
    (c_is_row : PySem.W.codeIn K cd_is_row "is_row" = true)
    (k_is_row : PySem.W.keepIn K (.ref f_is_row) = true)
    (a_is_whole : PySem.W.nsIn K mainGlobals "is_whole" = some (some (.ref f_is_whole)))
    (l_is_whole : K.lookup f_is_whole = some ⟨oc_is_whole, od_is_whole, .func (PySem.W.fnOf "is_whole" "is_whole" (defArgs s_is_whole) (defBody s_is_whole) (defScope s_is_whole) .none kV_is_whole dc_is_whole pm_is_whole an_is_whole cd_is_whole ct_is_whole), sl_is_whole⟩)
    (c_is_whole : PySem.W.codeIn K cd_is_whole "is_whole" = true)
    (k_is_whole : PySem.W.keepIn K (.ref f_is_whole) = true)
    (a_is_fraction : PySem.W.nsIn K mainGlobals "is_fraction" = some (some (.ref f_is_fraction)))
    (l_is_fraction : K.lookup f_is_fraction = some ⟨oc_is_fraction, od_is_fraction, .func (PySem.W.fnOf "is_fraction" "is_fraction" (defArgs s_is_fraction) (defBody s_is_fraction) (defScope s_is_fraction) .none kV_is_fraction dc_is_fraction pm_is_fraction an_is_fraction cd_is_fraction ct_is_fraction), sl_is_fraction⟩)
    (c_is_fraction : PySem.W.codeIn K cd_is_fraction "is_fraction" = true)
    (k_is_fraction : PySem.W.keepIn K (.ref f_is_fraction) = true)
    (a_plus : PySem.W.nsIn K mainGlobals "plus" = some (some (.ref f_plus)))
    (l_plus : K.lookup f_plus = some ⟨oc_plus, od_plus, .func (PySem.W.fnOf "plus" "plus" (defArgs s_plus) (defBody s_plus) (defScope s_plus) .none kV_plus dc_plus pm_plus an_plus cd_plus ct_plus), sl_plus⟩)
    (c_plus : PySem.W.codeIn K cd_plus "plus" = true)
    (k_plus : PySem.W.keepIn K (.ref f_plus) = true)
    (a_minus : PySem.W.nsIn K mainGlobals "minus" = some (some (.ref f_minus)))
    (l_minus : K.lookup f_minus = some ⟨oc_minus, od_minus, .func (PySem.W.fnOf "minus" "minus" (defArgs s_minus) (defBody s_minus) (defScope s_minus) .none kV_minus dc_minus pm_minus an_minus cd_minus ct_minus), sl_minus⟩)
    (c_minus : PySem.W.codeIn K cd_minus "minus" = true)
    (k_minus : PySem.W.keepIn K (.ref f_minus) = true)
    (a_times : PySem.W.nsIn K mainGlobals "times" = some (some (.ref f_times)))
    (l_times : K.lookup f_times = some ⟨oc_times, od_times, .func (PySem.W.fnOf "times" "times" (defArgs s_times) (defBody s_times) (defScope s_times) .none kV_times dc_times pm_times an_times cd_times ct_times), sl_times⟩)
    (c_times : PySem.W.codeIn K cd_times "times" = true)
    (k_times : PySem.W.keepIn K (.ref f_times) = true)
    (a_over : PySem.W.nsIn K mainGlobals "over" = some (some (.ref f_over)))
    (l_over : K.lookup f_over = some ⟨oc_over, od_over, .func (PySem.W.fnOf "over" "over" (defArgs s_over) (defBody s_over) (defScope s_over) .none kV_over dc_over pm_over an_over cd_over ct_over), sl_over⟩)
    (c_over : PySem.W.codeIn K cd_over "over" = true)
    (k_over : PySem.W.keepIn K (.ref f_over) = true)
    (a__law_truth : PySem.W.nsIn K mainGlobals "_law_truth" = some (some (.ref f__law_truth)))
    (l__law_truth : K.lookup f__law_truth = some ⟨oc__law_truth, od__law_truth, .func (PySem.W.fnOf "_law_truth" "_law_truth" (defArgs s__law_truth) (defBody s__law_truth) (defScope s__law_truth) .none kV__law_truth dc__law_truth pm__law_truth an__law_truth cd__law_truth ct__law_truth), sl__law_truth⟩)
    (c__law_truth : PySem.W.codeIn K cd__law_truth "_law_truth" = true)
    (k__law_truth : PySem.W.keepIn K (.ref f__law_truth) = true)
    (a_is_less : PySem.W.nsIn K mainGlobals "is_less" = some (some (.ref f_is_less)))
    (l_is_less : K.lookup f_is_less = some ⟨oc_is_less, od_is_less, .func (PySem.W.fnOf "is_less" "is_less" (defArgs s_is_less) (defBody s_is_less) (defScope s_is_less) .none kV_is_less dc_is_less pm_is_less an_is_less cd_is_less ct_is_less), sl_is_less⟩)
    (c_is_less : PySem.W.codeIn K cd_is_less "is_less" = true)
    (k_is_less : PySem.W.keepIn K (.ref f_is_less) = true)
    (a_floor_of : PySem.W.nsIn K mainGlobals "floor_of" = some (some (.ref f_floor_of)))
    (l_floor_of : K.lookup f_floor_of = some ⟨oc_floor_of, od_floor_of, .func (PySem.W.fnOf "floor_of" "floor_of" (defArgs s_floor_of) (defBody s_floor_of) (defScope s_floor_of) .none kV_floor_of dc_floor_of pm_floor_of an_floor_of cd_floor_of ct_floor_of), sl_floor_of⟩)
    (c_floor_of : PySem.W.codeIn K cd_floor_of "floor_of" = true)
    (k_floor_of : PySem.W.keepIn K (.ref f_floor_of) = true)
    (a_ceiling_of : PySem.W.nsIn K mainGlobals "ceiling_of" = some (some (.ref f_ceiling_of)))
    (l_ceiling_of : K.lookup f_ceiling_of = some ⟨oc_ceiling_of, od_ceiling_of, .func (PySem.W.fnOf "ceiling_of" "ceiling_of" (defArgs s_ceiling_of) (defBody s_ceiling_of) (defScope s_ceiling_of) .none kV_ceiling_of dc_ceiling_of pm_ceiling_of an_ceiling_of cd_ceiling_of ct_ceiling_of), sl_ceiling_of⟩)
    (c_ceiling_of : PySem.W.codeIn K cd_ceiling_of "ceiling_of" = true)
    (k_ceiling_of : PySem.W.keepIn K (.ref f_ceiling_of) = true)
    (a_nearest : PySem.W.nsIn K mainGlobals "nearest" = some (some (.ref f_nearest)))
    (l_nearest : K.lookup f_nearest = some ⟨oc_nearest, od_nearest, .func (PySem.W.fnOf "nearest" "nearest" (defArgs s_nearest) (defBody s_nearest) (defScope s_nearest) .none kV_nearest dc_nearest pm_nearest an_nearest cd_nearest ct_nearest), sl_nearest⟩)
    (c_nearest : PySem.W.codeIn K cd_nearest "nearest" = true)
    (k_nearest : PySem.W.keepIn K (.ref f_nearest) = true)
    (a_total : PySem.W.nsIn K mainGlobals "total" = some (some (.ref f_total)))
    (l_total : K.lookup f_total = some ⟨oc_total, od_total, .func (PySem.W.fnOf "total" "total" (defArgs s_total) (defBody s_total) (defScope s_total) .none kV_total dc_total pm_total an_total cd_total ct_total), sl_total⟩)
    (c_total : PySem.W.codeIn K cd_total "total" = true)
    (k_total : PySem.W.keepIn K (.ref f_total) = true)
    (a_median : PySem.W.nsIn K mainGlobals "median" = some (some (.ref f_median)))
    (l_median : K.lookup f_median = some ⟨oc_median, od_median, .func (PySem.W.fnOf "median" "median" (defArgs s_median) (defBody s_median) (defScope s_median) .none kV_median dc_median pm_median an_median cd_median ct_median), sl_median⟩)
    (c_median : PySem.W.codeIn K cd_median "median" = true)
    (k_median : PySem.W.keepIn K (.ref f_median) = true)
    (a_want_fraction : PySem.W.nsIn K mainGlobals "want_fraction" = some (some (.ref f_want_fraction)))
    (l_want_fraction : K.lookup f_want_fraction = some ⟨oc_want_fraction, od_want_fraction, .func (PySem.W.fnOf "want_fraction" "want_fraction" (defArgs s_want_fraction) (defBody s_want_fraction) (defScope s_want_fraction) .none kV_want_fraction dc_want_fraction pm_want_fraction an_want_fraction cd_want_fraction ct_want_fraction), sl_want_fraction⟩)
    (c_want_fraction : PySem.W.codeIn K cd_want_fraction "want_fraction" = true)
    (k_want_fraction : PySem.W.keepIn K (.ref f_want_fraction) = true)
    (a_law : PySem.W.nsIn K mainGlobals "law" = some (some (.ref f_law)))
    (l_law : K.lookup f_law = some ⟨oc_law, od_law, .func (PySem.W.fnOf "law" "law" (defArgs s_law) (defBody s_law) (defScope s_law) .none kV_law dc_law pm_law an_law cd_law ct_law), sl_law⟩)
    (c_law : PySem.W.codeIn K cd_law "law" = true)
    (k_law : PySem.W.keepIn K (.ref f_law) = true)
    (z_abs : PySem.W.nsIn K mainGlobals "abs" = some none)
    (z_bool : PySem.W.nsIn K mainGlobals "bool" = some none)
    (z_int : PySem.W.nsIn K mainGlobals "int" = some none)
    (z_isinstance : PySem.W.nsIn K mainGlobals "isinstance" = some none)
    (z_len : PySem.W.nsIn K mainGlobals "len" = some none)
    (z_list : PySem.W.nsIn K mainGlobals "list" = some none)
    (z_max : PySem.W.nsIn K mainGlobals "max" = some none)
    (z_min : PySem.W.nsIn K mainGlobals "min" = some none)
    (z_range : PySem.W.nsIn K mainGlobals "range" = some none)
    (z_repr : PySem.W.nsIn K mainGlobals "repr" = some none)
    (z_str : PySem.W.nsIn K mainGlobals "str" = some none)
    (z_tuple : PySem.W.nsIn K mainGlobals "tuple" = some none)
    (op : PySem.W.nsIn K cStatics "thirdparty.any" = some none)
    (zsup : PySem.W.nsIn K mainGlobals "super" = some none)
    (tops : (P.main.scope.names.lookup ("super" : Str)).isSome = false)
    (g_BadNumber : PySem.W.nsIn K mainGlobals "BadNumber" = some (some (.ref C_BadNumber)))
    (xl_BadNumber : K.lookup C_BadNumber = some (excClassObj nm_BadNumber qn_BadNumber C_BadNumber nsA_BadNumber bs_BadNumber [.ref CW, .type "ValueError", .type "Exception", .type "BaseException", .type "object"] true sn_BadNumber sub_BadNumber ab_BadNumber col_BadNumber dd_BadNumber m0_BadNumber m1_BadNumber m2_BadNumber m3_BadNumber m5_BadNumber "ValueError.__new__"))
    (xsa_BadNumber : PySem.W.findIn K (.ref C_BadNumber) "__setattr__" = some (some (.builtin "object.__setattr__")))
    (xga_BadNumber : PySem.W.findIn K (.ref C_BadNumber) "__getattribute__" = some (some (.builtin "BaseException.__getattribute__")))
    (xgg_BadNumber : PySem.W.findIn K (.ref C_BadNumber) "__getattr__" = some none)
    (xn_BadNumber_value : PySem.W.findIn K (.ref C_BadNumber) "value" = some none)
    (xi_BadNumber : PySem.W.findIn K (.ref C_BadNumber) "__init__" = some (some (.ref fi_BadNumber)))
    (xt1_BadNumber : PySem.W.typeIn K (.ref fi_BadNumber) = some (.type "function"))
    (xk_BadNumber : PySem.W.keepIn K (.ref C_BadNumber) = true)
    (xb_BadNumber : PySem.W.subIn K (.ref C_BadNumber) (.type "BaseException") = some true)
    (xty_BadNumber : PySem.W.typeIn K (.ref C_BadNumber) = some (.type "type"))
    (xh_BadNumber : PySem.W.hasDictIn K C_BadNumber = true)
    (xic_BadNumber : PySem.W.isClsIn K C_BadNumber = true)
    (xsu_BadNumber : PySem.W.ks_superIn K C_BadNumber C_BadNumber "__init__" = some (some (.builtin "ValueError.__init__")))
    (xmc_BadNumber : PySem.W.mroIn K C_BadNumber (.ref C_BadNumber) = some true)
    (xmv_BadNumber : PySem.W.mroIn K C_BadNumber (.type "ValueError") = some true)
    (xf1_BadNumber : K.lookup fi_BadNumber = some ⟨xc_BadNumber, xo_BadNumber, .func (PySem.W.ksFn "__init__" "BadNumber.__init__" (PySem.GX.iA "value" r1_BadNumber r2_BadNumber) (PySem.GX.iB "value" p0_BadNumber p1_BadNumber p2_BadNumber p3_BadNumber p4_BadNumber p5_BadNumber q1_BadNumber q2_BadNumber q3_BadNumber q4_BadNumber) (PySem.GX.iS "value") .none .none xdc_BadNumber xpm_BadNumber xa_BadNumber (.ref cda_BadNumber) xct_BadNumber cc_BadNumber), xs_BadNumber⟩)
    (xcd_BadNumber : PySem.W.codeIn K (.ref cda_BadNumber) "BadNumber.__init__" = true)
    (xhl_BadNumber : (p2_BadNumber.endLine == p4_BadNumber.line) = true)
    (xlc_BadNumber : K.lookup cda_BadNumber = some ⟨xcl_BadNumber, xd_BadNumber, .fields xv_BadNumber, xcs_BadNumber⟩)
    (xv2_BadNumber : xv_BadNumber[2]? = some (.str xf_BadNumber xt_BadNumber))
    (xfl_BadNumber : ((P.main.file : Str) == xf_BadNumber) = true)
    (xlcc_BadNumber : K.lookup cc_BadNumber = some ⟨xce_BadNumber, xe_BadNumber, .cell (some (.ref C_BadNumber)), xes_BadNumber⟩)
    (xs_BadNumber_BadNumber : PySem.W.subIn K (.ref C_BadNumber) (.ref C_BadNumber) = some true)
    : ∃ fd : FuncData, (∀ (s : Shared) (v : Value), BindsTo s fd ⟨[v], []⟩ [("script", v)]) ∧ ∀ base : Heap, K.In base → base.Ns mainGlobals mg → FnG P w K mg base 14 fa fd ["script"] (spLaw K) := by
  have e := hfa.symm.trans (PySem.W.mg_of X G a_law)
  cases e
  let T : Tab := ⟨fun n => ([CW, C_BadNumber] : List Addr).getD n 0, fun n => ([0, 0, 0, 0, 0, 0, 0, 0, 0, 0, 0, 0, 0, 0, 0, 0, 0, 0, 0, 0, 0, 0, 0, 0, 0, 0, 0, 0, 0, 0, 0, 0, 0, 0, 0, 0, 0, 0, 0, 0, 0, 0, 0, 0, 0, 0, 0, 0, 0, 0, 0, 0, 0, 0, 0, 0, 0, 0, 0, 0, 0, 0, 0, 0, 0, 0, 0, 0, 0, 0, 0, 0, 0, 0, 0, 0, 0, 0, 0, 0, 0, 0, 0, 0, 0, 0, 0, 0, 0, 0, 0, 0, 0, 0, 0, 0, 0, 0, 0, 0, 0, fi_BadNumber] : List Addr).getD n 0, none⟩
  have F__law_taken := fun_mk (st := s__law_taken) l__law_taken c__law_taken k__law_taken
  have b__law_taken := F__law_taken.binds (ps := ["row", "many"]) fun _ _ _ _ _ _ us hl => match us, hl with | [_, _], _ => rfl
  have F_reduced := fun_mk (st := s_reduced) l_reduced c_reduced k_reduced
  have b_reduced := F_reduced.binds (ps := ["top", "bottom"]) fun _ _ _ _ _ _ us hl => match us, hl with | [_, _], _ => rfl
  have F__law_alike := fun_mk (st := s__law_alike) l__law_alike c__law_alike k__law_alike
  have b__law_alike := F__law_alike.binds (ps := ["found", "due"]) fun _ _ _ _ _ _ us hl => match us, hl with | [_, _], _ => rfl
  have F__law_low := fun_mk (st := s__law_low) l__law_low c__law_low k__law_low
  have b__law_low := F__law_low.binds (ps := ["top", "bottom"]) fun _ _ _ _ _ _ us hl => match us, hl with | [_, _], _ => rfl
  have F_is_row := fun_mk (st := s_is_row) l_is_row c_is_row k_is_row
  have b_is_row := F_is_row.binds (ps := ["value"]) fun _ _ _ _ _ _ us hl => match us, hl with | [_], _ => rfl
  have F_is_whole := fun_mk (st := s_is_whole) l_is_whole c_is_whole k_is_whole
  have b_is_whole := F_is_whole.binds (ps := ["value"]) fun _ _ _ _ _ _ us hl => match us, hl with | [_], _ => rfl
  have F_is_fraction := fun_mk (st := s_is_fraction) l_is_fraction c_is_fraction k_is_fraction
  have b_is_fraction := F_is_fraction.binds (ps := ["value"]) fun _ _ _ _ _ _ us hl => match us, hl with | [_], _ => rfl
  have F_plus := fun_mk (st := s_plus) l_plus c_plus k_plus
  have b_plus := F_plus.binds (ps := ["one", "other"]) fun _ _ _ _ _ _ us hl => match us, hl with | [_, _], _ => rfl
  have F_minus := fun_mk (st := s_minus) l_minus c_minus k_minus
  have b_minus := F_minus.binds (ps := ["one", "other"]) fun _ _ _ _ _ _ us hl => match us, hl with | [_, _], _ => rfl
  have F_times := fun_mk (st := s_times) l_times c_times k_times
  have b_times := F_times.binds (ps := ["one", "other"]) fun _ _ _ _ _ _ us hl => match us, hl with | [_, _], _ => rfl
  have F_over := fun_mk (st := s_over) l_over c_over k_over
  have b_over := F_over.binds (ps := ["one", "other"]) fun _ _ _ _ _ _ us hl => match us, hl with | [_, _], _ => rfl
  have F__law_truth := fun_mk (st := s__law_truth) l__law_truth c__law_truth k__law_truth
  have b__law_truth := F__law_truth.binds (ps := ["found", "due"]) fun _ _ _ _ _ _ us hl => match us, hl with | [_, _], _ => rfl
  have F_is_less := fun_mk (st := s_is_less) l_is_less c_is_less k_is_less
  have b_is_less := F_is_less.binds (ps := ["one", "other"]) fun _ _ _ _ _ _ us hl => match us, hl with | [_, _], _ => rfl
  have F_floor_of := fun_mk (st := s_floor_of) l_floor_of c_floor_of k_floor_of
  have b_floor_of := F_floor_of.binds (ps := ["one"]) fun _ _ _ _ _ _ us hl => match us, hl with | [_], _ => rfl
  have F_ceiling_of := fun_mk (st := s_ceiling_of) l_ceiling_of c_ceiling_of k_ceiling_of
  have b_ceiling_of := F_ceiling_of.binds (ps := ["one"]) fun _ _ _ _ _ _ us hl => match us, hl with | [_], _ => rfl
  have F_nearest := fun_mk (st := s_nearest) l_nearest c_nearest k_nearest
  have b_nearest := F_nearest.binds (ps := ["one"]) fun _ _ _ _ _ _ us hl => match us, hl with | [_], _ => rfl
  have F_total := fun_mk (st := s_total) l_total c_total k_total
  have b_total := F_total.binds (ps := ["rows"]) fun _ _ _ _ _ _ us hl => match us, hl with | [_], _ => rfl
  have F_median := fun_mk (st := s_median) l_median c_median k_median
  have b_median := F_median.binds (ps := ["rows"]) fun _ _ _ _ _ _ us hl => match us, hl with | [_], _ => rfl
  have F_want_fraction := fun_mk (st := s_want_fraction) l_want_fraction c_want_fraction k_want_fraction
  have b_want_fraction := F_want_fraction.binds (ps := ["value"]) fun _ _ _ _ _ _ us hl => match us, hl with | [_], _ => rfl
  have F_law := fun_mk (st := s_law) l_law c_law k_law
  have b_law := F_law.binds (ps := ["script"]) fun _ _ _ _ _ _ us hl => match us, hl with | [_], _ => rfl
  have Tx : Txt P K mg T := by
    constructor
    · exact PySem.W.mg_none_of X G z_abs
    · exact PySem.W.mg_none_of X G z_bool
    · exact PySem.W.mg_none_of X G z_int
    · exact PySem.W.mg_none_of X G z_isinstance
    · exact PySem.W.mg_none_of X G z_len
    · exact PySem.W.mg_none_of X G z_list
    · exact PySem.W.mg_none_of X G z_max
    · exact PySem.W.mg_none_of X G z_min
    · exact PySem.W.mg_none_of X G z_range
    · exact PySem.W.mg_none_of X G z_repr
    · exact PySem.W.mg_none_of X G z_str
    · exact PySem.W.mg_none_of X G z_tuple
    · exact ⟨_, _, F__law_taken, PySem.W.mg_of X G a__law_taken, b__law_taken⟩
    · exact ⟨_, _, F_reduced, PySem.W.mg_of X G a_reduced, b_reduced⟩
    · exact ⟨_, _, F__law_alike, PySem.W.mg_of X G a__law_alike, b__law_alike⟩
    · exact ⟨_, _, F__law_low, PySem.W.mg_of X G a__law_low, b__law_low⟩
    · exact ⟨_, _, F_is_row, PySem.W.mg_of X G a_is_row, b_is_row⟩
    · exact ⟨_, _, F_is_whole, PySem.W.mg_of X G a_is_whole, b_is_whole⟩
    · exact ⟨_, _, F_is_fraction, PySem.W.mg_of X G a_is_fraction, b_is_fraction⟩
    · exact ⟨_, _, F_plus, PySem.W.mg_of X G a_plus, b_plus⟩
    · exact ⟨_, _, F_minus, PySem.W.mg_of X G a_minus, b_minus⟩
    · exact ⟨_, _, F_times, PySem.W.mg_of X G a_times, b_times⟩
    · exact ⟨_, _, F_over, PySem.W.mg_of X G a_over, b_over⟩
    · exact ⟨_, _, F__law_truth, PySem.W.mg_of X G a__law_truth, b__law_truth⟩
    · exact ⟨_, _, F_is_less, PySem.W.mg_of X G a_is_less, b_is_less⟩
    · exact ⟨_, _, F_floor_of, PySem.W.mg_of X G a_floor_of, b_floor_of⟩
    · exact ⟨_, _, F_ceiling_of, PySem.W.mg_of X G a_ceiling_of, b_ceiling_of⟩
    · exact ⟨_, _, F_nearest, PySem.W.mg_of X G a_nearest, b_nearest⟩
    · exact ⟨_, _, F_total, PySem.W.mg_of X G a_total, b_total⟩
    · exact ⟨_, _, F_median, PySem.W.mg_of X G a_median, b_median⟩
    · exact ⟨_, _, F_want_fraction, PySem.W.mg_of X G a_want_fraction, b_want_fraction⟩
    · exact ⟨_, _, F_law, PySem.W.mg_of X G a_law, b_law⟩
    · exact ⟨PySem.W.mg_of X G g_BadNumber, { cls := ⟨_, _, _, _, _, _, _, _, _, _, _, _, _, _, _, xl_BadNumber, rfl⟩, sa := xsa_BadNumber, noN := xn_BadNumber_value, iC := xi_BadNumber, tC := xt1_BadNumber, kC := xk_BadNumber, exC := xb_BadNumber, tyC := xty_BadNumber, hdC := xh_BadNumber, gS := PySem.W.mg_none_of X G zsup, op := op, su := xsu_BadNumber, mC := xmc_BadNumber, mV := xmv_BadNumber, fn := ⟨_, _, _, _, _, _, _, _, _, _, _, _, _, _, _, _, _, _, _, _, _, _, xf1_BadNumber, xcd_BadNumber, xhl_BadNumber, ⟨_, _, _, _, _, _, xlc_BadNumber, xv2_BadNumber, xfl_BadNumber⟩, ⟨_, _, _, xlcc_BadNumber⟩⟩, top := tops }⟩
    · exact ⟨xga_BadNumber, xgg_BadNumber, xb_BadNumber, xh_BadNumber⟩
    · exact xn_BadNumber_value
    · simp only [List.mem_cons, List.not_mem_nil, or_false]
      rintro p rfl
      · exact exm_of xb_BadNumber xic_BadNumber xty_BadNumber xs_BadNumber_BadNumber
  refine ⟨PySem.W.fnOf "law" "law" (defArgs s_law) (defBody s_law) (defScope s_law) .none kV_law dc_law pm_law an_law cd_law ct_law, fun s v => .of_eq rfl, fun base _ _ => ?_⟩
  exact (FnOk_law Tx F_law).imp law_sp
theorem walk {l : PySem.W.OpenLaw} {qq : Program} {loose : List Str} {XP : (Str → Option Value) → Heap → Prop} {YP : World → Heap → Prop} {d : DefRec} {K : Params → PySem.W.Frag} (hn : l.most = some 63) (hdf : d.params.defaults = [])
    (hY : ∀ (w : World) (h : Heap), YP w h → (K w.params).In h)
    (F : ∀ (w : World) (mg : Str → Option Value) (fa : Addr) (h : Heap), (K w.params).In h → h.Ns mainGlobals mg → mg d.name = some (.ref fa) →
      ∃ fd : FuncData, (∀ (s : Shared) (u : Value), BindsTo s fd ⟨[u], []⟩ [("script", u)]) ∧ ∀ base : Heap, (K w.params).In base → base.Ns mainGlobals mg → FnG l.prog w (K w.params) mg base 14 fa fd ["script"] (spLaw (K w.params))) :
    PySem.W.WalkO qq loose XP YP l.row.toRowW d [] (fun f vs => PySem.call f vs) :=
  walk_ofG (n := 63) (k := 14) (x := "script") (sp := fun w => spLaw (K w.params)) hn (by decide) hdf ⟨⟨rfl, by decide, by decide⟩, rfl⟩ hY F (fun _ _ a ns hl _ hS => ⟨a, ns, rfl, hS, hl, fun _ => rfl⟩)
end Qk10
open PySem PySem.W PyProof.Rows
set_option maxRecDepth 100000 in
set_option maxHeartbeats 0 in
theorem PySem.Challenge.cw_gentleweb_k10_whole_fractions_holds : PySem.Challenge.rw_gentleweb_k10_whole_fractions.Holds := by
  w_on; o_law; k_head; (case hw => w_witness2)
  k_fill
  refine Qk10.walk (l := PySem.Challenge.rw_gentleweb_k10_whole_fractions) rfl rfl (fun w h Y => PySem.W.kIn_of Y) ?F
  case F =>
    intro w mg fa h KX G hmg
    refine' Qk10.all_mk KX G hmg ?a__law_taken ?l__law_taken ?c__law_taken ?k__law_taken ?a_reduced ?l_reduced ?c_reduced ?k_reduced ?a__law_alike ?l__law_alike ?c__law_alike ?k__law_alike ?a__law_low ?l__law_low ?c__law_low ?k__law_low ?a_is_row ?l_is_row ?c_is_row ?k_is_row ?a_is_whole ?l_is_whole ?c_is_whole ?k_is_whole ?a_is_fraction ?l_is_fraction ?c_is_fraction ?k_is_fraction ?a_plus ?l_plus ?c_plus ?k_plus ?a_minus ?l_minus ?c_minus ?k_minus ?a_times ?l_times ?c_times ?k_times ?a_over ?l_over ?c_over ?k_over ?a__law_truth ?l__law_truth ?c__law_truth ?k__law_truth ?a_is_less ?l_is_less ?c_is_less ?k_is_less ?a_floor_of ?l_floor_of ?c_floor_of ?k_floor_of ?a_ceiling_of ?l_ceiling_of ?c_ceiling_of ?k_ceiling_of ?a_nearest ?l_nearest ?c_nearest ?k_nearest ?a_total ?l_total ?c_total ?k_total ?a_median ?l_median ?c_median ?k_median ?a_want_fraction ?l_want_fraction ?c_want_fraction ?k_want_fraction ?a_law ?l_law ?c_law ?k_law ?z_abs ?z_bool ?z_int ?z_isinstance ?z_len ?z_list ?z_max ?z_min ?z_range ?z_repr ?z_str ?z_tuple ?op ?zsup ?tops ?g_BadNumber ?xl_BadNumber ?xsa_BadNumber ?xga_BadNumber ?xgg_BadNumber ?xn_BadNumber_value ?xi_BadNumber ?xt1_BadNumber ?xk_BadNumber ?xb_BadNumber ?xty_BadNumber ?xh_BadNumber ?xic_BadNumber ?xsu_BadNumber ?xmc_BadNumber ?xmv_BadNumber ?xf1_BadNumber ?xcd_BadNumber ?xhl_BadNumber ?xlc_BadNumber ?xv2_BadNumber ?xfl_BadNumber ?xlcc_BadNumber ?xs_BadNumber_BadNumber
    (case a__law_taken => k_is)
    (case l__law_taken => k_is)
    (case c__law_taken => k_is)
    (case k__law_taken => k_is)
    (case a_reduced => k_is)
    (case l_reduced => k_is)
    (case c_reduced => k_is)
    (case k_reduced => k_is)
    (case a__law_alike => k_is)
    (case l__law_alike => k_is)
    (case c__law_alike => k_is)
    (case k__law_alike => k_is)
    (case a__law_low => k_is)
    (case l__law_low => k_is)
    (case c__law_low => k_is)
    (case k__law_low => k_is)
    (case a_is_row => k_is)
    (case l_is_row => k_is)
    (case c_is_row => k_is)
    (case k_is_row => k_is)
    (case a_is_whole => k_is)
    (case l_is_whole => k_is)
    (case c_is_whole => k_is)
    (case k_is_whole => k_is)
    (case a_is_fraction => k_is)
    (case l_is_fraction => k_is)
    (case c_is_fraction => k_is)
    (case k_is_fraction => k_is)
    (case a_plus => k_is)
    (case l_plus => k_is)
    (case c_plus => k_is)
    (case k_plus => k_is)
    (case a_minus => k_is)
    (case l_minus => k_is)
    (case c_minus => k_is)
    (case k_minus => k_is)
    (case a_times => k_is)
    (case l_times => k_is)
    (case c_times => k_is)
    (case k_times => k_is)
    (case a_over => k_is)
    (case l_over => k_is)
    (case c_over => k_is)
    (case k_over => k_is)
    (case a__law_truth => k_is)
    (case l__law_truth => k_is)
    (case c__law_truth => k_is)
    (case k__law_truth => k_is)
    (case a_is_less => k_is)
    (case l_is_less => k_is)
    (case c_is_less => k_is)
    (case k_is_less => k_is)
    (case a_floor_of => k_is)
    (case l_floor_of => k_is)
    (case c_floor_of => k_is)
    (case k_floor_of => k_is)
    (case a_ceiling_of => k_is)
    (case l_ceiling_of => k_is)
    (case c_ceiling_of => k_is)
    (case k_ceiling_of => k_is)
    (case a_nearest => k_is)
    (case l_nearest => k_is)
    (case c_nearest => k_is)
    (case k_nearest => k_is)
    (case a_total => k_is)
    (case l_total => k_is)
    (case c_total => k_is)
    (case k_total => k_is)
    (case a_median => k_is)
    (case l_median => k_is)
    (case c_median => k_is)
    (case k_median => k_is)
    (case a_want_fraction => k_is)
    (case l_want_fraction => k_is)
    (case c_want_fraction => k_is)
    (case k_want_fraction => k_is)
    (case a_law => k_is)
    (case l_law => k_is)
    (case c_law => k_is)
    (case k_law => k_is)
    (case z_abs => k_is)
    (case z_bool => k_is)
    (case z_int => k_is)
    (case z_isinstance => k_is)
    (case z_len => k_is)
    (case z_list => k_is)
    (case z_max => k_is)
    (case z_min => k_is)
    (case z_range => k_is)
    (case z_repr => k_is)
    (case z_str => k_is)
    (case z_tuple => k_is)
    (case op => k_is)
    (case zsup => k_is)
    (case tops => rfl)
    (case g_BadNumber => k_is)
    (case xl_BadNumber => k_is)
    (case xsa_BadNumber => k_is)
    (case xga_BadNumber => k_is)
    (case xgg_BadNumber => k_is)
    (case xn_BadNumber_value => k_is)
    (case xi_BadNumber => k_is)
    (case xt1_BadNumber => k_is)
    (case xk_BadNumber => k_is)
    (case xb_BadNumber => k_is)
    (case xty_BadNumber => k_is)
    (case xh_BadNumber => k_is)
    (case xic_BadNumber => k_is)
    (case xsu_BadNumber => kernel_rfl)
    (case xmc_BadNumber => k_is)
    (case xmv_BadNumber => k_is)
    (case xf1_BadNumber => k_is)
    (case xcd_BadNumber => k_is)
    (case xhl_BadNumber => rfl)
    (case xlc_BadNumber => k_is)
    (case xv2_BadNumber => rfl)
    (case xfl_BadNumber => kernel_rfl)
    (case xlcc_BadNumber => k_is)
    (case xs_BadNumber_BadNumber => k_is)
