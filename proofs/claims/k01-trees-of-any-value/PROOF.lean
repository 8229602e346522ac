import PyProof.Rows.All
import Wide.All
import OpenK.AllK
import Wide.FinOn
import HandS.ForMost
import HandS.ForExc
import HandS.Defaults
import HandS.IsInst
import HandS.TupAny
import HandS.TupMul
import HandS.Deep
import HandS.Walk
import HandS.Flow
import HandS.Zip
import HandS.Style
import PyProof.ReprRoads
import HandS.SortOrd
import HandS.SortInts
import HandS.TupLe
import KE.KSortTup
import KE.KSortAsk
import KE.DataMinMax
import HandS.SetFor
import HandS.Strs
import HandS.Conv
import KE.KDictPairs
import HandS.Iter
import KE.GoesMore
import KE.KRevSl
import PyProof.EnumMake
import HandS.ExcOwn
import HandS.ExcInit
import HandS.FStr
import HandS.Base
import HandS.Call
import HandS.OwnEq
import KE.KIsAll
import KE.KTryMore
import KE.KExcIs
import HandS.Exc
import HandS.TryMany
import HandS.ExcField
import HandS.HotCalls
import HandS.Words
import HandS.Head0
import HandS.Head1
import HandS.Head2
import HandS.HeadEnd
import HandS.HeadHook1
import HandS.HeadHook2
import PySem.Challenge.RW_farchange_k01_trees_of_any_value
set_option Elab.async false
set_option linter.all false
set_option maxRecDepth 100000
section
set_option autoImplicit false
/-! values, stores, outcomes -/
namespace Fc
open PySem PySem.Spec L2

inductive D where
  | non | bl (b : Bool) | int (i : Int) | str (x : Str)
  | tup (xs : List D) | lst (xs : List D) | dic (t : Bool) (ks vs : List D) | dil (t : Bool) (ks vs : List D)
  | ob (c : Nat) (fs : List D) | ref (l : Nat) | scr (ns : List Int) | pr (xs : List D)

abbrev Env := List (Option D)
inductive Obj where
  | lst (xs : List D) | dic (t : Bool) (ks vs : List D) | ins (c : Nat) (fs : List D) | dead
abbrev Store := List Obj
inductive RV where
  | val (d : D) | tl (xs : List D) | td (t : Bool) (ks vs : List D)
@[reducible] def RV.toD : RV → D
  | .val d => d | .tl xs => .lst xs | .td t ks vs => .dic t ks vs
/-- a dict that comes fresh is locked -/
@[reducible] def RV.toL : RV → D
  | .val d => d | .tl xs => .lst xs | .td t ks vs => .dil t ks vs

inductive Out (α : Type) where
  | ok (a : α) (S : Store) | ex (c : Nat) (fs : List D) (r : Env) (S : Store) | bad
def Out.bind {α β : Type} : Out α → (α → Store → Out β) → Out β
  | .ok a S, f => f a S
  | .ex c fs r S, _ => .ex c fs r S
  | .bad, _ => .bad
@[simp] theorem Out.bind_ok {α β : Type} (a : α) (S : Store) (f : α → Store → Out β) : (Out.ok a S).bind f = f a S := rfl
@[simp] theorem Out.bind_ex {α β : Type} (c fs r S) (f : α → Store → Out β) : (Out.ex c fs r S : Out α).bind f = .ex c fs r S := rfl
@[simp] theorem Out.bind_bad {α β : Type} (f : α → Store → Out β) : (Out.bad : Out α).bind f = .bad := rfl

/-- the class table: where a class stands, the names of its fields -/
structure Ct where
  adr : Nat → Addr
  flds : Nat → List Str
/-- the frozen addresses; the addresses of the store's objects; the class table; what is not to be touched -/
structure Wd where
  F : Addr → Prop
  m : List Addr
  c : Ct
  T : Addr → Prop
def kD : Key → D
  | .inl i => .int i
  | .inr x => .str x

class CtI where
  ct : Ct
  K : PySem.W.Frag
  kn : Nat → Prop
  sm : ∃ o, K.lookup sysModules = some o ∧ o.cls = .type "dict"
variable [CtI]
/-- a list of ints that is the module's own -/
def KLs (a : Addr) (ns : List Int) : Prop := ∀ H : Hp, SqL CtI.K H a (ns.map V.int)
class KX (X : Cx) : Prop where
  k : X.K = CtI.K
/-- a tuple of a text and a number (an end, a place) may be a key; all other tuples lie locked, without a dict of their own -/
@[simp] def nk : List D → Bool
  | [.str _, .int _] => false
  | _ => true
def TupAt (H : Hp) (a : Addr) (vs : List V) (ds : List D) : Prop := (nk ds = false ∧ H a = some (.tup vs)) ∨ (nk ds = true ∧ ∃ o : PySem.Obj, o.dict = none ∧ H a = some (.frz o (.tup vs)))
theorem TupAt.rd {H : Hp} {a : Addr} {vs : List V} {ds : List D} (t : TupAt H a vs ds) : L2.Rd H a (.tup vs) := t.elim (fun t => .inl t.2) fun t => let ⟨o, _, e⟩ := t.2; .inr ⟨o, e⟩
theorem TupAt.sq {K : PySem.W.Frag} {H : Hp} {a : Addr} {vs : List V} {ds : List D} (t : TupAt H a vs ds) : SqT K H a vs := .inl t.rd
theorem TupAt.key {H : Hp} {a : Addr} {vs : List V} {x : Str} {i : Int} (t : TupAt H a vs [.str x, .int i]) : H a = some (.tup vs) := by
  rcases t with t | t
  · exact t.2
  · cases t.1
theorem TupAt.ext {H H' : Hp} {a : Addr} {vs : List V} {ds : List D} (e : H' a = H a) (t : TupAt H a vs ds) : TupAt H' a vs ds := t.imp (fun t => ⟨t.1, e.trans t.2⟩) fun t => ⟨t.1, let ⟨o, d, q⟩ := t.2; ⟨o, d, e.trans q⟩⟩
mutual
inductive Rep (W : Wd) (H : Hp) : V → D → Prop
  | non : Rep W H .non .non
  | bl (b : Bool) : Rep W H (.bl b) (.bl b)
  | int (i : Int) : Rep W H (.int i) (.int i)
  | str (x : Str) : Rep W H (.str x) (.str x)
  | tup {a : Addr} {vs : List V} {ds : List D} : W.F a → TupAt H a vs ds → Reps W H vs ds → ds.length ≤ 16777216 → Rep W H (.ref a) (.tup ds)
  | lst {a : Addr} {vs : List V} {ds : List D} : W.F a → H a = some (.lst vs) → Reps W H vs ds → ds.length ≤ 16777216 → Rep W H (.ref a) (.lst ds)
  | scr {a : Addr} {ns : List Int} : (W.F a ∧ L2.Rd H a (.lst (ns.map V.int))) ∨ KLs a ns → ns.length ≤ 16777216 → Rep W H (.ref a) (.scr ns)
  | dk {a : Addr} {kvs : List (Key × V)} {vs : List D} : W.F a → H a = some (.dK kvs) → Reps W H (kvs.map (·.2)) vs → Rep W H (.ref a) (.dic false (kvs.map fun p => kD p.1) vs)
  | dt {a : Addr} {kvs : List (List Key × V)} {vs : List D} : W.F a → H a = some (.dT kvs) → Reps W H (kvs.map (·.2)) vs → Rep W H (.ref a) (.dic true (kvs.map fun p => .tup (p.1.map kD)) vs)
  | dkl {a : Addr} {o : PySem.Obj} {kvs : List (Key × V)} {vs : List D} : W.F a → H a = some (.frz o (.dK kvs)) → Reps W H (kvs.map (·.2)) vs → Rep W H (.ref a) (.dil false (kvs.map fun p => kD p.1) vs)
  | dtl {a : Addr} {o : PySem.Obj} {kvs : List (List Key × V)} {vs : List D} : W.F a → H a = some (.frz o (.dT kvs)) → Reps W H (kvs.map (·.2)) vs → Rep W H (.ref a) (.dil true (kvs.map fun p => .tup (p.1.map kD)) vs)
  | ob {a dx : Addr} {c : Nat} {vs : List V} {fs : List D} : W.F a → W.F dx → H a = some (.ins (W.c.adr c) dx ((W.c.flds c).zip vs)) → H dx = some (.own a) → Reps W H vs fs → vs.length = (W.c.flds c).length → Rep W H (.ref a) (.ob c fs)
  | ref {a : Addr} {l : Nat} : W.m[l]? = some a → Rep W H (.ref a) (.ref l)
  | pr {a : Addr} {vs : List V} {ds : List D} : W.F a → H a = some (.tup vs) → Reps W H vs ds → Rep W H (.ref a) (.pr ds)
inductive Reps (W : Wd) (H : Hp) : List V → List D → Prop
  | nil : Reps W H [] []
  | cons {v : V} {vs : List V} {d : D} {ds : List D} : Rep W H v d → Reps W H vs ds → Reps W H (v :: vs) (d :: ds)
end

structure Ext (W : Wd) (H : Hp) (W' : Wd) (H' : Hp) : Prop where
  fr : ∀ a, W.F a → W'.F a ∧ H' a = H a
  pre : ∃ t, W'.m = W.m ++ t
  c : W'.c = W.c
  tm : ∀ a, W.T a → W'.T a ∧ H' a = H a
theorem Ext.refl (W : Wd) (H : Hp) : Ext W H W H := ⟨fun a h => ⟨h, rfl⟩, ⟨[], by simp⟩, rfl, fun a h => ⟨h, rfl⟩⟩
theorem Ext.trans {W H W1 H1 W2 H2} (a : Ext W H W1 H1) (b : Ext W1 H1 W2 H2) : Ext W H W2 H2 :=
  ⟨fun x h => ⟨(b.fr x (a.fr x h).1).1, ((b.fr x (a.fr x h).1).2).trans (a.fr x h).2⟩, by
    obtain ⟨t, e⟩ := a.pre
    obtain ⟨u, e'⟩ := b.pre
    exact ⟨t ++ u, by rw [e', e, List.append_assoc]⟩, b.c.trans a.c,
    fun x h => ⟨(b.tm x (a.tm x h).1).1, ((b.tm x (a.tm x h).1).2).trans (a.tm x h).2⟩⟩
theorem Rd_ext {W : Wd} {H H' : Hp} {a : Addr} {u : HO} (e : H' a = H a) (r : L2.Rd H a u) : L2.Rd H' a u := by
  unfold L2.Rd at *
  rw [e]; exact r
/-- what a value's place asks -/
structure E0 (W : Wd) (H : Hp) (W' : Wd) (H' : Hp) : Prop where
  fr : ∀ a, W.F a → W'.F a ∧ H' a = H a
  pre : ∃ t, W'.m = W.m ++ t
  c : W'.c = W.c
mutual
theorem Rep.ext0 {W W' : Wd} {H H' : Hp} (e : E0 W H W' H') : ∀ {v : V} {d : D}, Rep W H v d → Rep W' H' v d
  | _, _, .non => .non
  | _, _, .bl b => .bl b
  | _, _, .int i => .int i
  | _, _, .str x => .str x
  | _, _, .tup f r rs hl => .tup (e.fr _ f).1 (r.ext (e.fr _ f).2) (rs.ext0 e) hl
  | _, _, .lst f r rs hl => .lst (e.fr _ f).1 ((e.fr _ f).2.trans r) (rs.ext0 e) hl
  | _, _, .scr f hl => .scr (f.imp (fun f => ⟨(e.fr _ f.1).1, Rd_ext (W := W) (e.fr _ f.1).2 f.2⟩) id) hl
  | _, _, .dk f r rs => .dk (e.fr _ f).1 ((e.fr _ f).2.trans r) (rs.ext0 e)
  | _, _, .dt f r rs => .dt (e.fr _ f).1 ((e.fr _ f).2.trans r) (rs.ext0 e)
  | _, _, .dkl f r rs => .dkl (e.fr _ f).1 ((e.fr _ f).2.trans r) (rs.ext0 e)
  | _, _, .dtl f r rs => .dtl (e.fr _ f).1 ((e.fr _ f).2.trans r) (rs.ext0 e)
  | _, _, .ob f g r q rs hl => .ob (e.fr _ f).1 (e.fr _ g).1 (by rw [e.c]; exact (e.fr _ f).2.trans r) ((e.fr _ g).2.trans q) (rs.ext0 e) (by rw [e.c]; exact hl)
  | _, _, .pr f r rs => .pr (e.fr _ f).1 ((e.fr _ f).2.trans r) (rs.ext0 e)
  | _, _, .ref h => .ref (by
      obtain ⟨t, q⟩ := e.pre
      rw [q, List.getElem?_append_left (List.getElem?_eq_some_iff.mp h).1]; exact h)
theorem Reps.ext0 {W W' : Wd} {H H' : Hp} (e : E0 W H W' H') : ∀ {vs : List V} {ds : List D}, Reps W H vs ds → Reps W' H' vs ds
  | _, _, .nil => .nil
  | _, _, .cons r rs => .cons (r.ext0 e) (rs.ext0 e)
end

theorem Ext.e0 {W W' : Wd} {H H' : Hp} (e : Ext W H W' H') : E0 W H W' H' := ⟨e.fr, e.pre, e.c⟩
theorem Rep.ext {W W' : Wd} {H H' : Hp} (e : Ext W H W' H') {v : V} {d : D} (h : Rep W H v d) : Rep W' H' v d := h.ext0 e.e0
theorem Reps.ext {W W' : Wd} {H H' : Hp} (e : Ext W H W' H') {vs : List V} {ds : List D} (h : Reps W H vs ds) : Reps W' H' vs ds := h.ext0 e.e0

def OR (W : Wd) (H : Hp) (a : Addr) : Obj → Prop
  | .lst ds => ∃ vs, H a = some (.lst vs) ∧ Reps W H vs ds ∧ ds.length ≤ 16777216
  | .dic false ks vs => ∃ kvs, H a = some (.dK kvs) ∧ ks = (kvs.map fun p => kD p.1) ∧ Reps W H (kvs.map (·.2)) vs
  | .dic true ks vs => ∃ kvs, H a = some (.dT kvs) ∧ ks = (kvs.map fun p => .tup (p.1.map kD)) ∧ Reps W H (kvs.map (·.2)) vs
  | .ins c fs => ∃ dx vs, H a = some (.ins (W.c.adr c) dx vs) ∧ vs.map (·.1) = (W.c.flds c).take fs.length ∧ Reps W H (vs.map (·.2)) fs
  | .dead => H a ≠ none

/-- what may lie at an address that is in hand -/
def Tmp (o : Option HO) : Prop := o ≠ none ∧ ∀ xs, o ≠ some (.tup xs)
structure Wok (W : Wd) (H : Hp) (S : Store) : Prop where
  len : W.m.length = S.length
  obj : ∀ (l : Nat) (o : Obj), S[l]? = some o → ∃ a, W.m[l]? = some a ∧ OR W H a o
  nd : W.m.Nodup
  dis : ∀ (l : Nat) (a : Addr), W.m[l]? = some a → S[l]? ≠ some .dead → ¬ W.F a
  dom : ∀ a, W.F a → H a ≠ none
  tem : ∀ a, W.T a → ¬ W.F a ∧ a ∉ W.m ∧ Tmp (H a)
  ct : W.c = CtI.ct

def RepR (W : Wd) (H : Hp) (v : V) : RV → Prop
  | .val d => Rep W H v d
  | .tl ds => ∃ a vs, v = .ref a ∧ H a = some (.lst vs) ∧ Reps W H vs ds ∧ ds.length ≤ 16777216 ∧ ¬ W.F a ∧ a ∉ W.m ∧ ¬ W.T a
  | .td false ks vs => ∃ a kvs, v = .ref a ∧ H a = some (.dK kvs) ∧ ks = (kvs.map fun p => kD p.1) ∧ Reps W H (kvs.map (·.2)) vs ∧ ¬ W.F a ∧ a ∉ W.m ∧ ¬ W.T a
  | .td true ks vs => ∃ a kvs, v = .ref a ∧ H a = some (.dT kvs) ∧ ks = (kvs.map fun p => .tup (p.1.map kD)) ∧ Reps W H (kvs.map (·.2)) vs ∧ ¬ W.F a ∧ a ∉ W.m ∧ ¬ W.T a

/-- a frozen world with one more address -/
def Wd.frz (W : Wd) (a : Addr) : Wd := ⟨fun b => W.F b ∨ b = a, W.m, W.c, W.T⟩
theorem Wd.frz_ext {W : Wd} {H : Hp} {a : Addr} : Ext W H (W.frz a) H := ⟨fun b h => ⟨.inl h, rfl⟩, ⟨[], by simp [Wd.frz]⟩, rfl, fun b h => ⟨h, rfl⟩⟩
theorem OR.ext0 {W W' : Wd} {H H' : Hp} (e : E0 W H W' H') {a : Addr} (ha : H' a = H a) : ∀ {o : Obj}, OR W H a o → OR W' H' a o
  | .lst ds, ⟨vs, h, r, hl⟩ => ⟨vs, by rw [ha]; exact h, r.ext0 e, hl⟩
  | .dic false .., ⟨kvs, h, k, r⟩ => ⟨kvs, by rw [ha]; exact h, k, r.ext0 e⟩
  | .dic true .., ⟨kvs, h, k, r⟩ => ⟨kvs, by rw [ha]; exact h, k, r.ext0 e⟩
  | .ins .., ⟨dx, vs, h, k, r⟩ => ⟨dx, vs, by rw [ha, e.c]; exact h, by rw [e.c]; exact k, r.ext0 e⟩
  | .dead, h => by show H' a ≠ none; rw [ha]; exact h
theorem OR.ext {W W' : Wd} {H H' : Hp} (e : Ext W H W' H') {a : Addr} (ha : H' a = H a) {o : Obj} (h : OR W H a o) : OR W' H' a o := h.ext0 e.e0 ha
theorem Wok.frz {W : Wd} {H : Hp} {S : Store} (w : Wok W H S) {a : Addr} {o : HO} (ha : H a = some o) (hm : a ∉ W.m) (ht : ¬ W.T a) : Wok (W.frz a) H S := by
  refine ⟨w.len, fun l o h => ?_, w.nd, fun l b hb hd hf => ?_, fun b hb => ?_, fun b hb => ⟨fun hf => ?_, (w.tem b hb).2⟩, w.ct⟩
  · obtain ⟨b, h1, h2⟩ := w.obj l o h
    exact ⟨b, h1, h2.ext Wd.frz_ext rfl⟩
  · rcases hf with hf | hf
    · exact w.dis l b hb hd hf
    · subst hf; exact hm (List.mem_of_getElem? hb)
  · rcases hb with hb | hb
    · exact w.dom b hb
    · subst hb; rw [ha]; exact nofun
  · rcases hf with hf | hf
    · exact (w.tem b hb).1 hf
    · subst hf; exact ht hb
/-- what comes is frozen -/
theorem RepR.toD {W : Wd} {H : Hp} {S : Store} {v : V} {rv : RV} (w : Wok W H S) (r : RepR W H v rv) : ∃ W', Ext W H W' H ∧ Wok W' H S ∧ Rep W' H v rv.toD := by
  cases rv with
  | val d => exact ⟨W, .refl _ _, w, r⟩
  | tl ds =>
    obtain ⟨a, vs, rfl, ha, rs, hl, nf, nm, nt⟩ := r
    exact ⟨W.frz a, Wd.frz_ext, w.frz ha nm nt, .lst (.inr rfl) ha (rs.ext Wd.frz_ext) hl⟩
  | td t ks vs =>
    cases t with
    | false =>
      obtain ⟨a, kvs, rfl, ha, rfl, rs, nf, nm, nt⟩ := r
      exact ⟨W.frz a, Wd.frz_ext, w.frz ha nm nt, .dk (.inr rfl) ha (rs.ext Wd.frz_ext)⟩
    | true =>
      obtain ⟨a, kvs, rfl, ha, rfl, rs, nf, nm, nt⟩ := r
      exact ⟨W.frz a, Wd.frz_ext, w.frz ha nm nt, .dt (.inr rfl) ha (rs.ext Wd.frz_ext)⟩

/-- how an exception lies: its class, its own dict, its fields -/
def ExR (W : Wd) (H : Hp) (cls : Value) (d : Option Addr) (c : Nat) (fs : List D) : Prop :=
  cls = .ref (W.c.adr c) ∧ CtI.kn c ∧ ∃ dd vs, d = some dd ∧ W.F dd ∧ H dd = some (.xd ((W.c.flds c).zip vs).reverse) ∧ Reps W H vs fs ∧ vs.length = (W.c.flds c).length

theorem ExR.ext0 {W W' : Wd} {H H' : Hp} (e : E0 W H W' H') {cls : Value} {d : Option Addr} {c : Nat} {fs : List D} (h : ExR W H cls d c fs) : ExR W' H' cls d c fs := by
  obtain ⟨h1, h2, dd, vs, rfl, hf, h3, h4, h5⟩ := h
  exact ⟨by rw [e.c]; exact h1, h2, dd, vs, rfl, (e.fr dd hf).1, by rw [(e.fr dd hf).2, e.c]; exact h3, h4.ext0 e, by rw [e.c]; exact h5⟩
/-- an exception in hand: its slot, its address, its class, its dict -/
class XsI where
  xs : Option (Nat × Addr × Value × Option Addr)
variable [XsI]
/-- how an exception in hand is written: no value of the program's is written so -/
def xcD (c : Nat) (fs : List D) : D := .dil false [.non, .int c] fs
theorem xcD_no {W : Wd} {H : Hp} {v : V} {c : Nat} {fs : List D} (h : Rep W H v (xcD c fs)) : False := by
  generalize hd : xcD c fs = d at h
  unfold xcD at hd
  cases h <;> first | (cases hd; done) | skip
  all_goals
    rename_i kvs _ _ _ _
    injection hd with h1 h2 h3
    cases kvs with
    | nil => cases h2
    | cons p r =>
      rw [List.map_cons] at h2
      injection h2 with h2 _
      obtain ⟨k, _⟩ := p
      cases k <;> cases h2
def XR (W : Wd) (H : Hp) (i : Nat) (v : V) (d : D) : Prop := ∃ a cls dd c fs, XsI.xs = some (i, a, cls, dd) ∧ d = xcD c fs ∧ v = .ref a ∧ ExR W H cls dd c fs
def EnvR (W : Wd) (H : Hp) (r : Env) (σ : St) : Prop := r.length = σ.length ∧ ∀ (i : Nat) (d : D), r[i]? = some (some d) → ∃ v, σ[i]? = some (some v) ∧ (Rep W H v d ∨ XR W H i v d)
theorem XR.ext0 {W W' : Wd} {H H' : Hp} (e : E0 W H W' H') {i : Nat} {v : V} {d : D} (h : XR W H i v d) : XR W' H' i v d := by
  obtain ⟨a, cls, dd, c, fs, h1, h2, h3, h4⟩ := h
  exact ⟨a, cls, dd, c, fs, h1, h2, h3, h4.ext0 e⟩
theorem EnvR.ext {W W' : Wd} {H H' : Hp} (e : Ext W H W' H') {r : Env} {σ : St} (h : EnvR W H r σ) : EnvR W' H' r σ :=
  ⟨h.1, fun i d q => by obtain ⟨v, h1, h2⟩ := h.2 i d q; exact ⟨v, h1, h2.imp (·.ext e) (·.ext0 e.e0)⟩⟩
/-- a slot that holds no exception -/
def Nox (i : Nat) : Prop := ∀ p, XsI.xs = some p → p.1 ≠ i
theorem EnvR.at {W : Wd} {H : Hp} {r : Env} {σ : St} (h : EnvR W H r σ) {i : Nat} {d : D} (e : r[i]? = some (some d)) (n : Nox i) : ∃ v, σ[i]? = some (some v) ∧ Rep W H v d := by
  obtain ⟨v, h1, h2 | ⟨a, cls, dd, c, fs, h2, _⟩⟩ := h.2 i d e
  · exact ⟨v, h1, h2⟩
  · exact absurd rfl (n _ h2)
def Post (W : Wd) (H : Hp) (σ : St) (Wx : WX) : Out RV → VK → Prop
  | .ok rv S', Q => ∀ v H' W', Ext W H W' H' → Wok W' H' S' → RepR W' H' v rv → Q v H'
  | .ex c fs _ S', _ => ∀ cls d H' W', Ext W H W' H' → Wok W' H' S' → ExR W' H' cls d c fs → Wx cls d σ H'
  | .bad, _ => False
theorem Post.mono {W : Wd} {H : Hp} {σ : St} {Wx : WX} {o : Out RV} {Q Q' : VK} (h : Post W H σ Wx o Q) (hq : ∀ v H', Q v H' → Q' v H') : Post W H σ Wx o Q' := by
  cases o with
  | ok rv S' => exact fun v H' W' a b c => hq _ _ (h v H' W' a b c)
  | ex c fs r S' => exact h
  | bad => exact h
theorem Post.ext {W W1 : Wd} {H H1 : Hp} {σ : St} {Wx : WX} {o : Out RV} {Q : VK} (e : Ext W H W1 H1) (h : Post W H σ Wx o Q) : Post W1 H1 σ Wx o Q := by
  cases o with
  | ok rv S' => exact fun v H' W' a b c => h v H' W' (e.trans a) b c
  | ex c fs r S' => exact fun cls d H' W' a b c => h cls d H' W' (e.trans a) b c
  | bad => exact h
def Out.bindD {β : Type} (o : Out RV) (k : D → Store → Out β) : Out β := o.bind fun rv S => k rv.toD S
omit [CtI] [XsI] in
@[simp] theorem Out.bindD_val {β : Type} (d : D) (S : Store) (k : D → Store → Out β) : (Out.ok (RV.val d) S).bindD k = k d S := rfl
omit [CtI] [XsI] in
@[simp] theorem Out.bindD_tl {β : Type} (d : List D) (S : Store) (k : D → Store → Out β) : (Out.ok (RV.tl d) S).bindD k = k (.lst d) S := rfl
omit [CtI] [XsI] in
@[simp] theorem Out.bindD_td {β : Type} (t : Bool) (ks vs : List D) (S : Store) (k : D → Store → Out β) : (Out.ok (RV.td t ks vs) S).bindD k = k (.dic t ks vs) S := rfl
omit [CtI] [XsI] in
@[simp] theorem Out.bindD_ex {β : Type} (c fs r S) (k : D → Store → Out β) : (Out.ex c fs r S : Out RV).bindD k = .ex c fs r S := rfl
omit [CtI] [XsI] in
@[simp] theorem Out.bindD_bad {β : Type} (k : D → Store → Out β) : (Out.bad : Out RV).bindD k = .bad := rfl
theorem Post.bind {W : Wd} {H : Hp} {σ : St} {Wx : WX} {o : Out RV} {k : D → Store → Out RV} {Q : VK} (h : Post W H σ Wx (o.bindD k) Q) :
    Post W H σ Wx o fun x H1 => ∃ W1 S1 d, Ext W H W1 H1 ∧ Wok W1 H1 S1 ∧ Rep W1 H1 x d ∧ Post W1 H1 σ Wx (k d S1) Q := by
  cases o with
  | ok rv S' =>
    intro v H' W' e w r
    obtain ⟨W2, e2, w2, r2⟩ := r.toD w
    exact ⟨W2, S', _, e.trans e2, w2, r2, Post.ext (e.trans e2) h⟩
  | ex c fs r S' => exact h
  | bad => exact h

/-- an expression's reading by its meaning -/
def Rd (Wx : WX) (ev : Env → Store → Out RV) : TE := fun σ H Q => ∃ W S r, Wok W H S ∧ EnvR W H r σ ∧ Post W H σ Wx (ev r S) Q
theorem PE_imp {X : Cx} {e : Expr} {t t' : TE} (h : PE X e t) (i : ∀ σ H Q, t' σ H Q → t σ H Q) : PE X e t' := ⟨fun pins s σ H Q I q => h.run pins s σ H Q I (i σ H Q q)⟩

/-- two operands -/
def op2 (f : D → D → Store → Out RV) (a b : Env → Store → Out RV) : Env → Store → Out RV := fun r S => (a r S).bindD fun d S1 => (b r S1).bindD fun e S2 => f d e S2
def R2ok (Wx : WX) (f : D → D → Store → Out RV) (r : R2) : Prop := ∀ (σ : St) (W : Wd) (H : Hp) (S : Store) (x y : V) (d e : D) (Q : VK), Wok W H S → Rep W H x d → Rep W H y e → Post W H σ Wx (f d e S) Q → r x y H Q
theorem rd_op2 {Wx : WX} {f : D → D → Store → Out RV} {r : R2} (hr : R2ok Wx f r) {a b : Env → Store → Out RV} (σ : St) (H : Hp) (Q : VK) (h : Rd Wx (op2 f a b) σ H Q) : tOp r (Rd Wx a) (Rd Wx b) σ H Q := by
  obtain ⟨W, S, ρ, w, en, h⟩ := h
  refine ⟨W, S, ρ, w, en, (Post.bind h).mono fun x H1 ⟨W1, S1, d, e1, w1, r1, h1⟩ => ?_⟩
  refine ⟨W1, S1, ρ, w1, en.ext e1, (Post.bind h1).mono fun y H2 ⟨W2, S2, e, e2, w2, r2, h2⟩ => ?_⟩
  exact hr σ W2 H2 S2 x y d e Q w2 (r1.ext e2) r2 h2
theorem pe_op2 {X : Cx} {Wx : WX} {f : D → D → Store → Out RV} {r : R2} {op : Operator} {a b : Env → Store → Out RV} {ea eb : Expr} {pos : Pos} (ho : OpR X (binaryOp op) r) (hr : R2ok Wx f r) (ha : PE X ea (Rd Wx a)) (hb : PE X eb (Rd Wx b)) :
    PE X (.BinOp ea op eb pos) (Rd Wx (op2 f a b)) := PE_imp (pe_op ho ha hb) (rd_op2 hr)
end Fc

end
section
set_option autoImplicit false
namespace Fc
open PySem PySem.Spec L2 PyProof.Rows
variable [CtI] [XsI]

theorem upd_F {W : Wd} {H : Hp} {S : Store} (w : Wok W H S) {p : Addr} {o : HO} (hp : H p = none) : Ext W H W (upd H p o) :=
  ⟨fun a h => ⟨h, upd_ne (fun e => by subst e; exact w.dom _ h hp)⟩, ⟨[], by simp⟩, rfl, fun a h => ⟨h, upd_ne (fun e => by subst e; exact (w.tem _ h).2.2.1 hp)⟩⟩
theorem Wok.notm {W : Wd} {H : Hp} {S : Store} (w : Wok W H S) {p : Addr} (hp : H p = none) : p ∉ W.m := fun hm => by
  obtain ⟨l, hl⟩ := List.getElem?_of_mem hm
  have h1 : l < W.m.length := (List.getElem?_eq_some_iff.mp hl).1
  rw [w.len] at h1
  obtain ⟨a, h2, h3⟩ := w.obj l S[l] (List.getElem?_eq_getElem h1)
  rw [hl] at h2
  cases h2
  generalize S[l] = o at h3
  cases o with
  | lst ds => obtain ⟨vs, e, _⟩ := h3; rw [hp] at e; cases e
  | dic t ks vs =>
    cases t with
    | false => obtain ⟨kvs, e, _⟩ := h3; rw [hp] at e; cases e
    | true => obtain ⟨kvs, e, _⟩ := h3; rw [hp] at e; cases e
  | ins c fs => obtain ⟨dx, vs, e, _⟩ := h3; rw [hp] at e; cases e
  | dead => exact h3 hp
theorem Wok.notT {W : Wd} {H : Hp} {S : Store} (w : Wok W H S) {p : Addr} (hp : H p = none) : ¬ W.T p := fun h => (w.tem _ h).2.2.1 hp
theorem Wok.notF {W : Wd} {H : Hp} {S : Store} (w : Wok W H S) {p : Addr} (hp : H p = none) : ¬ W.F p := fun h => w.dom _ h hp
theorem Wok.upd {W : Wd} {H : Hp} {S : Store} (w : Wok W H S) {p : Addr} {o : HO} (hp : H p = none) : Wok W (upd H p o) S := by
  refine ⟨w.len, fun l ob h => ?_, w.nd, w.dis, fun a h => ?_, fun a h => ⟨(w.tem a h).1, (w.tem a h).2.1, by rw [((upd_F (o := o) w hp).tm a h).2]; exact (w.tem a h).2.2⟩, w.ct⟩
  · obtain ⟨a, h1, h2⟩ := w.obj l ob h
    refine ⟨a, h1, h2.ext (upd_F w hp) (upd_ne fun e => ?_)⟩
    subst e
    exact w.notm hp (List.mem_of_getElem? h1)
  · rw [(upd_F (o := o) w hp).fr a h |>.2]; exact w.dom a h

section
variable {W : Wd} {H : Hp} {σ : L2.St} {Wx : WX} {S : Store} {Q : VK}
theorem Post.same {v : V} {d : D} (w : Wok W H S) (h : Post W H σ Wx (.ok (.val d) S) Q) (r : Rep W H v d) : Q v H := h v H W (.refl _ _) w r
theorem Post.lst {p : Addr} {vs : List V} {ds : List D} (w : Wok W H S) (h : Post W H σ Wx (.ok (.tl ds) S) Q) (hp : H p = none) (r : Reps W H vs ds) (hl : ds.length ≤ 16777216) : Q (.ref p) (upd H p (.lst vs)) :=
  h _ _ W (upd_F w hp) (w.upd hp) ⟨p, vs, rfl, upd_same, r.ext (upd_F w hp), hl, w.notF hp, w.notm hp, w.notT hp⟩
theorem Post.tup {p : Addr} {vs : List V} {ds : List D} (w : Wok W H S) (hn : nk ds = false) (h : Post W H σ Wx (.ok (.val (.tup ds)) S) Q) (hp : H p = none) (r : Reps W H vs ds) (hl : ds.length ≤ 16777216) : Q (.ref p) (upd H p (.tup vs)) :=
  h _ _ (W.frz p) ((upd_F w hp).trans Wd.frz_ext) ((w.upd hp).frz upd_same (w.notm hp) (w.notT hp)) (.tup (.inr rfl) (.inl ⟨hn, upd_same⟩) (r.ext ((upd_F w hp).trans Wd.frz_ext)) hl)
theorem Post.pr {p : Addr} {vs : List V} {ds : List D} (w : Wok W H S) (h : Post W H σ Wx (.ok (.val (.pr ds)) S) Q) (hp : H p = none) (r : Reps W H vs ds) : Q (.ref p) (upd H p (.tup vs)) :=
  h _ _ (W.frz p) ((upd_F w hp).trans Wd.frz_ext) ((w.upd hp).frz upd_same (w.notm hp) (w.notT hp)) (.pr (.inr rfl) upd_same (r.ext ((upd_F w hp).trans Wd.frz_ext)))
theorem Post.tupF {p : Addr} {o : PySem.Obj} {vs : List V} {ds : List D} (w : Wok W H S) (hn : nk ds = true) (h : Post W H σ Wx (.ok (.val (.tup ds)) S) Q) (hp : H p = none) (ho : o.dict = none) (r : Reps W H vs ds) (hl : ds.length ≤ 16777216) : Q (.ref p) (upd H p (.frz o (.tup vs))) :=
  h _ _ (W.frz p) ((upd_F w hp).trans Wd.frz_ext) ((w.upd hp).frz upd_same (w.notm hp) (w.notT hp)) (.tup (.inr rfl) (.inr ⟨hn, o, ho, upd_same⟩) (r.ext ((upd_F w hp).trans Wd.frz_ext)) hl)
end

theorem Reps.length {W : Wd} {H : Hp} : ∀ {vs : List V} {ds : List D}, Reps W H vs ds → vs.length = ds.length
  | _, _, .nil => rfl
  | _, _, .cons _ r => by simp [r.length]
theorem Reps.get {W : Wd} {H : Hp} : ∀ {vs : List V} {ds : List D} {i : Nat} {d : D}, Reps W H vs ds → ds[i]? = some d → ∃ v, vs[i]? = some v ∧ Rep W H v d
  | _, _, _, _, .nil, h => by simp at h
  | _, _, 0, _, .cons r _, h => by simp at h; subst h; exact ⟨_, rfl, r⟩
  | _, _, i + 1, _, .cons _ r, h => by
    obtain ⟨v, h1, h2⟩ := r.get (i := i) (by simpa using h)
    exact ⟨v, by simpa using h1, h2⟩
theorem Reps.append {W : Wd} {H : Hp} : ∀ {vs vs' : List V} {ds ds' : List D}, Reps W H vs ds → Reps W H vs' ds' → Reps W H (vs ++ vs') (ds ++ ds')
  | _, _, _, _, .nil, r => r
  | _, _, _, _, .cons a r, r' => .cons a (r.append r')
theorem Reps.take {W : Wd} {H : Hp} : ∀ {vs : List V} {ds : List D} (n : Nat), Reps W H vs ds → Reps W H (vs.take n) (ds.take n)
  | _, _, 0, _ => .nil
  | _, _, _ + 1, .nil => .nil
  | _, _, n + 1, .cons a r => .cons a (r.take n)
theorem Reps.drop {W : Wd} {H : Hp} : ∀ {vs : List V} {ds : List D} (n : Nat), Reps W H vs ds → Reps W H (vs.drop n) (ds.drop n)
  | _, _, 0, r => r
  | _, _, _ + 1, .nil => .nil
  | _, _, n + 1, .cons _ r => r.drop n
theorem Reps.set {W : Wd} {H : Hp} {v : V} {d : D} (q : Rep W H v d) : ∀ {vs : List V} {ds : List D} (n : Nat), Reps W H vs ds → Reps W H (vs.set n v) (ds.set n d)
  | _, _, _, .nil => .nil
  | _, _, 0, .cons _ r => .cons q r
  | _, _, n + 1, .cons a r => .cons a (r.set q n)
theorem Reps.erase {W : Wd} {H : Hp} : ∀ {vs : List V} {ds : List D} (n : Nat), Reps W H vs ds → Reps W H (vs.eraseIdx n) (ds.eraseIdx n)
  | _, _, _, .nil => .nil
  | _, _, 0, .cons _ r => r
  | _, _, n + 1, .cons a r => .cons a (r.erase n)
theorem Reps.one {W : Wd} {H : Hp} {v : V} {d : D} (r : Rep W H v d) : Reps W H [v] [d] := .cons r .nil
theorem Reps.flat {W : Wd} {H : Hp} {vs : List V} {ds : List D} (r : Reps W H vs ds) : ∀ n : Nat, Reps W H (List.replicate n vs).flatten (List.replicate n ds).flatten
  | 0 => .nil
  | n + 1 => by rw [List.replicate_succ, List.replicate_succ, List.flatten_cons, List.flatten_cons]; exact r.append (r.flat n)
theorem Reps.ints {W : Wd} {H : Hp} : ∀ (ns : List Int), Reps W H (ns.map V.int) (ns.map D.int)
  | [] => .nil
  | n :: r => .cons (.int n) (Reps.ints r)
theorem Reps.rev {W : Wd} {H : Hp} : ∀ {vs : List V} {ds : List D}, Reps W H vs ds → Reps W H vs.reverse ds.reverse
  | _, _, .nil => .nil
  | _, _, .cons a r => by rw [List.reverse_cons, List.reverse_cons]; exact r.rev.append (.one a)

/-- the items of a list (a frozen one, one of the store), of the script -/
def seqM (S : Store) : D → Option (List D)
  | .lst xs => some xs
  | .ref l => match S[l]? with
    | some (.lst xs) => some xs
    | _ => none
  | _ => none
def seqL (S : Store) : D → Option (List D)
  | .scr ns => some (ns.map D.int)
  | d => seqM S d
omit [CtI] [XsI] in
@[simp] theorem seqM_lst (S : Store) (xs : List D) : seqM S (.lst xs) = some xs := rfl
omit [CtI] [XsI] in
@[simp] theorem seqL_lst (S : Store) (xs : List D) : seqL S (.lst xs) = some xs := rfl
omit [CtI] [XsI] in
@[simp] theorem seqL_scr (S : Store) (ns : List Int) : seqL S (.scr ns) = some (ns.map D.int) := rfl
omit [CtI] [XsI] in
theorem seqM_ref {S : Store} {l : Nat} {xs : List D} (h : S[l]? = some (.lst xs)) : seqM S (.ref l) = some xs := by simp [seqM, h]
omit [CtI] [XsI] in
theorem seqL_ref {S : Store} {l : Nat} {xs : List D} (h : S[l]? = some (.lst xs)) : seqL S (.ref l) = some xs := by simp [seqL, seqM, h]
theorem seqM_ok {W : Wd} {H : Hp} {S : Store} {x : V} {d : D} {ds : List D} (w : Wok W H S) (r : Rep W H x d) (h : seqM S d = some ds) :
    ∃ a vs, x = .ref a ∧ H a = some (.lst vs) ∧ Reps W H vs ds ∧ ds.length ≤ 16777216 := by
  cases r with
  | lst f rd rs hl => cases h; exact ⟨_, _, rfl, rd, rs, hl⟩
  | ref hm =>
    rename_i a l
    unfold seqM at h
    dsimp only at h
    split at h
    · rename_i xs e
      cases h
      obtain ⟨b, h1, vs, h2, rs, hl⟩ := w.obj _ _ e
      rw [hm] at h1
      cases h1
      exact ⟨_, _, rfl, h2, rs, hl⟩
    · cases h
  | _ => cases h
theorem seqL_ok {K : PySem.W.Frag} (hK : K = CtI.K) {W : Wd} {H : Hp} {S : Store} {x : V} {d : D} {ds : List D} (w : Wok W H S) (r : Rep W H x d) (h : seqL S d = some ds) :
    ∃ a vs, x = .ref a ∧ SqL K H a vs ∧ Reps W H vs ds ∧ ds.length ≤ 16777216 := by
  cases r with
  | scr f hl => cases h; exact ⟨_, _, rfl, f.elim (fun f => .inl f.2) (fun f => by rw [hK]; exact f H), .ints _, by simpa using hl⟩
  | lst f rd rs hl =>
    obtain ⟨a, vs, h1, h2, h3, h4⟩ := seqM_ok w (.lst f rd rs hl) h
    exact ⟨a, vs, h1, SqL.of h2, h3, h4⟩
  | ref hm =>
    obtain ⟨a, vs, h1, h2, h3, h4⟩ := seqM_ok w (.ref hm) h
    exact ⟨a, vs, h1, SqL.of h2, h3, h4⟩
  | _ => cases h
theorem tup_ok {K : PySem.W.Frag} {W : Wd} {H : Hp} {x : V} {ds : List D} (r : Rep W H x (.tup ds)) : ∃ a vs, x = .ref a ∧ SqT K H a vs ∧ Reps W H vs ds ∧ ds.length ≤ 16777216 := by
  cases r with
  | tup f rd rs hl => exact ⟨_, _, rfl, rd.sq, rs, hl⟩

/-- a meaning of two values as a rule's reading -/
def rS (Wx : WX) (f : D → D → Store → Out RV) : R2 := fun x y H Q => ∃ σ W S d e, Wok W H S ∧ Rep W H x d ∧ Rep W H y e ∧ Post W H σ Wx (f d e S) Q
theorem rS_ok {Wx : WX} {f : D → D → Store → Out RV} : R2ok Wx f (rS Wx f) := fun σ W H S x y d e Q w r1 r2 h => ⟨σ, W, S, d, e, w, r1, r2, h⟩

omit [CtI] [XsI] in
theorem lim_eq : (16777216 : Nat) = sizeLine := sizeLine_eq.symm

def evAdd : D → D → Store → Out RV
  | .int i, .int j, S => .ok (.val (.int (i + j))) S
  | .str x, .str y, S => if x.length + y.length ≤ 16777216 then .ok (.val (.str (x ++ y))) S else .bad
  | .tup xs, .tup ys, S => if xs.length + ys.length ≤ 16777216 then .ok (.val (.tup (xs ++ ys))) S else .bad
  | d, e, S => match seqM S d, seqM S e with
    | some xs, some ys => if xs.length + ys.length ≤ 16777216 then .ok (.tl (xs ++ ys)) S else .bad
    | _, _ => .bad
/-- t + u, the sum locked -/
def rCatF (K : PySem.W.Frag) : R2 := fun x y H Q => ∃ a b xs ys, x = .ref a ∧ y = .ref b ∧ SqT K H a xs ∧ SqT K H b ys ∧ xs.length + ys.length ≤ sizeLine ∧ (xs = [] → Q (.ref b) H) ∧ (xs ≠ [] → ys = [] → Q (.ref a) H) ∧ (xs ≠ [] → ys ≠ [] → ∀ (p : Addr) (o : PySem.Obj), H p = none → o.dict = none → Q (.ref p) (upd H p (.frz o (.tup (xs ++ ys)))))
theorem op_catF {X : Cx} : OpR X (binaryOp .Add) (rCatF X.K) := by
  intro pins s σ H x y v u Q I rx ry h
  obtain ⟨a, b, xs, ys, rfl, rfl, ha, hb, hz, q0, q1, q2⟩ := h
  by_cases hx : xs = []
  · exact op_catA pins s σ H _ _ v u Q I rx ry ⟨a, b, xs, ys, rfl, rfl, ha, hb, hz, q0, fun z => absurd hx z, fun z => absurd hx z⟩
  by_cases hy : ys = []
  · exact op_catA pins s σ H _ _ v u Q I rx ry ⟨a, b, xs, ys, rfl, rfl, ha, hb, hz, fun z => absurd z hx, fun z _ => q1 z hy, fun _ z => absurd hy z⟩
  cases rx
  cases ry
  obtain ⟨i1, r1, p1, _⟩ := I.tuple ha
  obtain ⟨i2, r2, p2, _⟩ := I.tuple hb
  have n1 : ∀ {vs : List V} {is : List Value}, Vals vs is → is = [] → vs = [] := fun r e => by subst e; cases r; rfl
  refine HT.cat_tup p1 p2 (fun z => hx (n1 r1 (by simpa using z))) (fun z => absurd (n1 r2 (by simpa using z)) hy) (fun z => ?_) (by rw [← r1.length, ← r2.length]; exact hz)
  exact ⟨.ref s.heap.objs.size, _, I.laid (t' := s.toks) (o := .frz _ (.tup (xs ++ ys))) (fun b ob q => Heap.get?_push_of_some _ q) (Nat.le_refl _) ⟨Heap.get?_push_size _ rfl, by rw [List.length_append]; exact hz, _, r1.append r2, IsTup.new _ _⟩, rfl, q2 hx hy _ _ (I.hok.fresh (Nat.le_refl _)) rfl⟩
theorem o_add {X : Cx} {Wx : WX} : OpR X (binaryOp .Add) (rS Wx evAdd) := by
  intro pins s σ H x y v u Q I rx ry h
  obtain ⟨σ', W, S, d, e, w, r1, r2, h⟩ := h
  unfold evAdd at h
  split at h
  · cases r1; cases r2
    exact op_add pins s σ H _ _ v u Q I rx ry ⟨_, _, rfl, rfl, h.same w (.int _)⟩
  · cases r1; cases r2
    split at h
    · rename_i hl
      exact op_add_str pins s σ H _ _ v u Q I rx ry ⟨_, _, rfl, rfl, by rw [← lim_eq]; exact hl, h.same w (.str _)⟩
    · exact h.elim
  · rename_i S' xs ys
    split at h
    · rename_i hl
      obtain ⟨a, vs, rfl, sa, ra, la⟩ := tup_ok (K := X.K) r1
      obtain ⟨b, us, rfl, sb, rb, lb⟩ := tup_ok (K := X.K) r2
      have e1 := ra.length
      have e2 := rb.length
      have q0 : vs = [] → Q (.ref b) H := fun z => by
        have : xs = [] := List.length_eq_zero_iff.mp (by rw [← e1, z]; rfl)
        subst this
        exact h.same w (by simpa using r2)
      have q1 : vs ≠ [] → us = [] → Q (.ref a) H := fun z z' => by
        have : ys = [] := List.length_eq_zero_iff.mp (by rw [← e2, z']; rfl)
        subst this
        exact h.same w (by simpa using r1)
      cases hn : nk (xs ++ ys) with
      | false => exact op_catA pins s σ H _ _ v u Q I rx ry ⟨a, b, vs, us, rfl, rfl, sa, sb, by rw [e1, e2, ← lim_eq]; exact hl, q0, q1, fun z z' p hp => h.tup w hn hp (ra.append rb) (by simpa using hl)⟩
      | true => exact op_catF pins s σ H _ _ v u Q I rx ry ⟨a, b, vs, us, rfl, rfl, sa, sb, by rw [e1, e2, ← lim_eq]; exact hl, q0, q1, fun z z' p o hp ho => h.tupF w hn hp ho (ra.append rb) (by simpa using hl)⟩
    · exact h.elim
  · split at h
    · rename_i xs ys h1 h2
      split at h
      · rename_i hl
        obtain ⟨a, vs, rfl, sa, ra, la⟩ := seqM_ok w r1 h1
        obtain ⟨b, us, rfl, sb, rb, lb⟩ := seqM_ok w r2 h2
        exact op_cat pins s σ H _ _ v u Q I rx ry ⟨a, b, vs, us, rfl, rfl, sa, sb, by rw [ra.length, rb.length, ← lim_eq]; exact hl, fun p hp => h.lst w hp (ra.append rb) (by simpa using hl)⟩
      · exact h.elim
    · exact h.elim
end Fc

end
section
set_option autoImplicit false
set_option maxHeartbeats 1000000
namespace Fc
open PySem PySem.Spec L2
variable [CtI] [XsI]
section
variable {X : Cx} {pins : List (Addr × PySem.Obj)} {σ : L2.St} {H : Hp} {s : Shared} {xs : List V} {its : List Value} {Q : VK}
omit [CtI] [XsI] in
/-- a new tuple is laid, known as one -/
theorem new_tup (I : Inv X pins σ H s) (vals : Vals xs its) (few : xs.length ≤ sizeLine) (q : Q (.ref s.heap.objs.size) (upd H s.heap.objs.size (.tup xs))) : EP X pins σ Q (.ref s.heap.objs.size) { s with heap := s.heap.push { cls := .type "tuple", data := .seq its.toArray } } :=
  ⟨.ref s.heap.objs.size, _, I.laid (t' := s.toks) (o := .tup xs) (fun _ _ z => Heap.get?_push_of_some _ z) (Nat.le_refl _) ⟨few, its, vals, PyProof.Rows.IsTup.new _ _⟩, rfl, q⟩
omit [CtI] [XsI] in
/-- a new tuple is laid, locked -/
theorem new_tupF (I : Inv X pins σ H s) (vals : Vals xs its) (few : xs.length ≤ sizeLine) (q : ∀ (p : Addr) (o : PySem.Obj), H p = none → o.dict = none → Q (.ref p) (upd H p (.frz o (.tup xs)))) : EP X pins σ Q (.ref s.heap.objs.size) { s with heap := s.heap.push { cls := .type "tuple", data := .seq its.toArray } } :=
  ⟨.ref s.heap.objs.size, _, I.laid (t' := s.toks) (o := .frz { cls := .type "tuple", data := .seq its.toArray } (.tup xs)) (fun _ _ z => Heap.get?_push_of_some _ z) (Nat.le_refl _) ⟨Heap.get?_push_size _ rfl, few, its, vals, PyProof.Rows.IsTup.new _ _⟩, rfl, q _ _ (I.hok.fresh (Nat.le_refl _)) rfl⟩
end
/-- () * k, t * 1: the tuple itself -/
theorem tuple_mul_self (l : Addr) (o : PySem.Obj) (items : Array Value) (n : Nat) (kind : o.cls = .type "tuple") (dat : o.data = .seq items n) (k : Int) (u : Tok) (fits : (decide (k < -(2 ^ 63)) || decide (k ≥ 2 ^ 63)) = false) (one : (items.isEmpty || k == 1) = true) :
    Meets (Builtin.«tuple.__mul__» ⟨[.ref l, .int k u], []⟩) (fun _ R s => s.heap.get? l = some o ∧ R (.ok (.ret (.ref l))) s) := .of_wp fun prog w A R s h => by
  obtain ⟨cls, dict, data, slots⟩ := o
  subst kind dat
  rcases s with ⟨hp, g, d, tk, os⟩
  rcases h with ⟨there, q⟩
  have whole := AutoSeq1.idx_int
  wp_walk using wpAny_loadPart' there
  refine wpAny_ite_false (decide_eq_false (fits ▸ Bool.false_ne_true)) ?_
  wp_walk using wpAny_loadPart' there
  first
    | exact ⟨_, rfl, q⟩
    | (refine wpAny_ite_true (decide_eq_true one) ?_
       wp_walk using wpAny_loadPart' there
       exact ⟨_, rfl, q⟩)
end Fc

end
section
set_option autoImplicit false
set_option maxHeartbeats 1000000
namespace Fc
open PySem PySem.Spec L2 PyProof.Rows
variable [CtI] [XsI]

theorem op_repSelf {X : Cx} : OpR X (binaryOp .Mult) (fun x y H Q => ∃ l k xs, x = .ref l ∧ y = .int k ∧ SqT X.K H l xs ∧ -(2 ^ 63) ≤ k ∧ k < 2 ^ 63 ∧ (xs = [] ∨ k = 1) ∧ Q (.ref l) H) := by
  rintro pins s σ H x y v u Q I rx ry ⟨l, k, xs, rfl, rfl, known, lo, hi, small, q⟩
  obtain ⟨t, rfl⟩ := ry
  cases rx
  obtain ⟨its, vals, ⟨o, there, kind, n, dat⟩, _⟩ := I.tuple known
  have fits : (decide (k < -(2 ^ 63)) || decide (k ≥ 2 ^ 63)) = false := Bool.or_eq_false_iff.mpr ⟨decide_eq_false (by omega), decide_eq_false (by omega)⟩
  have one : (its.toArray.isEmpty || k == 1) = true := by
    rcases small with z | z
    · cases z ▸ vals
      rfl
    · exact Bool.or_eq_true_iff.mpr (.inr (beq_iff_eq.mpr z))
  have meets := tuple_mul_self l o its.toArray n kind dat k t fits one
  obtain ⟨cls, dd, data, sl⟩ := o
  cases kind
  cases dat
  refine wpAny_binaryOp_repeat_ref (T := "tuple") (U := "int") (by decide) ⟨_, there, rfl⟩ (fun s' => typeIs_int s' k t) noFill_tuple_mul F.fills_int_mul F.slot_int_rmul repeat_tuple F.slot_int_index.lookup ?_
  refine call_meets F.slot_int_rmul (typeIs_int s k t) F.entry_int_rmul (F.args_int_rmul_2 _ _) (int_rmul_tuple k t l its.toArray n dd sl) ⟨there, rfl, ⟨_, there, rfl⟩, ?_⟩
  exact call_meets F.slot_tuple_mul ⟨_, there, rfl⟩ F.entry_tuple_mul (F.args_tuple_mul_2 _ _) meets ⟨there, .ref l, H, I, rfl, q⟩

def evSub : D → D → Store → Out RV
  | .int i, .int j, S => .ok (.val (.int (i - j))) S
  | _, _, _ => .bad
theorem o_sub {X : Cx} {Wx : WX} : OpR X (binaryOp .Sub) (rS Wx evSub) := by
  intro pins s σ H x y v u Q I rx ry h
  obtain ⟨σ', W, S, d, e, w, r1, r2, h⟩ := h
  unfold evSub at h
  split at h
  · cases r1; cases r2
    exact op_sub pins s σ H _ _ v u Q I rx ry ⟨_, _, rfl, rfl, h.same w (.int _)⟩
  · exact h.elim
def small64 (i : Int) : Prop := -18446744073709551616 < i ∧ i < 18446744073709551616
instance (i : Int) : Decidable (small64 i) := by unfold small64; infer_instance
theorem small64_iff (i : Int) : small64 i ↔ -18446744073709551616 < i ∧ i < 18446744073709551616 := Iff.rfl
def evMul : D → D → Store → Out RV
  | .int i, .int j, S => if small64 i ∨ small64 j then .ok (.val (.int (i * j))) S else .bad
  | .tup xs, .int k, S => if 1 ≤ k ∧ k ≤ 1000 ∧ xs.length ≤ 1000 then .ok (.val (.tup (List.replicate k.toNat xs).flatten)) S else .bad
  | .str x, .int k, S => if 1 ≤ k ∧ k ≤ 1000 ∧ x.length ≤ 1000 then .ok (.val (.str (Txt.mul x k))) S else .bad
  | d, .int k, S => match seqM S d with
    | some xs => if 0 ≤ k ∧ xs.length * k.toNat ≤ 16777216 ∧ k ≤ 16777216 then .ok (.tl (List.replicate k.toNat xs).flatten) S else .bad
    | none => .bad
  | _, _, _ => .bad
omit [CtI] [XsI] in
theorem len_rep {α : Type} (xs : List α) (n : Nat) : (List.replicate n xs).flatten.length = xs.length * n := by
  induction n with
  | zero => simp
  | succ n ih => rw [List.replicate_succ, List.flatten_cons, List.length_append, ih, Nat.mul_succ]; omega
/-- t * k, locked -/
def rRepF (K : PySem.W.Frag) : R2 := fun x y H Q => ∃ l k xs, x = .ref l ∧ y = .int k ∧ SqT K H l xs ∧ xs ≠ [] ∧ 2 ≤ k ∧ k ≤ 1000 ∧ xs.length ≤ 1000 ∧ ∀ (p : Addr) (o : PySem.Obj), H p = none → o.dict = none → Q (.ref p) (upd H p (.frz o (.tup (List.replicate k.toNat xs).flatten)))
theorem op_repF {X : Cx} : OpR X (binaryOp .Mult) (rRepF X.K) := by
  intro pins s σ H x y v u Q I rx ry h
  obtain ⟨l, k, xs, rfl, rfl, hT, hne, h1, h2, hz, q⟩ := h
  cases rx; obtain ⟨t, rfl⟩ := ry
  obtain ⟨is, r, ⟨⟨cls, dd, data, sl⟩, ho, hc, n, hd⟩, hs⟩ := I.tuple hT
  simp only at hc hd; subst hc hd
  have el : is.length = xs.length := r.length.symm
  have ne : is ≠ [] := fun e => hne (by rw [e] at el; exact List.eq_nil_of_length_eq_zero el.symm)
  have em : is.toArray.isEmpty = false := by cases is with | nil => exact absurd rfl ne | cons a b => rfl
  have e0 : is.toArray.size = xs.length := by rw [List.size_toArray, el]
  have nm : xs.length * k.toNat ≤ 1000 * 1000 := Nat.mul_le_mul hz (by omega)
  have mi : ((is.toArray.size : Nat) : Int) * k ≤ 1000000 := by
    rw [e0]
    have : ((xs.length : Nat) : Int) * k ≤ 1000 * k := Int.mul_le_mul_of_nonneg_right (by omega) (by omega)
    omega
  have fl : (List.replicate k.toNat is).flatten.length ≤ sizeLine := by
    rw [PyProof.Rows.lm_len_rep_flat, el, sizeLine_eq, Nat.mul_comm]; omega
  have c0 : (decide (k < -(2 ^ 63)) || decide (k ≥ 2 ^ 63)) = false := by rw [decide_eq_false (by omega), decide_eq_false (by omega)] <;> rfl
  have c1 : (is.toArray.isEmpty || k == 1) = false := by rw [em, Bool.false_or]; exact beq_eq_false_iff_ne.mpr (by omega)
  have c2 : (decide (k ≤ 0) || is.toArray.isEmpty) = false := by rw [em, Bool.or_false]; exact decide_eq_false (by omega)
  have c4 : Builtin.Tuple.tupleTooMany (((is.toArray.size : Nat) : Int) * k) = false := by unfold Builtin.Tuple.tupleTooMany; rw [sizeLine_eq]; exact decide_eq_false (by omega)
  refine wpAny_binaryOp_repeat_ref (T := "tuple") (U := "int") (by decide) ⟨_, ho, rfl⟩ (fun s' => typeIs_int s' k t) noFill_tuple_mul F.fills_int_mul F.slot_int_rmul repeat_tuple F.slot_int_index.lookup (call_meets F.slot_int_rmul (typeIs_int s k t) F.entry_int_rmul (F.args_int_rmul_2 _ _) (int_rmul_tuple k t l is.toArray n dd sl) ⟨ho, rfl, ⟨_, ho, rfl⟩, call_meets F.slot_tuple_mul ⟨_, ho, rfl⟩ F.entry_tuple_mul (F.args_tuple_mul_2 _ _) (tuple_mulW l is.toArray n dd sl k t c0 c1 c2 (by omega) c4 (by rw [size_rep, List.size_toArray]; exact fl)) ⟨ho, ?_⟩⟩)
  rw [size_rep]
  have hlen : ((List.replicate k.toNat xs).flatten).length ≤ sizeLine := by rw [PyProof.Rows.lm_len_rep_flat, sizeLine_eq, Nat.mul_comm]; omega
  have hO : ObjOk X.prog X.w (upd H s.heap.objs.size (.frz { cls := .type "tuple", data := .seq (List.replicate k.toNat is).flatten.toArray } (.tup (List.replicate k.toNat xs).flatten))) (s.heap.push { cls := .type "tuple", data := .seq (List.replicate k.toNat is).flatten.toArray }) s.heap.objs.size (.frz { cls := .type "tuple", data := .seq (List.replicate k.toNat is).flatten.toArray } (.tup (List.replicate k.toNat xs).flatten)) := ⟨Heap.get?_push_size _ rfl, hlen, _, r.rep k.toNat, IsTup.new _ _⟩
  exact ⟨.ref s.heap.objs.size, _, I.laid (t' := s.toks) (fun b ob q => Heap.get?_push_of_some _ q) (Nat.le_refl _) hO, rfl, q _ _ (I.hok.fresh (Nat.le_refl _)) rfl⟩
theorem o_mul {X : Cx} {Wx : WX} : OpR X (binaryOp .Mult) (rS Wx evMul) := by
  intro pins s σ H x y v u Q I rx ry h
  obtain ⟨σ', W, S, d, e, w, r1, r2, h⟩ := h
  unfold evMul at h
  split at h
  · cases r1; cases r2
    split at h
    · rename_i hl
      exact op_mul pins s σ H _ _ v u Q I rx ry ⟨_, _, rfl, rfl, hl, h.same w (.int _)⟩
    · exact h.elim
  · rename_i xs k
    split at h
    · rename_i hl
      obtain ⟨a, vs, rfl, sa, ra, la⟩ := tup_ok (K := X.K) r1
      cases r2
      have e1 := ra.length
      by_cases hz : vs = [] ∨ k = 1
      · refine op_repSelf pins s σ H _ _ v u Q I rx ry ⟨a, k, vs, rfl, rfl, sa, by omega, by omega, hz, h.same w ?_⟩
        rcases hz with hz | hz
        · have : xs = [] := List.length_eq_zero_iff.mp (by rw [← e1, hz]; rfl)
          subst this
          simpa using r1
        · subst hz; simpa using r1
      · have hle : ((List.replicate k.toNat xs).flatten).length ≤ 16777216 := by
          rw [len_rep]
          have : xs.length * k.toNat ≤ 1000 * 1000 := Nat.mul_le_mul hl.2.2 (by omega)
          omega
        cases hn : nk (List.replicate k.toNat xs).flatten with
        | false => exact op_repT pins s σ H _ _ v u Q I rx ry ⟨a, k, vs, rfl, rfl, sa, fun z => hz (.inl z), by omega, by omega, by omega, fun p hp => h.tup w hn hp (ra.flat _) hle⟩
        | true => exact op_repF pins s σ H _ _ v u Q I rx ry ⟨a, k, vs, rfl, rfl, sa, fun z => hz (.inl z), by omega, by omega, by omega, fun p o hp ho => h.tupF w hn hp ho (ra.flat _) hle⟩
    · exact h.elim
  · rename_i x0 k
    split at h
    · rename_i hl
      cases r1
      cases r2
      obtain ⟨t1, rfl⟩ := rx
      obtain ⟨t2, rfl⟩ := ry
      obtain ⟨h1, h2, h3⟩ := hl
      have hm : x0.length * k.toNat ≤ 1000 * 1000 := Nat.mul_le_mul h3 (by omega)
      refine PySem.SB.mul ⟨?_, fun _ _ => ?_, fun _ _ => ?_⟩ fun t' kk => ⟨.str _, H, I.tok _, ⟨_, rfl⟩, h.same w (.str _)⟩
      · rw [decide_eq_false (by omega), decide_eq_false (by omega)]; rfl
      · have : (1000 : Int) ≤ (2 ^ 63 - 1) / k := by
          rw [Int.le_ediv_iff_mul_le (by omega)]
          have : 1000 * k ≤ 1000 * 1000 := by omega
          omega
        omega
      · show decide _ = false
        have e := lim_eq
        simp only [decide_eq_false_iff_not]
        omega
    · exact h.elim
  · split at h
    · rename_i xs h1
      split at h
      · rename_i hl
        obtain ⟨a, vs, rfl, sa, ra, la⟩ := seqM_ok w r1 h1
        cases r2
        exact op_rep pins s σ H _ _ v u Q I rx ry ⟨a, _, vs, rfl, rfl, sa, by omega, by omega, by rw [ra.length, ← lim_eq]; exact hl.2.1, fun p hp => h.lst w hp (ra.flat _) (by rw [len_rep]; exact hl.2.1)⟩
      · exact h.elim
    · exact h.elim
  · exact h.elim
def evFdiv : D → D → Store → Out RV
  | .int i, .int j, S => if 0 < j ∧ j < 1073741824 then .ok (.val (.int (i / j))) S else .bad
  | _, _, _ => .bad
theorem o_fdiv {X : Cx} {Wx : WX} : OpR X (binaryOp .FloorDiv) (rS Wx evFdiv) := by
  intro pins s σ H x y v u Q I rx ry h
  obtain ⟨σ', W, S, d, e, w, r1, r2, h⟩ := h
  unfold evFdiv at h
  split at h
  · cases r1; cases r2
    split at h
    · rename_i hl
      exact op_fdiv pins s σ H _ _ v u Q I rx ry ⟨_, _, rfl, rfl, hl, h.same w (.int _)⟩
    · exact h.elim
  · exact h.elim
def evMod : D → D → Store → Out RV
  | .int i, .int j, S => if 0 < j then .ok (.val (.int (i % j))) S else .bad
  | _, _, _ => .bad
theorem o_mod {X : Cx} {Wx : WX} : OpR X (binaryOp .Mod) (rS Wx evMod) := by
  intro pins s σ H x y v u Q I rx ry h
  obtain ⟨σ', W, S, d, e, w, r1, r2, h⟩ := h
  unfold evMod at h
  split at h
  · cases r1; cases r2
    split at h
    · rename_i hl
      exact op_mod pins s σ H _ _ v u Q I rx ry ⟨_, _, rfl, rfl, hl, h.same w (.int _)⟩
    · exact h.elim
  · exact h.elim
def evPow : D → D → Store → Out RV
  | .int i, .int j, S => if 0 ≤ j ∧ j ≤ 1000000 ∧ i.natAbs < 18446744073709551616 then .ok (.val (.int (i ^ j.toNat))) S else .bad
  | _, _, _ => .bad
theorem o_pow {X : Cx} {Wx : WX} : OpR X (binaryOp .Pow) (rS Wx evPow) := by
  intro pins s σ H x y v u Q I rx ry h
  obtain ⟨σ', W, S, d, e, w, r1, r2, h⟩ := h
  unfold evPow at h
  split at h
  · cases r1; cases r2
    split at h
    · rename_i hl
      exact op_pow pins s σ H _ _ v u Q I rx ry ⟨_, _, rfl, rfl, hl, h.same w (.int _)⟩
    · exact h.elim
  · exact h.elim
def evBin : Operator → D → D → Store → Out RV
  | .Add => evAdd | .Sub => evSub | .Mult => evMul | .FloorDiv => evFdiv | .Mod => evMod | .Pow => evPow
  | _ => fun _ _ _ => .bad
theorem o_bin {X : Cx} {Wx : WX} (op : Operator) : OpR X (binaryOp op) (rS Wx (evBin op)) := by
  cases op
  case Add => exact o_add
  case Sub => exact o_sub
  case Mult => exact o_mul
  case FloorDiv => exact o_fdiv
  case Mod => exact o_mod
  case Pow => exact o_pow
  all_goals exact fun pins s σ H x y v u Q I rx ry ⟨_, _, _, _, _, _, _, _, h⟩ => h.elim

/-! ### plain data -/
mutual
def D.py : D → PyData
  | .non => .none | .bl b => .bool b | .int i => .int i | .str x => .str x
  | .tup xs => .tuple (D.pys xs) | .lst xs => .list (D.pys xs)
  | .scr ns => .list (ns.map PyData.int)
  | .dic .. => .dict [] | .dil .. => .dict [] | .pr _ => .dict [] | .ob _ _ => .dict [] | .ref _ => .dict []
def D.pys : List D → List PyData
  | [] => [] | d :: r => d.py :: D.pys r
end
mutual
/-- no dict, no object, no reference within -/
def D.plain : D → Bool
  | .tup xs => D.plains xs | .lst xs => D.plains xs
  | .dic .. => false | .dil .. => false | .pr _ => false | .ob _ _ => false | .ref _ => false | .scr _ => false
  | _ => true
def D.plains : List D → Bool
  | [] => true | d :: r => d.plain && D.plains r
end
theorem dp_ints {K : PySem.W.Frag} {H : Hp} : ∀ ns : List Int, DpAll K H (ns.map V.int) (ns.map PyData.int)
  | [] => .nil
  | n :: r => .cons (.int n) (dp_ints r)
mutual
theorem Rep.dp {K : PySem.W.Frag} {W : Wd} {H : Hp} : ∀ {v : V} {d : D}, Rep W H v d → d.plain = true → Dp K H v d.py
  | _, _, .non, _ => .non
  | _, _, .bl b, _ => .bl b
  | _, _, .int i, _ => .int i
  | _, _, .str x, _ => .str x
  | _, _, .tup f r rs hl, h =>   .tup r.sq (rs.dp (by simpa [D.plain] using h))
  | _, _, .lst f r rs hl, h => .lst (SqL.of r) (rs.dp (by simpa [D.plain] using h))
  | _, _, .scr f hl, h => by simp [D.plain] at h
  | _, _, .ref _, h => by simp [D.plain] at h
  | _, _, .dk .., h => by simp [D.plain] at h
  | _, _, .dt .., h => by simp [D.plain] at h
  | _, _, .dkl .., h => by simp [D.plain] at h
  | _, _, .dtl .., h => by simp [D.plain] at h
  | _, _, .ob .., h => by simp [D.plain] at h
theorem Reps.dp {K : PySem.W.Frag} {W : Wd} {H : Hp} : ∀ {vs : List V} {ds : List D}, Reps W H vs ds → D.plains ds = true → DpAll K H vs (D.pys ds)
  | _, _, .nil, _ => .nil
  | _, _, .cons r rs, h => by
    simp only [D.plains, Bool.and_eq_true] at h
    exact .cons (r.dp h.1) (rs.dp h.2)
end
/-- a datum, a list of the store told by its items -/
def D.look (S : Store) : D → D
  | .ref l => match S[l]? with
    | some (.lst xs) => .lst xs
    | _ => .ref l
  | d => d
theorem Rep.look {K : PySem.W.Frag} {W : Wd} {H : Hp} {S : Store} {v : V} {d : D} (w : Wok W H S) (r : Rep W H v d) (h : (d.look S).plain = true) : Dp K H v (d.look S).py := by
  cases d with
  | ref l =>
    unfold D.look at h ⊢
    dsimp only at h ⊢
    split at h
    · rename_i xs e
      obtain ⟨a, vs, rfl, h2, rs, hl⟩ := seqM_ok w r (seqM_ref e)
      exact .lst (SqL.of h2) (rs.dp (by simpa [D.plain] using h))
    · simp [D.plain] at h
  | _ => exact r.dp h
def okD (d : D) : Bool := d.plain && SeqAt.shaped d.py

def evEq (d e : D) (S : Store) : Out RV := match d, e with
  | .str x, .str y => .ok (.val (.bl (decide (x = y)))) S
  | d, e => if okD (d.look S) = true ∧ okD (e.look S) = true then .ok (.val (.bl (PyData.eqv (d.look S).py (e.look S).py))) S else .bad
def evNe (d e : D) (S : Store) : Out RV := match d, e with
  | .str x, .str y => .ok (.val (.bl (!decide (x = y)))) S
  | d, e => if okD (d.look S) = true ∧ okD (e.look S) = true then .ok (.val (.bl (!PyData.eqv (d.look S).py (e.look S).py))) S else .bad
omit [CtI] [XsI] in
theorem okD_and {d : D} (h : okD d = true) : d.plain = true ∧ SeqAt.shaped d.py = true := Bool.and_eq_true_iff.mp h
theorem o_eq {X : Cx} {Wx : WX} (hu : X.A.units + 64 < cLine) : OpR X (compareOp .Eq) (rS Wx evEq) := by
  intro pins s σ H x y v u Q I rx ry h
  obtain ⟨σ', W, S, d, e, w, r1, r2, h⟩ := h
  unfold evEq at h
  split at h
  · cases r1; cases r2
    refine op_eq pins s σ H _ _ v u Q I rx ry ⟨rfl, ?_⟩
    have h' := h.same w (.bl _)
    simpa using h'
  split at h
  · rename_i hl
    have h1 := okD_and hl.1
    have h2 := okD_and hl.2
    exact op_eqD hu pins s σ H _ _ v u Q I rx ry ⟨_, _, r1.look w h1.1, r2.look w h2.1, h1.2, h2.2, h.same w (.bl _)⟩
  · exact h.elim
theorem o_ne {X : Cx} {Wx : WX} (hu : X.A.units + 64 < cLine) : OpR X (compareOp .NotEq) (rS Wx evNe) := by
  intro pins s σ H x y v u Q I rx ry h
  obtain ⟨σ', W, S, d, e, w, r1, r2, h⟩ := h
  unfold evNe at h
  split at h
  · cases r1; cases r2
    refine op_ne pins s σ H _ _ v u Q I rx ry ⟨rfl, ?_⟩
    have h' := h.same w (.bl _)
    simpa using h'
  split at h
  · rename_i hl
    have h1 := okD_and hl.1
    have h2 := okD_and hl.2
    exact op_neD hu pins s σ H _ _ v u Q I rx ry ⟨_, _, r1.look w h1.1, r2.look w h2.1, h1.2, h2.2, h.same w (.bl _)⟩
  · exact h.elim
def evLt : D → D → Store → Out RV
  | .int i, .int j, S => .ok (.val (.bl (decide (i < j)))) S
  | .str i, .str j, S => .ok (.val (.bl (decide (i.cps.toList < j.cps.toList)))) S
  | _, _, _ => .bad
def evLe : D → D → Store → Out RV
  | .int i, .int j, S => .ok (.val (.bl (decide (i ≤ j)))) S
  | .str i, .str j, S => .ok (.val (.bl (!decide (j.cps.toList < i.cps.toList)))) S
  | _, _, _ => .bad
def evGt : D → D → Store → Out RV
  | .int i, .int j, S => .ok (.val (.bl (decide (j < i)))) S
  | .str i, .str j, S => .ok (.val (.bl (decide (j.cps.toList < i.cps.toList)))) S
  | _, _, _ => .bad
def evGe : D → D → Store → Out RV
  | .int i, .int j, S => .ok (.val (.bl (decide (j ≤ i)))) S
  | .str i, .str j, S => .ok (.val (.bl (!decide (i.cps.toList < j.cps.toList)))) S
  | _, _, _ => .bad
theorem o_lt {X : Cx} {Wx : WX} : OpR X (compareOp .Lt) (rS Wx evLt) := by
  intro pins s σ H x y v u Q I rx ry h
  obtain ⟨σ', W, S, d, e, w, r1, r2, h⟩ := h
  unfold evLt at h
  split at h
  · cases r1; cases r2
    exact op_lt pins s σ H _ _ v u Q I rx ry ⟨_, _, rfl, rfl, h.same w (.bl _)⟩
  · cases r1; cases r2
    exact op_lt_str pins s σ H _ _ v u Q I rx ry ⟨_, _, rfl, rfl, h.same w (.bl _)⟩
  · exact h.elim
theorem o_le {X : Cx} {Wx : WX} : OpR X (compareOp .LtE) (rS Wx evLe) := by
  intro pins s σ H x y v u Q I rx ry h
  obtain ⟨σ', W, S, d, e, w, r1, r2, h⟩ := h
  unfold evLe at h
  split at h
  · cases r1; cases r2
    exact op_le pins s σ H _ _ v u Q I rx ry ⟨_, _, rfl, rfl, h.same w (.bl _)⟩
  · cases r1; cases r2
    exact op_le_str pins s σ H _ _ v u Q I rx ry ⟨_, _, rfl, rfl, h.same w (.bl _)⟩
  · exact h.elim
theorem o_gt {X : Cx} {Wx : WX} : OpR X (compareOp .Gt) (rS Wx evGt) := by
  intro pins s σ H x y v u Q I rx ry h
  obtain ⟨σ', W, S, d, e, w, r1, r2, h⟩ := h
  unfold evGt at h
  split at h
  · cases r1; cases r2
    exact op_gt pins s σ H _ _ v u Q I rx ry ⟨_, _, rfl, rfl, h.same w (.bl _)⟩
  · cases r1; cases r2
    exact op_gt_str pins s σ H _ _ v u Q I rx ry ⟨_, _, rfl, rfl, h.same w (.bl _)⟩
  · exact h.elim
theorem o_ge {X : Cx} {Wx : WX} : OpR X (compareOp .GtE) (rS Wx evGe) := by
  intro pins s σ H x y v u Q I rx ry h
  obtain ⟨σ', W, S, d, e, w, r1, r2, h⟩ := h
  unfold evGe at h
  split at h
  · cases r1; cases r2
    exact op_ge pins s σ H _ _ v u Q I rx ry ⟨_, _, rfl, rfl, h.same w (.bl _)⟩
  · cases r1; cases r2
    exact op_ge_str pins s σ H _ _ v u Q I rx ry ⟨_, _, rfl, rfl, h.same w (.bl _)⟩
  · exact h.elim
/-- is None -/
def D.isNon : D → Bool
  | .non => true | _ => false
theorem Rep.isNon {W : Wd} {H : Hp} {v : V} {d : D} (r : Rep W H v d) : decide (v = .non) = d.isNon := by
  cases r <;> simp [D.isNon]
def evIs (d e : D) (S : Store) : Out RV := if e.isNon = true then .ok (.val (.bl d.isNon)) S else match d, e with
  | .bl a, .bl b => .ok (.val (.bl (decide (a = b)))) S
  | _, _ => .bad
def evIsNot (d e : D) (S : Store) : Out RV := if e.isNon = true then .ok (.val (.bl (!d.isNon))) S else match d, e with
  | .bl a, .bl b => .ok (.val (.bl (!decide (a = b)))) S
  | _, _ => .bad
theorem isNon_eq {W : Wd} {H : Hp} {v : V} {e : D} (r : Rep W H v e) (h : e.isNon = true) : v = .non := by
  cases r <;> simp_all [D.isNon]
theorem o_is {X : Cx} {Wx : WX} : OpR X (compareOp .Is) (rS Wx evIs) := by
  intro pins s σ H x y v u Q I rx ry h
  obtain ⟨σ', W, S, d, e, w, r1, r2, h⟩ := h
  unfold evIs at h
  split at h
  · rename_i hl
    exact op_isN pins s σ H _ _ v u Q I rx ry ⟨isNon_eq r2 hl, by rw [r1.isNon]; exact h.same w (.bl _)⟩
  · split at h
    · cases r1; cases r2
      exact op_isBl pins s σ H _ _ v u Q I rx ry ⟨_, _, rfl, rfl, h.same w (.bl _)⟩
    · exact h.elim
theorem o_isNot {X : Cx} {Wx : WX} : OpR X (compareOp .IsNot) (rS Wx evIsNot) := by
  intro pins s σ H x y v u Q I rx ry h
  obtain ⟨σ', W, S, d, e, w, r1, r2, h⟩ := h
  unfold evIsNot at h
  split at h
  · rename_i hl
    exact op_notN pins s σ H _ _ v u Q I rx ry ⟨isNon_eq r2 hl, by rw [r1.isNon]; exact h.same w (.bl _)⟩
  · split at h
    · cases r1; cases r2
      exact op_notBl pins s σ H _ _ v u Q I rx ry ⟨_, _, rfl, rfl, h.same w (.bl _)⟩
    · exact h.elim
end Fc

end
section
set_option autoImplicit false
set_option maxHeartbeats 1000000
namespace Fc
open PySem PySem.Spec L2 PyProof.Rows
variable [CtI] [XsI]

/-! ### a[i] -/
theorem Reps.atI {W : Wd} {H : Hp} {vs : List V} {ds : List D} {i : Int} {d : D} (r : Reps W H vs ds) (h : atI ds i = some d) : ∃ v, L2.atI vs i = some v ∧ Rep W H v d := by
  unfold L2.atI at h ⊢
  rw [r.length]
  cases e : ixN ds.length i with
  | none => rw [e] at h; cases h
  | some j =>
    rw [e] at h
    obtain ⟨v, h1, h2⟩ := r.get (i := j) (by simpa using h)
    exact ⟨v, by simpa using h1, h2⟩
def D.at : D → D → Store → Out RV
  | .tup xs, .int i, S => match atI xs i with
    | some d => .ok (.val d) S
    | none => .bad
  | .str z, .int i, S => if z.length ≤ 16777216 then (match atI z.cps.toList i with
    | some c => .ok (.val (.str ⟨#[c]⟩)) S
    | none => .bad) else .bad
  | d, .int i, S => match seqL S d with
    | some xs => (match atI xs i with
      | some d => .ok (.val d) S
      | none => .bad)
    | none => .bad
  | _, _, _ => .bad
theorem o_at {X : Cx} [KX X] {Wx : WX} : IxR X (rS Wx D.at) := by
  intro value slice pins s σ H x y v u Q I rx ry h hsu
  obtain ⟨σ', W, S, d, e, w, r1, r2, h⟩ := h
  unfold D.at at h
  split at h
  · split at h
    · rename_i hd
      obtain ⟨a, vs, rfl, sa, ra, la⟩ := tup_ok (K := X.K) r1
      obtain ⟨z, hz, rz⟩ := ra.atI hd
      cases r2
      exact ix_tup value slice pins s σ H _ _ v u Q I rx ry ⟨a, vs, _, z, rfl, rfl, sa, hz, h.same w rz⟩ hsu
    · exact h.elim
  · split at h
    · rename_i hl
      split at h
      · rename_i hd
        cases r1; cases r2
        exact ix_str value slice pins s σ H _ _ v u Q I rx ry ⟨_, _, _, rfl, rfl, by rw [← lim_eq]; exact hl, hd, h.same w (.str _)⟩ hsu
      · exact h.elim
    · exact h.elim
  · split at h
    · rename_i hs
      split at h
      · rename_i hd
        obtain ⟨a, vs, rfl, sa, ra, la⟩ := seqL_ok (KX.k (X := X)) w r1 hs
        obtain ⟨z, hz, rz⟩ := ra.atI hd
        cases r2
        exact ix_list value slice pins s σ H _ _ v u Q I rx ry ⟨a, vs, _, z, rfl, rfl, sa, hz, h.same w rz⟩ hsu
      · exact h.elim
    · exact h.elim
  · exact h.elim

/-! ### a[lo:hi] -/
def cut {α : Type} (xs : List α) (lo hi : Option Int) : List α := (xs.drop (HT.sIx xs.length 0 lo)).take (HT.sIx xs.length xs.length hi - HT.sIx xs.length 0 lo)
omit [CtI] [XsI] in
theorem cut_length {α : Type} (xs : List α) (lo hi : Option Int) : (cut xs lo hi).length ≤ xs.length := by
  unfold cut; rw [List.length_take, List.length_drop]; omega
theorem Reps.cut {W : Wd} {H : Hp} {vs : List V} {ds : List D} (r : Reps W H vs ds) (lo hi : Option Int) : Reps W H (cutV vs lo hi) (cut ds lo hi) := by
  unfold cutV Fc.cut
  rw [r.length]
  exact (r.drop _).take _
omit [CtI] [XsI] in
theorem cut_whole {α : Type} (xs : List α) (lo hi : Option Int) (h : HT.sIx xs.length 0 lo = 0 ∧ HT.sIx xs.length xs.length hi = xs.length) : cut xs lo hi = xs := by
  unfold cut
  rw [h.1, h.2]
  simp
def evSl : D → Option Int → Option Int → Store → Out RV
  | .tup xs, lo, hi, S => .ok (.val (.tup (cut xs lo hi))) S
  | .str z, lo, hi, S => if z.length ≤ 16777216 then .ok (.val (.str (cutS z lo hi))) S else .bad
  | d, lo, hi, S => match seqL S d with
    | some xs => .ok (.tl (cut xs lo hi)) S
    | none => .bad
def rSl (Wx : WX) (f : D → Option Int → Option Int → Store → Out RV) : V → Option Int → Option Int → Hp → VK → Prop := fun x lo hi H Q => ∃ σ W S d, Wok W H S ∧ Rep W H x d ∧ Post W H σ Wx (f d lo hi S) Q
/-- t[lo:hi], locked -/
def rSlF (K : PySem.W.Frag) : V → Option Int → Option Int → Hp → VK → Prop := fun x lo hi H Q => ∃ a xs, x = .ref a ∧ SqT K H a xs ∧
  (HT.sIx xs.length 0 lo = 0 ∧ HT.sIx xs.length xs.length hi = xs.length → Q (.ref a) H) ∧ (¬ (HT.sIx xs.length 0 lo = 0 ∧ HT.sIx xs.length xs.length hi = xs.length) → ∀ (p : Addr) (o : PySem.Obj), H p = none → o.dict = none → Q (.ref p) (upd H p (.frz o (.tup (cutV xs lo hi)))))
theorem sl_tupF {X : Cx} : SlR X (rSlF X.K) := fun pins s σ H x v vl vu lo hi sl Q I rx hs pl pu ⟨a, xs, ex, known, whole, part⟩ => by
  subst ex
  rcases Classical.em (HT.sIx xs.length 0 lo = 0 ∧ HT.sIx xs.length xs.length hi = xs.length) with all | some_
  · exact sl_tupA pins s σ H _ v vl vu lo hi sl Q I rx hs pl pu ⟨a, xs, rfl, known, whole, fun z => absurd all z⟩
  cases rx
  obtain ⟨its, vals, tup, few⟩ := I.tuple known
  have size : its.toArray.size = xs.length := vals.length.symm
  refine ⟨"tuple", _, PyProof.Rows.slot_tuple_getitem.lookup, tup.typeIs, HT.getItem_tuple_cut tup hs pl pu (size ▸ some_) ?_ (size ▸ few)⟩
  rw [size]
  exact new_tupF I ((vals.drop _).take _) (Nat.le_trans (cutV_length ..) few) (part some_)
theorem o_sl {X : Cx} [KX X] {Wx : WX} : SlR X (rSl Wx evSl) := by
  intro pins s σ H x v vl vu lo hi sl Q I rx hs pl pu h
  obtain ⟨σ', W, S, d, w, r, h⟩ := h
  unfold evSl at h
  split at h
  · obtain ⟨a, vs, rfl, sa, ra, la⟩ := tup_ok (K := X.K) r
    have q0 : HT.sIx vs.length 0 lo = 0 ∧ HT.sIx vs.length vs.length hi = vs.length → Q (.ref a) H := fun hw => by
      rw [ra.length] at hw
      rw [cut_whole _ _ _ hw] at h
      exact h.same w r
    rename_i xs0
    cases hn : nk (cut xs0 lo hi) with
    | false => exact sl_tupA pins s σ H _ v vl vu lo hi sl Q I rx hs pl pu ⟨a, vs, rfl, sa, q0, fun _ p hp => h.tup w hn hp (ra.cut lo hi) (Nat.le_trans (cut_length _ _ _) la)⟩
    | true => exact sl_tupF pins s σ H _ v vl vu lo hi sl Q I rx hs pl pu ⟨a, vs, rfl, sa, q0, fun _ p o hp ho => h.tupF w hn hp ho (ra.cut lo hi) (Nat.le_trans (cut_length _ _ _) la)⟩
  · split at h
    · rename_i hl
      cases r
      exact sl_str pins s σ H _ v vl vu lo hi sl Q I rx hs pl pu ⟨_, rfl, by rw [← lim_eq]; exact hl, h.same w (.str _)⟩
    · exact h.elim
  · split at h
    · rename_i hd
      obtain ⟨a, vs, rfl, sa, ra, la⟩ := seqL_ok (KX.k (X := X)) w r hd
      exact sl_list pins s σ H _ v vl vu lo hi sl Q I rx hs pl pu ⟨a, vs, rfl, sa, fun p hp => h.lst w hp (ra.cut lo hi) (Nat.le_trans (cut_length _ _ _) la)⟩
    · exact h.elim
/-- a part of a slice -/
def part (o : Option (Env → Store → Out RV)) (r : Env) (S : Store) (k : Option Int → Store → Out RV) : Out RV :=
  match o with
  | none => k none S
  | some ev => (ev r S).bindD fun d S1 => match d with
    | .int i => k (some i) S1
    | _ => .bad
def rdP (Wx : WX) : Option (Env → Store → Out RV) → TO
  | none => tNoPart
  | some ev => tPart (Rd Wx ev)
theorem rd_part {Wx : WX} {o : Option (Env → Store → Out RV)} {k : Option Int → Store → Out RV} {W : Wd} {H : Hp} {S : Store} {r : Env} {σ : L2.St} {Q : VK} {x : V} {d : D} (w : Wok W H S) (en : EnvR W H r σ) (rx : Rep W H x d)
    (h : Post W H σ Wx (part o r S k) Q) {Q' : Option Int → Hp → Prop} (hq : ∀ i W1 H1 S1, Wok W1 H1 S1 → EnvR W1 H1 r σ → Rep W1 H1 x d → Post W1 H1 σ Wx (k i S1) Q → Q' i H1) : rdP Wx o σ H Q' := by
  cases o with
  | none => exact hq none W H S w en rx h
  | some ev =>
    unfold part at h
    dsimp only at h
    refine ⟨W, S, r, w, en, (Post.bind h).mono fun y H1 ⟨W1, S1, e, e1, w1, r1, h1⟩ => ?_⟩
    cases e with
    | int i =>
      cases r1
      exact ⟨i, rfl, hq (some i) W1 H1 S1 w1 (en.ext e1) (rx.ext e1) h1⟩
    | _ => exact h1.elim
def sl2 (a : Env → Store → Out RV) (lo hi : Option (Env → Store → Out RV)) : Env → Store → Out RV := fun r S => (a r S).bindD fun d S1 => part lo r S1 fun l S2 => part hi r S2 fun u S3 => evSl d l u S3
theorem pe_sl {X : Cx} [KX X] {Wx : WX} {a : Env → Store → Out RV} {lo hi : Option (Env → Store → Out RV)} {e : Expr} {el eh : Option Expr} {p2 pos : Pos} (he : PE X e (Rd Wx a)) (hl : PO X el (rdP Wx lo)) (hh : PO X eh (rdP Wx hi)) :
    PE X (.Subscript e (.Slice el eh none p2) pos) (Rd Wx (sl2 a lo hi)) := by
  refine PE_imp (pe_slice (o_sl (Wx := Wx)) he hl hh) fun σ H Q h => ?_
  obtain ⟨W, S, r, w, en, h⟩ := h
  unfold sl2 at h
  refine ⟨W, S, r, w, en, (Post.bind h).mono fun x H1 ⟨W1, S1, d, e1, w1, r1, h1⟩ => ?_⟩
  refine rd_part w1 (en.ext e1) r1 h1 fun l W2 H2 S2 w2 en2 r2 h2 => ?_
  exact rd_part w2 en2 r2 h2 fun u W3 H3 S3 w3 en3 r3 h3 => ⟨σ, W3, S3, d, w3, r3, h3⟩

/-! ### calls by values -/
def rC (Wx : WX) (g : List D → Store → Out RV) : List V → Hp → VK → Prop := fun xs H Q => ∃ σ W S ds, Wok W H S ∧ Reps W H xs ds ∧ Post W H σ Wx (g ds S) Q
def evLen : List D → Store → Out RV
  | [.tup xs], S => .ok (.val (.int xs.length)) S
  | [.str z], S => if z.length ≤ 16777216 then .ok (.val (.int z.length)) S else .bad
  | [.dic ..], S => .bad
  | [d], S => match seqL S d with
    | some xs => .ok (.val (.int xs.length)) S
    | none => .bad
  | _, _ => .bad
theorem reps1 {W : Wd} {H : Hp} {xs : List V} {d : D} (r : Reps W H xs [d]) : ∃ x, xs = [x] ∧ Rep W H x d := by
  cases r with
  | cons a b => cases b; exact ⟨_, rfl, a⟩
theorem reps2 {W : Wd} {H : Hp} {xs : List V} {d e : D} (r : Reps W H xs [d, e]) : ∃ x y, xs = [x, y] ∧ Rep W H x d ∧ Rep W H y e := by
  cases r with
  | cons a b =>
    obtain ⟨y, rfl, q⟩ := reps1 b
    exact ⟨_, _, rfl, a, q⟩
theorem c_len {X : Cx} [KX X] {Wx : WX} : CallR X (.builtin "len") (rC Wx evLen) := by
  intro pins s σ H xs us Q I rv h
  obtain ⟨σ', W, S, ds, w, r, h⟩ := h
  unfold evLen at h
  split at h
  · obtain ⟨x, rfl, r0⟩ := reps1 r
    obtain ⟨a, vs, rfl, sa, ra, la⟩ := tup_ok (K := X.K) r0
    exact call_len_seq pins s σ H _ us Q I rv ⟨a, vs, rfl, .inr sa, by rw [ra.length]; exact h.same w (.int _)⟩
  · obtain ⟨x, rfl, r0⟩ := reps1 r
    split at h
    · rename_i hl
      cases r0
      exact call_len_str pins s σ H _ us Q I rv ⟨_, rfl, by rw [← lim_eq]; exact hl, h.same w (.int _)⟩
    · exact h.elim
  · exact h.elim
  · obtain ⟨x, rfl, r0⟩ := reps1 r
    split at h
    · rename_i hd
      obtain ⟨a, vs, rfl, sa, ra, la⟩ := seqL_ok (KX.k (X := X)) w r0 hd
      exact call_len_seq pins s σ H _ us Q I rv ⟨a, vs, rfl, .inl sa, by rw [ra.length]; exact h.same w (.int _)⟩
    · exact h.elim
  · exact h.elim
def evAbs : List D → Store → Out RV
  | [.int i], S => .ok (.val (.int (if i < 0 then -i else i))) S
  | _, _ => .bad
theorem c_abs {X : Cx} [KX X] {Wx : WX} : CallR X (.builtin "abs") (rC Wx evAbs) := by
  intro pins s σ H xs us Q I rv h
  obtain ⟨σ', W, S, ds, w, r, h⟩ := h
  unfold evAbs at h
  split at h
  · obtain ⟨x, rfl, r0⟩ := reps1 r
    cases r0
    exact call_abs pins s σ H _ us Q I rv ⟨_, rfl, h.same w (.int _)⟩
  · exact h.elim
def evDivmod : List D → Store → Out RV
  | [.int i, .int j], S => if 0 < j ∧ j < 1073741824 then .ok (.val (.pr [.int (i / j), .int (i % j)])) S else .bad
  | _, _ => .bad
theorem c_divmod {X : Cx} [KX X] {Wx : WX} : CallR X (.builtin "divmod") (rC Wx evDivmod) := by
  intro pins s σ H xs us Q I rv h
  obtain ⟨σ', W, S, ds, w, r, h⟩ := h
  unfold evDivmod at h
  split at h
  · obtain ⟨x, y, rfl, r1, r2⟩ := reps2 r
    split at h
    · rename_i hl
      cases r1; cases r2
      exact call_divmod pins s σ H _ us Q I rv ⟨_, _, rfl, hl, fun p hp => h.pr w hp (.cons (.int _) (.cons (.int _) .nil))⟩
    · exact h.elim
  · exact h.elim
/-- the ints of a list -/
def intsOf : List D → Option (List Int)
  | [] => some []
  | .int i :: r => (intsOf r).map (i :: ·)
  | _ :: _ => none
omit [CtI] [XsI] in
theorem intsOf_ok : ∀ {ds : List D} {ns : List Int}, intsOf ds = some ns → ds = ns.map D.int
  | [], ns, h => by cases h; rfl
  | .int i :: r, ns, h => by
    unfold intsOf at h
    cases e : intsOf r with
    | none => rw [e] at h; cases h
    | some l =>
      rw [e] at h
      cases h
      rw [intsOf_ok e]; rfl
  | .non :: _, _, h => by simp [intsOf] at h
  | .bl _ :: _, _, h => by simp [intsOf] at h
  | .str _ :: _, _, h => by simp [intsOf] at h
  | .tup _ :: _, _, h => by simp [intsOf] at h
  | .lst _ :: _, _, h => by simp [intsOf] at h
  | .dic .. :: _, _, h => by simp [intsOf] at h
  | .dil .. :: _, _, h => by simp [intsOf] at h
  | .pr _ :: _, _, h => by simp [intsOf] at h
  | .ob .. :: _, _, h => by simp [intsOf] at h
  | .ref _ :: _, _, h => by simp [intsOf] at h
  | .scr _ :: _, _, h => by simp [intsOf] at h
omit [CtI] [XsI] in
@[simp] theorem intsOf_map (ns : List Int) : intsOf (ns.map D.int) = some ns := by
  induction ns with
  | nil => rfl
  | cons n r ih => simp [intsOf, ih]
theorem Reps.toInts {W : Wd} {H : Hp} : ∀ {vs : List V} {ns : List Int}, Reps W H vs (ns.map D.int) → vs = ns.map V.int
  | vs, [], r => by cases r; rfl
  | vs, n :: ns, r => by
    cases r with
    | cons a b =>
      cases a
      rw [b.toInts]; rfl
def blsOf : List D → Option (List Bool)
  | [] => some []
  | .bl i :: r => (blsOf r).map (i :: ·)
  | _ :: _ => none
omit [CtI] [XsI] in
theorem blsOf_ok : ∀ {ds : List D} {ns : List Bool}, blsOf ds = some ns → ds = ns.map D.bl
  | [], ns, h => by cases h; rfl
  | .bl i :: r, ns, h => by
    unfold blsOf at h
    cases e : blsOf r with
    | none => rw [e] at h; cases h
    | some l =>
      rw [e] at h
      cases h
      rw [blsOf_ok e]; rfl
  | .non :: _, _, h => by simp [blsOf] at h
  | .int _ :: _, _, h => by simp [blsOf] at h
  | .str _ :: _, _, h => by simp [blsOf] at h
  | .tup _ :: _, _, h => by simp [blsOf] at h
  | .lst _ :: _, _, h => by simp [blsOf] at h
  | .dic .. :: _, _, h => by simp [blsOf] at h
  | .dil .. :: _, _, h => by simp [blsOf] at h
  | .pr _ :: _, _, h => by simp [blsOf] at h
  | .ob .. :: _, _, h => by simp [blsOf] at h
  | .ref _ :: _, _, h => by simp [blsOf] at h
  | .scr _ :: _, _, h => by simp [blsOf] at h
omit [CtI] [XsI] in
@[simp] theorem blsOf_map (ns : List Bool) : blsOf (ns.map D.bl) = some ns := by
  induction ns with
  | nil => rfl
  | cons n r ih => simp [blsOf, ih]
theorem Reps.toBls {W : Wd} {H : Hp} : ∀ {vs : List V} {ns : List Bool}, Reps W H vs (ns.map D.bl) → vs = ns.map V.bl
  | vs, [], r => by cases r; rfl
  | vs, n :: ns, r => by
    cases r with
    | cons a b =>
      cases a
      rw [b.toBls]; rfl
def evAll : List D → Store → Out RV
  | [d], S => match (seqL S d).bind blsOf with
    | some bs => .ok (.val (.bl (bs.all id))) S
    | none => .bad
  | _, _ => .bad
theorem c_all {X : Cx} [KX X] {Wx : WX} (hc : X.calm = true) : CallR X (.builtin "all") (rC Wx evAll) := by
  intro pins s σ H xs us Q I rv h
  obtain ⟨σ', W, S, ds, w, r, h⟩ := h
  unfold evAll at h
  split at h
  · obtain ⟨x, rfl, r0⟩ := reps1 r
    split at h
    · rename_i hb
      obtain ⟨l, h1, h2⟩ := Option.bind_eq_some_iff.mp hb
      have e := blsOf_ok h2
      subst e
      obtain ⟨a, vs, rfl, sa, ra, la⟩ := seqL_ok (KX.k (X := X)) w r0 h1
      have e := ra.toBls
      subst e
      exact cr_all hc pins s σ H _ us Q I rv ⟨a, _, rfl, sa, h.same w (.bl _)⟩
    · exact h.elim
  · exact h.elim
def evSum : List D → Store → Out RV
  | [d], S => match (seqL S d).bind intsOf with
    | some ns => .ok (.val (.int ns.sum)) S
    | none => .bad
  | _, _ => .bad
theorem c_sum {X : Cx} [KX X] {Wx : WX} (hc : X.calm = true) : CallR X (.builtin "sum") (rC Wx evSum) := by
  intro pins s σ H xs us Q I rv h
  obtain ⟨σ', W, S, ds, w, r, h⟩ := h
  unfold evSum at h
  split at h
  · obtain ⟨x, rfl, r0⟩ := reps1 r
    split at h
    · rename_i hb
      obtain ⟨l, h1, h2⟩ := Option.bind_eq_some_iff.mp hb
      have e := intsOf_ok h2
      subst e
      obtain ⟨a, vs, rfl, sa, ra, la⟩ := seqL_ok (KX.k (X := X)) w r0 h1
      have e := ra.toInts
      subst e
      exact cr_sum hc pins s σ H _ us Q I rv ⟨a, _, rfl, sa, h.same w (.int _)⟩
    · exact h.elim
  · exact h.elim
def evMax2 : List D → Store → Out RV
  | [.int i, .int j], S => .ok (.val (.int (if j > i then j else i))) S
  | _, _ => .bad
def evMin2 : List D → Store → Out RV
  | [.int i, .int j], S => .ok (.val (.int (if j < i then j else i))) S
  | _, _ => .bad
theorem c_max {X : Cx} [KX X] {Wx : WX} (hc : X.calm = true) : CallR X (.builtin "max") (rC Wx evMax2) := by
  intro pins s σ H xs us Q I rv h
  obtain ⟨σ', W, S, ds, w, r, h⟩ := h
  unfold evMax2 at h
  split at h
  · obtain ⟨x, y, rfl, r1, r2⟩ := reps2 r
    cases r1; cases r2
    exact call_max2 hc pins s σ H _ us Q I rv ⟨_, _, rfl, h.same w (.int _)⟩
  · exact h.elim
theorem c_min {X : Cx} [KX X] {Wx : WX} (hc : X.calm = true) : CallR X (.builtin "min") (rC Wx evMin2) := by
  intro pins s σ H xs us Q I rv h
  obtain ⟨σ', W, S, ds, w, r, h⟩ := h
  unfold evMin2 at h
  split at h
  · obtain ⟨x, y, rfl, r1, r2⟩ := reps2 r
    cases r1; cases r2
    exact call_min2 hc pins s σ H _ us Q I rv ⟨_, _, rfl, h.same w (.int _)⟩
  · exact h.elim
def evTuple : List D → Store → Out RV
  | [.tup xs], S => .ok (.val (.tup xs)) S
  | [d], S => match seqL S d with
    | some xs => .ok (.val (.tup xs)) S
    | none => .bad
  | _, _ => .bad
/-- tuple(l), locked -/
theorem call_tuple_ofF {X : Cx} : CallR X (.type "tuple") (fun xs H Q => ∃ p ys, xs = [.ref p] ∧ SqL X.K H p ys ∧ ∀ (l : Addr) (o : PySem.Obj), H l = none → o.dict = none → Q (.ref l) (upd H l (.frz o (.tup ys)))) := fun pins s σ H xs us Q I rv ⟨p, ys, ex, known, q⟩ => by
  subst ex
  obtain ⟨_, rfl, ra⟩ := vals1 rv
  cases ra
  obtain ⟨its, vals, lst, few⟩ := I.list known
  exact PySem.call_tuple_list lst.isList (fun h' keeps => new_tupF (I.kept (t' := s.toks) keeps) vals few q) (by rw [List.size_toArray, ← vals.length]; exact few)
theorem c_tuple {X : Cx} [KX X] {Wx : WX} : CallR X (.type "tuple") (rC Wx evTuple) := by
  intro pins s σ H xs us Q I rv h
  obtain ⟨σ', W, S, ds, w, r, h⟩ := h
  unfold evTuple at h
  split at h
  · obtain ⟨x, rfl, r0⟩ := reps1 r
    obtain ⟨a, vs, rfl, sa, ra, la⟩ := tup_ok (K := X.K) r0
    exact call_tuple_of pins s σ H _ us Q I rv ⟨a, vs, rfl, .inr ⟨sa, h.same w r0⟩⟩
  · obtain ⟨x, rfl, r0⟩ := reps1 r
    split at h
    · rename_i hd
      obtain ⟨a, vs, rfl, sa, ra, la⟩ := seqL_ok (KX.k (X := X)) w r0 hd
      rename_i xs0
      cases hn : nk xs0 with
      | false => exact call_tuple_of pins s σ H _ us Q I rv ⟨a, vs, rfl, .inl ⟨sa, fun p hp => h.tup w hn hp ra la⟩⟩
      | true => exact call_tuple_ofF pins s σ H _ us Q I rv ⟨a, vs, rfl, sa, fun p o hp ho => h.tupF w hn hp ho ra la⟩
    · exact h.elim
  · exact h.elim
def evList : List D → Store → Out RV
  | [.tup xs], S => .ok (.tl xs) S
  | [d], S => match seqL S d with
    | some xs => .ok (.tl xs) S
    | none => .bad
  | _, _ => .bad
theorem c_list {X : Cx} [KX X] {Wx : WX} : CallR X (.type "list") (rC Wx evList) := by
  intro pins s σ H xs us Q I rv h
  obtain ⟨σ', W, S, ds, w, r, h⟩ := h
  unfold evList at h
  split at h
  · obtain ⟨x, rfl, r0⟩ := reps1 r
    obtain ⟨a, vs, rfl, sa, ra, la⟩ := tup_ok (K := X.K) r0
    exact call_list_of pins s σ H _ us Q I rv ⟨a, vs, rfl, .inr sa, fun p hp => h.lst w hp ra la⟩
  · obtain ⟨x, rfl, r0⟩ := reps1 r
    split at h
    · rename_i hd
      obtain ⟨a, vs, rfl, sa, ra, la⟩ := seqL_ok (KX.k (X := X)) w r0 hd
      exact call_list_of pins s σ H _ us Q I rv ⟨a, vs, rfl, .inl sa, fun p hp => h.lst w hp ra la⟩
    · exact h.elim
  · exact h.elim
end Fc

end
section
set_option autoImplicit false
set_option maxHeartbeats 1000000
namespace Fc
open PySem PySem.Spec L2
variable [CtI] [XsI]

/-! ### isinstance with a built-in class -/
inductive Kd where
  | non | bool | int | str | tup | lst | dic
  deriving DecidableEq
def Kd.nm : Kd → String
  | .non => "NoneType" | .bool => "bool" | .int => "int" | .str => "str" | .tup => "tuple" | .lst => "list" | .dic => "dict"
def D.kd (S : Store) : D → Option Kd
  | .non => some .non | .bl _ => some .bool | .int _ => some .int | .str _ => some .str
  | .tup _ => some .tup | .lst _ => some .lst | .scr _ => none | .dic .. => some .dic | .dil .. => none | .pr _ => none
  | .ob _ _ => none
  | .ref l => match S[l]? with
    | some (.lst _) => some .lst
    | some (.dic ..) => some .dic
    | _ => none
def Kd.isa (k T : Kd) : Bool := decide (k = T) || (decide (k = .bool) && decide (T = .int))
theorem kd_ok {K : PySem.W.Frag} {W : Wd} {H : Hp} {S : Store} {v : V} {d : D} {k : Kd} (w : Wok W H S) (r : Rep W H v d) (h : d.kd S = some k) : TyX K H v (.type k.nm) := by
  cases r with
  | non => cases h; exact .base .non
  | bl b => cases h; exact .base (.bl b)
  | int b => cases h; exact .base (.int b)
  | str b => cases h; exact .base (.str b)
  | tup f r rs hl =>
    cases h
    rcases r with ⟨_, r⟩ | ⟨_, o, _, r⟩
    · exact .base (.tup r)
    · exact .fTuple r
  | lst f r rs hl => cases h; exact .base (.lst r)
  | scr f hl => cases h
  | dk f r rs => cases h; exact .base (.dK r)
  | dt f r rs => cases h; exact .base (.dT r)
  | dkl f r rs => cases h
  | dtl f r rs => cases h
  | ob => cases h
  | pr => cases h
  | ref hm =>
    rename_i a l
    unfold D.kd at h
    dsimp only at h
    split at h
    · rename_i xs e
      cases h
      obtain ⟨b, h1, vs, h2, _⟩ := w.obj _ _ e
      rw [hm] at h1; cases h1
      exact .base (.lst h2)
    · rename_i t ks vs e
      cases h
      obtain ⟨b, h1, h2⟩ := w.obj _ _ e
      rw [hm] at h1; cases h1
      cases t with
      | false => obtain ⟨kvs, h2, _⟩ := h2; exact .base (.dK h2)
      | true => obtain ⟨kvs, h2, _⟩ := h2; exact .base (.dT h2)
    · cases h
theorem kit_kd (k T : Kd) (hT : T ≠ .non) : kitB k.nm T.nm = some (k.isa T) := by
  cases k <;> cases T <;> first | exact absurd rfl hT | decide +kernel
def evIsi (T : Kd) (d : D) (S : Store) : Out RV := if T = .non then .bad else match d.kd S with
  | some k => .ok (.val (.bl (k.isa T))) S
  | none => .bad
def isi1 (T : Kd) (a : Env → Store → Out RV) : Env → Store → Out RV := fun r S => (a r S).bindD fun d S1 => evIsi T d S1
theorem pe_isi {X : Cx} {Wx : WX} {T : Kd} {a : Env → Store → Out RV} {e : Expr} {n : Str} {p q pos : Pos} (he : PE X e (Rd Wx a)) (hg : Gl X "isinstance") (hm : X.mg "isinstance" = none) (hgT : Gl X n) (hmT : X.mg n = none) (hb : bootBuiltins n = some (.type T.nm))
    (hn : n ≠ "__name__") (hdn : (n == ("__debug__" : Str)) = false) (hs : starEach [e, .Name n q] X.env = [(false, eval e X.env), (false, eval (.Name n q) X.env)]) :
    PE X (.Call (.Name "isinstance" p) [e, .Name n q] [] pos) (Rd Wx (isi1 T a)) := by
  have h1 : PA X [.Name n q] (tCons (tC (.ty T.nm)) tNil) := pa_cons (pe_bltn hgT hmT hb rfl hn hdn) pa_nil
  have hs1 : starEach [e, .Name n q] X.env = (false, eval e X.env) :: starEach [.Name n q] X.env := hs
  refine PE_imp (pe_callB call_isi hg hm (by decide +kernel) (pa_cons he h1 hs1) (by decide) (by decide) hs1 rfl) fun σ H Q h => ?_
  obtain ⟨W, S, r, w, en, h⟩ := h
  unfold isi1 at h
  refine ⟨W, S, r, w, en, (Post.bind h).mono fun x H1 ⟨W1, S1, d, e1, w1, r1, h1⟩ => ?_⟩
  unfold evIsi at h1
  split at h1
  · exact h1.elim
  · rename_i hT
    split at h1
    · rename_i k hk
      exact ⟨x, .ty T.nm, _, _, _, rfl, .ty _, kd_ok w1 r1 hk, kit_ty (kit_kd k T hT), h1.same w1 (.bl _)⟩
    · exact h1.elim

/-! ### repr -/
def kOk : List D → Bool
  | [] => true
  | .int _ :: r => kOk r
  | .str _ :: r => kOk r
  | _ :: _ => false
mutual
def D.rp : D → PyData
  | .non => .none | .bl b => .bool b | .int i => .int i | .str x => .str x
  | .tup xs => .tuple (D.rps xs) | .lst xs => .list (D.rps xs)
  | .scr ns => .list (ns.map PyData.int)
  | .dil .. => .none
  | .pr _ => .none
  | .dic _ ks vs => .dict ((D.rps ks).zip (D.rps vs))
  | .ob _ _ => .none | .ref _ => .none
def D.rps : List D → List PyData
  | [] => [] | d :: r => d.rp :: D.rps r
end
mutual
/-- what repr is told of -/
def D.rok : D → Bool
  | .tup xs => D.roks xs | .lst xs => D.roks xs
  | .dil .. => false
  | .pr _ => false
  | .dic _ ks vs => kOk ks && D.roks vs
  | .ob _ _ => false | .ref _ => false | .scr _ => false
  | _ => true
def D.roks : List D → Bool
  | [] => true | d :: r => d.rok && D.roks r
end
omit [CtI] [XsI] in
theorem rps_length : ∀ ds : List D, (D.rps ds).length = ds.length
  | [] => rfl
  | d :: r => by simp [D.rps, rps_length r]
theorem reads_ints {h : Heap} : ∀ {ns : List Int} {us : List Value}, Vals (ns.map V.int) us → ReadsAll h us (ns.map PyData.int) []
  | [], _, r => by cases r; exact .nil
  | n :: ns, _, r => by
    cases r with
    | cons a b =>
      obtain ⟨t, rfl⟩ := a
      exact ReadsAll.cons (as := []) (bs := []) (.int n t) (reads_ints b)
theorem reads_keys {P : Program} {w : World} {h : Heap} : ∀ {es : List DictEntry} {kvs : List (Key × Value)}, Pairs (mixKind P w) es kvs → ReadsAll h (es.map (·.key)) (D.rps (kvs.map fun p => kD p.1)) []
  | _, _, .nil => .nil
  | _, _, .cons hk hv hp => by
    rename_i e kv es kvs
    refine ReadsAll.cons (as := []) (bs := []) ?_ (reads_keys hp)
    rcases keyIs_shape hk with ⟨i, t, e1, e2⟩ | ⟨x, t, e1, e2⟩
    · show Reads h e.key (kD kv.1).rp []
      rw [e1, e2]; exact .int i t
    · show Reads h e.key (kD kv.1).rp []
      rw [e1, e2]; exact .str x t
theorem pairs_vals {P : Program} {w : World} : ∀ {es : List DictEntry} {kvs : List (Key × Value)}, Pairs (mixKind P w) es kvs → es.map (·.val) = kvs.map (·.2)
  | _, _, .nil => rfl
  | _, _, .cons hk hv hp => by simp [hv, pairs_vals hp]
theorem kv_keys : ∀ {kvs : List (Key × V)} {vs : List (Key × Value)}, KV kvs vs → kvs.map (·.1) = vs.map (·.1)
  | _, _, .nil => rfl
  | _, _, .cons h r => by simp [h.1, kv_keys r]
theorem kv_vals : ∀ {kvs : List (Key × V)} {vs : List (Key × Value)}, KV kvs vs → Vals (kvs.map (·.2)) (vs.map (·.2))
  | _, _, .nil => .nil
  | _, _, .cons h r => .cons h.2 (kv_vals r)
theorem kOk_tup : ∀ {kvs : List (List Key × V)}, kOk (kvs.map fun p => D.tup (p.1.map kD)) = true → kvs = []
  | [], _ => rfl
  | _ :: _, h => by simp [kOk] at h
theorem not_sm {X : Cx} [KX X] {pins : List (Addr × PySem.Obj)} {σ : L2.St} {H : Hp} {s : Shared} (I : L2.Inv X pins σ H s) {a : Addr} {o : PySem.Obj} (ho : s.heap.get? a = some o) (hc : o.cls = .type "list") : a ≠ sysModules := fun e => by
  obtain ⟨o', h1, h2⟩ := CtI.sm
  rw [← KX.k (X := X)] at h1
  have h3 := I.kIn _ _ h1
  rw [e, h3] at ho
  cases ho
  rw [h2] at hc
  exact absurd hc (by decide)
mutual
theorem Rep.reads {X : Cx} [KX X] {pins : List (Addr × PySem.Obj)} {σ : L2.St} {W : Wd} {H : Hp} {s : Shared} (I : L2.Inv X pins σ H s) : ∀ (d : D) (v : V) (u : Value), Rep W H v d → RelV v u → d.rok = true →
    ∃ as, Reads s.heap u d.rp as ∧ sysModules ∉ as
  | .non, _, _, r, q, _ => by cases r; cases q; exact ⟨_, .none, by simp⟩
  | .bl b, _, _, r, q, _ => by cases r; cases q; exact ⟨_, .bool b, by simp⟩
  | .int i, _, _, r, q, _ => by cases r; obtain ⟨t, rfl⟩ := q; exact ⟨_, .int i t, by simp⟩
  | .str x, _, _, r, q, _ => by cases r; obtain ⟨t, rfl⟩ := q; exact ⟨_, .str x t, by simp⟩
  | .tup ds, _, _, r, q, h => by
    cases r with
    | tup f hr rs hl =>
      cases q
      obtain ⟨its, rv, ⟨o, ho, hc, n, hd⟩, _⟩ := I.tuple hr.sq
      obtain ⟨as, h1, h2⟩ := Rep.readsAll I ds _ its rs rv (by simpa [D.rok] using h)
      exact ⟨as, by simpa [D.rp] using Reads.tuple ho hc hd h1, h2⟩
  | .lst ds, _, _, r, q, h => by
    cases r with
    | lst f hr rs hl =>
      cases q
      obtain ⟨its, rv, ⟨o, n, ho, hc, _, hd⟩, _⟩ := I.list (SqL.of hr)
      obtain ⟨as, h1, h2⟩ := Rep.readsAll I ds _ its rs rv (by simpa [D.rok] using h)
      exact ⟨_, by simpa [D.rp] using Reads.list ho hc hd h1, by simpa using ⟨fun e => not_sm I ho hc e.symm, h2⟩⟩
  | .scr ns, _, _, r, q, h => by simp [D.rok] at h
  | .dil .., _, _, _, _, h => by simp [D.rok] at h
  | .pr _, _, _, _, _, h => by simp [D.rok] at h
  | .dic _ ks vs, _, _, r, q, h => by
    simp only [D.rok, Bool.and_eq_true] at h
    cases r with
    | dk f hr rs =>
      rename_i a kvs
      cases q
      obtain ⟨_, hsm, vs', hkv, o, es, ep, ho, hex, hd, _, hp, _⟩ := (show ObjOk X.prog X.w H s.heap a (.dK kvs) from I.hok a _ hr)
      obtain ⟨as, h1, h2⟩ := Rep.readsAll I vs _ _ rs (kv_vals hkv) h.2
      have e1 : (kvs.map fun p => kD p.1) = vs'.map fun p => kD p.1 := by
        have := congrArg (List.map kD) (kv_keys hkv)
        rw [List.map_map, List.map_map] at this
        exact this
      have hk := reads_keys (h := s.heap) hp
      rw [← e1] at hk
      have hlen : (D.rps (kvs.map fun p => kD p.1)).length = (D.rps vs).length := by
        rw [rps_length, rps_length, ← rs.length]; simp
      refine ⟨a :: [] ++ as, ?_, ?_⟩
      · show Reads s.heap (.ref a) (.dict ((D.rps (kvs.map fun p => kD p.1)).zip (D.rps vs))) _
        refine Reads.dict (as := []) (bs := as) ho hex.1 hd ?_ ?_
        · rw [List.map_fst_zip (by omega)]; exact hk
        · rw [List.map_snd_zip (by omega), pairs_vals hp]; exact h1
      · have := h2
        simp only [List.cons_append, List.nil_append, List.mem_cons, not_or]
        exact ⟨fun e => by rw [← e] at hsm; simp at hsm, this⟩
    | dt f hr rs =>
      rename_i a kvs
      have e := kOk_tup h.1
      subst e
      cases q
      obtain ⟨_, hsm, xs, hx, o, es, ep, ho, hex, hd, hes, _⟩ := (show ObjOk X.prog X.w H s.heap a (.dT []) from I.hok a _ hr)
      cases hx
      cases rs
      refine ⟨a :: [] ++ [], ?_, ?_⟩
      · show Reads s.heap (.ref a) (.dict []) _
        refine Reads.dict (as := []) (bs := []) ho hex.1 hd ?_ ?_
        · rw [hes]; exact .nil
        · rw [hes]; exact .nil
      · simp only [List.cons_append, List.nil_append, List.mem_cons, not_or]
        exact ⟨fun e => by rw [← e] at hsm; simp at hsm, by simp⟩
  | .ob .., _, _, _, _, h => by simp [D.rok] at h
  | .ref _, _, _, _, _, h => by simp [D.rok] at h
theorem Rep.readsAll {X : Cx} [KX X] {pins : List (Addr × PySem.Obj)} {σ : L2.St} {W : Wd} {H : Hp} {s : Shared} (I : L2.Inv X pins σ H s) : ∀ (ds : List D) (vs : List V) (us : List Value), Reps W H vs ds → Vals vs us → D.roks ds = true →
    ∃ as, ReadsAll s.heap us (D.rps ds) as ∧ sysModules ∉ as
  | [], _, _, r, q, _ => by cases r; cases q; exact ⟨_, .nil, by simp⟩
  | d :: ds, _, _, r, q, h => by
    cases r with
    | cons r1 r2 =>
      cases q with
      | cons q1 q2 =>
        simp only [D.roks, Bool.and_eq_true] at h
        obtain ⟨as, a1, a2⟩ := Rep.reads I d _ _ r1 q1 h.1
        obtain ⟨bs, b1, b2⟩ := Rep.readsAll I ds _ _ r2 q2 h.2
        exact ⟨as ++ bs, .cons a1 b1, by simp [a2, b2]⟩
end
/-- repr of a datum that is told -/
def rprOk (d : D) : Bool := d.rok && d.rp.showable && decide (d.rp.depth ≤ 60) && decide (d.rp.shown.length ≤ 16777216)
def evRepr : List D → Store → Out RV
  | [d], S => if rprOk (d.look S) = true then .ok (.val (.str (d.look S).rp.shown)) S else .bad
  | _, _ => .bad
theorem Rep.looked {W : Wd} {H : Hp} {S : Store} {v : V} {d : D} (w : Wok W H S) (r : Rep W H v d) : Rep W H v (d.look S) ∨ ∃ a xs vs, v = .ref a ∧ d.look S = .lst xs ∧ H a = some (.lst vs) ∧ Reps W H vs xs := by
  cases d with
  | ref l =>
    unfold D.look
    dsimp only
    split
    · rename_i xs e
      obtain ⟨a, vs, rfl, h2, rs, hl⟩ := seqM_ok w r (seqM_ref e)
      exact .inr ⟨a, xs, vs, rfl, rfl, h2, rs⟩
    · exact .inl r
  | _ => exact .inl r
theorem c_repr {X : Cx} [KX X] {Wx : WX} (hg : X.A.guards = some []) (hu : X.A.units + 64 < cLine) : CallR X (.builtin "repr") (rC Wx evRepr) := by
  intro pins s σ H xs us Q I rv h
  obtain ⟨σ', W, S, ds, w, r, h⟩ := h
  unfold evRepr at h
  split at h
  · rename_i d
    obtain ⟨x, rfl, r0⟩ := reps1 r
    split at h
    · rename_i hl
      simp only [rprOk, Bool.and_eq_true, decide_eq_true_eq] at hl
      obtain ⟨⟨⟨h1, h3⟩, h4⟩, h5⟩ := hl
      obtain ⟨u, rfl, ru⟩ := vals1 rv
      have fin : ∀ h' t tk, (∀ b o, s.heap.get? b = some o → h'.get? b = some o) → EP X pins σ Q (.str (d.look S).rp.shown t) { s with heap := h', toks := tk } := fun h' t tk hk =>
        ⟨.str _, H, I.kept hk, ⟨t, rfl⟩, h.same w (.str _)⟩
      have key : ∃ as, Reads s.heap u (d.look S).rp as ∧ sysModules ∉ as := by
        rcases r0.looked w with q | ⟨a, ys, vs, rfl, e, ha, rs⟩
        · exact Rep.reads I _ _ _ q ru h1
        · rw [e] at h1 ⊢
          cases ru
          obtain ⟨its, rv', ⟨o, n, ho, hc, _, hd⟩, _⟩ := I.list (SqL.of ha)
          obtain ⟨as, q1, q2⟩ := Rep.readsAll I ys _ its rs rv' (by simpa [D.rok] using h1)
          exact ⟨_, by simpa [D.rp] using Reads.list ho hc hd q1, by simpa using ⟨fun e => not_sm I ho hc e.symm, q2⟩⟩
      obtain ⟨as, hr, hs⟩ := key
      have hsm : (d.look S).rp.hasDict = true → sysModules ∉ as := fun _ => hs
      rw [lim_eq] at h5
      cases u with
      | ref a => exact repr_of_reads' hr h3 hsm hg (by omega) (fun _ _ e => e) (fun h' t tk hk => fin h' t tk hk) h5
      | none =>
        generalize (d.look S).rp = z at hr fin
        cases hr
        exact P.repr_of_none (fin s.heap _ _ fun _ _ e => e)
      | bool b =>
        generalize (d.look S).rp = z at hr fin
        cases hr
        exact P.repr_of_bool (fin s.heap _ _ fun _ _ e => e)
      | int i t =>
        generalize (d.look S).rp = z at hr fin h3
        cases hr
        exact P.repr_of_int (by simpa [PyData.showable] using h3) (fin s.heap _ _ fun _ _ e => e)
      | str i t =>
        generalize (d.look S).rp = z at hr fin h5
        cases hr
        exact P.repr_of_str (fin s.heap _ _ fun _ _ e => e) h5
      | _ =>
        generalize (d.look S).rp = z at hr
        cases hr
    · exact h.elim
  · exact h.elim
end Fc

end
section
set_option autoImplicit false
set_option maxHeartbeats 1000000
/-! dicts: their keys, reading and writing -/
namespace Fc
open PySem PySem.Spec L2 PyProof.Rows
mutual
def D.beq : D → D → Bool
  | .non, .non => true
  | .bl a, .bl b => a == b
  | .int a, .int b => decide (a = b)
  | .str a, .str b => decide (a = b)
  | .tup xs, .tup ys => D.beqs xs ys
  | _, _ => false
def D.beqs : List D → List D → Bool
  | [], [] => true
  | x :: xs, y :: ys => D.beq x y && D.beqs xs ys
  | _, _ => false
end
mutual
theorem D.beq_ok : ∀ {x y : D}, D.beq x y = true → x = y
  | .non, y, h => by cases y <;> first | rfl | cases h
  | .bl a, y, h => by
    cases y with
    | bl b => rw [eq_of_beq (show (a == b) = true from h)]
    | _ => cases h
  | .int a, y, h => by
    cases y with
    | int b => rw [of_decide_eq_true (show decide (a = b) = true from h)]
    | _ => cases h
  | .str a, y, h => by
    cases y with
    | str b => rw [of_decide_eq_true (show decide (a = b) = true from h)]
    | _ => cases h
  | .tup xs, y, h => by
    cases y with
    | tup ys => rw [D.beqs_ok (show D.beqs xs ys = true from h)]
    | _ => cases h
  | .lst _, y, h => by cases y <;> cases h
  | .dic .., y, h => by cases y <;> cases h
  | .dil .., y, h => by cases y <;> cases h
  | .pr _, y, h => by cases y <;> cases h
  | .ob _ _, y, h => by cases y <;> cases h
  | .ref _, y, h => by cases y <;> cases h
  | .scr _, y, h => by cases y <;> cases h
theorem D.beqs_ok : ∀ {xs ys : List D}, D.beqs xs ys = true → xs = ys
  | [], [], _ => rfl
  | [], _ :: _, h => by cases h
  | _ :: _, [], h => by cases h
  | x :: xs, y :: ys, h => by
    obtain ⟨h1, h2⟩ := Bool.and_eq_true_iff.mp (show (D.beq x y && D.beqs xs ys) = true from h)
    rw [D.beq_ok h1, D.beqs_ok h2]
end
mutual
theorem D.beq_self : ∀ {x : D}, x.beq x = true ∨ x.beq x = false
  | x => by cases x.beq x <;> simp
end
def dgetL : List D → List D → D → Option D
  | a :: ks, v :: vs, k => if D.beq a k then some v else dgetL ks vs k
  | _, _, _ => none
def dputK (ks : List D) (k : D) : List D := if ks.any (D.beq · k) then ks else ks ++ [k]
def dputV (ks vs : List D) (k x : D) : List D := if ks.any (D.beq · k) then List.zipWith (fun a v => if D.beq a k then x else v) ks vs else vs ++ [x]
/-- a key of ints and texts -/
def keyD : D → Option Key
  | .int i => some (.inl i) | .str x => some (.inr x) | _ => none
def keysD : List D → Option (List Key)
  | [] => some []
  | d :: r => match keyD d, keysD r with
    | some k, some ks => some (k :: ks)
    | _, _ => none
def tkD : D → Option (List Key)
  | .tup [.str x, .int i] => some [.inr x, .inl i] | _ => none
theorem keyD_ok {d : D} {k : Key} (h : keyD d = some k) : d = kD k := by
  cases d <;> cases h <;> rfl
theorem keysD_ok : ∀ {ds : List D} {ks : List Key}, keysD ds = some ks → ds = ks.map kD
  | [], ks, h => by cases h; rfl
  | d :: r, ks, h => by
    rw [keysD] at h
    split at h
    · rename_i k ks' h1 h2
      cases h
      rw [keyD_ok h1, keysD_ok h2]
      rfl
    · cases h
theorem tkD_ok {d : D} {k : List Key} (h : tkD d = some k) : d = .tup (k.map kD) := by
  unfold tkD at h
  split at h
  · cases h; rfl
  · cases h
theorem tkD_key {k : List Key} {d : D} (h : tkD d = some k) : ∃ x i, k = [.inr x, .inl i] ∧ d = .tup [.str x, .int i] := by
  unfold tkD at h
  split at h
  · cases h; exact ⟨_, _, rfl, rfl⟩
  · cases h
theorem kD_beq (a b : Key) : D.beq (kD a) (kD b) = decide (a = b) := by
  cases a with
  | inl i => cases b with
    | inl j => simp [kD, D.beq]
    | inr y => simp [kD, D.beq]
  | inr x => cases b with
    | inl j => simp [kD, D.beq]
    | inr y => simp [kD, D.beq]
theorem kDs_beq : ∀ (a b : List Key), D.beqs (a.map kD) (b.map kD) = decide (a = b)
  | [], [] => by simp [D.beqs]
  | [], _ :: _ => by simp [D.beqs]
  | _ :: _, [] => by simp [D.beqs]
  | x :: xs, y :: ys => by
    simp only [List.map_cons, D.beqs, kD_beq, kDs_beq xs ys]
    by_cases h : x = y <;> by_cases h' : xs = ys <;> simp [h, h']
theorem tD_beq (a b : List Key) : D.beq (.tup (a.map kD)) (.tup (b.map kD)) = decide (a = b) := by
  rw [D.beq]; exact kDs_beq a b
section
variable [CtI] [XsI] {W : Wd} {H : Hp}
theorem dget_rel {κ : Type} [DecidableEq κ] {f : κ → D} (hf : ∀ a b, D.beq (f a) (f b) = decide (a = b)) (k : κ) : ∀ {kvs : List (κ × V)} {vs : List D}, Reps W H (kvs.map (·.2)) vs →
    (∀ d, dgetL (kvs.map fun p => f p.1) vs (f k) = some d → ∃ v, valV kvs k = some v ∧ Rep W H v d) ∧ (dgetL (kvs.map fun p => f p.1) vs (f k) = none → valV kvs k = none)
  | [], _, .nil => ⟨fun d h => (by cases h), fun _ => rfl⟩
  | (a, v) :: r, _, .cons q qs => by
    obtain ⟨h1, h2⟩ := dget_rel hf k qs
    simp only [List.map_cons, dgetL, hf]
    by_cases e : a = k
    · rw [decide_eq_true e, if_pos rfl, valV_pos (by exact e)]
      exact ⟨fun d h => (by cases h; exact ⟨v, rfl, q⟩), fun h => (by cases h)⟩
    · rw [decide_eq_false e, if_neg (by decide), valV_neg (by exact e)]
      exact ⟨h1, h2⟩
theorem dput_any {κ : Type} [DecidableEq κ] {f : κ → D} (hf : ∀ a b, D.beq (f a) (f b) = decide (a = b)) (k : κ) (kvs : List (κ × V)) : ((kvs.map fun p => f p.1).any (D.beq · (f k))) = (kvs.any fun kv => decide (kv.1 = k)) := by
  induction kvs with
  | nil => rfl
  | cons p r ih => simp only [List.map_cons, List.any_cons, hf, ih]
theorem dput_rel {κ : Type} [DecidableEq κ] {f : κ → D} (hf : ∀ a b, D.beq (f a) (f b) = decide (a = b)) (k : κ) {v : V} {x : D} (q : Rep W H v x) {kvs : List (κ × V)} {vs : List D} (r : Reps W H (kvs.map (·.2)) vs) :
    (putK kvs k v).map (fun p => f p.1) = dputK (kvs.map fun p => f p.1) (f k) ∧ Reps W H ((putK kvs k v).map (·.2)) (dputV (kvs.map fun p => f p.1) vs (f k) x) := by
  unfold putK dputK dputV
  rw [dput_any hf]
  by_cases h : (kvs.any fun kv => decide (kv.1 = k)) = true
  · rw [if_pos h, if_pos h, if_pos h]
    clear h
    induction kvs generalizing vs with
    | nil => cases r; exact ⟨rfl, .nil⟩
    | cons p l ih =>
      cases r with
      | cons r1 r2 =>
        obtain ⟨h1, h2⟩ := ih r2
        simp only [List.map_cons, List.zipWith_cons_cons, hf]
        by_cases e : p.1 = k
        · rw [if_pos e, decide_eq_true e, if_pos rfl]
          exact ⟨by rw [h1], .cons q h2⟩
        · rw [if_neg e, decide_eq_false e, if_neg (by decide)]
          exact ⟨by rw [h1], .cons r1 h2⟩
  · rw [if_neg h, if_neg h, if_neg h]
    refine ⟨by simp, ?_⟩
    rw [List.map_append]
    exact r.append (.one q)
/-- a dict: tuple keys or not, its keys and values -/
def dicM (S : Store) : D → Option (Bool × List D × List D)
  | .dic t ks vs => some (t, ks, vs)
  | .dil t ks vs => some (t, ks, vs)
  | .ref l => match S[l]? with
    | some (.dic t ks vs) => some (t, ks, vs)
    | _ => none
  | _ => none
theorem dicM_ok {S : Store} {x : V} {d : D} {t : Bool} {ks vs : List D} (w : Wok W H S) (r : Rep W H x d) (h : dicM S d = some (t, ks, vs)) : ∃ a, x = .ref a ∧
    ((t = false ∧ ∃ kvs, L2.Rd H a (.dK kvs) ∧ ks = (kvs.map fun p => kD p.1) ∧ Reps W H (kvs.map (·.2)) vs) ∨ (t = true ∧ ∃ kvs, L2.Rd H a (.dT kvs) ∧ ks = (kvs.map fun p => D.tup (p.1.map kD)) ∧ Reps W H (kvs.map (·.2)) vs)) := by
  cases r with
  | dk f hr rs => cases h; exact ⟨_, rfl, .inl ⟨rfl, _, .inl hr, rfl, rs⟩⟩
  | dt f hr rs => cases h; exact ⟨_, rfl, .inr ⟨rfl, _, .inl hr, rfl, rs⟩⟩
  | dkl f hr rs => cases h; exact ⟨_, rfl, .inl ⟨rfl, _, .inr ⟨_, hr⟩, rfl, rs⟩⟩
  | dtl f hr rs => cases h; exact ⟨_, rfl, .inr ⟨rfl, _, .inr ⟨_, hr⟩, rfl, rs⟩⟩
  | ref hm =>
    rename_i a l
    unfold dicM at h
    dsimp only at h
    split at h
    · rename_i t' ks' vs' e
      cases h
      obtain ⟨b, h1, h2⟩ := w.obj _ _ e
      rw [hm] at h1
      cases h1
      cases t with
      | false => obtain ⟨kvs, h3, h4, h5⟩ := h2; exact ⟨_, rfl, .inl ⟨rfl, kvs, .inl h3, h4, h5⟩⟩
      | true => obtain ⟨kvs, h3, h4, h5⟩ := h2; exact ⟨_, rfl, .inr ⟨rfl, kvs, .inl h3, h4, h5⟩⟩
    · cases h
  | _ => cases h
/-- the key fits the dict -/
def fitK : Bool → D → Bool
  | false, k => (keyD k).isSome
  | true, k => (tkD k).isSome
theorem reps_keys : ∀ {ys : List V} {k : List Key}, Reps W H ys (k.map kD) → ys = k.map kV
  | _, [], .nil => rfl
  | _, k :: ks, .cons q qs => by
    rw [reps_keys qs]
    cases k with
    | inl i => cases q; rfl
    | inr x => cases q; rfl
theorem dget_ok {S : Store} {x y : V} {d k : D} {t : Bool} {ks vs : List D} (w : Wok W H S) (r : Rep W H x d) (rk : Rep W H y k) (h : dicM S d = some (t, ks, vs)) (hk : fitK t k = true) : ∃ a, x = .ref a ∧
    (∀ e, dgetL ks vs k = some e → ∃ v, DGet H a y (some v) ∧ Rep W H v e) ∧ (dgetL ks vs k = none → DGet H a y none) := by
  obtain ⟨a, rfl, ⟨rfl, kvs, h1, rfl, rs⟩ | ⟨rfl, kvs, h1, rfl, rs⟩⟩ := dicM_ok w r h
  · obtain ⟨k0, e0⟩ := Option.isSome_iff_exists.mp hk
    have e1 := keyD_ok e0
    subst e1
    have ey : y = kV k0 := by
      cases k0 with
      | inl i => cases rk; rfl
      | inr x => cases rk; rfl
    obtain ⟨q1, q2⟩ := dget_rel (f := kD) kD_beq k0 rs
    refine ⟨a, rfl, fun e he => ?_, fun he => ?_⟩
    · obtain ⟨v, h3, h4⟩ := q1 e he
      exact ⟨v, .inl ⟨kvs, k0, h1, ey, h3.symm⟩, h4⟩
    · exact .inl ⟨kvs, k0, h1, ey, (q2 he).symm⟩
  · obtain ⟨k0, e0⟩ := Option.isSome_iff_exists.mp hk
    have e1 := tkD_ok e0
    subst e1
    cases rk with
    | tup f hr0 rs' hl =>
      obtain ⟨x0, i0, ek, _⟩ := tkD_key e0
      have hr := TupAt.key (x := x0) (i := i0) (by rw [ek] at hr0; exact hr0)
      rw [reps_keys rs'] at hr
      obtain ⟨q1, q2⟩ := dget_rel (f := fun p => D.tup (p.map kD)) tD_beq k0 rs
      refine ⟨a, rfl, fun e he => ?_, fun he => ?_⟩
      · obtain ⟨v, h3, h4⟩ := q1 e he
        exact ⟨v, .inr ⟨kvs, k0, _, h1, rfl, hr, h3.symm⟩, h4⟩
      · exact .inr ⟨kvs, k0, _, h1, rfl, hr, (q2 he).symm⟩
/-- d[k] -/
def evDGet (d k : D) (S : Store) : Out RV := match dicM S d with
  | some (t, ks, vs) => if fitK t k = true then (match dgetL ks vs k with
    | some v => .ok (.val v) S
    | none => .bad) else .bad
  | none => .bad
theorem sub_dict {X : Cx} {pins : List (Addr × PySem.Obj)} {σ : L2.St} {s : Shared} {value slice : Expr} {a : Addr} {y : V} {iv : Value} {o : Option V} {Q : Value → Shared → Prop} (I : Inv X pins σ H s) (g : DGet H a y o) (hs : subscripted slice false (.ref a) iv = operate [.ref a, iv] (getItem (.ref a) iv))
    (h : wpAny (model X.prog X.w) X.A (getItem (.ref a) iv) Q X.xe s) : wpAny (model X.prog X.w) X.A (subscriptTail value slice (.ref a) iv) Q X.xe s := by
  have hT := dict_typeIs I g
  unfold subscriptTail
  refine wpAny_bind ?_
  rw [getitemInPython_of_ne hT.not_modules]
  refine wpAny_bind (wpAny_specialOf hT PySem.F.slot_dict_getitem.lookup ?_)
  have fin : wpAny (model X.prog X.w) X.A (subscripted slice false (.ref a) iv) (fun r s₃ => wpAny (model X.prog X.w) X.A (letTemporaryGo value (.ref a) r >>= fun _ => pure r) Q X.xe s₃) X.xe s := by
    rw [hs]
    exact wpAny_operating (wpAny_mono h (fun r s₃ h₃ => wpAny_bind (wpAny_letTemporaryGo (wpAny_pure h₃))) fun _ _ x => x)
  first
    | exact wpAny_pure (wpAny_bind fin)
    | exact wpAny_bind (wpAny_pure fin)
    | exact wpAny_pure fin
    | exact fin
variable {X : Cx} {Wx : WX}
/-- a[k] of any kind -/
def evIx (d k : D) (S : Store) : Out RV := match dicM S d with
  | some _ => evDGet d k S
  | none => D.at d k S
theorem o_ix [KX X] (hu : X.A.units + 64 < cLine) : IxR X (rS Wx evIx) := by
  intro value slice pins s σ H x y v u Q I rx ry h hsu
  obtain ⟨σ', W, S, d, e, w, r1, r2, h⟩ := h
  unfold evIx at h
  cases hm : dicM S d with
  | none => rw [hm] at h; exact o_at value slice pins s σ H x y v u Q I rx ry ⟨σ', W, S, d, e, w, r1, r2, h⟩ hsu
  | some p =>
    obtain ⟨t, ks, vs⟩ := p
    rw [hm] at h
    replace h : Post W H σ' Wx (evDGet d e S) Q := h
    unfold evDGet at h
    rw [hm] at h
    dsimp only at h
    split at h
    · rename_i hk
      obtain ⟨a, rfl, q1, q2⟩ := dget_ok w r1 r2 hm hk
      split at h
      · rename_i z hz
        obtain ⟨v', g, rv⟩ := q1 z hz
        cases rx
        exact sub_dict I g hsu (d_getItem (by omega) I g ry fun w' s' I' rw' => ⟨v', H, I', rw', h.same w rv⟩)
      · exact h.elim
    · exact h.elim
/-- x in the items -/
def seqIn (x : D) (xs : List D) : Bool := xs.any fun y => PyData.eqv y.py x.py
def evIn1 (x d : D) (S : Store) : Option Bool := match dicM S d with
  | some (t, ks, vs) => if fitK t x = true then some (dgetL ks vs x).isSome else none
  | none => match d with
    | .str z => (match x with
      | .str c => if c.cps.size = 1 then some (decide (c.cps.toList.headD 0 ∈ z.cps.toList)) else none
      | _ => none)
    | d => (match d.look S with
      | .tup xs => if okD (x.look S) = true ∧ okD (.tup xs) = true ∧ (x.look S).py.depth ≤ 60 then some (seqIn (x.look S) xs) else none
      | .lst xs => if okD (x.look S) = true ∧ okD (.lst xs) = true ∧ (x.look S).py.depth ≤ 60 then some (seqIn (x.look S) xs) else none
      | _ => none)
def evIn (x d : D) (S : Store) : Out RV := match evIn1 x d S with
  | some b => .ok (.val (.bl b)) S
  | none => .bad
def evNotIn (x d : D) (S : Store) : Out RV := match evIn1 x d S with
  | some b => .ok (.val (.bl (!b))) S
  | none => .bad
theorem pys_map (xs : List D) : D.pys xs = xs.map D.py := by
  induction xs with
  | nil => rfl
  | cons d r ih => simp [D.pys, ih]
theorem seqIn_eq (x : D) (xs : List D) : ((D.pys xs).any fun y => PyData.eqv y x.py) = seqIn x xs := by
  unfold seqIn
  rw [pys_map, List.any_map]
  rfl
theorem str_one {c : Str} (h : c.cps.size = 1) : c = ⟨#[c.cps.toList.headD 0]⟩ := by
  obtain ⟨⟨l⟩⟩ := c
  match l, h with
  | [a], _ => rfl
theorem room_in {A : Around} {a b : Nat} (hu : A.units + 64 < cLine) (h : b ≤ 60) : A.units + 1 + min a b < cLine := by
  have : min a b ≤ b := Nat.min_le_right _ _
  omega
/-- both answers at once -/
theorem in_core [KX X] (hu : X.A.units + 64 < cLine) {pins : List (Addr × PySem.Obj)} {s : Shared} {σ : L2.St} {H : Hp} {x y : V} {v u : Value} (I : Inv X pins σ H s) (rx : RelV x v) (ry : RelV y u) {W : Wd} {S : Store} {d e : D} {b : Bool} (w : Wok W H S) (r1 : Rep W H x d) (r2 : Rep W H y e) (h : evIn1 d e S = some b) {Q : VK} :
    (Q (.bl b) H → wpAny (model X.prog X.w) X.A (compareOp .In v u) (EP X pins σ Q) X.xe s) ∧ (Q (.bl (!b)) H → wpAny (model X.prog X.w) X.A (compareOp .NotIn v u) (EP X pins σ Q) X.xe s) := by
  unfold evIn1 at h
  split at h
  · rename_i t ks vs hm
    split at h
    · rename_i hk
      cases h
      obtain ⟨a, rfl, q1, q2⟩ := dget_ok w r2 r1 hm hk
      cases ry
      have g : ∃ o, DGet H a x o ∧ o.isSome = (dgetL ks vs d).isSome := by
        cases hz : dgetL ks vs d with
        | none => exact ⟨none, q2 hz, rfl⟩
        | some z => obtain ⟨v', g, _⟩ := q1 z hz; exact ⟨some v', g, rfl⟩
      obtain ⟨o, g, ho⟩ := g
      rw [← ho]
      exact ⟨fun q => d_in (by omega) I g rx fun s' I' => ⟨.bl _, H, I', rfl, q⟩, fun q => d_notIn (by omega) I g rx fun s' I' => ⟨.bl _, H, I', rfl, q⟩⟩
    · cases h
  · split at h
    · split at h
      · rename_i c
        split at h
        · rename_i hc
          cases h
          cases r1
          cases r2
          have ec := str_one hc
          exact ⟨fun q => op_in_sign pins s σ H _ _ v u Q I rx ry ⟨_, _, congrArg V.str ec, rfl, q⟩, fun q => op_notIn_sign pins s σ H _ _ v u Q I rx ry ⟨_, _, congrArg V.str ec, rfl, q⟩⟩
        · cases h
      · cases h
    · split at h
      · rename_i xs hl
        split at h
        · rename_i hc
          cases h
          obtain ⟨c1, c2, c3⟩ := hc
          have o1 := okD_and c1
          have o2 := okD_and c2
          have p1 : Dp X.K H x (d.look S).py := r1.look w o1.1
          have p2 : Dp X.K H y (.tuple (D.pys xs)) := by
            have := Rep.look (K := X.K) w r2 (by rw [hl]; exact o2.1)
            rw [hl] at this
            exact this
          obtain ⟨as, a1⟩ := Dp.reads I _ x v p1 rx
          obtain ⟨bs, a2⟩ := Dp.reads I _ y u p2 ry
          have l2 := SeqAt.canLay_of_shaped o2.2
          rw [← seqIn_eq]
          exact ⟨fun q => SeqAt.in_tuple_reads a2 a1 l2 (SeqAt.canLay_of_shaped o1.2) (room_in hu c3) ⟨.bl _, H, I, rfl, q⟩, fun q => SeqAt.notIn_tuple_reads a2 a1 l2 (SeqAt.canLay_of_shaped o1.2) (room_in hu c3) ⟨.bl _, H, I, rfl, q⟩⟩
        · cases h
      · rename_i xs hl
        split at h
        · rename_i hc
          cases h
          obtain ⟨c1, c2, c3⟩ := hc
          have o1 := okD_and c1
          have o2 := okD_and c2
          have p1 : Dp X.K H x (d.look S).py := r1.look w o1.1
          have p2 : Dp X.K H y (.list (D.pys xs)) := by
            have := Rep.look (K := X.K) w r2 (by rw [hl]; exact o2.1)
            rw [hl] at this
            exact this
          obtain ⟨as, a1⟩ := Dp.reads I _ x v p1 rx
          obtain ⟨bs, a2⟩ := Dp.reads I _ y u p2 ry
          have l2 := SeqAt.canLay_of_shaped o2.2
          rw [← seqIn_eq]
          exact ⟨fun q => SeqAt.in_list_reads a2 a1 l2 (SeqAt.canLay_of_shaped o1.2) (room_in hu c3) ⟨.bl _, H, I, rfl, q⟩, fun q => SeqAt.notIn_list_reads a2 a1 l2 (SeqAt.canLay_of_shaped o1.2) (room_in hu c3) ⟨.bl _, H, I, rfl, q⟩⟩
        · cases h
      · cases h
theorem o_in [KX X] (hu : X.A.units + 64 < cLine) : OpR X (compareOp .In) (rS Wx evIn) := by
  intro pins s σ H x y v u Q I rx ry h
  obtain ⟨σ', W, S, d, e, w, r1, r2, h⟩ := h
  unfold evIn at h
  split at h
  · rename_i b hb
    exact (in_core hu I rx ry w r1 r2 hb).1 (h.same w (.bl _))
  · exact h.elim
theorem o_notIn [KX X] (hu : X.A.units + 64 < cLine) : OpR X (compareOp .NotIn) (rS Wx evNotIn) := by
  intro pins s σ H x y v u Q I rx ry h
  obtain ⟨σ', W, S, d, e, w, r1, r2, h⟩ := h
  unfold evNotIn at h
  split at h
  · rename_i b hb
    exact (in_core hu I rx ry w r1 r2 hb).2 (h.same w (.bl _))
  · exact h.elim
end
end Fc

end
section
set_option autoImplicit false
set_option maxHeartbeats 1000000
/-! the order of data: ints, texts, tuples of them -/
namespace Fc
open PySem PySem.Spec L2 PyProof.Rows
mutual
def D.od : D → Bool
  | .int _ => true | .str x => PyData.canLay0 (.str x) | .tup xs => D.ods xs
  | _ => false
def D.ods : List D → Bool
  | [] => true | d :: r => d.od && D.ods r
end
mutual
def D.ltB : D → D → Bool
  | .int i, .int j => decide (i < j)
  | .str x, .str y => decide (x.cps.toList < y.cps.toList)
  | .tup xs, .tup ys => D.ltBs xs ys
  | .int _, .str _ => true
  | .int _, .tup _ => true
  | .str _, .tup _ => true
  | _, _ => false
def D.ltBs : List D → List D → Bool
  | [], [] => false
  | [], _ :: _ => true
  | _ :: _, [] => false
  | x :: xs, y :: ys => if D.beq x y then D.ltBs xs ys else D.ltB x y
end
theorem lst_tri (a b : List Nat) : (a < b ∧ ¬ b < a ∧ a ≠ b) ∨ (a = b ∧ ¬ a < b ∧ ¬ b < a) ∨ (b < a ∧ ¬ a < b ∧ a ≠ b) := by
  by_cases h1 : a < b
  · exact .inl ⟨h1, fun h2 => List.lt_irrefl a (List.lt_trans h1 h2), fun e => by subst e; exact List.lt_irrefl _ h1⟩
  · by_cases h2 : b < a
    · exact .inr (.inr ⟨h2, h1, fun e => by subst e; exact List.lt_irrefl _ h2⟩)
    · exact .inr (.inl ⟨List.le_antisymm h2 h1, h1, h2⟩)
/-- the three ways -/
def Tri (l m e : Bool) : Prop := (l = true ∧ m = false ∧ e = false) ∨ (l = false ∧ m = false ∧ e = true) ∨ (l = false ∧ m = true ∧ e = false)
theorem str_ext {x y : Str} (h : x.cps.toList = y.cps.toList) : x = y := by
  obtain ⟨⟨a⟩⟩ := x
  obtain ⟨⟨b⟩⟩ := y
  simp at h
  rw [h]
theorem dec_comm {α : Type} [DecidableEq α] (a b : α) : decide (a = b) = decide (b = a) := by
  by_cases h : a = b
  · subst h; rfl
  · rw [decide_eq_false h, decide_eq_false fun e => h e.symm]
mutual
theorem D.beq_comm : ∀ (x y : D), x.beq y = y.beq x
  | .int i, y => by cases y <;> simp [D.beq, eq_comm]
  | .str i, y => by cases y <;> simp [D.beq, eq_comm]
  | .bl i, y => by
    cases y
    case bl b => cases i <;> cases b <;> rfl
    all_goals simp [D.beq]
  | .non, y => by cases y <;> simp [D.beq]
  | .tup xs, y => by
    cases y
    case tup ys => simp only [D.beq]; exact D.beqs_comm xs ys
    all_goals simp [D.beq]
  | .lst _, y => by cases y <;> simp [D.beq]
  | .dic .., y => by cases y <;> simp [D.beq]
  | .dil .., y => by cases y <;> simp [D.beq]
  | .pr _, y => by cases y <;> simp [D.beq]
  | .ob .., y => by cases y <;> simp [D.beq]
  | .ref _, y => by cases y <;> simp [D.beq]
  | .scr _, y => by cases y <;> simp [D.beq]
theorem D.beqs_comm : ∀ (xs ys : List D), D.beqs xs ys = D.beqs ys xs
  | [], [] => rfl
  | [], _ :: _ => by simp [D.beqs]
  | _ :: _, [] => by simp [D.beqs]
  | x :: xs, y :: ys => by rw [D.beqs, D.beqs, D.beq_comm x y, D.beqs_comm xs ys]
end
mutual
theorem D.tri : ∀ {x y : D}, x.od = true → y.od = true → Tri (x.ltB y) (y.ltB x) (x.beq y)
  | .int i, .int j, _, _ => by
    simp only [D.ltB, D.beq, Tri]
    rcases Int.lt_trichotomy i j with h | h | h
    · left; simp; omega
    · right; left; simp; omega
    · right; right; simp; omega
  | .str x, .str y, _, _ => by
    simp only [D.ltB, D.beq, Tri]
    rcases lst_tri x.cps.toList y.cps.toList with ⟨h1, h2, h3⟩ | ⟨h1, h2, h3⟩ | ⟨h1, h2, h3⟩
    · left; exact ⟨decide_eq_true h1, decide_eq_false h2, decide_eq_false fun e => h3 (by rw [e])⟩
    · right; left; exact ⟨decide_eq_false h2, decide_eq_false h3, decide_eq_true (str_ext h1)⟩
    · right; right; exact ⟨decide_eq_false h2, decide_eq_true h1, decide_eq_false fun e => h3 (by rw [e])⟩
  | .tup xs, .tup ys, h1, h2 => by
    rw [D.od] at h1 h2
    simp only [D.ltB, D.beq]
    exact D.tris h1 h2
  | .int _, .str _, _, _ => by simp [D.ltB, D.beq, Tri]
  | .int _, .tup _, _, _ => by simp [D.ltB, D.beq, Tri]
  | .str _, .int _, _, _ => by simp [D.ltB, D.beq, Tri]
  | .str _, .tup _, _, _ => by simp [D.ltB, D.beq, Tri]
  | .tup _, .int _, _, _ => by simp [D.ltB, D.beq, Tri]
  | .tup _, .str _, _, _ => by simp [D.ltB, D.beq, Tri]
  | .non, _, h, _ => by simp [D.od] at h
  | .bl _, _, h, _ => by simp [D.od] at h
  | .lst _, _, h, _ => by simp [D.od] at h
  | .dic .., _, h, _ => by simp [D.od] at h
  | .dil .., _, h, _ => by simp [D.od] at h
  | .pr _, _, h, _ => by simp [D.od] at h
  | .ob .., _, h, _ => by simp [D.od] at h
  | .ref _, _, h, _ => by simp [D.od] at h
  | .scr _, _, h, _ => by simp [D.od] at h
  | _, .non, _, h => by simp [D.od] at h
  | _, .bl _, _, h => by simp [D.od] at h
  | _, .lst _, _, h => by simp [D.od] at h
  | _, .dic .., _, h => by simp [D.od] at h
  | _, .dil .., _, h => by simp [D.od] at h
  | _, .pr _, _, h => by simp [D.od] at h
  | _, .ob .., _, h => by simp [D.od] at h
  | _, .ref _, _, h => by simp [D.od] at h
  | _, .scr _, _, h => by simp [D.od] at h
theorem D.tris : ∀ {xs ys : List D}, D.ods xs = true → D.ods ys = true → Tri (D.ltBs xs ys) (D.ltBs ys xs) (D.beqs xs ys)
  | [], [], _, _ => by simp [D.ltBs, D.beqs, Tri]
  | [], _ :: _, _, _ => by simp [D.ltBs, D.beqs, Tri]
  | _ :: _, [], _, _ => by simp [D.ltBs, D.beqs, Tri]
  | x :: xs, y :: ys, h1, h2 => by
    simp only [D.ods, Bool.and_eq_true] at h1 h2
    have a := D.tri h1.1 h2.1
    have b := D.tris h1.2 h2.2
    simp only [D.ltBs, D.beqs]
    have sy : D.beq y x = D.beq x y := D.beq_comm y x
    rw [sy]
    rcases a with ⟨q1, q2, q3⟩ | ⟨q1, q2, q3⟩ | ⟨q1, q2, q3⟩
    · rw [q3]; simp [q1, q2, Tri]
    · rw [q3]; simpa using b
    · rw [q3]; simp [q1, q2, Tri]
end
mutual
theorem D.beq_rfl : ∀ {x : D}, x.od = true → x.beq x = true
  | .int i, _ => by simp [D.beq]
  | .str x, _ => by simp [D.beq]
  | .tup xs, h => by rw [D.od] at h; rw [D.beq]; exact D.beqs_rfl h
  | .non, h => by simp [D.od] at h
  | .bl _, h => by simp [D.od] at h
  | .lst _, h => by simp [D.od] at h
  | .dic .., h => by simp [D.od] at h
  | .dil .., h => by simp [D.od] at h
  | .pr _, h => by simp [D.od] at h
  | .ob .., h => by simp [D.od] at h
  | .ref _, h => by simp [D.od] at h
  | .scr _, h => by simp [D.od] at h
theorem D.beqs_rfl : ∀ {xs : List D}, D.ods xs = true → D.beqs xs xs = true
  | [], _ => by simp [D.beqs]
  | x :: xs, h => by
    simp only [D.ods, Bool.and_eq_true] at h
    rw [D.beqs, D.beq_rfl h.1, D.beqs_rfl h.2]
    rfl
end
mutual
theorem D.ltB_trans : ∀ {x y z : D}, x.od = true → y.od = true → z.od = true → x.ltB y = true → y.ltB z = true → x.ltB z = true
  | .int i, .int j, .int k, _, _, _, h1, h2 => by simp [D.ltB] at *; omega
  | .int i, .int j, .str _, _, _, _, h1, h2 => by simp [D.ltB]
  | .int i, .int j, .tup _, _, _, _, h1, h2 => by simp [D.ltB]
  | .int i, .str j, .str _, _, _, _, h1, h2 => by simp [D.ltB]
  | .int i, .str j, .tup _, _, _, _, h1, h2 => by simp [D.ltB]
  | .int i, .tup j, .tup _, _, _, _, h1, h2 => by simp [D.ltB]
  | .str x, .str y, .str z, _, _, _, h1, h2 => by simp only [D.ltB, decide_eq_true_eq] at *; exact List.lt_trans h1 h2
  | .str x, .str y, .tup z, _, _, _, h1, h2 => by simp [D.ltB]
  | .str x, .tup y, .tup z, _, _, _, h1, h2 => by simp [D.ltB]
  | .tup x, .tup y, .tup z, o1, o2, o3, h1, h2 => by
    rw [D.od] at o1 o2 o3
    rw [D.ltB] at h1 h2 ⊢
    exact D.ltBs_trans o1 o2 o3 h1 h2
  | .int _, .str _, .int _, _, _, _, _, h => by simp [D.ltB] at h
  | .int _, .tup _, .int _, _, _, _, _, h => by simp [D.ltB] at h
  | .int _, .tup _, .str _, _, _, _, _, h => by simp [D.ltB] at h
  | .str _, .int _, _, _, _, _, h, _ => by simp [D.ltB] at h
  | .str _, .str _, .int _, _, _, _, _, h => by simp [D.ltB] at h
  | .str _, .tup _, .int _, _, _, _, _, h => by simp [D.ltB] at h
  | .str _, .tup _, .str _, _, _, _, _, h => by simp [D.ltB] at h
  | .tup _, .int _, _, _, _, _, h, _ => by simp [D.ltB] at h
  | .tup _, .str _, _, _, _, _, h, _ => by simp [D.ltB] at h
  | .tup _, .tup _, .int _, _, _, _, _, h => by simp [D.ltB] at h
  | .tup _, .tup _, .str _, _, _, _, _, h => by simp [D.ltB] at h
  | .non, _, _, h, _, _, _, _ => by simp [D.od] at h
  | .bl _, _, _, h, _, _, _, _ => by simp [D.od] at h
  | .lst _, _, _, h, _, _, _, _ => by simp [D.od] at h
  | .dic .., _, _, h, _, _, _, _ => by simp [D.od] at h
  | .dil .., _, _, h, _, _, _, _ => by simp [D.od] at h
  | .pr _, _, _, h, _, _, _, _ => by simp [D.od] at h
  | .ob .., _, _, h, _, _, _, _ => by simp [D.od] at h
  | .ref _, _, _, h, _, _, _, _ => by simp [D.od] at h
  | .scr _, _, _, h, _, _, _, _ => by simp [D.od] at h
  | _, .non, _, _, h, _, _, _ => by simp [D.od] at h
  | _, .bl _, _, _, h, _, _, _ => by simp [D.od] at h
  | _, .lst _, _, _, h, _, _, _ => by simp [D.od] at h
  | _, .dic .., _, _, h, _, _, _ => by simp [D.od] at h
  | _, .dil .., _, _, h, _, _, _ => by simp [D.od] at h
  | _, .pr _, _, _, h, _, _, _ => by simp [D.od] at h
  | _, .ob .., _, _, h, _, _, _ => by simp [D.od] at h
  | _, .ref _, _, _, h, _, _, _ => by simp [D.od] at h
  | _, .scr _, _, _, h, _, _, _ => by simp [D.od] at h
  | _, _, .non, _, _, h, _, _ => by simp [D.od] at h
  | _, _, .bl _, _, _, h, _, _ => by simp [D.od] at h
  | _, _, .lst _, _, _, h, _, _ => by simp [D.od] at h
  | _, _, .dic .., _, _, h, _, _ => by simp [D.od] at h
  | _, _, .dil .., _, _, h, _, _ => by simp [D.od] at h
  | _, _, .pr _, _, _, h, _, _ => by simp [D.od] at h
  | _, _, .ob .., _, _, h, _, _ => by simp [D.od] at h
  | _, _, .ref _, _, _, h, _, _ => by simp [D.od] at h
  | _, _, .scr _, _, _, h, _, _ => by simp [D.od] at h
theorem D.ltBs_trans : ∀ {xs ys zs : List D}, D.ods xs = true → D.ods ys = true → D.ods zs = true → D.ltBs xs ys = true → D.ltBs ys zs = true → D.ltBs xs zs = true
  | [], [], zs, _, _, _, h, _ => by simp [D.ltBs] at h
  | [], _ :: _, [], _, _, _, _, h => by simp [D.ltBs] at h
  | [], _ :: _, _ :: _, _, _, _, _, _ => by simp [D.ltBs]
  | _ :: _, [], _, _, _, _, h, _ => by simp [D.ltBs] at h
  | _ :: _, _ :: _, [], _, _, _, _, h => by simp [D.ltBs] at h
  | x :: xs, y :: ys, z :: zs, o1, o2, o3, h1, h2 => by
    simp only [D.ods, Bool.and_eq_true] at o1 o2 o3
    simp only [D.ltBs] at h1 h2 ⊢
    by_cases e1 : x.beq y = true
    · rw [if_pos e1] at h1
      have := D.beq_ok e1
      subst this
      by_cases e2 : x.beq z = true
      · rw [if_pos e2] at h2 ⊢
        exact D.ltBs_trans o1.2 o2.2 o3.2 h1 h2
      · rw [if_neg e2] at h2 ⊢
        exact h2
    · rw [if_neg e1] at h1
      by_cases e2 : y.beq z = true
      · have := D.beq_ok e2
        subst this
        rw [if_neg e1]
        exact h1
      · rw [if_neg e2] at h2
        have h3 := D.ltB_trans o1.1 o2.1 o3.1 h1 h2
        by_cases e3 : x.beq z = true
        · have := D.beq_ok e3
          subst this
          rcases D.tri o1.1 o2.1 with ⟨q1, q2, q3⟩ | ⟨q1, q2, q3⟩ | ⟨q1, q2, q3⟩
          · rw [q2] at h2; cases h2
          · rw [q1] at h1; cases h1
          · rw [q1] at h1; cases h1
        · rw [if_neg e3]; exact h3
end
end Fc

end
section
set_option autoImplicit false
set_option maxHeartbeats 1000000
/-! what < gives, what sorted gives -/
namespace Fc
open PySem PySem.Spec L2 PyProof.Rows
mutual
/-- x < y is asked of things of one kind -/
def D.cok : D → D → Bool
  | .int _, .int _ => true
  | .str _, .str _ => true
  | .tup xs, .tup ys => D.coks xs ys
  | _, _ => false
def D.coks : List D → List D → Bool
  | x :: xs, y :: ys => (D.beq x y || D.cok x y) && D.coks xs ys
  | _, _ => true
end
mutual
theorem od_lay : ∀ {d : D}, d.od = true → d.py.canLay0 = true
  | .int _, _ => by simp [D.py, PyData.canLay0]
  | .str x, h => by rw [D.od] at h; rw [D.py]; exact h
  | .tup xs, h => by rw [D.od] at h; rw [D.py, PyData.canLay0]; exact ods_lay h
  | .non, h => by simp [D.od] at h
  | .bl _, h => by simp [D.od] at h
  | .lst _, h => by simp [D.od] at h
  | .dic .., h => by simp [D.od] at h
  | .dil .., h => by simp [D.od] at h
  | .pr _, h => by simp [D.od] at h
  | .ob .., h => by simp [D.od] at h
  | .ref _, h => by simp [D.od] at h
  | .scr _, h => by simp [D.od] at h
theorem ods_lay : ∀ {ds : List D}, D.ods ds = true → PyData.canLayAll0 (D.pys ds) = true
  | [], _ => by simp [D.pys, PyData.canLayAll0]
  | d :: r, h => by
    simp only [D.ods, Bool.and_eq_true] at h
    rw [D.pys, PyData.canLayAll0, od_lay h.1, ods_lay h.2]
    rfl
end
mutual
theorem od_plain : ∀ {d : D}, d.od = true → d.plain = true
  | .int _, _ => rfl
  | .str x, h => rfl
  | .tup xs, h => by rw [D.od] at h; rw [D.plain]; exact ods_plain h
  | .non, h => by simp [D.od] at h
  | .bl _, h => by simp [D.od] at h
  | .lst _, h => by simp [D.od] at h
  | .dic .., h => by simp [D.od] at h
  | .dil .., h => by simp [D.od] at h
  | .pr _, h => by simp [D.od] at h
  | .ob .., h => by simp [D.od] at h
  | .ref _, h => by simp [D.od] at h
  | .scr _, h => by simp [D.od] at h
theorem ods_plain : ∀ {ds : List D}, D.ods ds = true → D.plains ds = true
  | [], _ => rfl
  | d :: r, h => by
    simp only [D.ods, Bool.and_eq_true] at h
    rw [D.plains, od_plain h.1, ods_plain h.2]
    rfl
end
mutual
theorem eqv_beq : ∀ {x y : D}, x.od = true → y.od = true → PyData.eqv x.py y.py = x.beq y
  | .int i, .int j, _, _ => by simp only [D.py, PyData.eqv, D.beq]; rfl
  | .str i, .str j, _, _ => by
    simp only [D.py, PyData.eqv, D.beq]
    by_cases h : i = j
    · subst h; simp
    · rw [decide_eq_false h]; exact beq_eq_false_iff_ne.mpr h
  | .tup xs, .tup ys, h1, h2 => by
    rw [D.od] at h1 h2
    simp only [D.py, PyData.eqv, D.beq]
    exact eqv_beqs h1 h2
  | .int _, .str _, _, _ => by simp [D.py, PyData.eqv, D.beq]
  | .int _, .tup _, _, _ => by simp [D.py, PyData.eqv, D.beq]
  | .str _, .int _, _, _ => by simp [D.py, PyData.eqv, D.beq]
  | .str _, .tup _, _, _ => by simp [D.py, PyData.eqv, D.beq]
  | .tup _, .int _, _, _ => by simp [D.py, PyData.eqv, D.beq]
  | .tup _, .str _, _, _ => by simp [D.py, PyData.eqv, D.beq]
  | .non, _, h, _ => by simp [D.od] at h
  | .bl _, _, h, _ => by simp [D.od] at h
  | .lst _, _, h, _ => by simp [D.od] at h
  | .dic .., _, h, _ => by simp [D.od] at h
  | .dil .., _, h, _ => by simp [D.od] at h
  | .pr _, _, h, _ => by simp [D.od] at h
  | .ob .., _, h, _ => by simp [D.od] at h
  | .ref _, _, h, _ => by simp [D.od] at h
  | .scr _, _, h, _ => by simp [D.od] at h
  | _, .non, _, h => by simp [D.od] at h
  | _, .bl _, _, h => by simp [D.od] at h
  | _, .lst _, _, h => by simp [D.od] at h
  | _, .dic .., _, h => by simp [D.od] at h
  | _, .dil .., _, h => by simp [D.od] at h
  | _, .pr _, _, h => by simp [D.od] at h
  | _, .ob .., _, h => by simp [D.od] at h
  | _, .ref _, _, h => by simp [D.od] at h
  | _, .scr _, _, h => by simp [D.od] at h
theorem eqv_beqs : ∀ {xs ys : List D}, D.ods xs = true → D.ods ys = true → PyData.eqvAll (D.pys xs) (D.pys ys) = D.beqs xs ys
  | [], [], _, _ => by simp [D.pys, PyData.eqvAll, D.beqs]
  | [], _ :: _, _, _ => by simp [D.pys, PyData.eqvAll, D.beqs]
  | _ :: _, [], _, _ => by simp [D.pys, PyData.eqvAll, D.beqs]
  | x :: xs, y :: ys, h1, h2 => by
    simp only [D.ods, Bool.and_eq_true] at h1 h2
    rw [D.pys, D.pys, PyData.eqvAll, D.beqs, eqv_beq h1.1 h2.1, eqv_beqs h1.2 h2.2]
end
theorem reads_all_at {h : Heap} : ∀ {us : List Value} {ds : List D} {as : List Addr}, ReadsAll h us (D.pys ds) as → us.length = ds.length ∧ ∀ (j : Nat) (d : D), ds[j]? = some d → ∃ u bs, us[j]? = some u ∧ Reads h u d.py bs
  | us, [], as, r => by
    rw [D.pys] at r
    cases r
    exact ⟨rfl, fun j d e => by simp at e⟩
  | us, d :: ds, as, r => by
    rw [D.pys] at r
    cases r with
    | cons a b =>
      obtain ⟨h1, h2⟩ := reads_all_at b
      refine ⟨by simp [h1], fun j e he => ?_⟩
      cases j with
      | zero => simp at he; subst he; exact ⟨_, _, rfl, a⟩
      | succ j => exact h2 j e (by simpa using he)
theorem lexAt_eq {e r : Nat → Bool} : ∀ (xs ys : List D) (i : Nat), (∀ (j : Nat) (x y : D), xs[j]? = some x → ys[j]? = some y → e (i + j) = x.beq y ∧ r (i + j) = x.ltB y) →
    Ob.lexAt e r (decide (xs.length < ys.length)) i (min xs.length ys.length) = D.ltBs xs ys
  | [], [], i, _ => by simp [Ob.lexAt, D.ltBs]
  | [], _ :: _, i, _ => by simp [Ob.lexAt, D.ltBs]
  | _ :: _, [], i, _ => by simp [Ob.lexAt, D.ltBs]
  | x :: xs, y :: ys, i, h => by
    obtain ⟨h1, h2⟩ := h 0 x y rfl rfl
    rw [Nat.add_zero] at h1 h2
    have e1 : min (x :: xs).length (y :: ys).length = min xs.length ys.length + 1 := by simp
    have e2 : decide ((x :: xs).length < (y :: ys).length) = decide (xs.length < ys.length) := by simp
    rw [e1, e2, Ob.lexAt, D.ltBs, h1, h2, lexAt_eq xs ys (i + 1) fun j a b q1 q2 => by
      rw [show i + 1 + j = i + (j + 1) by omega]
      exact h (j + 1) a b (by simpa using q1) (by simpa using q2)]
theorem coks_at : ∀ {xs ys : List D}, D.coks xs ys = true → ∀ (j : Nat) (x y : D), xs[j]? = some x → ys[j]? = some y → x.beq y = false → x.cok y = true
  | x :: xs, y :: ys, h, 0, _, _, e1, e2, e3 => by
    simp at e1 e2
    subst e1 e2
    rw [D.coks, e3] at h
    simpa using (Bool.and_eq_true_iff.mp h).1
  | x :: xs, y :: ys, h, j + 1, a, b, e1, e2, e3 => by
    rw [D.coks] at h
    exact coks_at (Bool.and_eq_true_iff.mp h).2 j a b (by simpa using e1) (by simpa using e2) e3
  | [], _, _, _, _, _, e1, _, _ => by simp at e1
  | _ :: _, [], _, _, _, _, _, e2, _ => by simp at e2
theorem ods_at {xs : List D} (h : D.ods xs = true) {j : Nat} {x : D} (e : xs[j]? = some x) : x.od = true := by
  induction xs generalizing j with
  | nil => simp at e
  | cons d r ih =>
    simp only [D.ods, Bool.and_eq_true] at h
    cases j with
    | zero => simp at e; subst e; exact h.1
    | succ j => exact ih h.2 (by simpa using e)
theorem depth_at {xs : List D} {j : Nat} {x : D} (e : xs[j]? = some x) : x.py.depth ≤ PyData.depthAll (D.pys xs) := by
  induction xs generalizing j with
  | nil => simp at e
  | cons d r ih =>
    rw [D.pys, PyData.depthAll]
    cases j with
    | zero => simp at e; subst e; omega
    | succ j => have := ih (by simpa using e); omega
theorem min_le_l (a b : Nat) : min a b ≤ a := Nat.min_le_left a b
/-- x < y by what the heap holds -/
theorem rc_lt (n : Nat) : ∀ (x y : D) (A : Around) (s : Shared) (u1 u2 : Value) (as bs : List Addr), x.py.depth ≤ n → Reads s.heap u1 x.py as → Reads s.heap u2 y.py bs → x.od = true → y.od = true → x.cok y = true → A.units + x.py.depth < cLine →
    Ob.RcOp .Lt A s u1 u2 (x.ltB y) := by
  induction n with
  | zero =>
    intro x y A s u1 u2 as bs hn r1 r2 o1 o2 hc hu
    cases x <;> cases y <;> first | (cases hc; done) | skip
    · rw [D.py] at r1 r2
      cases r1; cases r2
      rw [D.ltB]
      exact Ob.RcOp.lt_int _ _ _ _
    · rw [D.py] at r1 r2
      cases r1; cases r2
      rw [D.ltB]
      exact fun prog w E Q h => PyProof.Rows.lt_str h
    · rw [D.py, PyData.depth] at hn
      omega
  | succ n ih =>
    intro x y A s u1 u2 as bs hn r1 r2 o1 o2 hc hu
    cases x <;> cases y <;> first | (cases hc; done) | skip
    · rw [D.py] at r1 r2
      cases r1; cases r2
      rw [D.ltB]
      exact Ob.RcOp.lt_int _ _ _ _
    · rw [D.py] at r1 r2
      cases r1; cases r2
      rw [D.ltB]
      exact fun prog w E Q h => PyProof.Rows.lt_str h
    · rename_i xs ys
      rw [D.py] at r1 r2
      rw [D.py, PyData.depth] at hn hu
      rw [D.od] at o1 o2
      rw [D.cok] at hc
      cases r1 with
      | tuple h1 h2 h3 h4 =>
        cases r2 with
        | tuple k1 k2 k3 k4 =>
          rename_i l ob items nn b ob2 items2 nn2
          obtain ⟨l1, q1⟩ := reads_all_at h4
          obtain ⟨l2, q2⟩ := reads_all_at k4
          have t1 : s.heap.IsTuple l items := ⟨_, h1, h2, _, h3⟩
          have t2 : s.heap.IsTuple b items2 := ⟨_, k1, k2, _, k3⟩
          have R := Ob.RcOp.tuples_lt (A := A) (s := s) (e := fun j => (xs.getD j .non).beq (ys.getD j .non)) (r := fun j => (xs.getD j .non).ltB (ys.getD j .non)) t1 t2 (by omega) (fun j h1 h2 => ?_) (fun j h1 h2 he => ?_)
          · rw [D.ltB, ← lexAt_eq xs ys 0 (e := fun j => (xs.getD j .non).beq (ys.getD j .non)) (r := fun j => (xs.getD j .non).ltB (ys.getD j .non)) (fun j x y e1 e2 => by simp [List.getD_eq_getElem?_getD, e1, e2])]
            have z1 : items.size = xs.length := by rw [← l1]; simp
            have z2 : items2.size = ys.length := by rw [← l2]; simp
            rw [z1, z2] at R
            exact R
          · have j1 : j < xs.length := by rw [← l1]; simpa using h1
            have j2 : j < ys.length := by rw [← l2]; simpa using h2
            obtain ⟨v1, b1, e1, r1⟩ := q1 j xs[j] (List.getElem?_eq_getElem j1)
            obtain ⟨v2, b2, e2, r2⟩ := q2 j ys[j] (List.getElem?_eq_getElem j2)
            have d1 := depth_at (List.getElem?_eq_getElem j1)
            have p1 := ods_at o1 (List.getElem?_eq_getElem j1)
            have p2 := ods_at o2 (List.getElem?_eq_getElem j2)
            have f1 : items[j] = v1 := by simpa [h1] using e1
            have f2 : items2[j] = v2 := by simpa [h2] using e2
            have g := SeqAt.eqAt_reads _ _ A.in1 s v1 v2 b1 b2 r1 r2 (od_lay p1) (od_lay p2) (by
              have := min_le_l xs[j].py.depth ys[j].py.depth
              have : A.in1.units = A.units + 1 := rfl
              omega)
            rw [eqv_beq p1 p2] at g
            rw [f1, f2]
            simpa [List.getD_eq_getElem?_getD, j1, j2] using g
          · have j1 : j < xs.length := by rw [← l1]; simpa using h1
            have j2 : j < ys.length := by rw [← l2]; simpa using h2
            obtain ⟨v1, b1, e1, r1⟩ := q1 j xs[j] (List.getElem?_eq_getElem j1)
            obtain ⟨v2, b2, e2, r2⟩ := q2 j ys[j] (List.getElem?_eq_getElem j2)
            have d1 := depth_at (List.getElem?_eq_getElem j1)
            have p1 := ods_at o1 (List.getElem?_eq_getElem j1)
            have p2 := ods_at o2 (List.getElem?_eq_getElem j2)
            have f1 : items[j] = v1 := by simpa [h1] using e1
            have f2 : items2[j] = v2 := by simpa [h2] using e2
            have he' : xs[j].beq ys[j] = false := by simpa [List.getD_eq_getElem?_getD, j1, j2] using he
            have g := ih xs[j] ys[j] A.in1 s v1 v2 b1 b2 (by omega) r1 r2 p1 p2 (coks_at hc j _ _ (List.getElem?_eq_getElem j1) (List.getElem?_eq_getElem j2) he') (by
              have : A.in1.units = A.units + 1 := rfl
              omega)
            rw [f1, f2]
            simpa [List.getD_eq_getElem?_getD, j1, j2] using g
end Fc

end
section
set_option autoImplicit false
set_option maxHeartbeats 1000000
/-! sorted of data -/
namespace Fc
open PySem PySem.Spec L2 PyProof.Rows
mutual
theorem reads_det {h : Heap} : ∀ (x y : D) (u : Value) (as bs : List Addr), Reads h u x.py as → Reads h u y.py bs → x.od = true → y.od = true → x = y
  | .int i, y, u, as, bs, r1, r2, _, o2 => by
    rw [D.py] at r1
    cases r1
    cases y <;> first | (simp [D.od] at o2; done) | (rw [D.py] at r2; cases r2) <;> rfl
  | .str i, y, u, as, bs, r1, r2, _, o2 => by
    rw [D.py] at r1
    cases r1
    cases y <;> first | (simp [D.od] at o2; done) | (rw [D.py] at r2; cases r2) <;> rfl
  | .tup xs, y, u, as, bs, r1, r2, o1, o2 => by
    rw [D.py] at r1
    rw [D.od] at o1
    cases r1 with
    | tuple h1 h2 h3 h4 =>
      cases y <;> first | (simp [D.od] at o2; done) | (rw [D.py] at r2; cases r2; done) | skip
      rename_i ys
      rw [D.py] at r2
      rw [D.od] at o2
      cases r2 with
      | tuple k1 k2 k3 k4 =>
        rw [h1] at k1
        cases k1
        rw [h3] at k3
        cases k3
        rw [reads_dets xs ys _ _ _ h4 k4 o1 o2]
  | .non, _, _, _, _, _, _, h, _ => by simp [D.od] at h
  | .bl _, _, _, _, _, _, _, h, _ => by simp [D.od] at h
  | .lst _, _, _, _, _, _, _, h, _ => by simp [D.od] at h
  | .dic .., _, _, _, _, _, _, h, _ => by simp [D.od] at h
  | .dil .., _, _, _, _, _, _, h, _ => by simp [D.od] at h
  | .pr _, _, _, _, _, _, _, h, _ => by simp [D.od] at h
  | .ob .., _, _, _, _, _, _, h, _ => by simp [D.od] at h
  | .ref _, _, _, _, _, _, _, h, _ => by simp [D.od] at h
  | .scr _, _, _, _, _, _, _, h, _ => by simp [D.od] at h
theorem reads_dets {h : Heap} : ∀ (xs ys : List D) (us : List Value) (as bs : List Addr), ReadsAll h us (D.pys xs) as → ReadsAll h us (D.pys ys) bs → D.ods xs = true → D.ods ys = true → xs = ys
  | [], [], _, _, _, _, _, _, _ => rfl
  | [], y :: ys, _, _, _, r1, r2, _, _ => by
    rw [D.pys] at r1
    cases r1
    rw [D.pys] at r2
    cases r2
  | x :: xs, [], _, _, _, r1, r2, _, _ => by
    rw [D.pys] at r2
    cases r2
    rw [D.pys] at r1
    cases r1
  | x :: xs, y :: ys, _, _, _, r1, r2, o1, o2 => by
    rw [D.pys] at r1 r2
    simp only [D.ods, Bool.and_eq_true] at o1 o2
    cases r1 with
    | cons a1 a2 =>
      cases r2 with
      | cons b1 b2 => rw [reads_det x y _ _ _ a1 b1 o1.1 o2.1, reads_dets xs ys _ _ _ a2 b2 o1.2 o2.2]
end
mutual
theorem reads_keep {h h' : Heap} (k : ∀ b o, o.cls = .type "tuple" → h.get? b = some o → h'.get? b = some o) : ∀ (x : D) (u : Value) (as : List Addr), Reads h u x.py as → x.od = true → Reads h' u x.py as
  | .int i, u, as, r, _ => by rw [D.py] at r ⊢; cases r; exact .int _ _
  | .str i, u, as, r, _ => by rw [D.py] at r ⊢; cases r; exact .str _ _
  | .tup xs, u, as, r, o => by
    rw [D.py] at r ⊢
    rw [D.od] at o
    cases r with
    | tuple h1 h2 h3 h4 => exact .tuple (k _ _ h2 h1) h2 h3 (reads_keeps k xs _ _ h4 o)
  | .non, _, _, _, h => by simp [D.od] at h
  | .bl _, _, _, _, h => by simp [D.od] at h
  | .lst _, _, _, _, h => by simp [D.od] at h
  | .dic .., _, _, _, h => by simp [D.od] at h
  | .dil .., _, _, _, h => by simp [D.od] at h
  | .pr _, _, _, _, h => by simp [D.od] at h
  | .ob .., _, _, _, h => by simp [D.od] at h
  | .ref _, _, _, _, h => by simp [D.od] at h
  | .scr _, _, _, _, h => by simp [D.od] at h
theorem reads_keeps {h h' : Heap} (k : ∀ b o, o.cls = .type "tuple" → h.get? b = some o → h'.get? b = some o) : ∀ (xs : List D) (us : List Value) (as : List Addr), ReadsAll h us (D.pys xs) as → D.ods xs = true → ReadsAll h' us (D.pys xs) as
  | [], _, _, r, _ => by rw [D.pys] at r ⊢; cases r; exact .nil
  | x :: xs, _, _, r, o => by
    rw [D.pys] at r ⊢
    simp only [D.ods, Bool.and_eq_true] at o
    cases r with
    | cons a b => exact .cons (reads_keep k x _ _ a o.1) (reads_keeps k xs _ _ b o.2)
end
open Classical in
/-- the datum of a value -/
noncomputable def keyV (h : Heap) (v : Value) : D := if q : ∃ d : D, d.od = true ∧ ∃ as, Reads h v d.py as then Classical.choose q else .int 0
theorem keyV_od (h : Heap) (v : Value) : (keyV h v).od = true := by
  unfold keyV
  split
  · rename_i q; exact (Classical.choose_spec q).1
  · rfl
theorem keyV_eq {h : Heap} {v : Value} {d : D} {as : List Addr} (r : Reads h v d.py as) (o : d.od = true) : keyV h v = d := by
  have q : ∃ d : D, d.od = true ∧ ∃ as, Reads h v d.py as := ⟨d, o, as, r⟩
  unfold keyV
  rw [dif_pos q]
  obtain ⟨h1, bs, h2⟩ := Classical.choose_spec q
  exact reads_det _ _ _ _ _ h2 r h1 o
noncomputable def ltV (h : Heap) (v u : Value) : Bool := (keyV h v).ltB (keyV h u)
theorem swo_od {α : Type} {f : α → D} (hf : ∀ v, (f v).od = true) : SrtO.Swo fun v u => (f v).ltB (f u) := by
  refine ⟨fun x y h => ?_, fun x y z h1 h2 => ?_⟩
  · rcases D.tri (hf x) (hf y) with ⟨q1, q2, _⟩ | ⟨q1, q2, _⟩ | ⟨q1, q2, _⟩
    · exact q2
    · exact q2
    · rw [q1] at h; cases h
  · rcases D.tri (hf z) (hf x) with ⟨q1, q2, q3⟩ | ⟨q1, q2, q3⟩ | ⟨q1, q2, q3⟩
    · exfalso
      rcases D.tri (hf x) (hf y) with ⟨p1, p2, p3⟩ | ⟨p1, p2, p3⟩ | ⟨p1, p2, p3⟩
      · have := D.ltB_trans (hf z) (hf x) (hf y) q1 p1
        rw [this] at h2; cases h2
      · have e := D.beq_ok p3
        rw [e] at q1
        rw [q1] at h2; cases h2
      · rw [p2] at h1; cases h1
    · exact q1
    · exact q1
theorem swo_ltV (h : Heap) : SrtO.Swo (ltV h) := swo_od (keyV_od h)
def isIntD : D → Bool
  | .int _ => true | _ => false
def isStrD : D → Bool
  | .str _ => true | _ => false
def isTupD : D → Bool
  | .tup _ => true | _ => false
def headIs (p : D → Bool) : D → Bool
  | .tup (x :: _) => p x | _ => false
/-- what may be sorted here -/
def srtOk (ds : List D) : Bool := D.ods ds && ds.all (fun d => decide (d.py.depth ≤ 60)) && (ds.all fun x => ds.all fun y => x.cok y) &&
  (ds.all isIntD || ds.all isStrD || ds.all (headIs isIntD) || ds.all (headIs isStrD) || ds.all (headIs isTupD))
section
variable {prog : Program} {w : World} {A : Around} {s : Shared}
theorem kat_all {b fin : Bool} {Q : Bool → Shared → Prop} (hA : A.units + 61 < cLine) : ∀ (xs ys : List D) (vs ws : List Value) (as bs : List Addr) (i : Nat), ReadsAll s.heap vs (D.pys xs) as → ReadsAll s.heap ws (D.pys ys) bs → D.ods xs = true → D.ods ys = true → D.coks xs ys = true →
    fin = decide (xs.length < ys.length) → PyData.depthAll (D.pys xs) ≤ 60 → ((b && i == 0) = true → (∀ x, xs[0]? = some x → isTupD x = false)) → Q (D.ltBs xs ys) s → PySem.W.KatLex prog w A b fin Q (vs.zip ws) i s
  | [], ys, vs, ws, as, bs, i, r1, r2, o1, o2, hc, hf, hd, hb, q => by
    rw [D.pys] at r1
    cases r1
    rw [List.zip_nil_left]
    refine PySem.W.kat_nil ?_
    have : fin = D.ltBs [] ys := by rw [hf]; cases ys <;> simp [D.ltBs]
    rw [this]; exact q
  | x :: xs, [], vs, ws, as, bs, i, r1, r2, o1, o2, hc, hf, hd, hb, q => by
    rw [D.pys] at r2
    cases r2
    rw [List.zip_nil_right]
    refine PySem.W.kat_nil ?_
    have : fin = D.ltBs (x :: xs) [] := by rw [hf]; simp [D.ltBs]
    rw [this]; exact q
  | x :: xs, y :: ys, vs, ws, as, bs, i, r1, r2, o1, o2, hc, hf, hd, hb, q => by
    rw [D.pys] at r1 r2
    simp only [D.ods, Bool.and_eq_true] at o1 o2
    rw [D.coks] at hc
    obtain ⟨hc1, hc2⟩ := Bool.and_eq_true_iff.mp hc
    rw [D.pys, PyData.depthAll] at hd
    cases r1 with
    | cons a1 a2 =>
      cases r2 with
      | cons b1 b2 =>
        rename_i u1 us1 _ _ u2 us2 _ _
        rw [List.zip_cons_cons]
        have E := SeqAt.eqAt_reads _ _ A s u1 u2 _ _ a1 b1 (od_lay o1.1) (od_lay o2.1) (by have := min_le_l x.py.depth y.py.depth; omega)
        rw [eqv_beq o1.1 o2.1] at E
        refine PySem.W.kat_cons (E prog w _ _ ?_)
        rw [D.ltBs] at q
        refine PySem.W.kat_go (fun e => ?_) (fun e => ?_)
        · rw [if_pos e] at q
          refine PySem.W.kat_yes (kat_all hA xs ys us1 us2 _ _ (i + 1) a2 b2 o1.2 o2.2 hc2 (by rw [hf]; simp) (by omega) (fun z => ?_) q)
          simp at z
        · rw [if_neg (by rw [e]; decide)] at q
          have hk : x.cok y = true := by rw [e] at hc1; simpa using hc1
          refine PySem.W.kat_no ?_
          cases fb : (b && i == 0) with
          | true =>
            have ht := hb fb x rfl
            cases x <;> cases y <;> first | (cases hk; done) | skip
            · rw [D.py] at a1 b1
              cases a1; cases b1
              exact oneLt_int q
            · rw [D.py] at a1 b1
              cases a1; cases b1
              exact oneLt_str q
            · cases ht
          | false => exact PySem.W.kat_one _ _ (rc_lt 60 x y A s u1 u2 _ _ (by omega) a1 b1 o1.1 o2.1 hk (by omega) prog w _ _ q)
end
end Fc

end
section
set_option autoImplicit false
set_option maxHeartbeats 1000000
/-! sorted(list), sorted(tuple) -/
namespace Fc
open PySem PySem.Spec L2 PyProof.Rows
/-! by insertion -/
def insD (x : D) : List D → List D
  | [] => [x]
  | y :: r => if y.ltB x then y :: insD x r else x :: y :: r
def sortD : List D → List D
  | [] => []
  | x :: r => insD x (sortD r)
theorem insD_perm (x : D) (l : List D) : (insD x l).Perm (x :: l) := by
  induction l with
  | nil => exact .refl _
  | cons y r ih =>
    rw [insD]
    split
    · exact (List.Perm.cons y ih).trans (.swap x y r)
    · exact .refl _
theorem sortD_perm (l : List D) : (sortD l).Perm l := by
  induction l with
  | nil => exact .refl _
  | cons x r ih => exact (insD_perm x _).trans (.cons x ih)
abbrev Asc (l : List D) : Prop := l.Pairwise fun x y => y.ltB x = false
theorem ods_all {l : List D} : D.ods l = true ↔ ∀ d ∈ l, d.od = true := by
  induction l with
  | nil => simp [D.ods]
  | cons d r ih => simp [D.ods, ih]
theorem insD_asc {x : D} {l : List D} (hx : x.od = true) (hl : ∀ d ∈ l, d.od = true) (h : Asc l) : Asc (insD x l) := by
  induction l with
  | nil => exact List.pairwise_singleton _ _
  | cons y r ih =>
    obtain ⟨h1, h2⟩ := List.pairwise_cons.mp h
    have oy := hl y (by simp)
    rw [insD]
    split
    · rename_i q
      refine List.pairwise_cons.mpr ⟨fun z hz => ?_, ih (fun d hd => hl d (by simp [hd])) h2⟩
      rcases List.mem_cons.mp ((insD_perm x r).mem_iff.mp hz) with rfl | hz
      · rcases D.tri oy hx with ⟨_, a, _⟩ | ⟨_, a, _⟩ | ⟨a, _, _⟩
        · exact a
        · exact a
        · rw [a] at q; cases q
      · exact h1 z hz
    · rename_i q
      have q' : y.ltB x = false := by simpa using q
      refine List.pairwise_cons.mpr ⟨fun z hz => ?_, h⟩
      rcases List.mem_cons.mp hz with rfl | hz
      · exact q'
      · have oz := hl z (by simp [hz])
        have a := h1 z hz
        rcases D.tri oz hx with ⟨b, _, _⟩ | ⟨b, _, _⟩ | ⟨b, _, _⟩
        · exfalso
          rcases D.tri hx oy with ⟨c1, c2, _⟩ | ⟨c1, c2, c3⟩ | ⟨c1, c2, _⟩
          · have := D.ltB_trans oz hx oy b c1
            rw [this] at a; cases a
          · have e := D.beq_ok c3
            subst e
            rw [b] at a; cases a
          · rw [c2] at q'; cases q'
        · exact b
        · exact b
theorem sortD_asc {l : List D} (h : ∀ d ∈ l, d.od = true) : Asc (sortD l) := by
  induction l with
  | nil => exact .nil
  | cons x r ih => exact insD_asc (h x (by simp)) (fun d hd => h d (by simp [(sortD_perm r).mem_iff.mp hd])) (ih fun d hd => h d (by simp [hd]))
/-- two ascending lists of the same things are one -/
theorem asc_uniq : ∀ {l m : List D}, (∀ d ∈ l, d.od = true) → Asc l → Asc m → l.Perm m → l = m
  | [], m, _, _, _, p => p.nil_eq
  | x :: l, [], _, _, _, p => absurd p.length_eq (by simp)
  | x :: l, y :: m, o, a, b, p => by
    obtain ⟨a1, a2⟩ := List.pairwise_cons.mp a
    obtain ⟨b1, b2⟩ := List.pairwise_cons.mp b
    have ox := o x (by simp)
    have oy : y.od = true := o y (p.mem_iff.mpr (by simp))
    have hxy : y.ltB x = false := by
      rcases List.mem_cons.mp (p.mem_iff.mpr (List.mem_cons_self (a := y) (l := m))) with rfl | h
      · rcases D.tri ox ox with ⟨q, r, _⟩ | ⟨q, _, _⟩ | ⟨q, _, _⟩
        · rw [q] at r; cases r
        · exact q
        · exact q
      · exact a1 y h
    have hyx : x.ltB y = false := by
      rcases List.mem_cons.mp (p.mem_iff.mp (List.mem_cons_self (a := x) (l := l))) with rfl | h
      · exact hxy
      · exact b1 x h
    have e : x = y := by
      rcases D.tri ox oy with ⟨q, _, _⟩ | ⟨_, _, q⟩ | ⟨_, q, _⟩
      · rw [q] at hyx; cases hyx
      · exact D.beq_ok q
      · rw [q] at hxy; cases hxy
    subst e
    rw [asc_uniq (fun d hd => o d (by simp [hd])) a2 b2 (List.Perm.cons_inv p)]
theorem sortD_of {l m : List D} (o : ∀ d ∈ l, d.od = true) (a : Asc m) (p : m.Perm l) : sortD l = m :=
  asc_uniq (fun d hd => o d ((sortD_perm l).mem_iff.mp hd)) (sortD_asc o) a ((sortD_perm l).trans p.symm)
theorem sortD_id {l : List D} (o : ∀ d ∈ l, d.od = true) (a : Asc l) : sortD l = l := sortD_of o a (.refl _)
section
variable {prog : Program} {w : World} {A : Around} {s : Shared}
theorem reads_mem {h : Heap} {us : List Value} {ds : List D} {as : List Addr} (r : ReadsAll h us (D.pys ds) as) {u : Value} (hu : u ∈ us) : ∃ d ∈ ds, ∃ bs, Reads h u d.py bs := by
  obtain ⟨l1, q⟩ := reads_all_at r
  obtain ⟨j, hj⟩ := List.getElem?_of_mem hu
  have hj' : j < ds.length := by rw [← l1]; exact (List.getElem?_eq_some_iff.mp hj).1
  obtain ⟨u', bs, e, q⟩ := q j ds[j] (List.getElem?_eq_getElem hj')
  rw [hj] at e
  cases e
  exact ⟨_, List.getElem_mem hj', bs, q⟩
theorem heads_of {h : Heap} (p : D → Bool) : ∀ {us : List Value} {ds : List D} {as : List Addr}, ReadsAll h us (D.pys ds) as → ds.all (headIs p) = true → ∃ fs : List Value, PySem.W.KatTups h us fs ∧ fs.length = us.length ∧ ∀ f ∈ fs, ∃ d bs, p d = true ∧ Reads h f d.py bs
  | us, [], as, r, _ => by
    rw [D.pys] at r
    cases r
    exact ⟨[], .nil, rfl, fun f hf => by cases hf⟩
  | us, d :: ds, as, r, hp => by
    rw [D.pys] at r
    rw [List.all_cons] at hp
    obtain ⟨h1, h2⟩ := Bool.and_eq_true_iff.mp hp
    cases r with
    | cons a b =>
      obtain ⟨fs, q1, q2, q3⟩ := heads_of p b h2
      cases d <;> first | (cases h1; done) | skip
      rename_i xs
      cases xs with
      | nil => cases h1
      | cons x xs =>
        rw [D.py] at a
        cases a with
        | tuple k1 k2 k3 k4 =>
          rename_i items n
          obtain ⟨l1, z⟩ := reads_all_at k4
          obtain ⟨f, bs, e1, e2⟩ := z 0 x rfl
          refine ⟨f :: fs, .cons k1 k2 k3 (by rw [← Array.getElem?_toList]; exact e1) q1, by simp [q2], fun g hg => ?_⟩
          rcases List.mem_cons.mp hg with rfl | hg
          · exact ⟨x, bs, h1, e2⟩
          · exact q3 g hg
theorem data_sortable {a : Addr} {vs : List Value} {ds : List D} {as : List Addr} (r : ReadsAll s.heap vs (D.pys ds) as) (ok : srtOk ds = true) (h2 : 2 ≤ vs.length) (ha : ∀ o, s.heap.get? a = some o → o.cls ≠ .type "tuple") (hA : A.units + 61 < cLine) :
    SrtO.SortableO prog w A s a vs (ltV s.heap) := by
  intro h' keep
  unfold srtOk at ok
  simp only [Bool.and_eq_true] at ok
  obtain ⟨⟨⟨o1, o2⟩, o3⟩, o4⟩ := ok
  have od := ods_all.mp o1
  have dp : ∀ d ∈ ds, d.py.depth ≤ 60 := fun d hd => of_decide_eq_true (List.all_eq_true.mp o2 d hd)
  have ck : ∀ x ∈ ds, ∀ y ∈ ds, x.cok y = true := fun x hx y hy => List.all_eq_true.mp (List.all_eq_true.mp o3 x hx) y hy
  have kt : ∀ b o, o.cls = .type "tuple" → s.heap.get? b = some o → h'.get? b = some o := fun b o hc e => keep b o (fun z => by subst z; exact ha o e hc) e
  have r' := reads_keeps kt ds _ _ r o1
  have look : ∀ v ∈ vs, ∃ d ∈ ds, keyV s.heap v = d ∧ ∃ bs, Reads h' v d.py bs := fun v hv => by
    obtain ⟨d, hd, bs, q⟩ := reads_mem r hv
    exact ⟨d, hd, keyV_eq q (od d hd), bs, reads_keep kt d _ _ q (od d hd)⟩
  have tups : ∀ (b : Bool) (p : D → Bool), (∀ d ∈ ds, headIs p d = true) → (b = true → ∀ x, p x = true → isTupD x = false) → SrtO.Cmp prog w A { s with heap := h' } (tuples' b) (fun p => p.1 ∈ vs) (SrtO.lt2 (ltV s.heap)) := fun b p hp hb v u hv hu => by
    obtain ⟨x, hx, e1, b1, q1⟩ := look v.1 hv
    obtain ⟨y, hy, e2, b2, q2⟩ := look u.1 hu
    have c := ck x hx y hy
    have d1 := dp x hx
    have p1 := hp x hx
    have ox := od x hx
    have oy := od y hy
    show wpAny (model prog w) A (keyLt' (tuples' b) v.1 u.1) (fun r s' => s' = { s with heap := h' } ∧ r = (keyV s.heap v.1).ltB (keyV s.heap u.1)) (fun _ _ => False) { s with heap := h' }
    rw [e1, e2]
    cases x <;> first | (cases p1; done) | skip
    cases y <;> first | (cases c; done) | skip
    rename_i xs ys
    rw [D.py] at q1 q2
    rw [D.py, PyData.depth] at d1
    rw [D.od] at ox oy
    rw [D.cok] at c
    generalize v.1 = v1 at q1
    generalize u.1 = u1 at q2
    cases q1 with
    | tuple k1 k2 k3 k4 =>
      cases q2 with
      | tuple m1 m2 m3 m4 =>
        refine PySem.W.kat_lt (s := { s with heap := h' }) k1 k3 m1 m3 ?_
        have l1 := (reads_all_at k4).1
        have l2 := (reads_all_at m4).1
        refine kat_all (s := { s with heap := h' }) hA xs ys _ _ _ _ 0 k4 m4 ox oy c ?_ (by omega) (fun hz x e => ?_) ?_
        · rw [← l1, ← l2]; simp
        · cases xs with
          | nil => simp at e
          | cons x0 xs =>
            simp at e
            subst e
            exact hb (by simpa using hz) _ p1
        · exact ⟨rfl, by rw [D.ltB]⟩
  have flatK : ∀ (T : String) (p : D → Bool), ds.all (headIs p) = true → (∀ d f bs, p d = true → Reads h' f d.py bs → PySem.W.Looks (model prog w) h' (typeOf f) (.type T)) → (Value.type T == Value.type T) = true →
      ∀ (Q : SortKind → Shared → Prop) (E : Value → Shared → Prop), Q (tuples' (Value.type T != Value.type "tuple")) { s with heap := h' } → wpAny (model prog w) A (keyKind' vs.toArray) Q E { s with heap := h' } := fun T p hp hl ht Q E hq => by
    obtain ⟨fs, g1, g2, g3⟩ := heads_of p r' hp
    exact PySem.W.kat_kind (s := { s with heap := h' }) (T := .type T) g1 (by omega) (fun f hf => by obtain ⟨d, bs, e1, e2⟩ := g3 f hf; exact hl d f bs e1 e2) ht hq
  simp only [Bool.or_eq_true] at o4
  rcases o4 with (((o4 | o4) | o4) | o4) | o4
  · have hi : ∀ v ∈ vs, ∃ i t, v = Value.int i t := fun v hv => by
      obtain ⟨d, hd, _, bs, q⟩ := look v hv
      have := List.all_eq_true.mp o4 d hd
      cases d <;> first | (cases this; done) | skip
      rw [D.py] at q
      cases q
      exact ⟨_, _, rfl⟩
    have hI := SrtO.ints_iv hi
    refine ⟨oneType', fun Q E hq => ?_, fun v u hv hu => ?_⟩
    · match vs, hI, h2 with
      | v1 :: v2 :: rest, hI, _ => rw [keyKind_ints hI]; exact wpAny_pure hq
      | [], _, h => exact absurd h (by decide)
      | [v], _, h => exact absurd h (by simp)
    · obtain ⟨x, hx, e1, b1, q1⟩ := look v.1 hv
      obtain ⟨y, hy, e2, b2, q2⟩ := look u.1 hu
      have c1 := List.all_eq_true.mp o4 x hx
      have c2 := List.all_eq_true.mp o4 y hy
      show wpAny (model prog w) A (keyLt' oneType' v.1 u.1) (fun r s' => s' = { s with heap := h' } ∧ r = (keyV s.heap v.1).ltB (keyV s.heap u.1)) (fun _ _ => False) { s with heap := h' }
      rw [e1, e2]
      cases x <;> first | (cases c1; done) | skip
      cases y <;> first | (cases c2; done) | skip
      rw [D.py] at q1 q2
      generalize v.1 = v1 at q1
      generalize u.1 = u1 at q2
      cases q1; cases q2
      exact PySem.W.kat_lt_int ⟨rfl, by rw [D.ltB]⟩
  · have hi : ∀ v ∈ vs, ∃ i t, v = Value.str i t := fun v hv => by
      obtain ⟨d, hd, _, bs, q⟩ := look v hv
      have := List.all_eq_true.mp o4 d hd
      cases d <;> first | (cases this; done) | skip
      rw [D.py] at q
      cases q
      exact ⟨_, _, rfl⟩
    have hI := strsAre_map vs hi
    refine ⟨oneType', fun Q E hq => ?_, fun v u hv hu => ?_⟩
    · match vs, hI, h2 with
      | v1 :: v2 :: rest, hI, _ => rw [keyKind_strs hI]; exact wpAny_pure hq
      | [], _, h => exact absurd h (by decide)
      | [v], _, h => exact absurd h (by simp)
    · obtain ⟨x, hx, e1, b1, q1⟩ := look v.1 hv
      obtain ⟨y, hy, e2, b2, q2⟩ := look u.1 hu
      have c1 := List.all_eq_true.mp o4 x hx
      have c2 := List.all_eq_true.mp o4 y hy
      show wpAny (model prog w) A (keyLt' oneType' v.1 u.1) (fun r s' => s' = { s with heap := h' } ∧ r = (keyV s.heap v.1).ltB (keyV s.heap u.1)) (fun _ _ => False) { s with heap := h' }
      rw [e1, e2]
      cases x <;> first | (cases c1; done) | skip
      cases y <;> first | (cases c2; done) | skip
      rw [D.py] at q1 q2
      generalize v.1 = v1 at q1
      generalize u.1 = u1 at q2
      cases q1; cases q2
      exact PySem.W.kas_lt_str ⟨rfl, by rw [D.ltB]⟩
  · refine ⟨_, flatK "int" isIntD o4 (fun d f bs hd q => ?_) (by rfl), ?_⟩
    · cases d <;> first | (cases hd; done) | skip
      rw [D.py] at q
      cases q
      exact PySem.W.Looks.now
    · exact tups _ isIntD (List.all_eq_true.mp o4) fun _ x hx => by cases x <;> first | rfl | cases hx
  · refine ⟨_, flatK "str" isStrD o4 (fun d f bs hd q => ?_) (by rfl), ?_⟩
    · cases d <;> first | (cases hd; done) | skip
      rw [D.py] at q
      cases q
      exact PySem.W.Looks.now
    · exact tups _ isStrD (List.all_eq_true.mp o4) fun _ x hx => by cases x <;> first | rfl | cases hx
  · refine ⟨_, flatK "tuple" isTupD o4 (fun d f bs hd q => ?_) (by rfl), ?_⟩
    · cases d <;> first | (cases hd; done) | skip
      rw [D.py] at q
      cases q with
      | tuple k1 k2 k3 k4 =>
        rename_i l ob items nn
        have z : PySem.W.Looks (model prog w) h' (typeOf (.ref l)) ob.cls := (PySem.W.Looks.ld k1).andThen .now
        rw [k2] at z
        exact z
    · exact tups _ isTupD (List.all_eq_true.mp o4) fun hb x hx => by exact absurd hb (by decide)
end
end Fc

end
section
set_option autoImplicit false
set_option maxHeartbeats 1000000
/-! sorted, called -/
namespace Fc
open PySem PySem.Spec L2 PyProof.Rows
theorem perm_lift {α β : Type} (f : α → β) : ∀ (m : List β) (l : List α), m.Perm (l.map f) → ∃ l' : List α, l'.Perm l ∧ l'.map f = m
  | [], l, p => by
    have : l = [] := by simpa using p.nil_eq.symm
    subst this
    exact ⟨[], .refl _, rfl⟩
  | b :: m, l, p => by
    obtain ⟨a, ha, rfl⟩ := List.mem_map.mp (p.mem_iff.mp List.mem_cons_self)
    obtain ⟨l1, l2, rfl⟩ := List.append_of_mem ha
    have p' : m.Perm ((l1 ++ l2).map f) := by
      refine List.Perm.cons_inv (a := f a) (p.trans ?_)
      simp only [List.map_append, List.map_cons]
      exact List.perm_middle
    obtain ⟨l', q1, q2⟩ := perm_lift f m (l1 ++ l2) p'
    exact ⟨a :: l', (List.Perm.cons a q1).trans List.perm_middle.symm, by simp [q2]⟩
variable [CtI] [XsI]
theorem trips {W : Wd} {H : Hp} {h : Heap} : ∀ {vs : List Value} {ys : List V} {ds : List D} {as : List Addr}, Vals ys vs → Reps W H ys ds → ReadsAll h vs (D.pys ds) as → D.ods ds = true →
    ∃ tr : List (Value × V × D), tr.map (·.1) = vs ∧ tr.map (·.2.2) = ds ∧ ∀ t ∈ tr, RelV t.2.1 t.1 ∧ Rep W H t.2.1 t.2.2 ∧ keyV h t.1 = t.2.2
  | _, _, [], _, r1, r2, r3, _ => by
    cases r2
    cases r1
    exact ⟨[], rfl, rfl, fun t ht => by cases ht⟩
  | _, _, d :: ds, _, r1, r2, r3, o => by
    rw [D.pys] at r3
    simp only [D.ods, Bool.and_eq_true] at o
    cases r2 with
    | cons a2 b2 =>
      cases r1 with
      | cons a1 b1 =>
        cases r3 with
        | cons a3 b3 =>
          obtain ⟨tr, h1, h2, h3⟩ := trips b1 b2 b3 o.2
          rename_i v1 _ u1 _ _ _
          refine ⟨(u1, v1, d) :: tr, by simp [h1], by simp [h2], fun t ht => ?_⟩
          rcases List.mem_cons.mp ht with rfl | ht
          · exact ⟨a1, a2, keyV_eq a3 o.1⟩
          · exact h3 t ht
theorem trips_back {W : Wd} {H : Hp} {h : Heap} : ∀ {tr : List (Value × V × D)}, (∀ t ∈ tr, RelV t.2.1 t.1 ∧ Rep W H t.2.1 t.2.2 ∧ keyV h t.1 = t.2.2) → Vals (tr.map (·.2.1)) (tr.map (·.1)) ∧ Reps W H (tr.map (·.2.1)) (tr.map (·.2.2)) ∧ tr.map (·.2.2) = (tr.map (·.1)).map (keyV h)
  | [], _ => ⟨.nil, .nil, rfl⟩
  | t :: tr, q => by
    obtain ⟨q1, q2, q3⟩ := q t (by simp)
    obtain ⟨p1, p2, p3⟩ := trips_back (tr := tr) fun t ht => q t (by simp [ht])
    exact ⟨.cons q1 p1, .cons q2 p2, by simp only [List.map_cons]; rw [q3, ← p3]⟩
section
variable {X : Cx} {Wx : WX}
theorem sorted_core (hu : X.A.units + 64 < cLine) {pins : List (Addr × PySem.Obj)} {s : Shared} {σ : L2.St} {H : Hp} (I : Inv X pins σ H s) {W : Wd} {S : Store} (wk : Wok W H S) {vs : List Value} {ys : List V} {ds : List D} {as : List Addr} {u : Value}
    (rv : Vals ys vs) (rp : Reps W H ys ds) (rd : ReadsAll s.heap vs (D.pys ds) as) (ok : srtOk ds = true) (hz : ds.length ≤ 16777216)
    (col : ∀ (R : List Value → Shared → Prop), (∀ (h' : Heap) (tk : Nat), (∀ b o, s.heap.get? b = some o → h'.get? b = some o) → R vs { s with heap := h', toks := tk }) → wpAny (model X.prog X.w) X.A.in1 (collect u) R (fun _ _ => False) s)
    {σ' : L2.St} {Q : VK} (h : Post W H σ' Wx (.ok (.tl (sortD ds)) S) Q) : wpAny (model X.prog X.w) X.A (call (.builtin "sorted") [u]) (EP X pins σ Q) X.xe s := by
  have hl : vs.length = ds.length := (reads_all_at rd).1
  have ho : D.ods ds = true := by
    unfold srtOk at ok
    simp only [Bool.and_eq_true] at ok
    exact ok.1.1.1
  have hzv : vs.length ≤ sizeLine := by rw [hl, ← lim_eq]; exact hz
  refine Calls.call_function_entry kind_sorted plain_sorted entry_sorted (args_sorted1 _) ?_; unfold Builtin.«sorted»
  refine wpAny_bind (wpAny_pure ?_); refine wpAny_bind (wpAny_mono (col _ fun h' tk hk => ?_) (fun _ _ z => z) fun _ _ z => z.elim)
  refine wpAny_bind (wpAny_newList (Q := fun l s2 => _) ?_ hzv)
  have I1 : Inv X pins σ H { s with heap := h', toks := tk } := I.kept hk
  have hoL : (h'.push (seqObj "list" vs.toArray 0)).get? h'.objs.size = some (seqObj "list" vs.toArray 0) := Heap.get?_push_size _ rfl
  have keep : ∀ b o, s.heap.get? b = some o → (h'.push (seqObj "list" vs.toArray 0)).get? b = some o := fun b o e => Heap.get?_push_of_some _ (hk b o e)
  have rd2 := reads_keeps (fun b o _ e => keep b o e) ds _ _ rd ho
  have kv : ∀ v ∈ vs, keyV (h'.push (seqObj "list" vs.toArray 0)) v = keyV s.heap v := fun v hv => by
    obtain ⟨d, hd, bs, q⟩ := reads_mem rd hv
    have od := ods_all.mp ho d hd
    rw [keyV_eq q od, keyV_eq (reads_keep (fun b o _ e => keep b o e) d _ _ q od) od]
  show wpAny _ _ _ _ _ { s with heap := h'.push (seqObj "list" vs.toArray 0), toks := tk }
  refine wpAny_bind (wpAny_holding (wpAny_call_entry slot_list_sort ⟨_, hoL, rfl⟩ entry_list_sort (SrtO.list_sort_ord (s := { s with heap := h'.push (seqObj "list" vs.toArray 0), toks := tk }) (swo_ltV (h'.push (seqObj "list" vs.toArray 0))) hoL hzv
    (fun h2 => data_sortable (s := { s with heap := h'.push (seqObj "list" vs.toArray 0), toks := tk }) rd2 ok h2 (fun o e => ?_) ?_) fun out hs hb => ⟨_, rfl, ?_⟩) (args_list_sort _)))
  · have e' := e.symm.trans hoL
    cases e'
    intro c
    exact absurd (Value.type.inj c) (by decide)
  · have : X.A.in1.in1.units = X.A.units + 2 := rfl
    omega
  · obtain ⟨tr, t1, t2, t3⟩ := trips rv rp rd2 ho
    have hp : out.Perm (tr.map (·.1)) := by rw [t1]; exact hb.perm
    obtain ⟨tr', p1, p2⟩ := perm_lift _ _ _ hp
    obtain ⟨q1, q2, q3⟩ := trips_back (W := W) (H := H) (h := h'.push (seqObj "list" vs.toArray 0)) (tr := tr') fun t ht => t3 t (p1.mem_iff.mp ht)
    rw [p2] at q1 q3
    have es : tr'.map (·.2.2) = sortD ds := by
      refine (sortD_of (ods_all.mp ho) ?_ ?_).symm
      · rw [q3]; exact List.pairwise_map.mpr hs
      · rw [← t2]; exact p1.map _
    rw [es] at q2
    obtain ⟨ep, he'⟩ := sortedHeap_at (vs := vs) (out := out.toArray) hoL
    have hlen : (tr'.map (·.2.1)).length ≤ sizeLine := by
      rw [q2.length, (sortD_perm ds).length_eq, ← lim_eq]; exact hz
    have hd2 : (sortD ds).length ≤ 16777216 := by rw [(sortD_perm ds).length_eq]; exact hz
    refine wpAny_pure ⟨_, rfl, .ref h'.objs.size, upd H h'.objs.size (.lst (tr'.map (·.2.1))), I1.laid (t' := tk) (fun b o e => ?_) (Nat.le_refl _) ⟨hlen, out, ep, q1, he'⟩, rfl, h.lst wk (I1.hok.fresh (Nat.le_refl _)) q2 hd2⟩
    have hb' : b < h'.objs.size := Heap.lt_size e
    rw [sortedHeap_old (Nat.ne_of_lt hb') (by rw [size_push']; exact Nat.lt_succ_of_lt hb')]
    exact Heap.get?_push_of_some _ e
theorem dp_reads {K : PySem.W.Frag} {pins : List (Addr × PySem.Obj)} {s : Shared} {σ : L2.St} {H : Hp} (I : Inv X pins σ H s) {W : Wd} : ∀ {ds : List D} {ys : List V} {vs : List Value}, Reps W H ys ds → Vals ys vs → D.plains ds = true → ∃ as, ReadsAll s.heap vs (D.pys ds) as
  | [], _, _, r, q, _ => by
    cases r
    cases q
    exact ⟨_, by rw [D.pys]; exact .nil⟩
  | d :: ds, _, _, r, q, h => by
    simp only [D.plains, Bool.and_eq_true] at h
    cases r with
    | cons r1 r2 =>
      cases q with
      | cons q1 q2 =>
        obtain ⟨as, a⟩ := Dp.reads I _ _ _ (r1.dp (K := X.K) h.1) q1
        obtain ⟨bs, b⟩ := dp_reads (K := K) I r2 q2 h.2
        exact ⟨as ++ bs, by rw [D.pys]; exact .cons a b⟩
theorem col_list {s : Shared} {A : Around} {prog : Program} {w : World} {l : Addr} {vs : List Value} (hl : s.heap.IsList l vs.toArray) (hz : vs.length ≤ sizeLine) (R : List Value → Shared → Prop)
    (h : ∀ (h' : Heap) (tk : Nat), (∀ b o, s.heap.get? b = some o → h'.get? b = some o) → R vs { s with heap := h', toks := tk }) : wpAny (model prog w) A (collect (.ref l)) R (fun _ _ => False) s := by
  refine collect_list hl (h _ s.toks fun b o e => ?_) hz
  rw [Heap.get?_update_ne _ _ _ _ (Nat.ne_of_lt (Heap.lt_size e))]
  exact Heap.get?_push_of_some _ e
theorem col_tup {s : Shared} {A : Around} {prog : Program} {w : World} {l : Addr} {vs : List Value} (hl : s.heap.IsTuple l vs.toArray) (hz : vs.length ≤ sizeLine) (R : List Value → Shared → Prop)
    (h : ∀ (h' : Heap) (tk : Nat), (∀ b o, s.heap.get? b = some o → h'.get? b = some o) → R vs { s with heap := h', toks := tk }) : wpAny (model prog w) A (collect (.ref l)) R (fun _ _ => False) s := by
  obtain ⟨o, ho, hc, n, hd⟩ := hl
  have fin : R vs { s with heap := (s.heap.push (seqObj "list" #[] 0)).update s.heap.objs.size (Obj.mapSeq (· ++ vs.toArray)) } := by
    refine h _ s.toks fun b o e => ?_
    rw [Heap.get?_update_ne _ _ _ _ (Nat.ne_of_lt (Heap.lt_size e))]
    exact Heap.get?_push_of_some _ e
  unfold collect; refine wpAny_bind (wpAny_runValue (codeAny_builtin entry_proto_collect' ?_))
  show wpAny _ _ (do again (.builtin "list.__iadd__" ⟨[← newList [], Value.ref l], []⟩)) _ _ s
  refine wpAny_bind (wpAny_newList (wpAny_pure ⟨Code.quiet_builtin _ (by decide +kernel), codeAny_builtin entry_list_iadd' ?_⟩)); show wpAny _ _ (Builtin.List.listExtendWith (.ref s.heap.objs.size) (.ref l) (.ref s.heap.objs.size)) _ _ { s with heap := s.heap.push (seqObj "list" #[] 0) }
  unfold Builtin.List.listExtendWith
  have hp : (s.heap.push (seqObj "list" #[] 0)).get? l = some o := Heap.get?_push_of_some _ ho
  refine wpAny_bind (wpAny_typeOf (T := "tuple") ⟨o, hp, hc⟩ ?_)
  have ht : (Value.type "tuple" == Value.type "tuple") = true := by rfl
  rw [if_pos (by rw [ht]; simp)]; refine wpAny_bind (listItems_at hp hd ?_)
  refine wpAny_bind (listItems_at (xs := #[]) (n := 0) (Heap.get?_push_size _ rfl) rfl ?_); rw [if_neg (by simp)]
  refine wpAny_bind (listUpdate_at (xs := #[]) (n := 0) (Heap.get?_push_size _ rfl) rfl ?_ (Nat.zero_le _) (by show (#[] ++ vs.toArray).size ≤ sizeLine + 1; simp only [Array.size_append, List.size_toArray, List.length_nil]; omega)); refine wpAny_pure ?_
  show wpAny (model prog w) A (do
      let ob ← load s.heap.objs.size
      match ob.data with
      | .seq xs _ => pure xs.toList
      | _ => unsupported "internal:collect") R _ { s with heap := (s.heap.push (seqObj "list" #[] 0)).update s.heap.objs.size (Obj.mapSeq (· ++ vs.toArray)) }
  refine wpAny_bind (wpAny_load (get?_update_seq (Heap.get?_push_size _ rfl) _) ?_); show wpAny _ _ (pure ((#[] : Array Value) ++ vs.toArray).toList) R _ _
  rw [show ((#[] : Array Value) ++ vs.toArray).toList = vs by simp]; exact wpAny_pure fin
/-- the items of a tuple or a list -/
def seqTL (S : Store) : D → Option (List D)
  | .tup xs => some xs
  | d => seqM S d
def evSorted : List D → Store → Out RV
  | [d], S => match seqTL S d with
    | some xs => if srtOk xs = true then .ok (.tl (sortD xs)) S else .bad
    | none => .bad
  | _, _ => .bad
theorem c_sorted [KX X] (hu : X.A.units + 64 < cLine) : CallR X (.builtin "sorted") (rC Wx evSorted) := by
  intro pins s σ H xs us Q I rv h
  obtain ⟨σ', W, S, ds, w, r, h⟩ := h
  unfold evSorted at h
  split at h
  · rename_i d
    obtain ⟨x, rfl, r0⟩ := reps1 r
    obtain ⟨u, rfl, ru⟩ := vals1 rv
    split at h
    · rename_i zs hz
      split at h
      · rename_i ok
        have hp : D.plains zs = true := by
          unfold srtOk at ok
          simp only [Bool.and_eq_true] at ok
          exact ods_plain ok.1.1.1
        by_cases ht : ∃ xs, d = .tup xs
        · obtain ⟨xs, rfl⟩ := ht
          cases hz
          obtain ⟨a, vs, rfl, sa, ra, la⟩ := tup_ok (K := X.K) r0
          cases ru
          obtain ⟨its, rv', pl, hz'⟩ := I.tuple sa
          obtain ⟨as, rd⟩ := dp_reads (K := X.K) I ra rv' hp
          exact sorted_core hu I w rv' ra rd ok la (fun R hR => col_tup pl (by rw [← rv'.length]; exact hz') R hR) h
        · have hz2 : seqM S d = some zs := by
            cases d <;> first | (exact absurd ⟨_, rfl⟩ ht) | exact hz
          obtain ⟨a, vs, rfl, ha, ra, la⟩ := seqM_ok w r0 hz2
          cases ru
          obtain ⟨its, rv', pl, hz'⟩ := I.list (SqL.of ha)
          obtain ⟨as, rd⟩ := dp_reads (K := X.K) I ra rv' hp
          exact sorted_core hu I w rv' ra rd ok la (fun R hR => col_list pl.isList (by rw [← rv'.length]; exact hz') R hR) h
      · exact h.elim
    · exact h.elim
  · exact h.elim
end
end Fc

end
section
set_option autoImplicit false
set_option maxHeartbeats 1000000
/-! the least and the greatest of data: of a sequence, of two -/
namespace Fc
open PySem PySem.Spec L2 PyProof.Rows
theorem lexAt_gt {e r : Nat → Bool} : ∀ (xs ys : List D) (i : Nat), (∀ (j : Nat) (x y : D), xs[j]? = some x → ys[j]? = some y → e (i + j) = x.beq y ∧ r (i + j) = y.ltB x) →
    Ob.lexAt e r (decide (xs.length > ys.length)) i (min xs.length ys.length) = D.ltBs ys xs
  | [], [], i, _ => by simp [Ob.lexAt, D.ltBs]
  | [], _ :: _, i, _ => by simp [Ob.lexAt, D.ltBs]
  | _ :: _, [], i, _ => by simp [Ob.lexAt, D.ltBs]
  | x :: xs, y :: ys, i, h => by
    obtain ⟨h1, h2⟩ := h 0 x y rfl rfl
    rw [Nat.add_zero] at h1 h2
    have e1 : min (x :: xs).length (y :: ys).length = min xs.length ys.length + 1 := by simp
    have e2 : decide ((x :: xs).length > (y :: ys).length) = decide (xs.length > ys.length) := by simp
    rw [e1, e2, Ob.lexAt, D.ltBs, h1, h2, D.beq_comm y x, lexAt_gt xs ys (i + 1) fun j a b q1 q2 => by
      rw [show i + 1 + j = i + (j + 1) by omega]
      exact h (j + 1) a b (by simpa using q1) (by simpa using q2)]
theorem gt_strR {prog : Program} {w : World} {A : Around} {E : Value → Shared → Prop} {s : Shared} {x y : Str} {t u : Tok} {Q : Value → Shared → Prop} (h : Q (.bool (decide (y.cps.toList < x.cps.toList))) s) : wpAny (model prog w) A (richCompare .Gt (.str x t) (.str y u)) Q E s := P.gt_str h
/-- x > y by what the heap holds -/
theorem rc_gt (n : Nat) : ∀ (x y : D) (A : Around) (s : Shared) (u1 u2 : Value) (as bs : List Addr), x.py.depth ≤ n → Reads s.heap u1 x.py as → Reads s.heap u2 y.py bs → x.od = true → y.od = true → x.cok y = true → A.units + x.py.depth < cLine →
    Ob.RcOp .Gt A s u1 u2 (y.ltB x) := by
  induction n with
  | zero =>
    intro x y A s u1 u2 as bs hn r1 r2 o1 o2 hc hu
    cases x <;> cases y <;> first | (cases hc; done) | skip
    · rw [D.py] at r1 r2
      cases r1; cases r2
      rw [D.ltB]
      exact Ob.RcOp.gt_int _ _ _ _
    · rw [D.py] at r1 r2
      cases r1; cases r2
      rw [D.ltB]
      exact fun prog w E Q h => gt_strR h
    · rw [D.py, PyData.depth] at hn
      omega
  | succ n ih =>
    intro x y A s u1 u2 as bs hn r1 r2 o1 o2 hc hu
    cases x <;> cases y <;> first | (cases hc; done) | skip
    · rw [D.py] at r1 r2
      cases r1; cases r2
      rw [D.ltB]
      exact Ob.RcOp.gt_int _ _ _ _
    · rw [D.py] at r1 r2
      cases r1; cases r2
      rw [D.ltB]
      exact fun prog w E Q h => gt_strR h
    · rename_i xs ys
      rw [D.py] at r1 r2
      rw [D.py, PyData.depth] at hn hu
      rw [D.od] at o1 o2
      rw [D.cok] at hc
      cases r1 with
      | tuple h1 h2 h3 h4 =>
        cases r2 with
        | tuple k1 k2 k3 k4 =>
          rename_i l ob items nn b ob2 items2 nn2
          obtain ⟨l1, q1⟩ := reads_all_at h4
          obtain ⟨l2, q2⟩ := reads_all_at k4
          have t1 : s.heap.IsTuple l items := ⟨_, h1, h2, _, h3⟩
          have t2 : s.heap.IsTuple b items2 := ⟨_, k1, k2, _, k3⟩
          have R := Ob.RcOp.tuples_gt (A := A) (s := s) (e := fun j => (xs.getD j .non).beq (ys.getD j .non)) (r := fun j => (ys.getD j .non).ltB (xs.getD j .non)) t1 t2 (by omega) (fun j h1 h2 => ?_) (fun j h1 h2 he => ?_)
          · rw [D.ltB, ← lexAt_gt xs ys 0 (e := fun j => (xs.getD j .non).beq (ys.getD j .non)) (r := fun j => (ys.getD j .non).ltB (xs.getD j .non)) (fun j x y e1 e2 => by simp [List.getD_eq_getElem?_getD, e1, e2])]
            have z1 : items.size = xs.length := by rw [← l1]; simp
            have z2 : items2.size = ys.length := by rw [← l2]; simp
            rw [z1, z2] at R
            exact R
          · have j1 : j < xs.length := by rw [← l1]; simpa using h1
            have j2 : j < ys.length := by rw [← l2]; simpa using h2
            obtain ⟨v1, b1, e1, r1⟩ := q1 j xs[j] (List.getElem?_eq_getElem j1)
            obtain ⟨v2, b2, e2, r2⟩ := q2 j ys[j] (List.getElem?_eq_getElem j2)
            have d1 := depth_at (List.getElem?_eq_getElem j1)
            have p1 := ods_at o1 (List.getElem?_eq_getElem j1)
            have p2 := ods_at o2 (List.getElem?_eq_getElem j2)
            have f1 : items[j] = v1 := by simpa [h1] using e1
            have f2 : items2[j] = v2 := by simpa [h2] using e2
            have g := SeqAt.eqAt_reads _ _ A.in1 s v1 v2 b1 b2 r1 r2 (od_lay p1) (od_lay p2) (by
              have := min_le_l xs[j].py.depth ys[j].py.depth
              have : A.in1.units = A.units + 1 := rfl
              omega)
            rw [eqv_beq p1 p2] at g
            rw [f1, f2]
            simpa [List.getD_eq_getElem?_getD, j1, j2] using g
          · have j1 : j < xs.length := by rw [← l1]; simpa using h1
            have j2 : j < ys.length := by rw [← l2]; simpa using h2
            obtain ⟨v1, b1, e1, r1⟩ := q1 j xs[j] (List.getElem?_eq_getElem j1)
            obtain ⟨v2, b2, e2, r2⟩ := q2 j ys[j] (List.getElem?_eq_getElem j2)
            have d1 := depth_at (List.getElem?_eq_getElem j1)
            have p1 := ods_at o1 (List.getElem?_eq_getElem j1)
            have p2 := ods_at o2 (List.getElem?_eq_getElem j2)
            have f1 : items[j] = v1 := by simpa [h1] using e1
            have f2 : items2[j] = v2 := by simpa [h2] using e2
            have he' : xs[j].beq ys[j] = false := by simpa [List.getD_eq_getElem?_getD, j1, j2] using he
            have g := ih xs[j] ys[j] A.in1 s v1 v2 b1 b2 (by omega) r1 r2 p1 p2 (coks_at hc j _ _ (List.getElem?_eq_getElem j1) (List.getElem?_eq_getElem j2) he') (by
              have : A.in1.units = A.units + 1 := rfl
              omega)
            rw [f1, f2]
            simpa [List.getD_eq_getElem?_getD, j1, j2] using g
theorem pys_getD : ∀ (ds : List D) (i : Nat), (D.pys ds).getD i .none = (ds.getD i .non).py
  | [], _ => by simp [D.pys, D.py]
  | d :: ds, 0 => by simp [D.pys]
  | d :: ds, i + 1 => by
    rw [D.pys]
    have := pys_getD ds i
    simpa using this
theorem pys_len : ∀ (ds : List D), (D.pys ds).length = ds.length
  | [] => by simp [D.pys]
  | d :: ds => by simp [D.pys, pys_len ds]
theorem srt_at {ds : List D} (ok : srtOk ds = true) {i : Nat} (hi : i < ds.length) : (ds.getD i .non).od = true ∧ (ds.getD i .non).py.depth ≤ 60 ∧ ds.getD i .non ∈ ds := by
  have e : ds.getD i .non = ds[i] := by simp [List.getD_eq_getElem?_getD, hi]
  have hm : ds[i] ∈ ds := List.getElem_mem hi
  unfold srtOk at ok
  simp only [Bool.and_eq_true] at ok
  obtain ⟨⟨⟨o1, o2⟩, o3⟩, o4⟩ := ok
  rw [e]
  exact ⟨ods_all.mp o1 _ hm, of_decide_eq_true (List.all_eq_true.mp o2 _ hm), hm⟩
theorem srt_cok {ds : List D} (ok : srtOk ds = true) {x y : D} (hx : x ∈ ds) (hy : y ∈ ds) : x.cok y = true := by
  unfold srtOk at ok
  simp only [Bool.and_eq_true] at ok
  exact List.all_eq_true.mp (List.all_eq_true.mp ok.1.2 x hx) y hy
section
variable {prog : Program} {w : World} {A : Around} {s : Shared}
theorem cin_lt {vs : Array Value} {ds : List D} {as : List Addr} (rd : ReadsAll s.heap vs.toList (D.pys ds) as) (ok : srtOk ds = true) (hA : A.units + 61 < cLine) :
    CmpIn prog w A .Lt s.heap (fun i v => vs[i]? = some v) (fun i j => (ds.getD i .non).ltB (ds.getD j .non)) := fun i j vi vj s' Q E hk hi hj hq => by
  obtain ⟨as1, r1, l1, _, _⟩ := PySem.W.readsAll_atA rd i vi hi
  obtain ⟨as2, r2, l2, _, _⟩ := PySem.W.readsAll_atA rd j vj hj
  rw [pys_getD] at r1 r2
  rw [pys_len] at l1 l2
  obtain ⟨o1, d1, m1⟩ := srt_at ok l1
  obtain ⟨o2, d2, m2⟩ := srt_at ok l2
  exact rc_lt 60 _ _ A s' vi vj _ _ d1 (Reads.keeps hk r1) (Reads.keeps hk r2) o1 o2 (srt_cok ok m1 m2) (by omega) prog w E Q hq
theorem cin_gt {vs : Array Value} {ds : List D} {as : List Addr} (rd : ReadsAll s.heap vs.toList (D.pys ds) as) (ok : srtOk ds = true) (hA : A.units + 61 < cLine) :
    CmpIn prog w A .Gt s.heap (fun i v => vs[i]? = some v) (fun i j => (ds.getD j .non).ltB (ds.getD i .non)) := fun i j vi vj s' Q E hk hi hj hq => by
  obtain ⟨as1, r1, l1, _, _⟩ := PySem.W.readsAll_atA rd i vi hi
  obtain ⟨as2, r2, l2, _, _⟩ := PySem.W.readsAll_atA rd j vj hj
  rw [pys_getD] at r1 r2
  rw [pys_len] at l1 l2
  obtain ⟨o1, d1, m1⟩ := srt_at ok l1
  obtain ⟨o2, d2, m2⟩ := srt_at ok l2
  exact rc_gt 60 _ _ A s' vi vj _ _ d1 (Reads.keeps hk r1) (Reads.keeps hk r2) o1 o2 (srt_cok ok m1 m2) (by omega) prog w E Q hq
/-- the heap with the tuple of two more -/
abbrev pairHeap (h : Heap) (a b : Value) : Heap := h.push { cls := .type "tuple", data := .seq #[a, b] }
theorem pair_old {h : Heap} {a b : Value} (c : Addr) (o : PySem.Obj) (z : h.get? c = some o) : (pairHeap h a b).get? c = some o := Heap.get?_push_of_some _ z
theorem pair_cmp {op : CmpOp} {h : Heap} {a b : Value} {at_ : Nat → Value → Prop} {bt : Nat → Nat → Bool} (c : CmpIn prog w A op h at_ bt) : CmpIn prog w A op (pairHeap h a b) at_ bt := fun i j vi vj s' Q E keeps => c i j vi vj s' Q E fun x o z => keeps x o (pair_old x o z)
/-- min(a, b), the two compared where the heap stands -/
theorem call_min_2H {a b : Value} {Q : Value → Shared → Prop} {bt : Nat → Nat → Bool} (calm : A.handled = none) (cmp : CmpIn prog w A.in1 .Lt s.heap (fun i v => (#[a, b] : Array Value)[i]? = some v) bt)
    (q : ∀ v h' tk, (#[a, b] : Array Value)[argBest bt 1]? = some v → (∀ c o, s.heap.get? c = some o → h'.get? c = some o) → Q v { s with heap := h', toks := tk }) (E : Value → Shared → Prop) : wpAny (model prog w) A (call (.builtin "min") [a, b]) Q E s := by
  refine call_function_tree F.kind_min F.plain_min F.entry_min (F.args_min2 _ _) ?_
  show wpAny _ A.in1 (Builtin.Builtins.bindParams "min" ["key", "default"] 0 ⟨[], []⟩ >>= _) _ _ s
  rw [show Builtin.Builtins.bindParams "min" ["key", "default"] 0 ⟨[], []⟩ = pure [none, none] from rfl]
  refine wpAny_bind (wpAny_pure ?_)
  show wpAny _ A.in1 (newTuple [a, b] >>= _) _ _ s
  refine wpAny_bind (wpAny_newObj_type (wpAny_bind (PySem.W.iter_tupleW (A := A.in1) (s := { s with heap := pairHeap s.heap a b }) calm ⟨_, Heap.get?_push_size _ rfl, rfl, 0, rfl⟩ fun t e W st late hw keeps => wpAny_bind (wpAny_newObj_type ?_))))
  rw [show (toString "min" ++ toString ".loop" : String) = "min.loop" by decide]
  refine wpAny_pure ⟨plainId_quiet F.plain_min_loop _, codeAny_min_loop_firstH W _ hw bt (pair_cmp cmp) t.heap.objs.size (fun m => Nat.lt_irrefl _ (late _ m)) (fresh_in keeps) _ (by simp) (fun b o z => Heap.get?_push_of_some _ (keeps b o z)) (W.frame 0 t _ t.toks st (Nat.le_refl _) fun b _ o z => Heap.get?_push_of_some _ z) (Heap.get?_push_size _ rfl) fun v s' best moved => ?_⟩
  obtain ⟨h', tk, rfl, same⟩ := PySem.W.moved_old e rfl (Moved.drop_new (tk := t.toks) moved (Nat.le_refl _))
  exact q v h' tk best fun c o z => same c o (pair_old c o z)
/-- max(a, b), the two compared where the heap stands -/
theorem call_max_2H {a b : Value} {Q : Value → Shared → Prop} {bt : Nat → Nat → Bool} (calm : A.handled = none) (cmp : CmpIn prog w A.in1 .Gt s.heap (fun i v => (#[a, b] : Array Value)[i]? = some v) bt)
    (q : ∀ v h' tk, (#[a, b] : Array Value)[argBest bt 1]? = some v → (∀ c o, s.heap.get? c = some o → h'.get? c = some o) → Q v { s with heap := h', toks := tk }) (E : Value → Shared → Prop) : wpAny (model prog w) A (call (.builtin "max") [a, b]) Q E s := by
  refine call_function_tree F.kind_max F.plain_max F.entry_max (F.args_max2 _ _) ?_
  show wpAny _ A.in1 (Builtin.Builtins.bindParams "max" ["key", "default"] 0 ⟨[], []⟩ >>= _) _ _ s
  rw [show Builtin.Builtins.bindParams "max" ["key", "default"] 0 ⟨[], []⟩ = pure [none, none] from rfl]
  refine wpAny_bind (wpAny_pure ?_)
  show wpAny _ A.in1 (newTuple [a, b] >>= _) _ _ s
  refine wpAny_bind (wpAny_newObj_type (wpAny_bind (PySem.W.iter_tupleW (A := A.in1) (s := { s with heap := pairHeap s.heap a b }) calm ⟨_, Heap.get?_push_size _ rfl, rfl, 0, rfl⟩ fun t e W st late hw keeps => wpAny_bind (wpAny_newObj_type ?_))))
  rw [show (toString "max" ++ toString ".loop" : String) = "max.loop" by decide]
  refine wpAny_pure ⟨plainId_quiet F.plain_max_loop _, codeAny_max_loop_firstH W _ hw bt (pair_cmp cmp) t.heap.objs.size (fun m => Nat.lt_irrefl _ (late _ m)) (fresh_in keeps) _ (by simp) (fun b o z => Heap.get?_push_of_some _ (keeps b o z)) (W.frame 0 t _ t.toks st (Nat.le_refl _) fun b _ o z => Heap.get?_push_of_some _ z) (Heap.get?_push_size _ rfl) fun v s' best moved => ?_⟩
  obtain ⟨h', tk, rfl, same⟩ := PySem.W.moved_old e rfl (Moved.drop_new (tk := t.toks) moved (Nat.le_refl _))
  exact q v h' tk best fun c o z => same c o (pair_old c o z)
/-- min, max of a list, of a tuple -/
theorem call_min_1H {l : Addr} {vs : Array Value} {Q : Value → Shared → Prop} {bt : Nat → Nat → Bool} (hh : A.handled = none) (hl : s.heap.IsList l vs ∨ s.heap.IsTuple l vs) (hn : 0 < vs.size) (hc : CmpIn prog w A.in1 .Lt s.heap (fun i v => vs[i]? = some v) bt)
    (hq : ∀ v h' tk, vs[argBest bt (vs.size - 1)]? = some v → (∀ c o, s.heap.get? c = some o → h'.get? c = some o) → Q v { s with heap := h', toks := tk }) (E : Value → Shared → Prop) :
    wpAny (model prog w) A (call (.builtin "min") [.ref l]) Q E s := by
  rcases hl with hl | hl
  · refine call_min_walkH (PySem.W.iter_listW (A := A.in1) hh hl fun s₂ e W st hfp hw hk => ?_)
    refine ⟨_, _, _, _, _, _, _, s.heap, _, rfl, W, st, hfp, hn, hw, hk, hc, fun v s' hP m => ?_⟩
    obtain ⟨h', tk, rfl, hk'⟩ := PySem.W.moved_old e rfl m
    exact hq v h' tk hP hk'
  · refine call_min_walkH (PySem.W.iter_tupleW (A := A.in1) hh hl fun s₂ e W st hfp hw hk => ?_)
    refine ⟨_, _, _, _, _, _, _, s.heap, _, rfl, W, st, hfp, hn, hw, hk, hc, fun v s' hP m => ?_⟩
    obtain ⟨h', tk, rfl, hk'⟩ := PySem.W.moved_old e rfl m
    exact hq v h' tk hP hk'
theorem call_max_1H {l : Addr} {vs : Array Value} {Q : Value → Shared → Prop} {bt : Nat → Nat → Bool} (hh : A.handled = none) (hl : s.heap.IsList l vs ∨ s.heap.IsTuple l vs) (hn : 0 < vs.size) (hc : CmpIn prog w A.in1 .Gt s.heap (fun i v => vs[i]? = some v) bt)
    (hq : ∀ v h' tk, vs[argBest bt (vs.size - 1)]? = some v → (∀ c o, s.heap.get? c = some o → h'.get? c = some o) → Q v { s with heap := h', toks := tk }) (E : Value → Shared → Prop) :
    wpAny (model prog w) A (call (.builtin "max") [.ref l]) Q E s := by
  rcases hl with hl | hl
  · refine call_max_walkH (PySem.W.iter_listW (A := A.in1) hh hl fun s₂ e W st hfp hw hk => ?_)
    refine ⟨_, _, _, _, _, _, _, s.heap, _, rfl, W, st, hfp, hn, hw, hk, hc, fun v s' hP m => ?_⟩
    obtain ⟨h', tk, rfl, hk'⟩ := PySem.W.moved_old e rfl m
    exact hq v h' tk hP hk'
  · refine call_max_walkH (PySem.W.iter_tupleW (A := A.in1) hh hl fun s₂ e W st hfp hw hk => ?_)
    refine ⟨_, _, _, _, _, _, _, s.heap, _, rfl, W, st, hfp, hn, hw, hk, hc, fun v s' hP m => ?_⟩
    obtain ⟨h', tk, rfl, hk'⟩ := PySem.W.moved_old e rfl m
    exact hq v h' tk hP hk'
end
/-- the first of the least, of the greatest -/
def minF (x : D) (xs : List D) : D := xs.foldl (fun a y => if y.ltB a then y else a) x
def maxF (x : D) (xs : List D) : D := xs.foldl (fun a y => if a.ltB y then y else a) x
theorem best_at (f : D → D → Bool) (x : D) (xs : List D) : argBest (fun i j => f ((x :: xs).getD i .non) ((x :: xs).getD j .non)) xs.length < (x :: xs).length ∧ (x :: xs).getD (argBest (fun i j => f ((x :: xs).getD i .non) ((x :: xs).getD j .non)) xs.length) .non = xs.foldl (fun a y => if f y a then y else a) x := by
  obtain ⟨h1, h2⟩ := PySem.W.argBest_fold f .non x xs xs.length (Nat.le_refl _)
  rw [List.take_length] at h2
  exact ⟨by rw [List.length_cons]; exact Nat.lt_succ_of_le h1, h2⟩
end Fc

end
section
set_option autoImplicit false
set_option maxHeartbeats 1000000
/-! min and max of a list, of a tuple -/
namespace Fc
open PySem PySem.Spec L2 PyProof.Rows
def minI : List Int → Option Int
  | [] => none
  | n :: r => some (r.foldl min n)
def maxI : List Int → Option Int
  | [] => none
  | n :: r => some (r.foldl max n)
def evMin : List D → Store → Out RV
  | [.int i, .int j], S => evMin2 [.int i, .int j] S
  | [d, e], S => if srtOk [d, e] = true then .ok (.val (minF d [e])) S else .bad
  | [d], S => match (seqTL S d).bind intsOf with
    | some ns => (match minI ns with
      | some m => .ok (.val (.int m)) S
      | none => .bad)
    | none => (match seqTL S d with
      | some (x :: xs) => if srtOk (x :: xs) = true then .ok (.val (minF x xs)) S else .bad
      | _ => .bad)
  | _, _ => .bad
def evMax : List D → Store → Out RV
  | [.int i, .int j], S => evMax2 [.int i, .int j] S
  | [d, e], S => if srtOk [d, e] = true then .ok (.val (maxF d [e])) S else .bad
  | [d], S => match (seqTL S d).bind intsOf with
    | some ns => (match maxI ns with
      | some m => .ok (.val (.int m)) S
      | none => .bad)
    | none => (match seqTL S d with
      | some (x :: xs) => if srtOk (x :: xs) = true then .ok (.val (maxF x xs)) S else .bad
      | _ => .bad)
  | _, _ => .bad
theorem alike_ints (n : Int) (ns : List Int) : PySem.W.AlikeAll (.int n :: ns.map .int) := by
  have q : ∀ x ∈ (PyData.int n :: ns.map .int), ∃ k, x = PyData.int k := fun x hx => by
    rcases List.mem_cons.mp hx with rfl | hx
    · exact ⟨_, rfl⟩
    · obtain ⟨k, _, rfl⟩ := List.mem_map.mp hx
      exact ⟨k, rfl⟩
  refine ⟨fun x hx y hy => ?_, fun x hx => ?_⟩
  · obtain ⟨a, rfl⟩ := q x hx
    obtain ⟨b, rfl⟩ := q y hy
    rfl
  · obtain ⟨a, rfl⟩ := q x hx
    exact nofun
theorem depth_ints (n : Int) (ns : List Int) : PyData.depthAll (.int n :: ns.map .int) = 0 := by
  have : ∀ l : List Int, PyData.depthAll (l.map .int) = 0 := fun l => by
    induction l with
    | nil => rfl
    | cons a r ih => rw [List.map_cons, PyData.depthAll, ih]; rfl
  rw [PyData.depthAll, this]
  rfl
variable [CtI] [XsI] {X : Cx} {Wx : WX}
theorem seqTL_ok {K : PySem.W.Frag} {W : Wd} {H : Hp} {S : Store} {x : V} {d : D} {ds : List D} (w : Wok W H S) (r : Rep W H x d) (h : seqTL S d = some ds) : ∃ a vs, x = .ref a ∧ (SqL K H a vs ∨ SqT K H a vs) ∧ Reps W H vs ds ∧ ds.length ≤ 16777216 := by
  by_cases ht : ∃ xs, d = .tup xs
  · obtain ⟨xs, rfl⟩ := ht
    cases h
    obtain ⟨a, vs, rfl, sa, ra, la⟩ := tup_ok (K := K) r
    exact ⟨a, vs, rfl, .inr sa, ra, la⟩
  · have hz2 : seqM S d = some ds := by
      cases d <;> first | (exact absurd ⟨_, rfl⟩ ht) | exact h
    obtain ⟨a, vs, rfl, ha, ra, la⟩ := seqM_ok w r hz2
    exact ⟨a, vs, rfl, .inl (SqL.of ha), ra, la⟩
theorem reads_is {h : Heap} : ∀ {ns : List Int} {us : List Value}, Vals (ns.map V.int) us → ReadsAll h us (ns.map PyData.int) [] := fun r => reads_ints r
theorem reads_int {h : Heap} {v : Value} {m : Int} {bs : List Addr} (r : Reads h v (.int m) bs) : ∃ t, v = .int m t := by cases r; exact ⟨_, rfl⟩
theorem srt_plain {ds : List D} (ok : srtOk ds = true) : D.plains ds = true := by
  unfold srtOk at ok
  simp only [Bool.and_eq_true] at ok
  exact ods_plain ok.1.1.1
theorem at_best {W : Wd} {H : Hp} : ∀ {vs : List V} {ds : List D} {is : List Value} {k : Nat} {v : Value}, Reps W H vs ds → Vals vs is → k < ds.length → is[k]? = some v → ∃ y d, Rep W H y d ∧ RelV y v ∧ ds.getD k .non = d
  | _, _, _, 0, _, .cons r _, .cons q _, _, e => by
    cases (Option.some.inj e : _ = _)
    exact ⟨_, _, r, q, rfl⟩
  | _, _, _, k + 1, _, .cons _ rs, .cons _ qs, hk, e => by
    obtain ⟨y, d, h1, h2, h3⟩ := at_best (k := k) rs qs (by simpa using hk) (by simpa using e)
    exact ⟨y, d, h1, h2, by simpa using h3⟩
theorem c_min1 [KX X] (hu : X.A.units + 64 < cLine) (hc : X.calm = true) : CallR X (.builtin "min") (rC Wx evMin) := by
  intro pins s σ H xs us Q I rv h
  obtain ⟨σ', W, S, ds, w, r, h⟩ := h
  unfold evMin at h
  split at h
  · exact c_min hc pins s σ H xs us Q I rv ⟨σ', W, _, _, w, r, h⟩
  · rename_i d e _
    obtain ⟨x, y, rfl, r1, r2⟩ := reps2 r
    obtain ⟨u1, u2, rfl, q1, q2⟩ := vals2 rv
    split at h
    · rename_i ok
      obtain ⟨as, rd⟩ := dp_reads (K := X.K) I r rv (srt_plain ok)
      refine call_min_2H (I.ok.hd hc) (cin_lt (A := X.A.in1) (vs := #[u1, u2]) rd ok (by show X.A.units + 1 + 61 < _; omega)) (fun v h' tk hv hk => ?_) _
      obtain ⟨b1, b2⟩ := best_at (fun x y => x.ltB y) d [e]
      rw [← Array.getElem?_toList] at hv
      obtain ⟨y', d', k1, k2, k3⟩ := at_best r rv b1 hv
      exact ⟨y', H, I.kept hk, k2, h.same w (by rw [minF, ← b2, k3]; exact k1)⟩
    · exact h.elim
  · rename_i d _
    obtain ⟨x, rfl, r0⟩ := reps1 r
    obtain ⟨u, rfl, ru⟩ := vals1 rv
    split at h
    · rename_i ns hn
      obtain ⟨zs, z1, z2⟩ := Option.bind_eq_some_iff.mp hn
      have e1 := intsOf_ok z2
      subst e1
      obtain ⟨a, vs, rfl, sq, ra, la⟩ := seqTL_ok (K := X.K) w r0 z1
      rw [ra.toInts] at sq
      cases ru
      cases ns with
      | nil => exact h.elim
      | cons n ns =>
        have fin : ∀ (v : Value) (h' : Heap) (tk : Nat) (bs : List Addr), Reads h' v (PySem.W.minD (.int n) (ns.map .int)) bs → (∀ b o, s.heap.get? b = some o → h'.get? b = some o) → EP X pins σ Q v { s with heap := h', toks := tk } := fun v h' tk bs rr hk => by
          rw [PySem.W.minD_ints] at rr
          obtain ⟨t, rfl⟩ := reads_int rr
          exact ⟨.int _, H, I.kept hk, ⟨t, rfl⟩, h.same w (.int _)⟩
        rcases sq with sq | sq
        · obtain ⟨its, rv', pl, hz'⟩ := I.list sq
          exact PySem.W.min_list_data (I.ok.hd hc) pl.isList (by simpa using reads_is (h := s.heap) (ns := n :: ns) rv') (alike_ints n ns) (by rw [depth_ints]; omega) fun i v h' tk bs _ rr hk => fin v h' tk bs rr hk
        · obtain ⟨its, rv', pl, hz'⟩ := I.tuple sq
          exact PySem.W.min_tuple_data (I.ok.hd hc) pl (by simpa using reads_is (h := s.heap) (ns := n :: ns) rv') (alike_ints n ns) (by rw [depth_ints]; omega) fun i v h' tk bs _ rr hk => fin v h' tk bs rr hk
    · split at h
      · rename_i x xs z1
        split at h
        · rename_i ok
          obtain ⟨a, vs, rfl, sq, ra, la⟩ := seqTL_ok (K := X.K) w r0 z1
          cases ru
          have fin : ∀ (is : List Value), Vals vs is → (s.heap.IsList a is.toArray ∨ s.heap.IsTuple a is.toArray) → wpAny (model X.prog X.w) X.A (call (.builtin "min") [.ref a]) (EP X pins σ Q) X.xe s := fun is rv' hl => by
            obtain ⟨as, rd⟩ := dp_reads (K := X.K) I ra rv' (srt_plain ok)
            have hsz : is.toArray.size = xs.length + 1 := by rw [List.size_toArray, ← rv'.length, ra.length]; rfl
            refine call_min_1H (I.ok.hd hc) hl (by omega) (cin_lt (A := X.A.in1) (vs := is.toArray) (by simpa using rd) ok (by show X.A.units + 1 + 61 < _; omega)) (fun v h' tk hv hk => ?_) _
            obtain ⟨b1, b2⟩ := best_at (fun x y => x.ltB y) x xs
            rw [hsz, Nat.add_sub_cancel, ← Array.getElem?_toList] at hv
            obtain ⟨y', d', k1, k2, k3⟩ := at_best ra rv' b1 (by simpa using hv)
            exact ⟨y', H, I.kept hk, k2, h.same w (by rw [minF, ← b2, k3]; exact k1)⟩
          rcases sq with sq | sq
          · obtain ⟨its, rv', pl, hz'⟩ := I.list sq
            exact fin its rv' (.inl pl.isList)
          · obtain ⟨its, rv', pl, hz'⟩ := I.tuple sq
            exact fin its rv' (.inr pl)
        · exact h.elim
      · exact h.elim
  · exact h.elim
theorem c_max1 [KX X] (hu : X.A.units + 64 < cLine) (hc : X.calm = true) : CallR X (.builtin "max") (rC Wx evMax) := by
  intro pins s σ H xs us Q I rv h
  obtain ⟨σ', W, S, ds, w, r, h⟩ := h
  unfold evMax at h
  split at h
  · exact c_max hc pins s σ H xs us Q I rv ⟨σ', W, _, _, w, r, h⟩
  · rename_i d e _
    obtain ⟨x, y, rfl, r1, r2⟩ := reps2 r
    obtain ⟨u1, u2, rfl, q1, q2⟩ := vals2 rv
    split at h
    · rename_i ok
      obtain ⟨as, rd⟩ := dp_reads (K := X.K) I r rv (srt_plain ok)
      refine call_max_2H (I.ok.hd hc) (cin_gt (A := X.A.in1) (vs := #[u1, u2]) rd ok (by show X.A.units + 1 + 61 < _; omega)) (fun v h' tk hv hk => ?_) _
      obtain ⟨b1, b2⟩ := best_at (fun x y => y.ltB x) d [e]
      rw [← Array.getElem?_toList] at hv
      obtain ⟨y', d', k1, k2, k3⟩ := at_best r rv b1 hv
      exact ⟨y', H, I.kept hk, k2, h.same w (by rw [maxF, ← b2, k3]; exact k1)⟩
    · exact h.elim
  · rename_i d _
    obtain ⟨x, rfl, r0⟩ := reps1 r
    obtain ⟨u, rfl, ru⟩ := vals1 rv
    split at h
    · rename_i ns hn
      obtain ⟨zs, z1, z2⟩ := Option.bind_eq_some_iff.mp hn
      have e1 := intsOf_ok z2
      subst e1
      obtain ⟨a, vs, rfl, sq, ra, la⟩ := seqTL_ok (K := X.K) w r0 z1
      rw [ra.toInts] at sq
      cases ru
      cases ns with
      | nil => exact h.elim
      | cons n ns =>
        have fin : ∀ (v : Value) (h' : Heap) (tk : Nat) (bs : List Addr), Reads h' v (PySem.W.maxD (.int n) (ns.map .int)) bs → (∀ b o, s.heap.get? b = some o → h'.get? b = some o) → EP X pins σ Q v { s with heap := h', toks := tk } := fun v h' tk bs rr hk => by
          rw [PySem.W.maxD_ints] at rr
          obtain ⟨t, rfl⟩ := reads_int rr
          exact ⟨.int _, H, I.kept hk, ⟨t, rfl⟩, h.same w (.int _)⟩
        rcases sq with sq | sq
        · obtain ⟨its, rv', pl, hz'⟩ := I.list sq
          exact PySem.W.max_list_data (I.ok.hd hc) pl.isList (by simpa using reads_is (h := s.heap) (ns := n :: ns) rv') (alike_ints n ns) (by rw [depth_ints]; omega) fun i v h' tk bs _ rr hk => fin v h' tk bs rr hk
        · obtain ⟨its, rv', pl, hz'⟩ := I.tuple sq
          exact PySem.W.max_tuple_data (I.ok.hd hc) pl (by simpa using reads_is (h := s.heap) (ns := n :: ns) rv') (alike_ints n ns) (by rw [depth_ints]; omega) fun i v h' tk bs _ rr hk => fin v h' tk bs rr hk
    · split at h
      · rename_i x xs z1
        split at h
        · rename_i ok
          obtain ⟨a, vs, rfl, sq, ra, la⟩ := seqTL_ok (K := X.K) w r0 z1
          cases ru
          have fin : ∀ (is : List Value), Vals vs is → (s.heap.IsList a is.toArray ∨ s.heap.IsTuple a is.toArray) → wpAny (model X.prog X.w) X.A (call (.builtin "max") [.ref a]) (EP X pins σ Q) X.xe s := fun is rv' hl => by
            obtain ⟨as, rd⟩ := dp_reads (K := X.K) I ra rv' (srt_plain ok)
            have hsz : is.toArray.size = xs.length + 1 := by rw [List.size_toArray, ← rv'.length, ra.length]; rfl
            refine call_max_1H (I.ok.hd hc) hl (by omega) (cin_gt (A := X.A.in1) (vs := is.toArray) (by simpa using rd) ok (by show X.A.units + 1 + 61 < _; omega)) (fun v h' tk hv hk => ?_) _
            obtain ⟨b1, b2⟩ := best_at (fun x y => y.ltB x) x xs
            rw [hsz, Nat.add_sub_cancel, ← Array.getElem?_toList] at hv
            obtain ⟨y', d', k1, k2, k3⟩ := at_best ra rv' b1 (by simpa using hv)
            exact ⟨y', H, I.kept hk, k2, h.same w (by rw [maxF, ← b2, k3]; exact k1)⟩
          rcases sq with sq | sq
          · obtain ⟨its, rv', pl, hz'⟩ := I.list sq
            exact fin its rv' (.inl pl.isList)
          · obtain ⟨its, rv', pl, hz'⟩ := I.tuple sq
            exact fin its rv' (.inr pl)
        · exact h.elim
      · exact h.elim
  · exact h.elim
end Fc

end
section
set_option autoImplicit false
set_option maxHeartbeats 3200000
/-! set(xs) of a list of ints -/
namespace Fc
open PySem PySem.Spec L2 PyProof.Rows
section
variable {P : Program} {w : World} {A : Around} {E : Value → Shared → Prop} {s : Shared}
/-- a set as it is made, empty -/
def emS (w : World) : PySem.Obj := { cls := .type "set", dict := none, data := .set #[] 0 (.fresh 0 0 (!w.params.followText "set-order")) }
/-- the call's end: the set at n has the members of ns, all else is as it was -/
def SetMade (w : World) (ns : List Int) (s : Shared) (n : Addr) (t : Shared) : Prop := ∃ h' tk c, t = { s with heap := h', toks := tk } ∧ SetR w h' n (fun j => decide (j ∈ ns)) c ∧ c ≤ ns.length ∧ ∀ b o, s.heap.get? b = some o → h'.get? b = some o
theorem set_of_list {l : Addr} {vs : Array Value} (ns : List Int) {Q : Value → Shared → Prop} (calm : A.handled = none) (lst : s.heap.IsList l vs) (whole : IntsAre vs.toList ns) (few : ns.length + 1 < scanBound)
    (fin : ∀ (h' : Heap) (tk c : Nat), SetR w h' s.heap.objs.size (fun j => decide (j ∈ ns)) c → c ≤ ns.length → (∀ b o, s.heap.get? b = some o → h'.get? b = some o) → Q (.ref s.heap.objs.size) { s with heap := h', toks := tk }) :
    wpAny (model P w) A (call (.type "set") [.ref l]) Q E s := by
  have size : vs.size = ns.length := (Array.length_toList (xs := vs)) ▸ IntsAre.length whole
  have ⟨_, _, mro⟩ := F.called_set.mro
  have made := F.called_set.made
  have subtype := F.called_set.sub
  have plain := F.called_set.notType
  have can := F.called_set.canCreate
  have one := F.typeCall_set_1 (.ref l)
  have at_l : l < s.heap.objs.size := let ⟨_, z, _⟩ := lst; Heap.lt_size z
  refine wpAny_call (codeAny_of_tree ?_)
  show wpAny _ _ (callAny (.type "set") _) _ _ _
  refine wpAny_pure ⟨Code.quiet_builtin _ (by decide +kernel), codeAny_builtin F.entry_type_call ?_⟩
  rw [Around.under_plain (weight_type_call_type "set" [.ref l] []) rfl]
  repeat (any_goals (first | assumption | wp_step))
  refine codeAny_mono (code_set_led1 (.ref l) (E := E) (Q₁ := fun x t => x = .ref s.heap.objs.size ∧ t = { s with heap := s.heap.push (emS w) }) ⟨rfl, rfl⟩) fun r t z => ?_
  cases r
  case error => exact z
  rename_i fl
  cases fl
  case ret =>
    obtain ⟨rfl, rfl⟩ := z
    have there : (s.heap.push (emS w)).get? s.heap.objs.size = some (emS w) := Heap.get?_push_size _ rfl
    have kind : Shared.TypeIs { s with heap := s.heap.push (emS w) } (.ref s.heap.objs.size) "set" := ⟨_, there, rfl⟩
    have found := F.called_set.init.lookup
    have bound := F.called_set.init.bind (.ref s.heap.objs.size)
    repeat (any_goals (first | assumption | wp_step))
    refine codeAny_mono (codeAny_call_builtin (R := wants (fun r t => r = .none ∧ SetMade w ns s s.heap.objs.size t) E) F.called_set.init.plain F.entry_set_init (check_set_init_1 kind ?_)) fun r t z => ?_
    · obtain ⟨⟨_, dd, _, sls⟩, there_l, c, n, d⟩ := lst
      cases c
      cases d
      have there_l : (s.heap.push (emS w)).get? l = some { cls := .type "list", dict := dd, data := .seq vs n, slots := sls } := Heap.get?_push_of_some _ there_l
      have lst1 : (s.heap.push (emS w)).IsList l vs := ⟨_, there_l, rfl, n, rfl⟩
      have noSet := F.sub_list_set
      have noFrozen := F.sub_list_frozenset
      have noDict : (Value.type "list" == Value.type "dict") = false := by decide
      have itAddr : (s.heap.push (emS w)).objs.size = s.heap.objs.size + 1 := Heap.size_push ..
      have off : l ≠ (s.heap.push (emS w)).objs.size := itAddr ▸ Nat.ne_of_lt (Nat.lt_succ_of_lt at_l)
      have apart : s.heap.objs.size ∉ [(s.heap.push (emS w)).objs.size, l] := fun z => (List.mem_cons.mp z).elim (fun e => by rw [itAddr] at e; exact Nat.ne_of_lt (Nat.lt_succ_self _) e) fun z => Nat.ne_of_gt at_l (List.mem_singleton.mp z)
      have early : ∀ b, b < s.heap.objs.size → b ∉ [s.heap.objs.size, (s.heap.push (emS w)).objs.size] := fun b lt z => (List.mem_cons.mp z).elim (Nat.ne_of_lt lt) fun z => Nat.ne_of_lt (Nat.lt_succ_of_lt lt) ((List.mem_singleton.mp z).trans itAddr)
      unfold Builtin.«set.__init__» noKeywords Builtin.Frozenset.updateFrom
      generalize the_iter : pyIter = I
      wp_walk
      subst the_iter
      refine wpAny_pyIter_list lst1 (wpAny_bind (wpAny_runValue ?_))
      refine set_update_ints ((Walks.list (by simp [calm]) _ l off vs).toS) s.heap.objs.size apart ns size few (fun i v got => ?_) (vs.size - 0) 0 _ (by omega) (Nat.zero_le _) ⟨⟨_, Heap.get?_push_size _ rfl, rfl, rfl⟩, lst1.push _⟩ ⟨0, Nat.le_refl 0, setR_new_at (Heap.get?_push_of_some _ there)⟩ ?_
      · have lt : i < ns.length := size ▸ (Array.getElem?_eq_some_iff.mp got).1
        obtain ⟨t, e⟩ := PyProof.Rows.IntsAre.int_at whole i v (Array.getElem?_toList.trans got)
        exact ⟨ns[i], t, List.getElem?_eq_getElem lt, by rw [e, List.getD_eq_getElem?_getD, List.getElem?_eq_getElem lt] <;> rfl⟩
      · rintro ⟨h', gg, dr, tk, os⟩ c moved small has
        cases (show gg = s.gens from moved.gens)
        cases (show dr = s.drawn from moved.drawn)
        cases (show os = s.os from moved.os)
        show wpAny _ _ _ _ _ _
        refine wpAny_pure ?_
        show wpAny _ _ (ret Value.none) _ _ _
        refine wpAny_pure ⟨rfl, h', tk, c, rfl, has, size ▸ small, fun b o q => moved.heap b o ?_ (Heap.get?_push_of_some _ (Heap.get?_push_of_some _ q))⟩
        exact early b (Heap.lt_size q)
    · cases r
      case error => exact z
      rename_i fl
      cases fl
      case ret =>
        obtain ⟨rfl, h', tk, c, rfl, has, small, keeps⟩ := z
        repeat (any_goals (first | assumption | wp_step))
        exact fin _ _ _ has small keeps
      all_goals exact z.elim
  all_goals exact z.elim
end
/-- what set(ns), then sorted, gives -/
def insI (k : Int) : List Int → List Int
  | [] => [k]
  | n :: r => if k < n then k :: n :: r else if k = n then n :: r else n :: insI k r
def setI : List Int → List Int
  | [] => []
  | n :: r => insI n (setI r)
theorem insI_mem {k x : Int} : ∀ {l : List Int}, x ∈ insI k l ↔ x = k ∨ x ∈ l
  | [] => by simp [insI]
  | n :: r => by
    unfold insI
    split
    · simp
    · split
      · rename_i h
        subst h
        simp
      · simp only [List.mem_cons, insI_mem (l := r)]
        constructor
        · rintro (h | h | h) <;> simp [h]
        · rintro (h | h | h) <;> simp [h]
theorem setI_mem {x : Int} : ∀ {l : List Int}, x ∈ setI l ↔ x ∈ l
  | [] => by simp [setI]
  | n :: r => by rw [setI, insI_mem, setI_mem, List.mem_cons]
theorem insI_asc {k : Int} : ∀ {l : List Int}, l.Pairwise (· < ·) → (insI k l).Pairwise (· < ·)
  | [], _ => by simp [insI]
  | n :: r, h => by
    obtain ⟨h1, h2⟩ := List.pairwise_cons.mp h
    unfold insI
    split
    · rename_i q
      refine List.pairwise_cons.mpr ⟨fun y hy => ?_, h⟩
      rcases List.mem_cons.mp hy with rfl | hy
      · exact q
      · have := h1 y hy
        omega
    · split
      · exact h
      · refine List.pairwise_cons.mpr ⟨fun y hy => ?_, insI_asc h2⟩
        rcases insI_mem.mp hy with rfl | hy
        · omega
        · exact h1 y hy
theorem setI_asc : ∀ {l : List Int}, (setI l).Pairwise (· < ·)
  | [] => by simp [setI]
  | n :: r => insI_asc setI_asc
theorem asc_mem : ∀ {l m : List Int}, l.Pairwise (· < ·) → m.Pairwise (· < ·) → (∀ k, k ∈ l ↔ k ∈ m) → l = m
  | [], [], _, _, _ => rfl
  | [], b :: m, _, _, h => by have := (h b).mpr List.mem_cons_self; cases this
  | a :: l, [], _, _, h => by have := (h a).mp List.mem_cons_self; cases this
  | a :: l, b :: m, h1, h2, h => by
    obtain ⟨a1, a2⟩ := List.pairwise_cons.mp h1
    obtain ⟨b1, b2⟩ := List.pairwise_cons.mp h2
    have e : a = b := by
      have p := (h a).mp List.mem_cons_self
      have q := (h b).mpr List.mem_cons_self
      rcases List.mem_cons.mp p with p | p
      · exact p
      · rcases List.mem_cons.mp q with q | q
        · exact q.symm
        · have := b1 a p
          have := a1 b q
          omega
    subst e
    rw [asc_mem a2 b2 fun k => ?_]
    constructor
    · intro hk
      rcases List.mem_cons.mp ((h k).mp (List.mem_cons_of_mem _ hk)) with rfl | z
      · have := a1 k hk
        omega
      · exact z
    · intro hk
      rcases List.mem_cons.mp ((h k).mpr (List.mem_cons_of_mem _ hk)) with rfl | z
      · have := b1 k hk
        omega
      · exact z
theorem setI_id {l : List Int} (h : l.Pairwise (· < ·)) : setI l = l := asc_mem setI_asc h fun k => setI_mem
def evSset : List D → Store → Out RV
  | [d], S => match (seqTL S d).bind intsOf with
    | some ns => if ns.length < 64 then .ok (.tl ((setI ns).map .int)) S else .bad
    | none => .bad
  | _, _ => .bad
variable [CtI] [XsI] {X : Cx} {Wx : WX}
/-- set(e), then sorted: the set between -/
def rSetL (K : PySem.W.Frag) (w : World) : List V → Hp → VK → Prop := fun xs H Q => ∃ (p : Addr) (ns : List Int), xs = [V.ref p] ∧ (SqL K H p (ns.map V.int) ∨ SqT K H p (ns.map V.int)) ∧ ns.length < 64 ∧
  ∀ q c, H q = none → c ≤ ns.length → Q (.ref q) (upd H q (SetO w q (fun j => decide (j ∈ ns)) c))
theorem cr_setL (hc : X.calm = true) : CallR X (.type "set") (rSetL X.K X.w) := by
  intro pins s σ H xs us Q I rv h
  obtain ⟨p, ns, rfl, sq, hn, q⟩ := h
  rw [Vals.ref1 rv]
  have fin : ∀ (h' : Heap) (tk c : Nat), SetR X.w h' s.heap.objs.size (fun j => decide (j ∈ ns)) c → c ≤ ns.length → (∀ b o, s.heap.get? b = some o → h'.get? b = some o) → EP X pins σ Q (.ref s.heap.objs.size) { s with heap := h', toks := tk } := fun h' tk c R hc' hk =>
    ⟨.ref s.heap.objs.size, _, I.laid (t' := tk) hk (Nat.le_refl _) (setO_new R), rfl, q _ c (I.hok.fresh (Nat.le_refl _)) hc'⟩
  rcases sq with sq | sq
  · obtain ⟨its, rv', pl, hz'⟩ := I.list sq
    exact set_of_list ns (I.ok.hd hc) pl.isList (ints_of_vals rv') (by unfold scanBound; omega) fin
  · obtain ⟨its, rv', pl, hz'⟩ := I.tuple sq
    exact call_set_tupI ns (I.ok.hd hc) (show s.heap.IsTuple p its.toArray from pl) (ints_of_vals rv') (by unfold scanBound; omega) fin
end Fc

end
section
set_option autoImplicit false
set_option maxHeartbeats 1000000
/-! dict(pairs), sorted(dict), d.get(k, x), xs.extend(ys) -/
namespace Fc
open PySem PySem.Spec L2 PyProof.Rows
variable [CtI] [XsI]
def pairOf : D → Option (D × D)
  | .tup [k, v] => if (keyD k).isSome then some (k, v) else none
  | _ => none
def pairsOf : List D → Option (List (D × D))
  | [] => some []
  | d :: ds => match pairOf d, pairsOf ds with
    | some p, some r => some (p :: r)
    | _, _ => none
def mergeD : List (D × D) → List D → List D → List D × List D
  | [], ks, vs => (ks, vs)
  | (k, v) :: r, ks, vs => mergeD r (dputK ks k) (dputV ks vs k v)
def evDict : List D → Store → Out RV
  | [.tup xs], S => if nk xs = true then (match pairsOf xs with
    | some ps => .ok (.td false (mergeD ps [] []).1 (mergeD ps [] []).2) S
    | none => .bad) else .bad
  | [d], S => match (seqM S d).bind pairsOf with
    | some ps => .ok (.td false (mergeD ps [] []).1 (mergeD ps [] []).2) S
    | none => .bad
  | _, _ => .bad
/-- tuples that are not too long -/
def tupsOk (ks : List D) : Bool := ks.all fun d => (tkD d).isSome
theorem tups_at {ks : List D} {d : D} (h : tupsOk ks = true) (m : d ∈ ks) : ∃ x i, d = .tup [.str x, .int i] := by
  obtain ⟨k, e⟩ := Option.isSome_iff_exists.mp (List.all_eq_true.mp h d m)
  obtain ⟨x, i, _, e2⟩ := tkD_key e
  exact ⟨x, i, e2⟩
def evSortedA : List D → Store → Out RV
  | [d], S => match dicM S d with
    | some (false, ks, _) => (match intsOf ks with
      | some ns => if ns.length < 64 then .ok (.tl (sortD ks)) S else .bad
      | none => .bad)
    | some (true, ks, _) => if srtOk ks = true ∧ tupsOk ks = true then .ok (.tl (sortD ks)) S else .bad
    | none => evSorted [d] S
  | _, _ => .bad
section
variable {W : Wd} {H : Hp} {σ : L2.St} {Wx : WX} {S : Store} {Q : VK} {X : Cx}
theorem Post.dk {p : Addr} {kvs : List (Key × V)} {ks vs : List D} (w : Wok W H S) (h : Post W H σ Wx (.ok (.td false ks vs) S) Q) (hp : H p = none) (hk : ks = kvs.map fun p => kD p.1) (r : Reps W H (kvs.map (·.2)) vs) : Q (.ref p) (upd H p (.dK kvs)) :=
  h _ _ W (upd_F w hp) (w.upd hp) ⟨p, kvs, rfl, upd_same, hk, r.ext (upd_F w hp), w.notF hp, w.notm hp, w.notT hp⟩
theorem pairs_rel {K : PySem.W.Frag} : ∀ {vs : List V} {ds : List D} {prs : List (D × D)}, Reps W H vs ds → pairsOf ds = some prs →
    ∃ (ps : List Addr) (kvs : List (Key × V)), vs = ps.map V.ref ∧ Paired (fun p kv => SqT K H p [kV kv.1, kv.2]) ps kvs ∧ (kvs.map fun p => kD p.1) = prs.map (·.1) ∧ Reps W H (kvs.map (·.2)) (prs.map (·.2))
  | _, _, _, .nil, h => by cases h; exact ⟨[], [], rfl, .nil, rfl, .nil⟩
  | _, _, _, .cons (v := v) (d := d) r rs, h => by
    rw [pairsOf] at h
    split at h
    · rename_i p r' h1 h2
      cases h
      obtain ⟨ps, kvs, rfl, hp, hk, hv⟩ := pairs_rel (K := K) rs h2
      unfold pairOf at h1
      split at h1
      · rename_i k x
        split at h1
        · rename_i hs
          cases h1
          obtain ⟨k0, e0⟩ := Option.isSome_iff_exists.mp hs
          have e1 := keyD_ok e0
          subst e1
          cases r with
          | tup f hr rr hl =>
            rename_i a us
            cases rr with
            | cons q1 q2 =>
              cases q2 with
              | cons q3 q4 =>
                cases q4
                rename_i y1 y2
                have ey : y1 = kV k0 := by
                  cases k0 with
                  | inl i => cases q1; rfl
                  | inr x => cases q1; rfl
                subst ey
                exact ⟨a :: ps, (k0, y2) :: kvs, rfl, .cons hr.sq hp, by simp [hk], .cons q3 hv⟩
        · cases h1
      · cases h1
    · cases h
theorem merge_rel : ∀ {kvs : List (Key × V)} {prs : List (D × D)} {acc : List (Key × V)} {vs : List D}, (kvs.map fun p => kD p.1) = prs.map (·.1) → Reps W H (kvs.map (·.2)) (prs.map (·.2)) → Reps W H (acc.map (·.2)) vs →
    ((mergeK acc kvs).map fun p => kD p.1) = (mergeD prs (acc.map fun p => kD p.1) vs).1 ∧ Reps W H ((mergeK acc kvs).map (·.2)) (mergeD prs (acc.map fun p => kD p.1) vs).2
  | [], [], acc, vs, _, _, r => ⟨rfl, r⟩
  | [], _ :: _, _, _, h, _, _ => by simp at h
  | _ :: _, [], _, _, h, _, _ => by simp at h
  | (k, v) :: kvs, (d, x) :: prs, acc, vs, h, q, r => by
    simp only [List.map_cons, List.cons.injEq] at h
    obtain ⟨rfl, h⟩ := h
    cases q with
    | cons q1 q2 =>
      obtain ⟨p1, p2⟩ := dput_rel (f := kD) kD_beq k q1 r
      have := merge_rel (acc := putK acc k v) h q2 p2
      rw [p1] at this
      exact this
omit [CtI] [XsI] in
theorem lift_pairs {h : Heap} : ∀ {prs : List (Key × Value)} {ps : List Addr}, prs.length = ps.length → (∀ (j : Nat) (q : Key × Value), prs[j]? = some q → ∃ (b : Addr) (u : Value), ps[j]? = some b ∧ IsTup h b #[u, q.2] ∧ keyIs q.1 u = true) →
    ∃ zs : List (Value × Value), zs.length = ps.length ∧ ∀ (j : Nat) (k v : Value), zs[j]? = some (k, v) → ∃ (y : Key) (b : Addr), prs[j]? = some (y, v) ∧ keyIs y k = true ∧ ps[j]? = some b ∧ IsTup h b #[k, v]
  | [], [], _, _ => ⟨[], rfl, fun j k v e => by simp at e⟩
  | [], _ :: _, hl, _ => by simp at hl
  | _ :: _, [], hl, _ => by simp at hl
  | q :: prs, p :: ps, hl, hq => by
    obtain ⟨zs, l, hz⟩ := lift_pairs (prs := prs) (ps := ps) (by simpa using hl) fun j q' e => by
      obtain ⟨b, u, e1, e2, e3⟩ := hq (j + 1) q' (by simpa using e)
      exact ⟨b, u, by simpa using e1, e2, e3⟩
    obtain ⟨b, u, e1, e2, e3⟩ := hq 0 q rfl
    refine ⟨(u, q.2) :: zs, by simp [l], fun j k v e => ?_⟩
    cases j with
    | zero =>
      cases (Option.some.inj e : (u, q.2) = (k, v))
      exact ⟨q.1, b, rfl, e3, e1, e2⟩
    | succ j =>
      obtain ⟨y, b', f1, f2, f3, f4⟩ := hz j k v (by simpa using e)
      exact ⟨y, b', by simpa using f1, f2, by simpa using f3, f4⟩
/-- dict(t) of a locked tuple of pairs -/
theorem call_dictTF (hcalm : X.calm = true) : CallR X (.type "dict") (fun xs H Q => ∃ (a : Addr) (o : PySem.Obj) (ps : List Addr) (kvs : List (Key × V)), xs = [.ref a] ∧ H a = some (.frz o (.tup (ps.map V.ref))) ∧ o.dict = none ∧ Paired (fun p kv => SqT X.K H p [kV kv.1, kv.2]) ps kvs ∧
    ∀ d, H d = none → Q (.ref d) (upd H d (.dK (mergeK [] kvs)))) := fun pins s σ H xs us Q I rv ⟨a, o, ps, kvs, ex, known, nd, two, q⟩ => by
  subst ex
  obtain ⟨_, rfl, ra⟩ := vals1 rv
  cases ra
  obtain ⟨there, few, its, vals, ⟨o', there', cls, n, seq⟩⟩ := I.hok a _ known
  cases there.symm.trans there'
  cases refs_at vals
  replace few : ps.length ≤ sizeLine := (List.length_map (as := ps) V.ref) ▸ few
  obtain ⟨prs, rel, len, each⟩ := pairs_of I two
  obtain ⟨zs, zlen, lifted⟩ := lift_pairs len each
  have at_ : ∀ (j : Nat) (k v : Value), zs[j]? = some (k, v) → ∃ b, ps.getD j 0 = b ∧ (ps.map Value.ref)[j]? = some (.ref b) ∧ IsTup s.heap b #[k, v] := fun j k v e => by
    obtain ⟨_, b, _, _, h3, h4⟩ := lifted j k v e
    exact ⟨b, by rw [List.getD_eq_getElem?_getD, h3] <;> rfl, by rw [List.getElem?_map, h3] <;> rfl, h4⟩
  refine PySem.call_dict_pairs (knd := mixKind X.prog X.w) (kvs := prs) (PairArg.tuple a (ps.map Value.ref).toArray (fun j => ps.getD j 0) zs) (I.ok.hd hcalm) ⟨⟨o, n, there, cls, nd, seq⟩, ?_, fun j k v e => ?_⟩ ⟨len.trans zlen.symm, fun j k v e => ?_⟩ (zlen ▸ few) fun h' tk made keeps => ?_
  · rw [List.size_toArray, List.length_map, zlen]
  · obtain ⟨b, e1, e2, e3⟩ := at_ j k v e
    dsimp only
    rw [e1]
    exact ⟨List.getElem?_toArray.trans e2, .inl e3⟩
  · obtain ⟨y, _, h1, h2, _, _⟩ := lifted j k v e
    exact ⟨y, h1, h2⟩
  · have size : (mergeK [] kvs).length ≤ sizeLine := Nat.le_trans (length_mergeK kvs []) (by rw [List.length_nil, Nat.zero_add, rel.length, len]; exact few)
    have laid : ObjOk X.prog X.w (upd H s.heap.objs.size (.dK (mergeK [] kvs))) h' s.heap.objs.size (.dK (mergeK [] kvs)) := ⟨size, beq_eq_false_iff_ne.mpr (Nat.ne_of_gt I.big), _, KV.merge rel .nil, made⟩
    exact ⟨.ref s.heap.objs.size, _, I.laid (t' := tk) (fun b o z => keeps b o (List.not_mem_nil) z) (Nat.le_refl _) laid, rfl, q _ (I.hok.fresh (Nat.le_refl _))⟩
theorem c_dict [KX X] (hc : X.calm = true) : CallR X (.type "dict") (rC Wx evDict) := by
  intro pins s σ H xs us Q I rv h
  obtain ⟨σ', W, S, ds, w, r, h⟩ := h
  unfold evDict at h
  split at h
  · rename_i xs0
    obtain ⟨x, rfl, r0⟩ := reps1 r
    split at h
    · rename_i hn
      split at h
      · rename_i prs z2
        cases r0 with
        | tup f hr ra la =>
          rcases hr with hr | ⟨_, o, hd, ha⟩
          · rw [hn] at hr; cases hr.1
          · obtain ⟨as, kvs, rfl, hq, hk, hv⟩ := pairs_rel (K := X.K) ra z2
            obtain ⟨m1, m2⟩ := merge_rel (acc := []) hk hv .nil
            exact call_dictTF hc pins s σ H _ us Q I rv ⟨_, o, as, kvs, rfl, ha, hd, hq, fun p hp => h.dk w hp m1.symm m2⟩
      · exact h.elim
    · exact h.elim
  · rename_i d _
    obtain ⟨x, rfl, r0⟩ := reps1 r
    split at h
    · rename_i ps hp
      obtain ⟨zs, z1, z2⟩ := Option.bind_eq_some_iff.mp hp
      obtain ⟨a, vs, rfl, ha, ra, la⟩ := seqM_ok w r0 z1
      obtain ⟨as, kvs, rfl, hq, hk, hv⟩ := pairs_rel (K := X.K) ra z2
      obtain ⟨m1, m2⟩ := merge_rel (acc := []) hk hv .nil
      exact call_dictP hc pins s σ H _ us Q I rv ⟨a, as, kvs, rfl, SqL.of ha, hq, fun p hp => h.dk w hp m1.symm m2⟩
    · exact h.elim
  · exact h.elim
theorem keys_ints : ∀ {kvs : List (Key × V)} {ns : List Int}, (kvs.map fun p => kD p.1) = ns.map D.int → kvs.map (·.1) = ns.map Sum.inl
  | [], [], _ => rfl
  | [], _ :: _, h => by simp at h
  | _ :: _, [], h => by simp at h
  | (k, v) :: kvs, n :: ns, h => by
    simp only [List.map_cons, List.cons.injEq] at h ⊢
    refine ⟨?_, keys_ints h.2⟩
    cases k with
    | inl i => have := h.1; simp [kD] at this; rw [this]
    | inr x => have := h.1; simp [kD] at this
omit [CtI] [XsI] in
theorem asc_ints {ys : List Int} (h : ys.Pairwise (· ≤ ·)) : Asc (ys.map D.int) := by
  rw [Asc, List.pairwise_map]
  refine h.imp fun h => ?_
  simp only [D.ltB, decide_eq_false_iff_not]
  omega
theorem Wok.frzD {W : Wd} {H : Hp} {S : Store} (w : Wok W H S) {a : Addr} {xs : List V} (ha : H a = some (.tup xs)) : Wok (W.frz a) H S := by
  refine ⟨w.len, fun l o h => ?_, w.nd, fun l b hb hd hf => ?_, fun b hb => ?_, fun b hb => ⟨fun hf => ?_, (w.tem b hb).2⟩, w.ct⟩
  · obtain ⟨b, h1, h2⟩ := w.obj l o h
    exact ⟨b, h1, h2.ext Wd.frz_ext rfl⟩
  · rcases hf with hf | hf
    · exact w.dis l b hb hd hf
    · subst hf
      have hl : l < S.length := by rw [← w.len]; exact (List.getElem?_eq_some_iff.mp hb).1
      obtain ⟨a', h1, h2⟩ := w.obj l S[l] (List.getElem?_eq_getElem hl)
      have hb : W.m[l]? = some b := hb
      rw [hb] at h1
      cases h1
      rw [List.getElem?_eq_getElem hl] at hd
      cases e : S[l] with
      | lst ds => rw [e] at h2; obtain ⟨_, z, _⟩ := h2; rw [ha] at z; cases z
      | dic t ks vs =>
        rw [e] at h2
        cases t with
        | false => obtain ⟨_, z, _⟩ := h2; rw [ha] at z; cases z
        | true => obtain ⟨_, z, _⟩ := h2; rw [ha] at z; cases z
      | ins c fs => rw [e] at h2; obtain ⟨_, _, z, _⟩ := h2; rw [ha] at z; cases z
      | dead => exact hd (by rw [e])
  · rcases hb with hb | hb
    · exact w.dom b hb
    · subst hb; rw [ha]; exact nofun
  · rcases hf with hf | hf
    · exact (w.tem b hb).1 hf
    · subst hf; exact (w.tem _ hb).2.2.2 _ ha
theorem kReps {W : Wd} {H : Hp} : ∀ (k : List Key), Reps W H (k.map kV) (k.map kD)
  | [] => .nil
  | .inl i :: r => .cons (.int _) (kReps r)
  | .inr x :: r => .cons (.str _) (kReps r)
theorem keys_reps : ∀ {kvs : List (List Key × V)} {bs : List Addr} {W : Wd}, Wok W H S → IsKeys H kvs bs → tupsOk (kvs.map fun p => D.tup (p.1.map kD)) = true → ∃ W', Ext W H W' H ∧ Wok W' H S ∧ Reps W' H (bs.map V.ref) (kvs.map fun p => D.tup (p.1.map kD))
  | _, _, W, w, .nil, _ => ⟨W, .refl _ _, w, .nil⟩
  | _, _, W, w, .cons hb t, h => by
    rw [List.map_cons] at h
    obtain ⟨x, i, e⟩ := tups_at h List.mem_cons_self
    obtain ⟨W1, x1, w1, r1⟩ := keys_reps (w.frzD hb) t (by unfold tupsOk at h ⊢; rw [List.all_cons, Bool.and_eq_true] at h; exact h.2)
    have e' := D.tup.inj e
    exact ⟨W1, Wd.frz_ext.trans x1, w1, .cons (Rep.ext x1 (.tup (.inr rfl) (.inl ⟨by rw [e']; rfl, hb⟩) (kReps _) (by rw [e']; simp))) r1⟩
omit [CtI] [XsI] in
/-- what stands in acc as the keys of es, one by one, are the keys -/
theorem keys_listed {P : Program} {w : World} {es : Array DictEntry} {ks : List (List Key × Addr × Value)} (he : es.toList = ks.map (entryOfKey (tupleKind (mixKind P w)))) {acc : Array Value} (same : acc.size = es.size)
    (each : ∀ (j : Nat) (v : Value), acc[j]? = some v → ∃ en : DictEntry, es[j]? = some en ∧ v = en.key) : acc.toList = (ks.map fun x => x.2.1).map Value.ref := by
  have all : acc.toList = es.toList.map DictEntry.key := List.ext_getElem (by simp [same]) fun j h1 h2 => by
    have lt : j < acc.size := h1
    obtain ⟨en, e1, e2⟩ := each j acc[j] (Array.getElem?_eq_getElem lt)
    rw [List.getElem_map, Array.getElem_toList, e2, Array.getElem_toList]
    exact congrArg _ (Option.some.inj (e1.symm.trans (Array.getElem?_eq_getElem (same ▸ lt))))
  rw [all, he, List.map_map, List.map_map]
  rfl
theorem col_dT {pins : List (Addr × PySem.Obj)} {s : Shared} {d : Addr} {kvs : List (List Key × V)} (I : Inv X pins σ H s) (hd : L2.Rd H d (.dT kvs)) (hc : X.calm = true) :
    ∃ bs, IsKeys H kvs bs ∧ kvs.length ≤ sizeLine ∧ ∀ (R : List Value → Shared → Prop), (∀ (h' : Heap) (tk : Nat), (∀ b o, s.heap.get? b = some o → h'.get? b = some o) → R (bs.map Value.ref) { s with heap := h', toks := tk }) → wpAny (model X.prog X.w) X.A.in1 (collect (.ref d)) R (fun _ _ => False) s := by
  obtain ⟨few, off, ks, both, o, es, ep, there, ex, dat, entries, _⟩ : ObjOk X.prog X.w H s.heap d (.dT kvs) := hd.ok I.hok
  have small : es.size ≤ sizeLine := by rw [← Array.length_toList, entries, List.length_map, ← both.length]; exact few
  exact ⟨ks.map fun x => x.2.1, isKeys_of both, few, fun R q => PySem.W.kdu_collect (kdl_raw off ex dat) (I.ok.hd hc) there small fun h' tk acc keeps got => keys_listed entries got.1 got.2 ▸ q h' tk keeps⟩
theorem c_sortedA [KX X] (hu : X.A.units + 64 < cLine) (hc : X.calm = true) : CallR X (.builtin "sorted") (rC Wx evSortedA) := by
  intro pins s σ H xs us Q I rv h
  obtain ⟨σ', W, S, ds, w, r, h⟩ := h
  unfold evSortedA at h
  split at h
  · rename_i d
    obtain ⟨x, rfl, r0⟩ := reps1 r
    split at h
    · rename_i ks vs hd
      split at h
      · rename_i ns hn
        split at h
        · rename_i hl
          have hk := intsOf_ok hn
          subst hk
          obtain ⟨a, rfl, ⟨_, kvs, h1, hks, rs⟩ | ⟨q, _⟩⟩ := dicM_ok w r0 hd
          · refine call_sortedDI hc pins s σ H _ us Q I rv ⟨a, kvs, ns, rfl, h1, keys_ints hks.symm, hl, fun ys p hp ha hn' => ?_⟩
            have e : sortD (ns.map D.int) = ys.map D.int := by
              refine sortD_of (fun d hd => ?_) ?_ (hp.map _)
              · obtain ⟨i, _, rfl⟩ := List.mem_map.mp hd
                rfl
              · exact asc_ints ha
            rw [e] at h
            refine h.lst w hn' (Reps.ints _) ?_
            rw [List.length_map, hp.length_eq]
            omega
          · cases q
        · exact h.elim
      · exact h.elim
    · rename_i ks vs hd
      split at h
      · rename_i ok
        obtain ⟨a, rfl, ⟨q, _⟩ | ⟨_, kvs, h1, hks, rs⟩⟩ := dicM_ok w r0 hd
        · cases q
        · subst hks
          obtain ⟨u, rfl, ru⟩ := vals1 rv
          cases ru
          obtain ⟨bs, hb, hz, col⟩ := col_dT I h1 hc
          obtain ⟨W', x', w', r'⟩ := keys_reps w hb ok.2
          have hp : D.plains (kvs.map fun p => D.tup (p.1.map kD)) = true := by
            have := ok.1
            unfold srtOk at this
            simp only [Bool.and_eq_true] at this
            exact ods_plain this.1.1.1
          obtain ⟨as, rd⟩ := dp_reads (K := X.K) I r' (vals_refs bs) hp
          exact sorted_core hu I w' (vals_refs bs) r' rd ok.1 (by rw [List.length_map, lim_eq]; exact hz) col (h.ext x')
      · exact h.elim
    · exact c_sorted hu pins s σ H _ us Q I rv ⟨σ', W, S, [d], w, r, h⟩
  · exact h.elim
end
/-! extend -/
theorem list_extend_tup (l : Addr) (items : Array Value) (n : Nat) (b : Addr) (items2 : Array Value) (n2 : Nat) (dd : Option Addr) (sl : Array (Option Value)) (hs0 : ¬(!items.isEmpty && Builtin.List.listTooLong (items.size + items2.size)) = true) (hs1 : items.size ≤ sizeLine) (hs2 : items.size + items2.size ≤ sizeLine + 1) :
    Meets (Builtin.«list.extend» ⟨[.ref l, .ref b], []⟩) (fun _ R s => s.heap.get? l = some { cls := .type "list", dict := none, data := .seq items n, slots := #[] } ∧
      s.heap.get? b = some { cls := .type "tuple", dict := dd, data := .seq items2 n2, slots := sl } ∧ R (.ok (.ret Value.none)) { s with heap := s.heap.update l (Obj.mapSeq fun x => x ++ items2), toks := s.toks }) :=
  .of_wp fun prog w A R s h => by
    obtain ⟨hp, g, d, tk, os⟩ := s
    obtain ⟨hl, hb, h⟩ := h
    have f1 := AutoSeq1.idx_int
    have f2 := AutoSeq1.sub_tuple_tuple
    have f3 := AutoSeq1.sub_list_list
    have f4 := AutoSeq1.sub_tuple_list
    have f5 := AutoSeq1.sub_list_tuple
    have hz' : (items ++ items2).size ≤ sizeLine + 1 := by rw [Array.size_append]; exact hs2
    wp_walk using (wpAny_updateSeq hl rfl (hz := hs1) (_hz' := hz')), wpAny_loadPart' hl, wpAny_loadPart' hb

    exact ⟨_, rfl, h⟩
def rExt2 (K : PySem.W.Frag) : V → List V → Hp → VK → Prop := fun x vs H Q => ∃ l b xs zs, x = .ref l ∧ vs = [.ref b] ∧ H l = some (.lst xs) ∧ (H b = some (.lst zs) ∨ SqT K H b zs) ∧ xs.length + zs.length ≤ sizeLine ∧ Q .non (upd H l (.lst (xs ++ zs)))
theorem mt_ext2 {X : Cx} : MtM X "list.extend" (rExt2 X.K) := by
  intro pins s σ H x vs v us Q I rx rv h
  obtain ⟨l, b, xs, zs, e1, e2, hH, hB, hz, q⟩ := h
  rcases hB with hB | hB
  · exact mt_extend pins s σ H x vs v us Q I rx rv ⟨l, b, xs, zs, e1, e2, hH, hB, hz, q⟩
  · subst e1 e2
    obtain ⟨u, rfl, ru⟩ := rv.one
    cases rx
    cases ru
    obtain ⟨few, its, n, r1, len, there⟩ := I.lstM hH
    obtain ⟨more, r2, ⟨⟨_, dd, _, sl⟩, there2, c2, n2, d2⟩, few2⟩ := I.tuple hB
    cases c2
    cases d2
    have both : its.toArray.size + more.toArray.size = xs.length + zs.length := by rw [List.size_toArray, List.size_toArray, r1.length, r2.length]
    have fits : ¬ (!its.toArray.isEmpty && Builtin.List.listTooLong (its.toArray.size + more.toArray.size)) = true := fun z => by
      rw [notLongL (both ▸ hz), Bool.and_false] at z
      exact Bool.false_ne_true z
    exact call_meets F.slot_list_extend ⟨_, there, rfl⟩ F.entry_list_extend (F.args_list_extend_2 _ _) (list_extend_tup l its.toArray n b more.toArray n2 dd sl fits (by omega) (by omega))
      ⟨there, there2, .non, _, I.lset (its' := its ++ more) hH there (by simp) (r1.append r2) (by rw [List.length_append]; exact hz), rfl, q⟩
end Fc

end
section
set_option autoImplicit false
set_option maxHeartbeats 1000000
namespace Fc
open PySem PySem.Spec L2
variable [CtI] [XsI]
open AutoSeq1 (wpAny_loadPart')

section
variable (l : Addr)
/-- what enumerate(tuple) makes: the tuple's iterator, then the enumerate object over it -/
abbrev itObj : PySem.Obj := { cls := .type "tuple_iterator", data := .fields #[.ref l, .int 0 0] }
abbrev enObj (it : Addr) : PySem.Obj := { cls := .type "enumerate", data := .fields #[.none, .bool false, .ref it, rawInt 0, .none, .none] }
abbrev enHeap (h : Heap) : Heap := (h.push (itObj l)).push (enObj h.objs.size)
theorem meets_enumerate_newT (o : PySem.Obj) (items : Array Value) (n : Nat) (c : o.cls = .type "tuple") (da : o.data = .seq items n) :
    Meets (Builtin.«enumerate.__new__» ⟨[.type "enumerate", .ref l], []⟩) (fun _ R s => s.heap.get? l = some o ∧ R (.ok (.ret (.ref (s.heap.push (itObj l)).objs.size))) { s with heap := enHeap l s.heap }) :=
  .of_wp fun prog w A R s h => by
    obtain ⟨cls, dct, data, sl⟩ := o
    subst c da
    rcases s with ⟨hp, g, d, tk, os⟩
    rcases h with ⟨there, h⟩
    have sub := sub_enumerate
    have tup : Heap.IsTuple (Shared.heap ⟨hp, g, d, tk, os⟩) l items := ⟨_, there, rfl, n, rfl⟩
    wp_walk using wpAny_loadPart' there
    refine wpAny_stack_any fun st => wpAny_pure ?_
    split
    · rename_i top _ _ _ _ _
      rcases Bool.eq_false_or_eq_true (top == Value.type "enumerate") with z | z <;> rw [z] <;> (wp_walk using wpAny_loadPart' there, wpAny_pyIter_tuple tup; exact ⟨_, rfl, h⟩)
    · wp_walk using wpAny_loadPart' there, wpAny_pyIter_tuple tup
      exact ⟨_, rfl, h⟩
end
section
variable {h h' : Heap} {a l e it : Addr} {i : Nat} {items : Array Value}
/-- the enumerate object at e stands ahead of place i of the tuple at a -/
def AtE (a e it : Addr) (i : Nat) (h : Heap) : Prop := (∃ old, IsEnum h e it ((i : Nat) : Int) old) ∧ h.IsTupleIter it a i ∧ e ≠ it
theorem enHeap_size : (enHeap l h).objs.size = h.objs.size + 2 := by rw [Heap.size_push, Heap.size_push]
theorem enHeap_keeps (b : Addr) (o : PySem.Obj) (q : h.get? b = some o) : (enHeap l h).get? b = some o := Heap.get?_push_of_some _ (Heap.get?_push_of_some _ q)
theorem enHeap_at : AtE l (h.objs.size + 1) h.objs.size 0 (enHeap l h) := by
  have z : (h.push (itObj l)).objs.size = h.objs.size + 1 := Heap.size_push ..
  have top := Heap.get?_push_size (h.push (itObj l)) (o := enObj h.objs.size) rfl
  rw [z] at top
  exact ⟨⟨_, top⟩, ⟨_, Heap.get?_push_of_some _ (Heap.get?_push_size _ rfl), rfl, rfl⟩, Nat.succ_ne_self _⟩
theorem two_in {b : Addr} : b ∈ [e, it] ↔ b = e ∨ b = it := by simp
theorem AtE.two (st : AtE a e it i h) {b : Addr} (hb : b ∈ [e, it]) : ∃ o, h.get? b = some o ∧ ∀ v, o.data ≠ .cell v := by
  obtain ⟨⟨old, he⟩, ⟨o, ho, _, hd⟩, _⟩ := st
  rcases two_in.mp hb with rfl | rfl
  · exact ⟨_, he, fun _ => nofun⟩
  · exact ⟨o, ho, fun v q => nomatch hd.symm.trans q⟩
theorem AtE.keep (st : AtE a e it i h) (k : ∀ b ∈ [e, it], ∀ o, h.get? b = some o → h'.get? b = some o) : AtE a e it i h' :=
  ⟨st.1.imp fun _ q => k e (List.mem_cons_self ..) _ q, st.2.1.at fun o q => k it (two_in.mpr (.inr rfl)) o q, st.2.2⟩
theorem AtE.below (st : AtE a e it i h) {b : Addr} (hb : b ∈ [e, it]) : b < h.objs.size := let ⟨_, q, _⟩ := st.two hb; Heap.lt_size q
end
theorem call_enumerate_tuple {prog : Program} {w : World} {A : Around} {E : Value → Shared → Prop} {s : Shared} {l : Addr} {items : Array Value} {Q : Value → Shared → Prop} (tup : s.heap.IsTuple l items) (q : Q (.ref (s.heap.objs.size + 1)) { s with heap := enHeap l s.heap }) :
    wpAny (model prog w) A (call (.type "enumerate") [.ref l]) Q E s := by
  obtain ⟨o, there, c, n, da⟩ := tup
  refine callType_new F.called_enumerate (by decide) (F.typeCall_enumerate_1 _) (F.newCall_enumerate_1 _) (fun obj => F.args_object_init_2 obj _) F.entry_enumerate_new (meets_enumerate_newT l o items n c da) ⟨there, ?_⟩
  have z : (s.heap.push (itObj l)).objs.size = s.heap.objs.size + 1 := Heap.size_push ..
  have ⟨⟨_, top⟩, _, _⟩ := enHeap_at (h := s.heap) (l := l)
  rw [z]
  exact ⟨⟨_, top, rfl⟩, q⟩

/-- enumerate(tuple) -/
def IteT (K : PySem.W.Frag) (a : Addr) : L2.It :=
  ⟨fun i H => ∃ (xs : List V) (x : V), SqT K H a xs ∧ xs[i]? = some x, fun i H v H' => ∃ T x, v = .ref T ∧ H T = none ∧ H' = upd H T (.tup [.int (i : Nat), x]) ∧ ∀ xs, SqT K H a xs → xs[i]? = some x, fun i H => ∃ xs : List V, SqT K H a xs ∧ xs.length = i⟩
theorem turn_enumT {P : Program} {w : World} {K : PySem.W.Frag} {elts : List Expr} {kk : Nat} {tpos : Pos} (a e it : Addr) (ha : a ≠ it) (hae : e ≠ a) : Turn P w K (.Tuple elts kk tpos) (IteT K a) [e, it] e fun i h => AtE a e it i h where
  mem := List.mem_cons_self ..
  obj := fun _ _ st _ hb => st.two hb
  keep := fun _ _ _ st k => st.keep k
  item := by
    rintro X rfl rfl rfl calm i pins s σ H E I free st ⟨xs, x, known, here⟩
    obtain ⟨its, vals, tup, _⟩ := I.tuple known
    obtain ⟨u, at_u, ru⟩ := vals.get here
    have lt : i < its.toArray.size := (List.getElem?_eq_some_iff.mp at_u).1
    have two := fun b hb => st.below (b := b) hb
    obtain ⟨⟨old, en⟩, ti, ne⟩ := id st
    refine wpAny_pyNext_enum_itemD (Draws.tuple (A := X.A.in1) (I.ok.hd calm) it a ha its.toArray) en ⟨ti, show s.heap.IsTuple a its.toArray from tup⟩ lt ne (by simp [ne, hae]) fun y h1 tk got held ti1 pair _ same => ?_
    cases Option.some.inj (at_u.symm.trans (show its[i]? = some y by rw [← got, List.getElem?_toArray]))
    refine ⟨_, rfl, wpAny_letOwnedTupleGo_enum (s := { s with heap := h1, toks := tk + 1 }) held fun h2 en2 sb => ?_⟩
    -- the pair that came stands where the old heap ended
    have pair2 : h2.get? s.heap.objs.size = some { cls := .type "tuple", data := .seq #[.int i tk, u] } := by rw [sb.2 _ (Nat.ne_of_gt (two e (List.mem_cons_self ..)))]; exact pair
    have laid : ObjOk X.prog X.w (upd H s.heap.objs.size (.tup [.int (i : Nat), x])) h2 s.heap.objs.size (.tup [.int (i : Nat), x]) := ⟨(show (2 : Nat) ≤ sizeLine by decide), [.int i tk, u], .cons ⟨tk, rfl⟩ (.cons ru .nil), _, pair2, rfl, 0, rfl⟩
    have I2 : L2.Inv X pins σ (upd H s.heap.objs.size (.tup [.int (i : Nat), x])) { s with heap := h2, toks := tk + 1 } := by
      refine I.turnedNew (ch := [e, it]) (fun b ob nb q => ?_) free (Nat.le_refl _) laid
      rw [sb.2 b fun z => nb (z ▸ List.mem_cons_self ..)]
      exact same b ob (fun z => nb (z ▸ List.mem_cons_self ..)) (fun z => nb (two_in.mpr (.inr z))) q
    refine ⟨.ref s.heap.objs.size, _, I2, rfl, ⟨_, x, rfl, I.hok.fresh (Nat.le_refl _), rfl, fun ys other => I.tuple_inj known other ▸ here⟩, ⟨⟨u, ?_⟩, ti1.1.at fun o q => (sb.2 it (Ne.symm ne)).trans q, ne⟩, fun b hb => ?_⟩
    · rw [Int.natCast_succ]
      exact en2
    · exact (if_neg (Nat.ne_of_lt (two b hb))).trans (free b hb).1
  done := by
    rintro X rfl rfl rfl calm i pins s σ H E I free ⟨⟨old, en⟩, ti, ne⟩ ⟨xs, known, len⟩
    obtain ⟨its, vals, tup, _⟩ := I.tuple known
    have all : its.toArray.size = i := by rw [List.size_toArray, ← vals.length, len]
    obtain ⟨f0, f1, _, f3, f4, f5⟩ := free it (two_in.mpr (.inr rfl))
    subst all
    exact wpAny_pyNext_enum_endD (Draws.tuple (A := X.A.in1) (I.ok.hd calm) it a ha its.toArray) en ⟨ti, show s.heap.IsTuple a its.toArray from tup⟩ fun h1 same => ⟨rfl, I.turned (t' := s.toks) (fun b o nb q => same b o nb q) f0 f1 f3 f4 f5⟩
  self := fun _ _ _ _ _ st q => wpAny_pyIter_enum st.1.choose_spec q
def iEnumT (K : PySem.W.Frag) (ta : TA) : TI := fun σ H R => ta σ H fun vs H1 => ∃ a xs, vs = [.ref a] ∧ SqT K H1 a xs ∧ R (IteT K a) H1
theorem pi_enumT {X : Cx} {e : Expr} {ta : TA} {p pos tpos : Pos} {elts : List Expr} {kk : Nat} (hg : Gl X "enumerate") (hm : X.mg "enumerate" = none) (ha : PA X [e] ta) (hs : starEach [e] X.env = [(false, eval e X.env)]) :
    PI X (.Tuple elts kk tpos) (.Call (.Name "enumerate" p) [e] [] pos) (iEnumT X.K ta) where
  run := fun pins s σ H R I h => PyProof.Rows.Call_ (ld_blt I hg hm PyProof.Rows.boot_enumerate (PyProof.Rows.callWith_type1 (thn (ha.run pos pins s σ H _ I h) fun us t ⟨vs, H1, I1, rvs, a, xs, ex, known, q⟩ => by
    subst ex
    obtain ⟨u, rfl, ru⟩ := vals1 rvs
    cases ru
    obtain ⟨its, _, tup, _⟩ := I1.tuple known
    have new : AtE a (t.heap.objs.size + 1) t.heap.objs.size 0 (enHeap a t.heap) := enHeap_at
    refine call_enumerate_tuple (show t.heap.IsTuple a its.toArray from tup) (wpAny_pyIter_enum new.1.choose_spec ?_)
    refine ⟨_, [t.heap.objs.size + 1, t.heap.objs.size], _, _, H1, rfl, I1.kept (t' := t.toks) enHeap_keeps, turn_enumT a _ _ (Nat.ne_of_lt tup.lt) (Nat.ne_of_gt (Nat.lt_succ_of_lt tup.lt)), new, fun b hb => ?_, q⟩
    have late : t.heap.objs.size ≤ b := (two_in.mp hb).elim (fun z => z ▸ Nat.le_succ _) (fun z => z ▸ Nat.le_refl _)
    exact I1.fpOk late (I1.hok.fresh late)) hs rfl))
theorem walk_enumT {K : PySem.W.Frag} {a : Addr} {xs : List V} : Walk (IteT K a) xs.length (fun H => SqT K H a xs) (YPair (fun i => some (.int (i : Nat))) (fun i => xs[i]?)) := by
  refine ⟨fun i _ hi q => ⟨xs, xs[i], q, by simp [hi]⟩, fun _ q => ⟨xs, q, rfl⟩, fun i H v H' _ q y => ?_⟩
  obtain ⟨T, x, h1, h2, h3, h4⟩ := y
  exact ⟨T, .int (i : Nat), x, h1, h2, h3, rfl, h4 xs q⟩

/-! ### t[::-1] -/
section
variable {prog : Program} {w : World} {A : Around} {E : Value → Shared → Prop} {s : Shared} {t sl : Addr} {items ys : Array Value} {lo st : Int} {n : Nat}
/-- the slice at sl, asked of a tuple of so many items, says: from lo, by steps of st, n items -/
def Says (prog : Program) (w : World) (A : Around) (E : Value → Shared → Prop) (s : Shared) (sl : Addr) (size : Nat) (r : Int × Int × Nat) : Prop := ∀ R : Int × Int × Nat → Shared → Prop, R r s → wpAny (model prog w) A (Builtin.Slice.sliceApplied (.ref sl) (pure (size : Int))) R E s
/-- a tuple's slice that is not the whole of it -/
theorem tuple_sliced {Q : Value → Shared → Prop} (tup : PyProof.Rows.IsTup s.heap t items) (kind : s.TypeIs (.ref sl) "slice") (says : Says prog w A.in1 E s sl items.size (lo, st, n)) (part : (lo == 0 && st == 1 && n == items.size) = false)
    (pick : ((List.range n).filterMap fun (m : Nat) => items[(lo + (m : Int) * st).toNat]?).toArray = ys) (fits : ys.size ≤ sizeLine) (q : Q (.ref s.heap.objs.size) { s with heap := s.heap.push { cls := .type "tuple", data := .seq ys } }) : wpAny (model prog w) A (getItem (.ref t) (.ref sl)) Q E s := by
  subst pick
  have slot := PyProof.Rows.slot_tuple_getitem
  unfold getItem
  refine wpAny_holding (wpAny_bind (wpAny_sequenceKey tup.typeIs (by decide) (wpAny_bind (wpAny_callSpecial?_slot (name := Str.ofString "__getitem__") tup.typeIs slot (wpAny_call_entry slot tup.typeIs PyProof.Rows.entry_tuple_getitem ?_ (PyProof.Rows.args_tuple_getitem _ _))))))
  show wpAny _ _ (Builtin.Tuple.tupleItemsOf (.ref t) >>= _) _ _ s
  refine wpAny_bind (PyProof.Rows.tupleItemsOf_ tup (wpAny_bind (wpAny_typeOf kind ?_)))
  rw [if_pos (by decide)]
  refine wpAny_bind (says _ ?_)
  have no : ¬ ((lo == 0 && st == 1 && n == items.size) = true) := by rw [part]; exact Bool.false_ne_true
  refine wpAny_ite_false (decide_eq_false no) (wpAny_bind (m := Builtin.Tuple.tupleExact _) (wpAny_newObj_type (wpAny_pure ⟨_, rfl, wpAny_pure q⟩) fits))
theorem says_back {tk : Tok} (neg : s.heap.IsSliceOf sl .none .none (.int (-1) tk)) : Says prog w A E s sl n ((n : Int) - 1, -1, n) := fun R q => by
  obtain ⟨os, there, _, parts⟩ := neg
  have bounds : Builtin.Slice.sliceAdjust none none (-1) (n : Int) = ((n : Int) - 1, -1) := by simp [Builtin.Slice.sliceAdjust]
  have places : Builtin.Slice.slicePlaces ((n : Int) - 1) (-1) (-1) = n := by simp [Builtin.Slice.slicePlaces]; omega
  have fld : ∀ {k : Nat} {x : Value} {R : Value → Shared → Prop}, (#[Value.none, Value.none, Value.int (-1) tk] : Array Value)[k]? = some x → R x s → wpAny (model prog w) A (field (.ref sl) k) R E s := fun e q => wpAny_field there parts e q
  unfold Builtin.Slice.sliceApplied Builtin.Slice.sliceFields
  refine wpAny_bind (wpAny_bind (fld rfl (wpAny_bind (fld rfl (wpAny_bind (fld rfl (wpAny_pure (wpAny_bind (PyProof.Rows.slicePart_int ?_)))))))))
  refine wpAny_ite_false (by decide) (wpAny_bind (PyProof.Rows.slicePart_none (wpAny_bind (PyProof.Rows.slicePart_none (wpAny_bind (wpAny_pure ?_))))))
  dsimp only
  rw [show (some (-1 : Int)).getD 1 = -1 from rfl, bounds]
  dsimp only
  rw [places]
  exact wpAny_pure q
theorem back_picks (xs : Array Value) : ((List.range xs.size).filterMap fun (m : Nat) => xs[(((xs.size : Int) - 1) + (m : Int) * (-1)).toNat]?).toArray = xs.toList.reverse.toArray := by
  rw [← PySem.W.krv_pick]
  show _ = ((sliceRange ((xs.size : Int) - 1) (-1) (-1)).filterMap (xs[·]?)).toArray
  rw [PySem.W.krv_sliceRange, List.filterMap_map]
  congr 1
  suffices same : ∀ l : List Nat, (∀ m ∈ l, m < xs.size) → l.filterMap (fun (m : Nat) => xs[(((xs.size : Int) - 1) + (m : Int) * (-1)).toNat]?) = l.filterMap ((xs[·]?) ∘ fun k => xs.size - 1 - k) from same _ fun _ => List.mem_range.mp
  intro l all
  induction l with
  | nil => rfl
  | cons m l ih =>
    have lt := all m (List.mem_cons_self ..)
    have place : (((xs.size : Int) - 1) + (m : Int) * (-1)).toNat = xs.size - 1 - m := by omega
    rw [List.filterMap_cons, List.filterMap_cons, ih fun k hk => all k (List.mem_cons_of_mem _ hk), place] <;> rfl
/-- t[::-1] -/
theorem getItem_tuple_rev {tk : Tok} {Q : Value → Shared → Prop} (tup : PyProof.Rows.IsTup s.heap t items) (neg : s.heap.IsSliceOf sl .none .none (.int (-1) tk)) (few : items.size ≤ sizeLine)
    (q : Q (.ref s.heap.objs.size) { s with heap := s.heap.push { cls := .type "tuple", data := .seq items.toList.reverse.toArray } }) : wpAny (model prog w) A (getItem (.ref t) (.ref sl)) Q E s :=
  tuple_sliced tup (let ⟨o, h, c, _⟩ := neg; ⟨o, h, c⟩) (says_back neg) (by simp) (back_picks items) (by simpa using few) q
end
def tRevT (K : PySem.W.Frag) (te : TE) : TE := fun σ H Q => te σ H fun x H1 => ∃ a xs, x = .ref a ∧ SqT K H1 a xs ∧ ((∀ p, H1 p = none → Q (.ref p) (upd H1 p (.tup xs.reverse))) ∨ ∀ (p : Addr) (o : PySem.Obj), H1 p = none → o.dict = none → Q (.ref p) (upd H1 p (.frz o (.tup xs.reverse))))
/-- the step -1, as it is written -/
theorem minus_one {X : Cx} {k : Nat} {p1 p2 : Pos} : PO X (some (.UnaryOp .USub (.Constant (.int 1) k p1) p2)) (tPart (tUn (rU fun i => .int (-i)) (tC (.int 1)))) := po_some (pe_un un_neg pe_int)
theorem pe_revT {X : Cx} {e : Expr} {te : TE} {k : Nat} {p1 p2 p3 pos : Pos} (he : PE X e te) : PE X (.Subscript e (.Slice none none (some (.UnaryOp .USub (.Constant (.int 1) k p1) p2)) p3) pos) (tRevT X.K te) where
  run := fun pins s σ H Q I h => PyProof.Rows.Subscript_ (thn (he.run pins s σ H _ I h) fun v s1 ⟨x, H1, I1, rx, a, xs, ex, known, q⟩ => by
    subst ex
    cases rx
    -- the three parts of the slice come one after the other, the heap stays
    have lo := fun (t : Shared) (J : L2.Inv X pins σ H1 t) => po_none.run pins t σ H1 (fun o H2 => o = none ∧ H2 = H1) J ⟨rfl, rfl⟩
    refine wpAny_Slice (thn (lo s1 I1) fun v1 s2 ⟨o1, G1, J1, part1, e1, g1⟩ => ?_)
    subst e1 g1
    refine thn (lo s2 J1) fun v2 s3 ⟨o2, G2, J2, part2, e2, g2⟩ => ?_
    subst e2 g2
    refine thn (minus_one.run pins s3 σ _ (fun o H4 => o = some (-1) ∧ H4 = _) J2 ⟨1, rfl, -1, rfl, rfl, rfl⟩) fun v3 s4 ⟨o3, G3, J3, part3, e3, g3⟩ => ?_
    subst e3 g3
    cases part1
    cases part2
    obtain ⟨tk, rfl⟩ : ∃ tk, v3 = Value.int (-1) tk := by cases part3; exact ⟨_, rfl⟩
    have J := J3.kept (t' := s4.toks) (h' := s4.heap.push { cls := .type "slice", data := .fields #[.none, .none, .int (-1) tk] }) fun b ob z => Heap.get?_push_of_some _ z
    obtain ⟨its, vals, tup, few⟩ := J.tuple known
    have fits : xs.reverse.length ≤ sizeLine := (List.length_reverse ..).symm ▸ few
    refine PyProof.Rows.tail_any (ops := [.ref a, .ref s4.heap.objs.size]) tup.typeIs PyProof.Rows.slot_tuple_getitem.lookup (getItem_tuple_rev tup (Heap.IsSliceOf.new ..) (by rw [List.size_toArray, ← vals.length]; exact few) ?_) (by with_unfolding_all rfl)
    exact q.elim (fun q => new_tup J vals.reverse fits (q _ (J.hok.fresh (Nat.le_refl _)))) (new_tupF J vals.reverse fits))
end Fc

end
section
set_option autoImplicit false
set_option maxHeartbeats 1000000
/-! int(x), any(xs), str(x); isinstance of a class; == by a class's own -/
namespace Fc
open PySem PySem.Spec L2 PyProof.Rows
variable [CtI] [XsI]
def evInt : List D → Store → Out RV
  | [.bl b], S => .ok (.val (.int (if b then 1 else 0))) S
  | [.int i], S => .ok (.val (.int i)) S
  | _, _ => .bad
theorem c_int {X : Cx} [KX X] {Wx : WX} : CallR X (.type "int") (rC Wx evInt) := by
  intro pins s σ H xs us Q I rv h
  obtain ⟨σ', W, S, ds, w, r, h⟩ := h
  unfold evInt at h
  split at h
  · obtain ⟨x, rfl, r0⟩ := reps1 r
    cases r0
    exact call_int1 pins s σ H _ us Q I rv (.inr ⟨_, rfl, h.same w (.int _)⟩)
  · obtain ⟨x, rfl, r0⟩ := reps1 r
    cases r0
    exact call_int1 pins s σ H _ us Q I rv (.inl ⟨_, rfl, h.same w (.int _)⟩)
  · exact h.elim
def evAny : List D → Store → Out RV
  | [d], S => match (seqL S d).bind blsOf with
    | some bs => .ok (.val (.bl (bs.any id))) S
    | none => .bad
  | _, _ => .bad
theorem c_any {X : Cx} [KX X] {Wx : WX} (hc : X.calm = true) : CallR X (.builtin "any") (rC Wx evAny) := by
  intro pins s σ H xs us Q I rv h
  obtain ⟨σ', W, S, ds, w, r, h⟩ := h
  unfold evAny at h
  split at h
  · obtain ⟨x, rfl, r0⟩ := reps1 r
    split at h
    · rename_i hb
      obtain ⟨l, h1, h2⟩ := Option.bind_eq_some_iff.mp hb
      have e := blsOf_ok h2
      subst e
      obtain ⟨a, vs, rfl, sa, ra, la⟩ := seqL_ok (KX.k (X := X)) w r0 h1
      have e := ra.toBls
      subst e
      exact cr_any hc pins s σ H _ us Q I rv ⟨a, _, rfl, sa, h.same w (.bl _)⟩
    · exact h.elim
  · exact h.elim
def evStr : List D → Store → Out RV
  | [.int i], S => if i.natAbs.log2 < 1920 then .ok (.val (.str (toString i))) S else .bad
  | _, _ => .bad
theorem c_str {X : Cx} [KX X] {Wx : WX} : CallR X (.type "str") (rC Wx evStr) := by
  intro pins s σ H xs us Q I rv h
  obtain ⟨σ', W, S, ds, w, r, h⟩ := h
  unfold evStr at h
  split at h
  · obtain ⟨x, rfl, r0⟩ := reps1 r
    cases r0
    split at h
    · rename_i hl
      exact call_str_int pins s σ H _ us Q I rv ⟨_, rfl, hl, h.same w (.str _)⟩
    · exact h.elim
  · exact h.elim
def evBool : List D → Store → Out RV
  | [.bl b], S => .ok (.val (.bl b)) S
  | [.int i], S => .ok (.val (.bl (i != 0))) S
  | _, _ => .bad
theorem c_bool {X : Cx} [KX X] {Wx : WX} : CallR X (.type "bool") (rC Wx evBool) := by
  intro pins s σ H xs us Q I rv h
  obtain ⟨σ', W, S, ds, w, r, h⟩ := h
  unfold evBool at h
  split at h
  · obtain ⟨x, rfl, r0⟩ := reps1 r
    cases r0
    exact call_bool1 pins s σ H _ us Q I rv (.inr ⟨_, rfl, h.same w (.bl _)⟩)
  · obtain ⟨x, rfl, r0⟩ := reps1 r
    cases r0
    exact call_bool1 pins s σ H _ us Q I rv (.inl ⟨_, rfl, h.same w (.bl _)⟩)
  · exact h.elim
/-- isinstance(x, C): C the class number c -/
def evIsO (c : Nat) (d : D) (S : Store) : Out RV := match d with
  | .ob c' _ => if c' = c then .ok (.val (.bl true)) S else .bad
  | d => match d.kd S with
    | some _ => .ok (.val (.bl false)) S
    | none => .bad
/-- what is asked of a class for isinstance -/
structure IsoC (K : PySem.W.Frag) (C : Addr) : Prop where
  ha : PySem.W.findIn K (.ref C) "__class__" = some (some (.builtin "object.__class__"))
  hn : PySem.W.specialIn K (.builtin "object.__class__") "__get__" = some (some (.builtin "getset_descriptor.__get__"))
  htk : PySem.W.takesIn K (.builtin "object.__class__") = some true
  hm : PySem.W.mroIn K C (.type "object") = some true
  no : ∀ k : Kd, PySem.W.kitOne K (.type k.nm) (.ref C) = some false
theorem pe_isO {X : Cx} [KX X] {Wx : WX} {c : Nat} {a : Env → Store → Out RV} {e : Expr} {n : Str} {p q pos : Pos} (he : PE X e (Rd Wx a)) (hg : Gl X "isinstance") (hm : X.mg "isinstance" = none) (hn : PE X (.Name n q) (tC (.ref (CtI.ct.adr c)))) (hC : Cls X.K (CtI.ct.adr c)) (hI : IsoC X.K (CtI.ct.adr c))
    (hs : starEach [e, .Name n q] X.env = [(false, eval e X.env), (false, eval (.Name n q) X.env)]) :
    PE X (.Call (.Name "isinstance" p) [e, .Name n q] [] pos) (Rd Wx fun r S => (a r S).bindD fun d S1 => evIsO c d S1) := by
  have hA : PA X [.Name n q] (tCons (tC (.ref (CtI.ct.adr c))) tNil) := pa_cons hn pa_nil
  have hs1 : starEach [e, .Name n q] X.env = (false, eval e X.env) :: starEach [.Name n q] X.env := hs
  refine PE_imp (pe_callB call_isi hg hm (by decide +kernel) (pa_cons he hA hs1) (by decide) (by decide) hs1 rfl) fun σ H Q h => ?_
  obtain ⟨W, S, r, w, en, h⟩ := h
  refine ⟨W, S, r, w, en, (Post.bind h).mono fun x H1 ⟨W1, S1, d, e1, w1, r1, h1⟩ => ?_⟩
  unfold evIsO at h1
  split at h1
  · split at h1
    · rename_i hc
      subst hc
      cases r1 with
      | ob f1 f2 ha hdx rs hl =>
        rw [w1.ct] at ha
        exact ⟨_, .ref (CtI.ct.adr _), .ref (CtI.ct.adr _), .ref (CtI.ct.adr _), true, rfl, .own _, .base (.ins ha hC hI.ha hI.hn hI.htk hI.hm), by unfold PySem.W.kitOne; rw [if_pos (by simp)], h1.same w1 (.bl _)⟩
    · exact h1.elim
  · split at h1
    · rename_i k hk
      exact ⟨x, .ref (CtI.ct.adr c), _, .ref (CtI.ct.adr c), false, rfl, .own _, kd_ok w1 r1 hk, hI.no k, h1.same w1 (.bl _)⟩
    · exact h1.elim
end Fc

end
section
set_option autoImplicit false
set_option maxHeartbeats 1000000
/-! data in order: tuples by < and <= -/
namespace Fc
open PySem PySem.Spec L2 PyProof.Rows
theorem lexAt_le {e r : Nat → Bool} : ∀ (xs ys : List D) (i : Nat), (∀ (j : Nat) (x y : D), xs[j]? = some x → ys[j]? = some y → e (i + j) = x.beq y ∧ r (i + j) = !y.ltB x) →
    Ob.lexAt e r (decide (xs.length ≤ ys.length)) i (min xs.length ys.length) = !D.ltBs ys xs
  | [], [], i, _ => by simp [Ob.lexAt, D.ltBs]
  | [], _ :: _, i, _ => by simp [Ob.lexAt, D.ltBs]
  | _ :: _, [], i, _ => by simp [Ob.lexAt, D.ltBs]
  | x :: xs, y :: ys, i, h => by
    obtain ⟨h1, h2⟩ := h 0 x y rfl rfl
    rw [Nat.add_zero] at h1 h2
    have e1 : min (x :: xs).length (y :: ys).length = min xs.length ys.length + 1 := by simp
    have e2 : decide ((x :: xs).length ≤ (y :: ys).length) = decide (xs.length ≤ ys.length) := by simp
    rw [e1, e2, Ob.lexAt, D.ltBs, h1, h2, D.beq_comm y x, lexAt_le xs ys (i + 1) fun j a b q1 q2 => by
      rw [show i + 1 + j = i + (j + 1) by omega]
      exact h (j + 1) a b (by simpa using q1) (by simpa using q2)]
    cases x.beq y <;> rfl
theorem le_int_b (i j : Int) : (!decide (j < i)) = decide (i ≤ j) := by
  rw [Bool.eq_iff_iff]
  simp
theorem le_strR {prog : Program} {w : World} {A : Around} {E : Value → Shared → Prop} {s : Shared} {x y : Str} {t u : Tok} {Q : Value → Shared → Prop} (h : Q (.bool (!decide (y.cps.toList < x.cps.toList))) s) : wpAny (model prog w) A (richCompare .LtE (.str x t) (.str y u)) Q E s := P.le_str h
/-- x <= y by what the heap holds -/
theorem rc_le (n : Nat) : ∀ (x y : D) (A : Around) (s : Shared) (u1 u2 : Value) (as bs : List Addr), x.py.depth ≤ n → Reads s.heap u1 x.py as → Reads s.heap u2 y.py bs → x.od = true → y.od = true → x.cok y = true → A.units + x.py.depth < cLine →
    Ob.RcOp .LtE A s u1 u2 (!y.ltB x) := by
  induction n with
  | zero =>
    intro x y A s u1 u2 as bs hn r1 r2 o1 o2 hc hu
    cases x <;> cases y <;> first | (cases hc; done) | skip
    · rw [D.py] at r1 r2
      cases r1; cases r2
      rw [D.ltB]
      rw [le_int_b]
      exact Ob.RcOp.le_int _ _ _ _
    · rw [D.py] at r1 r2
      cases r1; cases r2
      rw [D.ltB]
      exact fun prog w E Q h => le_strR h
    · rw [D.py, PyData.depth] at hn
      omega
  | succ n ih =>
    intro x y A s u1 u2 as bs hn r1 r2 o1 o2 hc hu
    cases x <;> cases y <;> first | (cases hc; done) | skip
    · rw [D.py] at r1 r2
      cases r1; cases r2
      rw [D.ltB]
      rw [le_int_b]
      exact Ob.RcOp.le_int _ _ _ _
    · rw [D.py] at r1 r2
      cases r1; cases r2
      rw [D.ltB]
      exact fun prog w E Q h => le_strR h
    · rename_i xs ys
      rw [D.py] at r1 r2
      rw [D.py, PyData.depth] at hn hu
      rw [D.od] at o1 o2
      rw [D.cok] at hc
      cases r1 with
      | tuple h1 h2 h3 h4 =>
        cases r2 with
        | tuple k1 k2 k3 k4 =>
          rename_i l ob items nn b ob2 items2 nn2
          obtain ⟨l1, q1⟩ := reads_all_at h4
          obtain ⟨l2, q2⟩ := reads_all_at k4
          have t1 : s.heap.IsTuple l items := ⟨_, h1, h2, _, h3⟩
          have t2 : s.heap.IsTuple b items2 := ⟨_, k1, k2, _, k3⟩
          have R := Ob.RcOp.tuples_le (A := A) (s := s) (e := fun j => (xs.getD j .non).beq (ys.getD j .non)) (r := fun j => !(ys.getD j .non).ltB (xs.getD j .non)) t1 t2 (by omega) (fun j h1 h2 => ?_) (fun j h1 h2 he => ?_)
          · rw [D.ltB, ← lexAt_le xs ys 0 (e := fun j => (xs.getD j .non).beq (ys.getD j .non)) (r := fun j => !(ys.getD j .non).ltB (xs.getD j .non)) (fun j x y e1 e2 => by simp [List.getD_eq_getElem?_getD, e1, e2])]
            have z1 : items.size = xs.length := by rw [← l1]; simp
            have z2 : items2.size = ys.length := by rw [← l2]; simp
            rw [z1, z2] at R
            exact R
          · have j1 : j < xs.length := by rw [← l1]; simpa using h1
            have j2 : j < ys.length := by rw [← l2]; simpa using h2
            obtain ⟨v1, b1, e1, r1⟩ := q1 j xs[j] (List.getElem?_eq_getElem j1)
            obtain ⟨v2, b2, e2, r2⟩ := q2 j ys[j] (List.getElem?_eq_getElem j2)
            have d1 := depth_at (List.getElem?_eq_getElem j1)
            have p1 := ods_at o1 (List.getElem?_eq_getElem j1)
            have p2 := ods_at o2 (List.getElem?_eq_getElem j2)
            have f1 : items[j] = v1 := by simpa [h1] using e1
            have f2 : items2[j] = v2 := by simpa [h2] using e2
            have g := SeqAt.eqAt_reads _ _ A.in1 s v1 v2 b1 b2 r1 r2 (od_lay p1) (od_lay p2) (by
              have := min_le_l xs[j].py.depth ys[j].py.depth
              have : A.in1.units = A.units + 1 := rfl
              omega)
            rw [eqv_beq p1 p2] at g
            rw [f1, f2]
            simpa [List.getD_eq_getElem?_getD, j1, j2] using g
          · have j1 : j < xs.length := by rw [← l1]; simpa using h1
            have j2 : j < ys.length := by rw [← l2]; simpa using h2
            obtain ⟨v1, b1, e1, r1⟩ := q1 j xs[j] (List.getElem?_eq_getElem j1)
            obtain ⟨v2, b2, e2, r2⟩ := q2 j ys[j] (List.getElem?_eq_getElem j2)
            have d1 := depth_at (List.getElem?_eq_getElem j1)
            have p1 := ods_at o1 (List.getElem?_eq_getElem j1)
            have p2 := ods_at o2 (List.getElem?_eq_getElem j2)
            have f1 : items[j] = v1 := by simpa [h1] using e1
            have f2 : items2[j] = v2 := by simpa [h2] using e2
            have he' : xs[j].beq ys[j] = false := by simpa [List.getD_eq_getElem?_getD, j1, j2] using he
            have g := ih xs[j] ys[j] A.in1 s v1 v2 b1 b2 (by omega) r1 r2 p1 p2 (coks_at hc j _ _ (List.getElem?_eq_getElem j1) (List.getElem?_eq_getElem j2) he') (by
              have : A.in1.units = A.units + 1 := rfl
              omega)
            rw [f1, f2]
            simpa [List.getD_eq_getElem?_getD, j1, j2] using g
/-- x < y, x <= y; of tuples too -/
def evLtT : D → D → Store → Out RV
  | .tup xs, .tup ys, S => if srtOk [.tup xs, .tup ys] = true then .ok (.val (.bl ((D.tup xs).ltB (.tup ys)))) S else .bad
  | d, e, S => evLt d e S
def evLeT : D → D → Store → Out RV
  | .tup xs, .tup ys, S => if srtOk [.tup xs, .tup ys] = true then .ok (.val (.bl (!(D.tup ys).ltB (.tup xs)))) S else .bad
  | d, e, S => evLe d e S
section
variable {prog : Program} {w : World} {A : Around} {s : Shared}
theorem cin_le {vs : Array Value} {ds : List D} {as : List Addr} (rd : ReadsAll s.heap vs.toList (D.pys ds) as) (ok : srtOk ds = true) (hA : A.units + 61 < cLine) :
    CmpIn prog w A .LtE s.heap (fun i v => vs[i]? = some v) (fun i j => !(ds.getD j .non).ltB (ds.getD i .non)) := fun i j vi vj s' Q E hk hi hj hq => by
  obtain ⟨as1, r1, l1, _, _⟩ := PySem.W.readsAll_atA rd i vi hi
  obtain ⟨as2, r2, l2, _, _⟩ := PySem.W.readsAll_atA rd j vj hj
  rw [pys_getD] at r1 r2
  rw [pys_len] at l1 l2
  obtain ⟨o1, d1, m1⟩ := srt_at ok l1
  obtain ⟨o2, d2, m2⟩ := srt_at ok l2
  exact rc_le 60 _ _ A s' vi vj _ _ d1 (Reads.keeps hk r1) (Reads.keeps hk r2) o1 o2 (srt_cok ok m1 m2) (by omega) prog w E Q hq
end
theorem o_ltT [CtI] [XsI] {X : Cx} {Wx : WX} (hu : X.A.units + 64 < cLine) : OpR X (compareOp .Lt) (rS Wx evLtT) := by
  intro pins s σ H x y v u Q I rx ry h
  obtain ⟨σ', W, S, d, e, w, r1, r2, h⟩ := h
  unfold evLtT at h
  split at h
  · split at h
    · rename_i ok
      obtain ⟨as, rd⟩ := dp_reads (K := X.K) I (.cons r1 (.cons r2 .nil)) (.cons rx (.cons ry .nil)) (srt_plain ok)
      exact cin_lt (A := X.A) (vs := #[v, u]) rd ok (by omega) 0 1 v u s _ _ (fun c o e => e) rfl rfl ⟨.bl _, H, I, rfl, h.same w (.bl _)⟩
    · exact h.elim
  · exact o_lt pins s σ H x y v u Q I rx ry ⟨σ', W, S, d, e, w, r1, r2, h⟩
theorem o_leT [CtI] [XsI] {X : Cx} {Wx : WX} (hu : X.A.units + 64 < cLine) : OpR X (compareOp .LtE) (rS Wx evLeT) := by
  intro pins s σ H x y v u Q I rx ry h
  obtain ⟨σ', W, S, d, e, w, r1, r2, h⟩ := h
  unfold evLeT at h
  split at h
  · split at h
    · rename_i ok
      obtain ⟨as, rd⟩ := dp_reads (K := X.K) I (.cons r1 (.cons r2 .nil)) (.cons rx (.cons ry .nil)) (srt_plain ok)
      exact cin_le (A := X.A) (vs := #[v, u]) rd ok (by omega) 0 1 v u s _ _ (fun c o e => e) rfl rfl ⟨.bl _, H, I, rfl, h.same w (.bl _)⟩
    · exact h.elim
  · exact o_le pins s σ H x y v u Q I rx ry ⟨σ', W, S, d, e, w, r1, r2, h⟩
end Fc

end
section
set_option autoImplicit false
set_option maxHeartbeats 1000000
/-! the syntax, its meaning -/
namespace Fc
open PySem PySem.Spec L2
variable [CtI] [XsI]

inductive Bi where
  | len | abs | divmod | all | sum | max | min | tuple | list | repr | sorted | dict | int | any | strc | boolc
  deriving DecidableEq
def Bi.ev : Bi → List D → Store → Out RV
  | .len => evLen | .abs => evAbs | .divmod => evDivmod | .all => evAll | .sum => evSum | .max => evMax | .min => evMin | .tuple => evTuple | .list => evList | .repr => evRepr | .sorted => evSortedA | .dict => evDict | .int => evInt | .any => evAny | .strc => evStr | .boolc => evBool

mutual
inductive E where
  | var (i : Nat) | cst (d : D) | glb (x : Str) (d : D)
  | bin (op : Operator) (a b : E) | neg (a : E)
  | cmp (op : CmpOp) (a b : E) | cmp2 (o1 o2 : CmpOp) (a b c : E)
  | andL (es : Es) | orL (es : Es) | not_ (a : E) | ite (c a b : E)
  | tup (es : Es) | lst (es : Es) | dic0 (t : Bool) | dic1 (k v : E)
  | idx (a i : E) | slc (a : E) (lo hi : Eo) | rev (a : E) | revl (a : E)
  | new (a : E)
  | call (f : Nat) (es : Es) | callk (f : Nat) (p : List Nat) (es ks : Es)
  | bi (b : Bi) (es : Es) | isi (T : Kd) (a : E) | sset (a : E)
  | app (a e : E) | ext (a e : E) | get2 (a k x : E) | rngc (t : Bool) (a : E) | join (a e : E) | popi (a i : E)
  | fld (c i : Nat) (f : Str) (a : E) | meth (c : Nat) (m : Str) (f : Nat) (p : List Nat) (a : E) (es ks : Es) | net (c i j f : Nat) (es ks : Es) | isO (c : Nat) (a : E) | eqO (c f : Nat) (a b : E) | any
  | upp (a : E) | idxm (t : Bool) (a x : E) | cnt (a x : E) | lenO (c f : Nat) (a : E)
  | xfl (i : Nat) (f : Str) (tb : List (Nat × Nat)) | xis (i : Nat) (y : Str) (cs : List Nat) | xcall (f i : Nat) (es : Es)
  | comp (elt : E) (t : Tg) (it : It) (ifs : Eo) (own : List Nat)
  | comp2 (elt : E) (t : Tg) (it : It) (ifs : Eo) (t2 : Tg) (it2 : It) (ifs2 : Eo) (own own2 : List Nat)
inductive Es where
  | nil | cons (e : E) (r : Es)
inductive Eo where
  | none | some (e : E)
inductive Tg where
  | nm (i : Nat) | tup (ts : Tgs) | sub (a i : E)
inductive Tgs where
  | nil | cons (t : Tg) (r : Tgs)
inductive It where
  | seq (e : E) | rng (a : E) | enum (e : E) | dk (e : E) | chr (e : E) | rng2 (a b : E) | rng3 (a b d : E)
end
mutual
inductive St where
  | asg (t : Tg) (e : E) | par (is : List Nat) (es : Es) | asgC (i : Nat) (elt : E) (t : Tg) (it : It) (ifs : Eo) (own : List Nat) (m : Bool)
  | aug (i : Nat) (op : Operator) (e : E)
  | ret (e : E) | retN | ifs (c : E) (a b : Sts) | whl (c : E) (b : Sts) (kill : List Nat)
  | fors (t : Tg) (it : It) (b : Sts) (kill : List Nat)
  | asg2 (t1 t2 : Tg) (e : E) | expr (e : E) | rais (c k : Nat) (m : Bool) (es : Es) | try1 (b : Sts) (cs : List Nat) (h : Sts)
  | tryX (b : Sts) (cs1 : List Nat) (i1 : Option Nat) (h1 : Sts) (cs2 : List Nat) (i2 : Option Nat) (h2 : Sts) (cs3 : List Nat) (i3 : Option Nat) (h3 : Sts)
  | pass | brk | cnt | any
inductive Sts where
  | nil | cons (s : St) (r : Sts) | frz (i : Nat) (r : Sts)
end

def evCmp : CmpOp → D → D → Store → Out RV
  | .Eq => evEq | .NotEq => evNe | .Lt => evLtT | .LtE => evLeT | .Gt => evGt | .GtE => evGe | .Is => evIs | .IsNot => evIsNot | .In => evIn | .NotIn => evNotIn
def Out.env {α : Type} (r : Env) : Out α → Out α
  | .ex c fs _ S => .ex c fs r S
  | o => o
omit [CtI] [XsI] in
@[simp] theorem Out.env_ok {α : Type} (r : Env) (v : α) (S : Store) : (Out.ok v S).env r = .ok v S := rfl
omit [CtI] [XsI] in
@[simp] theorem Out.env_ex {α : Type} (r r' : Env) (c : Nat) (fs : List D) (S : Store) : (Out.ex c fs r' S : Out α).env r = .ex c fs r S := rfl
omit [CtI] [XsI] in
@[simp] theorem Out.env_bad {α : Type} (r : Env) : (Out.bad : Out α).env r = .bad := rfl
/-- x op= y -/
def evAug : Operator → D → D → Store → Out RV
  | .Add, .int i, .int j, S => .ok (.val (.int (i + j))) S
  | .Sub, .int i, .int j, S => .ok (.val (.int (i - j))) S
  | _, _, _, _ => .bad
def Out.noex {α : Type} : Out α → Out α
  | .ex .. => .bad
  | o => o
omit [CtI] [XsI] in
@[simp] theorem Out.noex_ok {α : Type} (v : α) (S : Store) : (Out.ok v S).noex = .ok v S := rfl
def evApp : D → D → Store → Out RV
  | .ref l, x, S => match S[l]? with
    | some (.lst xs) => if xs.length < 16777216 then .ok (.val .non) (S.set l (.lst (xs ++ [x]))) else .bad
    | _ => .bad
  | _, _, _ => .bad
/-- a.append(e) -/
def evApp2 (a e : Env → Store → Out RV) : Env → Store → Out RV := fun r S => (a r S).bindD fun d S1 => match seqM S1 d with
  | some _ => (e r S1).bindD fun x S2 => evApp d x S2
  | none => .bad
def evExt : D → D → Store → Out RV
  | .ref l, x, S => match S[l]?, seqTL S x with
    | some (.lst xs), some ys => if xs.length + ys.length ≤ 16777216 then .ok (.val .non) (S.set l (.lst (xs ++ ys))) else .bad
    | _, _ => .bad
  | _, _, _ => .bad
/-- a.extend(e) -/
def evExt2 (a e : Env → Store → Out RV) : Env → Store → Out RV := fun r S => (a r S).bindD fun d S1 => match seqM S1 d with
  | some _ => (e r S1).bindD fun x S2 => evExt d x S2
  | none => .bad
def evGet (d k x : D) (S : Store) : Out RV := match dicM S d with
  | some (t, ks, vs) => if fitK t k = true then .ok (.val ((dgetL ks vs k).getD x)) S else .bad
  | none => .bad
/-- a.get(k, x) -/
def evGet2 (a k x : Env → Store → Out RV) : Env → Store → Out RV := fun r S => (a r S).bindD fun d S1 => match dicM S1 d with
  | some _ => (k r S1).bindD fun y S2 => (x r S2).bindD fun z S3 => evGet d y z S3
  | none => .bad
def strsOf : List D → Option (List Str)
  | [] => some []
  | .str x :: r => (strsOf r).map (x :: ·)
  | _ :: _ => none
/-- a.join(e) -/
def evJoin (d e : D) (S : Store) : Out RV := match d, (seqTL S e).bind strsOf with
  | .str a, some ys => if (ys.map (·.length)).sum + ys.length * a.length ≤ 16777216 then .ok (.val (.str (Txt.join a ys))) S else .bad
  | _, _ => .bad
def isStr : D → Bool
  | .str _ => true | _ => false
def evJoin2 (a e : Env → Store → Out RV) : Env → Store → Out RV := fun r S => (a r S).bindD fun d S1 => if isStr d then (e r S1).bindD fun x S2 => evJoin d x S2 else .bad
/-- an exception in a slot -/
def xcOf : Option (Option D) → Option (Nat × List D)
  | some (some (.dil false [.non, .int c] fs)) => some (c.toNat, fs)
  | _ => none
def evXf (i : Nat) (tb : List (Nat × Nat)) (r : Env) (S : Store) : Out RV := match xcOf r[i]? with
  | some (c, fs) => (match (tb.lookup c).bind (fs[·]?) with
    | some d => .ok (.val d) S
    | none => .bad)
  | none => .bad
def evXis (i : Nat) (cs : List Nat) (r : Env) (S : Store) : Out RV := match xcOf r[i]? with
  | some (c, _) => .ok (.val (.bl (cs.contains c))) S
  | none => .bad
/-- a.upper() -/
def evUpp (d : D) (S : Store) : Out RV := match d with
  | .str x => if x.length ≤ 5592405 then .ok (.val (.str (Txt.upper x))) S else .bad
  | _ => .bad
/-- a.pop(i) -/
def evPop : D → D → Store → Out RV
  | .ref l, .int i, S => match S[l]? with
    | some (.lst xs) => (match L2.ixN xs.length i with
      | some k => (match xs[k]? with
        | some y => .ok (.val y) (S.set l (.lst (xs.eraseIdx k)))
        | none => .bad)
      | none => .bad)
    | _ => .bad
  | _, _, _ => .bad
def evPop2 (a e : Env → Store → Out RV) : Env → Store → Out RV := fun r S => (a r S).bindD fun d S1 => match seqM S1 d with
  | some _ => (e r S1).bindD fun x S2 => evPop d x S2
  | none => .bad
/-- xs.count(True): a list of truth values -/
def evCnt : D → D → Store → Out RV
  | a, .bl b, S => match seqM S a with
    | some xs => if xs.all (fun d => match d with | .bl _ => true | _ => false) = true ∧ xs.length ≤ 1000 then .ok (.val (.int (xs.countP fun d => D.beq d (.bl b) : Nat))) S else .bad
    | none => .bad
  | _, _, _ => .bad
def evCnt2 (a e : Env → Store → Out RV) : Env → Store → Out RV := fun r S => (a r S).bindD fun d S1 => match seqM S1 d with
  | some _ => (e r S1).bindD fun x S2 => evCnt d x S2
  | none => .bad
def chrs : D → Option (List D)
  | .str z => if z.cps.size ≤ 16777216 then some (z.cps.toList.map fun c => D.str ⟨#[c]⟩) else none
  | _ => none
/-- a.f: the field i of an instance of the class c -/
def evFld (c i : Nat) (d : D) (S : Store) : Out RV := match d with
  | .ob c' fs => if c' = c then (match fs[i]? with
    | some x => .ok (.val x) S
    | none => .bad) else .bad
  | _ => .bad
def isOb (c : Nat) : D → Bool
  | .ob c' _ => decide (c' = c)
  | _ => false
/-- x == y by the class's own -/
def evEqO (c : Nat) (g : List D → Store → Out RV) (d e : D) (S : Store) : Out RV := if isOb c d ∧ isOb c e then (match g [d, e] S with
  | .ok (.val (.bl b)) S1 => .ok (.val (.bl b)) S1
  | _ => .bad) else .bad
/-- len(x) by the class's own -/
def evLenO (c : Nat) (g : List D → Store → Out RV) (d : D) (S : Store) : Out RV := if isOb c d then (match g [d] S with
  | .ok (.val (.int n)) S1 => if 0 ≤ n ∧ n < 9223372036854775808 then .ok (.val (.int n)) S1 else .bad
  | _ => .bad) else .bad
/-- a.index(x): the first place; t: a tuple -/
def evIndex (t : Bool) (d x : D) (S : Store) : Out RV := match t with
  | true => (match d with
    | .tup xs => if okD (.tup xs) = true ∧ okD x = true ∧ x.py.depth ≤ 60 then (match xs.findIdx? (fun z => PyData.eqv z.py x.py) with
      | some j => .ok (.val (.int (j : Nat))) S
      | none => .bad) else .bad
    | _ => .bad)
  | false => (match seqM S d with
    | some xs => if okD (.lst xs) = true ∧ okD x = true ∧ x.py.depth ≤ 60 then (match xs.findIdx? (fun z => PyData.eqv z.py x.py) with
      | some j => .ok (.val (.int (j : Nat))) S
      | none => .bad) else .bad
    | none => .bad)
def evIndex2 : Bool → (Env → Store → Out RV) → (Env → Store → Out RV) → Env → Store → Out RV
  | true, a, e => fun r S => (a r S).bindD fun d S1 => match d with
    | .tup xs => if nk xs = true then (e r S1).bindD fun x S2 => evIndex true d x S2 else .bad
    | _ => .bad
  | false, a, e => fun r S => (a r S).bindD fun d S1 => match seqM S1 d with
    | some _ => (e r S1).bindD fun x S2 => evIndex false d x S2
    | none => .bad
/-- range(i, j, c) -/
def rng3D : D → D → D → Option (List D)
  | .int i, .int j, .int c => if 1 ≤ c ∧ c ≤ 1000 ∧ -16777216 ≤ i ∧ i ≤ 16777216 ∧ -16777216 ≤ j ∧ j ≤ 16777216 ∧ j - i ≤ 16777216 then some ((List.range (if i < j then ((j - i - 1) / c + 1).toNat else 0)).map fun (k : Nat) => D.int (i + (k : Int) * c)) else none
  | _, _, _ => none
/-- a.m(..) -/
def evMeth (c : Nat) (p : List Nat) (a : Env → Store → Out RV) (as bs : Env → Store → Out (List D)) (G : List D → Store → Out RV) : Env → Store → Out RV := fun r S => (a r S).bindD fun o S0 => if isOb c o then
  (as r S0).bind fun ds S1 => (bs r S1).bind fun zs S2 => (match G (p.filterMap ((o :: ds ++ zs ++ [.non])[·]?)) S2 with
    | .ex c fs _ S => .ex c fs r S
    | x => x) else .bad
/-- what a network's two readers give -/
def netO (g1 g2 : List D → Store → Out RV) (d1 d2 : D) (S : Store) : Out (D × D) := (g1 [d1] S).bind fun x1 S1 => (g2 [x1.toL, d2] S1).bind fun x2 S2 => .ok (x1.toL, x2.toL) S2
def packN : Out (D × D) → Out RV
  | .ok x S => .ok (.val (.tup [x.1, x.2])) S
  | .ex c fs _ S => .ex c fs [] S
  | .bad => .bad
/-- Network(..): the arguments at i and j are the stations and the lines -/
def evNetG (c i j : Nat) (G : List D → Store → Out RV) (as bs : Env → Store → Out (List D)) : Env → Store → Out RV := fun r S => (as r S).bind fun ds S1 => (bs r S1).bind fun zs S2 => match (ds ++ zs)[i]?, (ds ++ zs)[j]? with
  | some d1, some d2 => (match G [d1, d2] S2 with
    | .ok (.val (.tup [x1, x2])) S3 => .ok (.val (.ob c [x1, x2, d1, d2])) S3
    | .ex c fs _ S3 => .ex c fs r S3
    | _ => .bad)
  | _, _ => .bad
/-- {k: v} -/
def evDic1 (k v : Env → Store → Out RV) : Env → Store → Out RV := fun r S => (k r S).bindD fun y S1 => (v r S1).bindD fun z S2 => if (keyD y).isSome then .ok (.td false [y] [z]) S2 else .bad
/-- tuple(range(n)), list(range(n)) -/
def evRng (t : Bool) (d : D) (S : Store) : Out RV := match d with
  | .int n => if n ≤ 16777216 ∧ -16777216 ≤ n then (match t with
    | true => .bad
    | false => .ok (.tl ((List.range n.toNat).map fun (i : Nat) => D.int i)) S) else .bad
  | _ => .bad
def evSet : D → D → D → Store → Out Unit
  | .ref l, k, x, S => match S[l]? with
    | some (.lst xs) => (match k with
      | .int k => (match ixN xs.length k with
        | some j => .ok () (S.set l (.lst (xs.set j x)))
        | none => .bad)
      | _ => .bad)
    | some (.dic t ks vs) => if fitK t k = true ∧ vs.length < 16777216 then .ok () (S.set l (.dic t (dputK ks k) (dputV ks vs k x))) else .bad
    | _ => .bad
  | _, _, _, _ => .bad
def evNew : RV → Store → Out RV
  | .tl xs, S => .ok (.val (.ref S.length)) (S ++ [.lst xs])
  | .td t ks vs, S => .ok (.val (.ref S.length)) (S ++ [.dic t ks vs])
  | _, _ => .bad
def evRevT : D → Store → Out RV
  | .tup xs, S => .ok (.val (.tup xs.reverse)) S
  | _, _ => .bad
/-- a list turned round -/
def evRevL : D → Store → Out RV := fun d S => match seqM S d with
  | some xs => .ok (.tl xs.reverse) S
  | none => .bad
/-- a tuple or a list turned round -/
def evRev : D → Store → Out RV
  | .tup xs, S => .ok (.val (.tup xs.reverse)) S
  | d, S => evRevL d S
def seqF : D → Option (List D)
  | .tup xs => some xs | .lst xs => some xs | _ => none
def keysF : D → Option (List D)
  | .dil false ks _ => if ks.length ≤ 16777216 then some ks else none
  | .dil true ks _ => if ks.length ≤ 16777216 ∧ tupsOk ks = true then some ks else none
  | _ => none
def wipeE (r : Env) : List Nat → Env
  | [] => r
  | v :: vs => (wipeE r vs).set v none
def compL (f : D → Store → Out (Option D)) : List D → Store → Out (List D)
  | [], S => .ok [] S
  | d :: ds, S => (f d S).noex.bind fun o S1 => (compL f ds S1).bind fun r S2 => .ok (match o with
    | some x => x :: r
    | none => r) S2
def compM (f : D → Store → Out (List D)) : List D → Store → Out (List D)
  | [], S => .ok [] S
  | d :: ds, S => (f d S).noex.bind fun ys S1 => (compM f ds S1).bind fun zs S2 => .ok (ys ++ zs) S2
def pairsE (xs : List D) : List D := xs.mapIdx fun i x => .pr [.int i, x]

section
variable (G : Nat → List D → Store → Out RV)
mutual
def evE : E → Env → Store → Out RV
  | .var i, r, S => match r[i]? with
    | some (some d) => .ok (.val d) S
    | _ => .bad
  | .cst d, _, S => .ok (.val d) S
  | .glb _ d, _, S => .ok (.val d) S
  | .bin op a b, r, S => op2 (evBin op) (evE a) (evE b) r S
  | .neg a, r, S => (evE a r S).bindD fun d S1 => match d with
    | .int i => .ok (.val (.int (-i))) S1
    | _ => .bad
  | .cmp op a b, r, S => op2 (evCmp op) (evE a) (evE b) r S
  | .cmp2 o1 o2 a b c, r, S => (evE a r S).bindD fun x S1 => (evE b r S1).bindD fun y S2 => (evCmp o1 x y S2).bindD fun z S3 => match z with
    | .bl true => (evE c r S3).bindD fun w S4 => evCmp o2 y w S4
    | .bl false => .ok (.val (.bl false)) S3
    | _ => .bad
  | .andL es, r, S => evAnd es r S
  | .orL es, r, S => evOr es r S
  | .not_ a, r, S => (evE a r S).bindD fun d S1 => match d with
    | .bl b => .ok (.val (.bl (!b))) S1
    | _ => .bad
  | .ite c a b, r, S => (evE c r S).bindD fun d S1 => match d with
    | .bl true => evE a r S1
    | .bl false => evE b r S1
    | _ => .bad
  | .tup es, r, S => (evEs es r S).bind fun ds S1 => .ok (.val (.tup ds)) S1
  | .lst es, r, S => (evEs es r S).bind fun ds S1 => .ok (.tl ds) S1
  | .dic0 t, _, S => .ok (.td t [] []) S
  | .idx a i, r, S => op2 evIx (evE a) (evE i) r S
  | .slc a lo hi, r, S => sl2 (evE a) (evO lo) (evO hi) r S
  | .rev a, r, S => (evE a r S).bindD evRev
  | .revl a, r, S => (evE a r S).bindD evRevL
  | .new a, r, S => (evE a r S).bind evNew
  | .call f es, r, S => (evEs es r S).bind fun ds S1 => (G f ds S1).env r
  | .callk f p es ks, r, S => (evEs es r S).bind fun ds S1 => (evEs ks r S1).bind fun zs S2 => (G f (p.filterMap ((ds ++ zs)[·]?)) S2).env r
  | .bi b es, r, S => (evEs es r S).bind fun ds S1 => b.ev ds S1
  | .isi T a, r, S => isi1 T (evE a) r S
  | .sset a, r, S => (evE a r S).bindD fun d S1 => evSset [d] S1
  | .app a e, r, S => evApp2 (evE a) (evE e) r S
  | .ext a e, r, S => evExt2 (evE a) (evE e) r S
  | .get2 a k x, r, S => evGet2 (evE a) (evE k) (evE x) r S
  | .dic1 k v, r, S => evDic1 (evE k) (evE v) r S
  | .rngc t a, r, S => (evE a r S).bindD (evRng t)
  | .join a e, r, S => evJoin2 (evE a) (evE e) r S
  | .popi a i, r, S => evPop2 (evE a) (evE i) r S
  | .cnt a i, r, S => evCnt2 (evE a) (evE i) r S
  | .fld c i _ a, r, S => (evE a r S).bindD (evFld c i)
  | .meth c _ f p a es ks, r, S => evMeth c p (evE a) (evEs es) (evEs ks) (G f) r S
  | .net c i j f es ks, r, S => evNetG c i j (G f) (evEs es) (evEs ks) r S
  | .any, _, _ => .bad
  | .isO c a, r, S => (evE a r S).bindD fun d S1 => evIsO c d S1
  | .eqO c f a b, r, S => op2 (evEqO c (G f)) (evE a) (evE b) r S
  | .idxm t a e, r, S => evIndex2 t (evE a) (evE e) r S
  | .upp a, r, S => (evE a r S).bindD evUpp
  | .xfl i _ tb, r, S => evXf i tb r S
  | .xis i _ cs, r, S => evXis i cs r S
  | .xcall f i es, r, S => match xcOf r[i]? with
    | some (c, fs) => (evEs es r S).bind fun ds S1 => (G f (xcD c fs :: ds) S1).env r
    | none => .bad
  | .lenO c f a, r, S => (evE a r S).bindD (evLenO c (G f))
  | .comp elt t it ifs own, r, S => (evI it r S).bind fun xs S1 => (compL (fun d S => (asg t d (wipeE r own) S).bind fun r1 S2 => (evT ifs r1 S2).bind fun b S3 => match b with
    | true => (evE elt r1 S3).bindD fun x S4 => .ok (some x) S4
    | false => .ok none S3) xs S1).bind fun ys S2 => .ok (.tl ys) S2
  | .comp2 elt t it ifs t2 it2 ifs2 own own2, r, S => (evI it r S).bind fun xs S1 => (compM (fun d S => (asg t d (wipeE r own) S).bind fun r1 S2 => (evT ifs r1 S2).bind fun b S3 => match b with
    | true => (evI it2 r1 S3).bind fun zs S4 => compL (fun d S => (asg t2 d (wipeE r1 own2) S).bind fun r2 S5 => (evT ifs2 r2 S5).bind fun b S6 => match b with
      | true => (evE elt r2 S6).bindD fun x S7 => .ok (some x) S7
      | false => .ok none S6) zs S4
    | false => .ok [] S3) xs S1).bind fun ys S2 => if ys.length ≤ 16777216 then .ok (.tl ys) S2 else .bad
def evEs : Es → Env → Store → Out (List D)
  | .nil, _, S => .ok [] S
  | .cons e es, r, S => (evE e r S).bindD fun d S1 => (evEs es r S1).bind fun ds S2 => .ok (d :: ds) S2
def evAnd : Es → Env → Store → Out RV
  | .nil, _, _ => .bad
  | .cons e .nil, r, S => evE e r S
  | .cons e (.cons e2 es), r, S => (evE e r S).bindD fun d S1 => match d with
    | .bl true => evAnd (.cons e2 es) r S1
    | .bl false => .ok (.val (.bl false)) S1
    | _ => .bad
def evOr : Es → Env → Store → Out RV
  | .nil, _, _ => .bad
  | .cons e .nil, r, S => evE e r S
  | .cons e (.cons e2 es), r, S => (evE e r S).bindD fun d S1 => match d with
    | .bl true => .ok (.val (.bl true)) S1
    | .bl false => evOr (.cons e2 es) r S1
    | _ => .bad
def evO : Eo → Option (Env → Store → Out RV)
  | .none => none
  | .some e => some (evE e)
def evT : Eo → Env → Store → Out Bool
  | .none, _, S => .ok true S
  | .some e, r, S => (evE e r S).bindD fun d S1 => match d with
    | .bl b => .ok b S1
    | _ => .bad
def asg : Tg → D → Env → Store → Out Env
  | .nm i, d, r, S => .ok (r.set i (some d)) S
  | .tup ts, d, r, S => match d with
    | .tup xs => asgs ts xs r S
    | .lst xs => asgs ts xs r S
    | .pr xs => asgs ts xs r S
    | _ => .bad
  | .sub a i, d, r, S => (evE a r S).noex.bindD fun o S1 => (evE i r S1).noex.bindD fun k S2 => (evSet o k d S2).bind fun _ S3 => .ok r S3
def asgs : Tgs → List D → Env → Store → Out Env
  | .nil, [], r, S => .ok r S
  | .cons t ts, d :: ds, r, S => (asg t d r S).bind fun r1 S1 => asgs ts ds r1 S1
  | _, _, _, _ => .bad
def evI : It → Env → Store → Out (List D)
  | .seq e, r, S => (evE e r S).bindD fun d S1 => match seqF d with
    | some xs => .ok xs S1
    | none => .bad
  | .rng a, r, S => (evE a r S).bindD fun d S1 => match d with
    | .int n => if n ≤ 16777216 ∧ -16777216 ≤ n then .ok ((List.range n.toNat).map fun (i : Nat) => D.int i) S1 else .bad
    | _ => .bad
  | .rng2 a b, r, S => (evE a r S).bindD fun d S1 => (evE b r S1).bindD fun e S2 => match rng3D d e (.int 1) with
    | some xs => .ok xs S2
    | none => .bad
  | .rng3 a b k, r, S => (evE a r S).bindD fun d S1 => (evE b r S1).bindD fun e S2 => (evE k r S2).bindD fun f S3 => match rng3D d e f with
    | some xs => .ok xs S3
    | none => .bad
  | .enum e, r, S => (evE e r S).bindD fun d S1 => match seqF d with
    | some xs => .ok (pairsE xs) S1
    | none => .bad
  | .dk e, r, S => (evE e r S).bindD fun d S1 => match keysF d with
    | some xs => .ok xs S1
    | none => .bad
  | .chr e, r, S => (evE e r S).bindD fun d S1 => match chrs d with
    | some xs => .ok xs S1
    | none => .bad
end
end

/-! ### what is below a store's length -/
mutual
def D.blw (k : Nat) : D → Bool
  | .tup xs => D.blws k xs | .lst xs => D.blws k xs | .dic _ _ vs => D.blws k vs | .dil _ _ vs => D.blws k vs | .ob _ fs => D.blws k fs | .pr xs => D.blws k xs
  | .ref l => decide (l < k)
  | _ => true
def D.blws (k : Nat) : List D → Bool
  | [] => true | d :: r => d.blw k && D.blws k r
end
def Obj.blw (k : Nat) : Obj → Bool
  | .lst xs => D.blws k xs | .dic _ _ vs => D.blws k vs | .ins _ fs => D.blws k fs | .dead => true
def envB (k : Nat) (r : Env) : Bool := r.all fun
  | some d => d.blw k
  | none => true
def OldOk (S0 S : Store) : Prop := ∀ (i : Nat) (o : Obj), i < S0.length → S[i]? = some o → S0[i]? = some o ∨ o.blw S0.length = true
open Classical in
noncomputable def gcS (S0 : Store) (r : Env) (S : Store) : Store := if S.length ≤ S0.length then S else if envB S0.length r = true ∧ OldOk S0 S then S.take S0.length else S
open Classical in
/-- a call's end: what the call has made is dropped if nothing leads to it -/
noncomputable def fin (S0 : Store) (rv : RV) (S : Store) : Out RV :=
  if S.length ≤ S0.length ∧ (∀ l, rv ≠ .val (.ref l)) then .ok rv S else
  match rv with
  | .val (.ref l) => if l < S0.length then (if OldOk S0 S then .ok rv (S.take S0.length) else .ok rv S) else
      (match S[l]? with
      | some (.lst xs) => if D.blws S0.length xs = true ∧ OldOk S0 S then .ok (.tl xs) (S.take S0.length) else .ok rv S
      | some (.dic t ks vs) => if D.blws S0.length vs = true ∧ OldOk S0 S then .ok (.td t ks vs) (S.take S0.length) else .ok rv S
      | _ => .ok rv S)
  | rv => if rv.toD.blw S0.length = true ∧ OldOk S0 S then .ok rv (S.take S0.length) else .ok rv S
open Classical in
noncomputable def finX (S0 : Store) (c : Nat) (fs : List D) (S : Store) : Out RV :=
  if S.length ≤ S0.length then .ex c fs [] S else if D.blws S0.length fs = true ∧ OldOk S0 S then .ex c fs [] (S.take S0.length) else .ex c fs [] S

inductive Fl where
  | nx (r : Env) | rt (v : RV) | bk (r : Env) | ct (r : Env)
noncomputable def forL (S0 : Store) (kill : List Nat) (f : D → Env → Store → Out Fl) : List D → Env → Store → Out Fl
  | [], r, S => .ok (.nx r) S
  | d :: ds, r, S => (f d r S).bind fun o S1 => match o with
    | .nx r1 => forL S0 kill f ds (wipeE r1 kill) (gcS S0 (wipeE r1 kill) S1)
    | .ct r1 => forL S0 kill f ds (wipeE r1 kill) (gcS S0 (wipeE r1 kill) S1)
    | .bk r1 => .ok (.nx r1) S1
    | .rt v => .ok (.rt v) S1
noncomputable def whileN (S0 : Store) (kill : List Nat) (c : Env → Store → Out RV) (b : Env → Store → Out Fl) : Nat → Env → Store → Out Fl
  | 0, _, _ => .bad
  | n + 1, r, S => (c r S).bindD fun d S1 => match d with
    | .bl true => (b r S1).bind fun o S2 => (match o with
      | .nx r1 => whileN S0 kill c b n (wipeE r1 kill) (gcS S0 (wipeE r1 kill) S2)
      | .ct r1 => whileN S0 kill c b n (wipeE r1 kill) (gcS S0 (wipeE r1 kill) S2)
      | .bk r1 => .ok (.nx r1) S2
      | .rt v => .ok (.rt v) S2)
    | .bl false => .ok (.nx r) S1
    | _ => .bad
open Classical in
noncomputable def whileL (S0 : Store) (kill : List Nat) (c : Env → Store → Out RV) (b : Env → Store → Out Fl) (r : Env) (S : Store) : Out Fl :=
  if h : ∃ n, whileN S0 kill c b n r S ≠ .bad then whileN S0 kill c b (Classical.choose h) r S else .bad
/-- what may stand in a text of an exception -/
def D.fmt : D → Bool
  | .non => true
  | .bl _ => true
  | .int i => decide (i.natAbs.log2 < 1920)
  | .str y => decide (y.length ≤ 1000000)
  | _ => false
def chk (k : Nat) (m : Bool) (ds : List D) : Bool := decide (ds.length = k) && (!m || ds.all D.fmt)
def setAll : List Nat → List D → Env → Env
  | i :: is, d :: ds, r => setAll is ds (r.set i (some d))
  | _, _, r => r
/-! clauses -/
def clrX : Option Nat → Env → Env
  | none, r => r
  | some j, r => r.set j none
def wipeX (i : Option Nat) : Out Fl → Out Fl
  | .ok (.nx r) S => .ok (.nx (clrX i r)) S
  | .ok (.bk r) S => .ok (.bk (clrX i r)) S
  | .ok (.ct r) S => .ok (.ct (clrX i r)) S
  | o => o
def putX (c : Nat) (fs : List D) : Option Nat → Env → Env
  | none, r => r
  | some j, r => r.set j (some (xcD c fs))
def pickX (c : Nat) (fs : List D) (r : Env) (S : Store) : List (List Nat × Option Nat × (Env → Store → Out Fl)) → Out Fl
  | [] => .ex c fs r S
  | (cs, i, g) :: l => if cs.contains c then wipeX i (g (putX c fs i r) S).noex else pickX c fs r S l
section
variable (G : Nat → List D → Store → Out RV)
mutual
noncomputable def evS : St → Env → Store → Out Fl
  | .asg t e, r, S => ((evE G e r S).env r).bindD fun d S1 => (asg G t d r S1).noex.bind fun r1 S2 => .ok (.nx r1) S2
  | .asg2 t1 t2 e, r, S => ((evE G e r S).env r).bindD fun d S1 => (asg G t1 d r S1).noex.bind fun r1 S2 => (asg G t2 d r1 S2).noex.bind fun r2 S3 => .ok (.nx r2) S3
  | .par is es, r, S => ((evEs G es r S).env r).bind fun ds S1 => if ds.length = is.length then .ok (.nx (setAll is ds r)) S1 else .bad
  | .asgC i elt t it ifs own m, r, S => ((evE G (.comp elt t it ifs own) r S).env r).bind fun rv S1 => match m with
    | true => (evNew rv S1).bindD fun d S2 => .ok (.nx (r.set i (some d))) S2
    | false => .ok (.nx (r.set i (some rv.toD))) S1
  | .aug i op e, r, S => match r[i]? with
    | some (some x) => ((evE G e r S).env r).bindD fun y S1 => (evAug op x y S1).bindD fun z S2 => .ok (.nx (r.set i (some z))) S2
    | _ => .bad
  | .ret e, r, S => ((evE G e r S).env r).bind fun v S1 => .ok (.rt v) S1
  | .retN, _, S => .ok (.rt (.val .non)) S
  | .ifs c a b, r, S => ((evE G c r S).env r).bindD fun d S1 => match d with
    | .bl true => evSs a r S1
    | .bl false => evSs b r S1
    | _ => .bad
  | .whl c b kill, r, S => whileL S kill (fun r S => (evE G c r S).env r) (evSs b) r S
  | .fors t it b kill, r, S => ((evI G it r S).env r).bind fun xs S1 => forL S1 kill (fun d r S => (asg G t d r S).noex.bind fun r1 S2 => evSs b r1 S2) xs r S1
  | .expr e, r, S => ((evE G e r S).env r).bind fun _ S1 => .ok (.nx r) S1
  | .rais c k m es, r, S => (((evEs G es r S).bind fun ds S1 => if chk k m ds then .ok ds S1 else .bad).env r).bind fun ds S1 => .ex c ds r S1
  | .try1 b cs h, r, S => match evSs b r S with
    | .ex c' fs r1 S1 => if cs.contains c' then (evSs h r1 S1).noex else .ex c' fs r1 S1
    | o => o
  | .tryX b cs1 i1 h1 cs2 i2 h2 cs3 i3 h3, r, S => match evSs b r S with
    | .ex c fs r1 S1 => pickX c fs r1 S1 [(cs1, i1, evSs h1), (cs2, i2, evSs h2), (cs3, i3, evSs h3)]
    | o => o
  | .pass, r, S => .ok (.nx r) S
  | .any, _, _ => .bad
  | .brk, r, S => .ok (.bk r) S
  | .cnt, r, S => .ok (.ct r) S
noncomputable def evSs : Sts → Env → Store → Out Fl
  | .nil, r, S => .ok (.nx r) S
  | .cons s ss, r, S => (evS s r S).bind fun o S1 => match o with
    | .nx r1 => evSs ss r1 S1
    | o => .ok o S1
  | .frz i ss, r, S => match r[i]? with
    | some (some (.ref l)) => (match S[l]? with
      | some (.lst xs) => evSs ss (r.set i (some (.lst xs))) (S.set l .dead)
      | some (.dic t ks vs) => evSs ss (r.set i (some (.dil t ks vs))) (S.set l .dead)
      | _ => .bad)
    | _ => .bad
end
end
/-- a def at the top, a method of a class, the making of a network by two readers -/
inductive FdK where
  | exc | glob | meth (cls : Str) | net (f1 f2 : Nat)
  deriving DecidableEq
/-- a def of the table -/
structure Fd where
  nm : Str
  N : List Str
  np : Nat
  kws : List (Nat × List Str × List Nat)
  body : Sts
  kd : FdK
def Fd.isNet (fd : Fd) : Bool := match fd.kd with
  | .net _ _ => true
  | _ => false
def Fd.ps (fd : Fd) : List Str := fd.N.take fd.np
noncomputable def sem (T : List (Nat × Fd)) : Nat → Nat → List D → Store → Out RV
  | 0, _, _, _ => .bad
  | n + 1, f, ds, S => match T.lookup f with
    | none => .bad
    | some fd => match fd.kd with
      | .net f1 f2 => (match ds with
        | [d1, d2] => packN (netO (sem T n f1) (sem T n f2) d1 d2 S)
        | _ => .bad)
      | _ => if ds.length = fd.np then (match evSs (sem T n) fd.body (ds.map some ++ List.replicate (fd.N.length - fd.np) none) S with
        | .ok (.rt v) S1 => fin S v S1
        | .ok (.nx _) S1 => fin S (.val .non) S1
        | .ok _ _ => .bad
        | .ex c fs _ S1 => finX S c fs S1
        | .bad => .bad) else .bad
omit [CtI] [XsI] in
theorem sem_def (T : List (Nat × Fd)) (n f : Nat) (ds : List D) (S : Store) {fd : Fd} (h : T.lookup f = some fd) (hk : fd.isNet = false) : sem T (n + 1) f ds S = if ds.length = fd.np then (match evSs (sem T n) fd.body (ds.map some ++ List.replicate (fd.N.length - fd.np) none) S with
        | .ok (.rt v) S1 => fin S v S1
        | .ok (.nx _) S1 => fin S (.val .non) S1
        | .ok _ _ => .bad
        | .ex c fs _ S1 => finX S c fs S1
        | .bad => .bad) else .bad := by
  rw [sem, h]
  unfold Fd.isNet at hk
  cases e : fd.kd with
  | exc => simp only [e]
  | glob => simp only [e]
  | meth c => simp only [e]
  | net f1 f2 => rw [e] at hk; cases hk
omit [CtI] [XsI] in
theorem sem_net (T : List (Nat × Fd)) (n f : Nat) (d1 d2 : D) (S : Store) {fd : Fd} {f1 f2 : Nat} (h : T.lookup f = some fd) (hk : fd.kd = .net f1 f2) : sem T (n + 1) f [d1, d2] S = packN (netO (sem T n f1) (sem T n f2) d1 d2 S) := by
  rw [sem, h]
  simp only [hk]
end Fc

end
section
set_option autoImplicit false
set_option maxHeartbeats 4000000
/-! the evaluator's equations; runs of defs; loops -/
namespace Fc
open PySem
/-- a def of the table, as its number of names, of parameters, and its body tell it -/
def HasD (T : List (Nat × Fd)) (f N np : Nat) (b : Sts) : Prop := ∃ fd, T.lookup f = some fd ∧ fd.N.length = N ∧ fd.np = np ∧ fd.body = b ∧ fd.isNet = false
noncomputable def endF (S : Store) : Out Fl → Out RV
  | .ok (.rt v) S1 => fin S v S1
  | .ok (.nx _) S1 => fin S (.val .non) S1
  | .ok _ _ => .bad
  | .ex c fs _ S1 => finX S c fs S1
  | .bad => .bad
theorem sem_eq {T : List (Nat × Fd)} {f N np : Nat} {b : Sts} (h : HasD T f N np b) (n : Nat) (ds : List D) (S : Store) (hl : ds.length = np) :
    sem T (n + 1) f ds S = endF S (evSs (sem T n) b (ds.map some ++ List.replicate (N - np) none) S) := by
  obtain ⟨fd, h1, h2, h3, h4, h5⟩ := h
  rw [sem_def T n f ds S h1 h5]
  rw [h2, h3, h4, if_pos hl]
  cases evSs (sem T n) b (ds.map some ++ List.replicate (N - np) none) S with
  | ok o S1 => cases o <;> rfl
  | _ => rfl
/-- the making of a network: its two readers -/
def HasN (T : List (Nat × Fd)) (f f1 f2 : Nat) : Prop := ∃ fd, T.lookup f = some fd ∧ fd.kd = .net f1 f2
theorem sem_netq {T : List (Nat × Fd)} {f f1 f2 : Nat} (h : HasN T f f1 f2) (n : Nat) (d1 d2 : D) (S : Store) : sem T (n + 1) f [d1, d2] S = packN (netO (sem T n f1) (sem T n f2) d1 d2 S) := by
  obtain ⟨fd, h1, h2⟩ := h
  exact sem_net T n f d1 d2 S h1 h2
theorem succ_of {m k : Nat} (h : k + 1 ≤ m) : ∃ n, m = n + 1 ∧ k ≤ n := ⟨m - 1, by omega, by omega⟩
section
variable {G : Nat → List D → Store → Out RV}
@[simp] theorem ye_var (i : Nat) (r : Env) (S : Store) : evE G (.var i) r S = match r[i]? with
    | some (some d) => .ok (.val d) S
    | _ => .bad := by first | (rw [evE]; done) | (rw [evE]; rfl)
@[simp] theorem ye_cst (d : D) (r : Env) (S : Store) : evE G (.cst d) r S = .ok (.val d) S := by rw [evE]
@[simp] theorem ye_glb (x : Str) (d : D) (r : Env) (S : Store) : evE G (.glb x d) r S = .ok (.val d) S := by rw [evE]
@[simp] theorem ye_bin (op : Operator) (a b : E) (r : Env) (S : Store) : evE G (.bin op a b) r S = op2 (evBin op) (evE G a) (evE G b) r S := by rw [evE]
@[simp] theorem ye_neg (a : E) (r : Env) (S : Store) : evE G (.neg a) r S = (evE G a r S).bindD fun d S1 => match d with
    | .int i => .ok (.val (.int (-i))) S1
    | _ => .bad := by first | (rw [evE]; done) | (rw [evE]; rfl)
@[simp] theorem ye_cmp (op : CmpOp) (a b : E) (r : Env) (S : Store) : evE G (.cmp op a b) r S = op2 (evCmp op) (evE G a) (evE G b) r S := by rw [evE]
@[simp] theorem ye_cmp2 (o1 o2 : CmpOp) (a b c : E) (r : Env) (S : Store) : evE G (.cmp2 o1 o2 a b c) r S = (evE G a r S).bindD fun x S1 => (evE G b r S1).bindD fun y S2 => (evCmp o1 x y S2).bindD fun z S3 => match z with
    | .bl true => (evE G c r S3).bindD fun w S4 => evCmp o2 y w S4
    | .bl false => .ok (.val (.bl false)) S3
    | _ => .bad := by first | (rw [evE]; done) | (rw [evE]; rfl)
@[simp] theorem ye_andL (es : Es) (r : Env) (S : Store) : evE G (.andL es) r S = evAnd G es r S := by rw [evE]
@[simp] theorem ye_orL (es : Es) (r : Env) (S : Store) : evE G (.orL es) r S = evOr G es r S := by rw [evE]
@[simp] theorem ye_not (a : E) (r : Env) (S : Store) : evE G (.not_ a) r S = (evE G a r S).bindD fun d S1 => match d with
    | .bl b => .ok (.val (.bl (!b))) S1
    | _ => .bad := by first | (rw [evE]; done) | (rw [evE]; rfl)
@[simp] theorem ye_ite (c a b : E) (r : Env) (S : Store) : evE G (.ite c a b) r S = (evE G c r S).bindD fun d S1 => match d with
    | .bl true => evE G a r S1
    | .bl false => evE G b r S1
    | _ => .bad := by first | (rw [evE]; done) | (rw [evE]; rfl)
@[simp] theorem ye_tup (es : Es) (r : Env) (S : Store) : evE G (.tup es) r S = (evEs G es r S).bind fun ds S1 => .ok (.val (.tup ds)) S1 := by rw [evE]
@[simp] theorem ye_lst (es : Es) (r : Env) (S : Store) : evE G (.lst es) r S = (evEs G es r S).bind fun ds S1 => .ok (.tl ds) S1 := by rw [evE]
@[simp] theorem ye_dic0 (t : Bool) (r : Env) (S : Store) : evE G (.dic0 t) r S = .ok (.td t [] []) S := by rw [evE]
@[simp] theorem ye_idx (a i : E) (r : Env) (S : Store) : evE G (.idx a i) r S = op2 evIx (evE G a) (evE G i) r S := by rw [evE]
@[simp] theorem ye_slc (a : E) (lo hi : Eo) (r : Env) (S : Store) : evE G (.slc a lo hi) r S = sl2 (evE G a) (evO G lo) (evO G hi) r S := by rw [evE]
@[simp] theorem ye_revl (a : E) (r : Env) (S : Store) : evE G (.revl a) r S = (evE G a r S).bindD evRevL := by rw [evE]
@[simp] theorem ye_rev (a : E) (r : Env) (S : Store) : evE G (.rev a) r S = (evE G a r S).bindD evRev := by rw [evE]
@[simp] theorem ye_new (a : E) (r : Env) (S : Store) : evE G (.new a) r S = (evE G a r S).bind evNew := by rw [evE]
@[simp] theorem ye_call (f : Nat) (es : Es) (r : Env) (S : Store) : evE G (.call f es) r S = (evEs G es r S).bind fun ds S1 => (G f ds S1).env r := by rw [evE]
@[simp] theorem ye_callk (f : Nat) (p : List Nat) (es ks : Es) (r : Env) (S : Store) : evE G (.callk f p es ks) r S = (evEs G es r S).bind fun ds S1 => (evEs G ks r S1).bind fun zs S2 => (G f (p.filterMap ((ds ++ zs)[·]?)) S2).env r := by rw [evE]
@[simp] theorem ye_bi (b : Bi) (es : Es) (r : Env) (S : Store) : evE G (.bi b es) r S = (evEs G es r S).bind fun ds S1 => b.ev ds S1 := by rw [evE]
@[simp] theorem ye_isi (T : Kd) (a : E) (r : Env) (S : Store) : evE G (.isi T a) r S = isi1 T (evE G a) r S := by rw [evE]
@[simp] theorem ye_sset (a : E) (r : Env) (S : Store) : evE G (.sset a) r S = (evE G a r S).bindD fun d S1 => evSset [d] S1 := by rw [evE]
@[simp] theorem ye_ext (a e : E) (r : Env) (S : Store) : evE G (.ext a e) r S = evExt2 (evE G a) (evE G e) r S := by rw [evE]
@[simp] theorem ye_get2 (a k x : E) (r : Env) (S : Store) : evE G (.get2 a k x) r S = evGet2 (evE G a) (evE G k) (evE G x) r S := by rw [evE]
@[simp] theorem ye_dic1 (k v : E) (r : Env) (S : Store) : evE G (.dic1 k v) r S = evDic1 (evE G k) (evE G v) r S := by rw [evE]
@[simp] theorem ye_rngc (t : Bool) (a : E) (r : Env) (S : Store) : evE G (.rngc t a) r S = (evE G a r S).bindD (evRng t) := by rw [evE]
@[simp] theorem ye_join (a e : E) (r : Env) (S : Store) : evE G (.join a e) r S = evJoin2 (evE G a) (evE G e) r S := by rw [evE]
@[simp] theorem ye_cnt (a e : E) (r : Env) (S : Store) : evE G (.cnt a e) r S = evCnt2 (evE G a) (evE G e) r S := by rw [evE]
@[simp] theorem ye_popi (a e : E) (r : Env) (S : Store) : evE G (.popi a e) r S = evPop2 (evE G a) (evE G e) r S := by rw [evE]
@[simp] theorem ye_fld (c i : Nat) (f : Str) (a : E) (r : Env) (S : Store) : evE G (.fld c i f a) r S = (evE G a r S).bindD (evFld c i) := by rw [evE]
@[simp] theorem ye_meth (c : Nat) (m : Str) (f : Nat) (p : List Nat) (a : E) (es ks : Es) (r : Env) (S : Store) : evE G (.meth c m f p a es ks) r S = evMeth c p (evE G a) (evEs G es) (evEs G ks) (G f) r S := by rw [evE]
@[simp] theorem ye_net (c i j f : Nat) (es ks : Es) (r : Env) (S : Store) : evE G (.net c i j f es ks) r S = evNetG c i j (G f) (evEs G es) (evEs G ks) r S := by rw [evE]
@[simp] theorem ye_any (r : Env) (S : Store) : evE G .any r S = .bad := by rw [evE]
@[simp] theorem ye_isO (c : Nat) (a : E) (r : Env) (S : Store) : evE G (.isO c a) r S = (evE G a r S).bindD fun d S1 => evIsO c d S1 := by rw [evE]
@[simp] theorem ye_eqO (c f : Nat) (a b : E) (r : Env) (S : Store) : evE G (.eqO c f a b) r S = op2 (evEqO c (G f)) (evE G a) (evE G b) r S := by rw [evE]
@[simp] theorem ye_idxm (t : Bool) (a e : E) (r : Env) (S : Store) : evE G (.idxm t a e) r S = evIndex2 t (evE G a) (evE G e) r S := by rw [evE]
@[simp] theorem ye_lenO (c f : Nat) (a : E) (r : Env) (S : Store) : evE G (.lenO c f a) r S = (evE G a r S).bindD (evLenO c (G f)) := by rw [evE]
@[simp] theorem ye_app (a e : E) (r : Env) (S : Store) : evE G (.app a e) r S = evApp2 (evE G a) (evE G e) r S := by rw [evE]
/-- one item of a comprehension -/
def compF (G : Nat → List D → Store → Out RV) (elt : E) (t : Tg) (ifs : Eo) (r : Env) : D → Store → Out (Option D) := fun d S => (asg G t d r S).bind fun r1 S2 => (evT G ifs r1 S2).bind fun b S3 => match b with
    | true => (evE G elt r1 S3).bindD fun x S4 => .ok (some x) S4
    | false => .ok none S3
@[simp] theorem ye_comp (elt : E) (t : Tg) (it : It) (ifs : Eo) (own : List Nat) (r : Env) (S : Store) : evE G (.comp elt t it ifs own) r S = (evI G it r S).bind fun xs S1 => (compL (compF G elt t ifs (wipeE r own)) xs S1).bind fun ys S2 => .ok (.tl ys) S2 := by first | (rw [evE]; done) | (rw [evE]; rfl)
@[simp] theorem ye_xfl (i : Nat) (f : Str) (tb : List (Nat × Nat)) (r : Env) (S : Store) : evE G (.xfl i f tb) r S = evXf i tb r S := by rw [evE]
@[simp] theorem ye_xis (i : Nat) (y : Str) (cs : List Nat) (r : Env) (S : Store) : evE G (.xis i y cs) r S = evXis i cs r S := by rw [evE]
@[simp] theorem ye_xcall (f i : Nat) (es : Es) (r : Env) (S : Store) : evE G (.xcall f i es) r S = match xcOf r[i]? with
    | some (c, fs) => (evEs G es r S).bind fun ds S1 => (G f (xcD c fs :: ds) S1).env r
    | none => .bad := by first | (rw [evE]; done) | (rw [evE]; rfl)
@[simp] theorem ye_upp (a : E) (r : Env) (S : Store) : evE G (.upp a) r S = (evE G a r S).bindD evUpp := by rw [evE]
/-- one item of the outer walk -/
def compF2 (G : Nat → List D → Store → Out RV) (elt : E) (t : Tg) (ifs : Eo) (t2 : Tg) (it2 : It) (ifs2 : Eo) (own2 : List Nat) (r : Env) : D → Store → Out (List D) := fun d S => (asg G t d r S).bind fun r1 S2 => (evT G ifs r1 S2).bind fun b S3 => match b with
    | true => (evI G it2 r1 S3).bind fun zs S4 => compL (compF G elt t2 ifs2 (wipeE r1 own2)) zs S4
    | false => .ok [] S3
@[simp] theorem ye_comp2 (elt : E) (t : Tg) (it : It) (ifs : Eo) (t2 : Tg) (it2 : It) (ifs2 : Eo) (own own2 : List Nat) (r : Env) (S : Store) : evE G (.comp2 elt t it ifs t2 it2 ifs2 own own2) r S = (evI G it r S).bind fun xs S1 => (compM (compF2 G elt t ifs t2 it2 ifs2 own2 (wipeE r own)) xs S1).bind fun ys S2 => if ys.length ≤ 16777216 then .ok (.tl ys) S2 else .bad := by first | (rw [evE]; done) | (rw [evE]; rfl)
@[simp] theorem yes_nil (r : Env) (S : Store) : evEs G .nil r S = .ok [] S := by rw [evEs]
@[simp] theorem yes_cons (e : E) (es : Es) (r : Env) (S : Store) : evEs G (.cons e es) r S = (evE G e r S).bindD fun d S1 => (evEs G es r S1).bind fun ds S2 => .ok (d :: ds) S2 := by rw [evEs]
@[simp] theorem yand_one (e : E) (r : Env) (S : Store) : evAnd G (.cons e .nil) r S = evE G e r S := by rw [evAnd]
@[simp] theorem yand_cons (e e2 : E) (es : Es) (r : Env) (S : Store) : evAnd G (.cons e (.cons e2 es)) r S = (evE G e r S).bindD fun d S1 => match d with
    | .bl true => evAnd G (.cons e2 es) r S1
    | .bl false => .ok (.val (.bl false)) S1
    | _ => .bad := by first | (rw [evAnd]; done) | (rw [evAnd]; rfl)
@[simp] theorem yor_one (e : E) (r : Env) (S : Store) : evOr G (.cons e .nil) r S = evE G e r S := by rw [evOr]
@[simp] theorem yor_cons (e e2 : E) (es : Es) (r : Env) (S : Store) : evOr G (.cons e (.cons e2 es)) r S = (evE G e r S).bindD fun d S1 => match d with
    | .bl true => .ok (.val (.bl true)) S1
    | .bl false => evOr G (.cons e2 es) r S1
    | _ => .bad := by first | (rw [evOr]; done) | (rw [evOr]; rfl)
@[simp] theorem yo_none : evO G .none = none := by rw [evO]
@[simp] theorem yo_some (e : E) : evO G (.some e) = some (evE G e) := by rw [evO]
@[simp] theorem yt_none (r : Env) (S : Store) : evT G .none r S = .ok true S := by rw [evT]
@[simp] theorem yt_some (e : E) (r : Env) (S : Store) : evT G (.some e) r S = (evE G e r S).bindD fun d S1 => match d with
    | .bl b => .ok b S1
    | _ => .bad := by first | (rw [evT]; done) | (rw [evT]; rfl)
@[simp] theorem ya_nm (i : Nat) (d : D) (r : Env) (S : Store) : asg G (.nm i) d r S = .ok (r.set i (some d)) S := by rw [asg]
@[simp] theorem ya_lst (ts : Tgs) (xs : List D) (r : Env) (S : Store) : asg G (.tup ts) (.lst xs) r S = asgs G ts xs r S := by rw [asg]
@[simp] theorem ya_tup (ts : Tgs) (xs : List D) (r : Env) (S : Store) : asg G (.tup ts) (.tup xs) r S = asgs G ts xs r S := by rw [asg]
@[simp] theorem ya_pr (ts : Tgs) (xs : List D) (r : Env) (S : Store) : asg G (.tup ts) (.pr xs) r S = asgs G ts xs r S := by rw [asg]
@[simp] theorem ya_sub (a i : E) (d : D) (r : Env) (S : Store) : asg G (.sub a i) d r S = (evE G a r S).noex.bindD fun o S1 => (evE G i r S1).noex.bindD fun k S2 => (evSet o k d S2).bind fun _ S3 => .ok r S3 := by rw [asg]
@[simp] theorem yas_nil (r : Env) (S : Store) : asgs G .nil [] r S = .ok r S := by rw [asgs]
@[simp] theorem yas_cons (t : Tg) (ts : Tgs) (d : D) (ds : List D) (r : Env) (S : Store) : asgs G (.cons t ts) (d :: ds) r S = (asg G t d r S).bind fun r1 S1 => asgs G ts ds r1 S1 := by rw [asgs]
@[simp] theorem yi_seq (e : E) (r : Env) (S : Store) : evI G (.seq e) r S = (evE G e r S).bindD fun d S1 => match seqF d with
    | some xs => .ok xs S1
    | none => .bad := by first | (rw [evI]; done) | (rw [evI]; rfl)
@[simp] theorem yi_dk (e : E) (r : Env) (S : Store) : evI G (.dk e) r S = (evE G e r S).bindD fun d S1 => match keysF d with
    | some xs => .ok xs S1
    | none => .bad := by first | (rw [evI]; done) | (rw [evI]; rfl)
@[simp] theorem yi_chr (e : E) (r : Env) (S : Store) : evI G (.chr e) r S = (evE G e r S).bindD fun d S1 => match chrs d with
    | some xs => .ok xs S1
    | none => .bad := by first | (rw [evI]; done) | (rw [evI]; rfl)
@[simp] theorem yi_rng (a : E) (r : Env) (S : Store) : evI G (.rng a) r S = (evE G a r S).bindD fun d S1 => match d with
    | .int n => if n ≤ 16777216 ∧ -16777216 ≤ n then .ok ((List.range n.toNat).map fun (i : Nat) => D.int i) S1 else .bad
    | _ => .bad := by first | (rw [evI]; done) | (rw [evI]; rfl)
@[simp] theorem yi_rng2 (a b : E) (r : Env) (S : Store) : evI G (.rng2 a b) r S = (evE G a r S).bindD fun d S1 => (evE G b r S1).bindD fun e S2 => match rng3D d e (.int 1) with
    | some xs => .ok xs S2
    | none => .bad := by first | (rw [evI]; done) | (rw [evI]; rfl)
@[simp] theorem yi_rng3 (a b k : E) (r : Env) (S : Store) : evI G (.rng3 a b k) r S = (evE G a r S).bindD fun d S1 => (evE G b r S1).bindD fun e S2 => (evE G k r S2).bindD fun f S3 => match rng3D d e f with
    | some xs => .ok xs S3
    | none => .bad := by first | (rw [evI]; done) | (rw [evI]; rfl)
@[simp] theorem yi_enum (e : E) (r : Env) (S : Store) : evI G (.enum e) r S = (evE G e r S).bindD fun d S1 => match seqF d with
    | some xs => .ok (pairsE xs) S1
    | none => .bad := by first | (rw [evI]; done) | (rw [evI]; rfl)
/-! statements -/
@[simp] theorem yz_asg (t : Tg) (e : E) (r : Env) (S : Store) : evS G (.asg t e) r S = ((evE G e r S).env r).bindD fun d S1 => (asg G t d r S1).noex.bind fun r1 S2 => .ok (.nx r1) S2 := by rw [evS]
@[simp] theorem yz_asg2 (t1 t2 : Tg) (e : E) (r : Env) (S : Store) : evS G (.asg2 t1 t2 e) r S = ((evE G e r S).env r).bindD fun d S1 => (asg G t1 d r S1).noex.bind fun r1 S2 => (asg G t2 d r1 S2).noex.bind fun r2 S3 => .ok (.nx r2) S3 := by rw [evS]
@[simp] theorem yz_par (is : List Nat) (es : Es) (r : Env) (S : Store) : evS G (.par is es) r S = ((evEs G es r S).env r).bind fun ds S1 => if ds.length = is.length then .ok (.nx (setAll is ds r)) S1 else .bad := by rw [evS]
@[simp] theorem yz_asgC (i : Nat) (elt : E) (t : Tg) (it : It) (ifs : Eo) (own : List Nat) (m : Bool) (r : Env) (S : Store) : evS G (.asgC i elt t it ifs own m) r S = ((evE G (.comp elt t it ifs own) r S).env r).bind fun rv S1 => match m with
    | true => (evNew rv S1).bindD fun d S2 => .ok (.nx (r.set i (some d))) S2
    | false => .ok (.nx (r.set i (some rv.toD))) S1 := by first | (rw [evS]; done) | (rw [evS]; rfl)
@[simp] theorem yz_aug (i : Nat) (op : Operator) (e : E) (r : Env) (S : Store) : evS G (.aug i op e) r S = match r[i]? with
    | some (some x) => ((evE G e r S).env r).bindD fun y S1 => (evAug op x y S1).bindD fun z S2 => .ok (.nx (r.set i (some z))) S2
    | _ => .bad := by first | (rw [evS]; done) | (rw [evS]; rfl)
@[simp] theorem yz_ret (e : E) (r : Env) (S : Store) : evS G (.ret e) r S = ((evE G e r S).env r).bind fun v S1 => .ok (.rt v) S1 := by rw [evS]
@[simp] theorem yz_retN (r : Env) (S : Store) : evS G .retN r S = .ok (.rt (.val .non)) S := by rw [evS]
@[simp] theorem yz_ifs (c : E) (a b : Sts) (r : Env) (S : Store) : evS G (.ifs c a b) r S = ((evE G c r S).env r).bindD fun d S1 => match d with
    | .bl true => evSs G a r S1
    | .bl false => evSs G b r S1
    | _ => .bad := by first | (rw [evS]; done) | (rw [evS]; rfl)
@[simp] theorem yz_whl (c : E) (b : Sts) (kill : List Nat) (r : Env) (S : Store) : evS G (.whl c b kill) r S = whileL S kill (fun r S => (evE G c r S).env r) (evSs G b) r S := by rw [evS]
/-- one turn of a for -/
noncomputable def forF (G : Nat → List D → Store → Out RV) (t : Tg) (b : Sts) : D → Env → Store → Out Fl := fun d r S => (asg G t d r S).noex.bind fun r1 S2 => evSs G b r1 S2
@[simp] theorem yz_fors (t : Tg) (it : It) (b : Sts) (kill : List Nat) (r : Env) (S : Store) : evS G (.fors t it b kill) r S = ((evI G it r S).env r).bind fun xs S1 => forL S1 kill (forF G t b) xs r S1 := by first | (rw [evS]; done) | (rw [evS]; rfl)
@[simp] theorem yz_expr (e : E) (r : Env) (S : Store) : evS G (.expr e) r S = ((evE G e r S).env r).bind fun _ S1 => .ok (.nx r) S1 := by rw [evS]
@[simp] theorem yz_rais (c k : Nat) (m : Bool) (es : Es) (r : Env) (S : Store) : evS G (.rais c k m es) r S = (((evEs G es r S).bind fun ds S1 => if chk k m ds then .ok ds S1 else .bad).env r).bind fun ds S1 => .ex c ds r S1 := by rw [evS]
@[simp] theorem yz_tryX (b : Sts) (cs1 : List Nat) (i1 : Option Nat) (h1 : Sts) (cs2 : List Nat) (i2 : Option Nat) (h2 : Sts) (cs3 : List Nat) (i3 : Option Nat) (h3 : Sts) (r : Env) (S : Store) : evS G (.tryX b cs1 i1 h1 cs2 i2 h2 cs3 i3 h3) r S = match evSs G b r S with
    | .ex c fs r1 S1 => pickX c fs r1 S1 [(cs1, i1, evSs G h1), (cs2, i2, evSs G h2), (cs3, i3, evSs G h3)]
    | o => o := by first | (rw [evS]; done) | (rw [evS]; rfl)
@[simp] theorem yz_try (b : Sts) (cs : List Nat) (h : Sts) (r : Env) (S : Store) : evS G (.try1 b cs h) r S = match evSs G b r S with
    | .ex c' fs r1 S1 => if cs.contains c' then (evSs G h r1 S1).noex else .ex c' fs r1 S1
    | o => o := by first | (rw [evS]; done) | (rw [evS]; rfl)
@[simp] theorem yz_any (r : Env) (S : Store) : evS G .any r S = .bad := by rw [evS]
@[simp] theorem yz_pass (r : Env) (S : Store) : evS G .pass r S = .ok (.nx r) S := by rw [evS]
@[simp] theorem yz_brk (r : Env) (S : Store) : evS G .brk r S = .ok (.bk r) S := by rw [evS]
@[simp] theorem yz_cnt (r : Env) (S : Store) : evS G .cnt r S = .ok (.ct r) S := by rw [evS]
@[simp] theorem yzs_nil (r : Env) (S : Store) : evSs G .nil r S = .ok (.nx r) S := by rw [evSs]
/-- what follows a statement -/
def thenS (o : Out Fl) (k : Env → Store → Out Fl) : Out Fl := o.bind fun o S1 => match o with
    | .nx r1 => k r1 S1
    | o => .ok o S1
@[simp] theorem thenS_nx (r : Env) (S : Store) (k : Env → Store → Out Fl) : thenS (.ok (.nx r) S) k = k r S := Eq.trans (b := k r S) (Eq.refl _) (Eq.refl _)
@[simp] theorem thenS_rt (v : RV) (S : Store) (k : Env → Store → Out Fl) : thenS (.ok (.rt v) S) k = .ok (.rt v) S := rfl
@[simp] theorem thenS_bk (r : Env) (S : Store) (k : Env → Store → Out Fl) : thenS (.ok (.bk r) S) k = .ok (.bk r) S := rfl
@[simp] theorem thenS_ct (r : Env) (S : Store) (k : Env → Store → Out Fl) : thenS (.ok (.ct r) S) k = .ok (.ct r) S := rfl
@[simp] theorem thenS_ex (c fs r S) (k : Env → Store → Out Fl) : thenS (.ex c fs r S) k = .ex c fs r S := rfl
@[simp] theorem yzs_cons (s : St) (ss : Sts) (r : Env) (S : Store) : evSs G (.cons s ss) r S = thenS (evS G s r S) (evSs G ss) := by first | (rw [evSs]; done) | (rw [evSs]; rfl)
@[simp] theorem yzs_frz (i : Nat) (ss : Sts) (r : Env) (S : Store) : evSs G (.frz i ss) r S = match r[i]? with
    | some (some (.ref l)) => (match S[l]? with
      | some (.lst xs) => evSs G ss (r.set i (some (.lst xs))) (S.set l .dead)
      | some (.dic t ks vs) => evSs G ss (r.set i (some (.dil t ks vs))) (S.set l .dead)
      | _ => .bad)
    | _ => .bad := by first | (rw [evSs]; done) | (rw [evSs]; rfl)
end
@[simp] theorem op2_eq (f : D → D → Store → Out RV) (a b : Env → Store → Out RV) (r : Env) (S : Store) : op2 f a b r S = (a r S).bindD fun d S1 => (b r S1).bindD fun e S2 => f d e S2 := rfl
@[simp] theorem isi1_eq (T : Kd) (a : Env → Store → Out RV) (r : Env) (S : Store) : isi1 T a r S = (a r S).bindD fun d S1 => evIsi T d S1 := rfl
/-! ends of calls -/
def RV.noref : RV → Bool
  | .val (.ref _) => false
  | _ => true
theorem fin_same {S S1 : Store} {rv : RV} (h : S1.length = S.length) (hr : rv.noref = true) : fin S rv S1 = .ok rv S1 := by
  unfold fin
  rw [if_pos ⟨by omega, fun l e => by subst e; cases hr⟩]
theorem finX_same {S S1 : Store} {c : Nat} {fs : List D} (h : S1.length = S.length) : finX S c fs S1 = .ex c fs [] S1 := by
  unfold finX
  rw [if_pos (by omega)]
theorem fin_self {S : Store} {rv : RV} (hr : rv.noref = true) : fin S rv S = .ok rv S := fin_same rfl hr
@[simp] theorem finX_self {S : Store} {c : Nat} {fs : List D} : finX S c fs S = .ex c fs [] S := finX_same rfl
theorem gcS_same {S0 S : Store} {r : Env} (h : S.length ≤ S0.length) : gcS S0 r S = S := by
  unfold gcS
  rw [if_pos h]
@[simp] theorem gcS_self {S : Store} {r : Env} : gcS S r S = S := gcS_same (Nat.le_refl _)
@[simp] theorem endF_rt (S : Store) (v : RV) (S1 : Store) : endF S (.ok (.rt v) S1) = fin S v S1 := rfl
@[simp] theorem endF_nx (S : Store) (r : Env) (S1 : Store) : endF S (.ok (.nx r) S1) = fin S (.val .non) S1 := rfl
@[simp] theorem endF_ex (S : Store) (c fs r) (S1 : Store) : endF S (.ex c fs r S1) = finX S c fs S1 := rfl
@[simp] theorem fin_tl (S : Store) (x : List D) : fin S (.tl x) S = .ok (.tl x) S := fin_same rfl rfl
@[simp] theorem fin_td (S : Store) (t : Bool) (x y : List D) : fin S (.td t x y) S = .ok (.td t x y) S := fin_same rfl rfl
@[simp] theorem fin_bl (S : Store) (x : Bool) : fin S (.val (.bl x)) S = .ok (.val (.bl x)) S := fin_same rfl rfl
@[simp] theorem fin_int (S : Store) (x : Int) : fin S (.val (.int x)) S = .ok (.val (.int x)) S := fin_same rfl rfl
@[simp] theorem fin_str (S : Store) (x : Str) : fin S (.val (.str x)) S = .ok (.val (.str x)) S := fin_same rfl rfl
@[simp] theorem fin_tup (S : Store) (x : List D) : fin S (.val (.tup x)) S = .ok (.val (.tup x)) S := fin_same rfl rfl
@[simp] theorem fin_lst (S : Store) (x : List D) : fin S (.val (.lst x)) S = .ok (.val (.lst x)) S := fin_same rfl rfl
@[simp] theorem fin_dil (S : Store) (t : Bool) (x y : List D) : fin S (.val (.dil t x y)) S = .ok (.val (.dil t x y)) S := fin_same rfl rfl
@[simp] theorem fin_dic (S : Store) (t : Bool) (x y : List D) : fin S (.val (.dic t x y)) S = .ok (.val (.dic t x y)) S := fin_same rfl rfl
@[simp] theorem fin_ob (S : Store) (c : Nat) (x : List D) : fin S (.val (.ob c x)) S = .ok (.val (.ob c x)) S := fin_same rfl rfl
@[simp] theorem fin_non (S : Store) : fin S (.val .non) S = .ok (.val .non) S := fin_same rfl rfl
/-! a for by an invariant -/
theorem forL_ind {S0 : Store} {kill : List Nat} {f : D → Env → Store → Out Fl} {P : Out Fl → Prop} (I : List D → Env → Store → Prop) (h0 : ∀ r S, I [] r S → P (.ok (.nx r) S))
    (h1 : ∀ d ds r S, I (d :: ds) r S → (∃ r1 S1, (f d r S = .ok (.nx r1) S1 ∨ f d r S = .ok (.ct r1) S1) ∧ I ds (wipeE r1 kill) (gcS S0 (wipeE r1 kill) S1)) ∨ (∃ r1 S1, f d r S = .ok (.bk r1) S1 ∧ P (.ok (.nx r1) S1)) ∨ (∃ v S1, f d r S = .ok (.rt v) S1 ∧ P (.ok (.rt v) S1)) ∨ (∃ c fs r1 S1, f d r S = .ex c fs r1 S1 ∧ P (.ex c fs r1 S1))) :
    ∀ (xs : List D) (r : Env) (S : Store), I xs r S → P (forL S0 kill f xs r S)
  | [], r, S, h => by rw [forL]; exact h0 r S h
  | d :: ds, r, S, h => by
    rw [forL]
    rcases h1 d ds r S h with ⟨r1, S1, e | e, q⟩ | ⟨r1, S1, e, q⟩ | ⟨v, S1, e, q⟩ | ⟨c, fs, r1, S1, e, q⟩
    · rw [e]; exact forL_ind I h0 h1 ds _ _ q
    · rw [e]; exact forL_ind I h0 h1 ds _ _ q
    · rw [e]; exact q
    · rw [e]; exact q
    · rw [e]; exact q
/-- a comprehension whose items are reckoned without a change -/
theorem compL_map {f : D → Store → Out (Option D)} {S : Store} {p : D → Option D} : ∀ (xs : List D), (∀ d ∈ xs, f d S = .ok (p d) S) → compL f xs S = .ok (xs.filterMap p) S
  | [], _ => by rw [compL]; rfl
  | d :: ds, h => by
    rw [compL, h d (by simp), Out.noex_ok, Out.bind_ok, compL_map ds fun e he => h e (by simp [he]), Out.bind_ok]
    cases e : p d <;> simp [e]
/-- a comprehension by an invariant -/
theorem compL_ind {f : D → Store → Out (Option D)} {P : Out (List D) → Prop} (I : List D → List D → Store → Prop)
    (h1 : ∀ d ds acc S, I (d :: ds) acc S → ∃ o S1, f d S = .ok o S1 ∧ I ds (acc ++ o.toList) S1) : ∀ (xs : List D) (acc : List D) (S : Store), I xs acc S → ∃ ys S1, compL f xs S = .ok ys S1 ∧ I [] (acc ++ ys) S1
  | [], acc, S, h => ⟨[], S, by rw [compL], by simpa using h⟩
  | d :: ds, acc, S, h => by
    obtain ⟨o, S1, e, q⟩ := h1 d ds acc S h
    obtain ⟨ys, S2, e2, q2⟩ := compL_ind (P := P) I h1 ds _ _ q
    refine ⟨o.toList ++ ys, S2, ?_, by simpa using q2⟩
    rw [compL, e, Out.noex_ok, Out.bind_ok, e2, Out.bind_ok]
    cases o <;> rfl
/-! a while by a measure -/
theorem whileN_ok {S0 : Store} {kill : List Nat} {c : Env → Store → Out RV} {b : Env → Store → Out Fl} (P : Out Fl → Prop) (hP : ¬ P .bad) (I : Nat → Env → Store → Prop)
    (h : ∀ m r S, I m r S → (∃ S1, c r S = .ok (.val (.bl false)) S1 ∧ P (.ok (.nx r) S1)) ∨ ∃ S1, c r S = .ok (.val (.bl true)) S1 ∧
      ((∃ m' r1 S2, m' < m ∧ (b r S1 = .ok (.nx r1) S2 ∨ b r S1 = .ok (.ct r1) S2) ∧ I m' (wipeE r1 kill) (gcS S0 (wipeE r1 kill) S2)) ∨ (∃ r1 S2, b r S1 = .ok (.bk r1) S2 ∧ P (.ok (.nx r1) S2)) ∨ (∃ v S2, b r S1 = .ok (.rt v) S2 ∧ P (.ok (.rt v) S2)) ∨ (∃ k fs r1 S2, b r S1 = .ex k fs r1 S2 ∧ P (.ex k fs r1 S2)))) :
    ∀ (m : Nat) (r : Env) (S : Store), I m r S → ∃ n, P (whileN S0 kill c b n r S) := by
  intro m
  induction m using Nat.strongRecOn with
  | ind m ih =>
    intro r S hI
    rcases h m r S hI with ⟨S1, e, q⟩ | ⟨S1, e, q⟩
    · exact ⟨1, by rw [whileN, e]; exact q⟩
    · rcases q with ⟨m', r1, S2, hm, e2 | e2, q⟩ | ⟨r1, S2, e2, q⟩ | ⟨v, S2, e2, q⟩ | ⟨k, fs, r1, S2, e2, q⟩
      · obtain ⟨n, hn⟩ := ih m' hm _ _ q
        exact ⟨n + 1, by rw [whileN, e]; simp only [Out.bindD_val]; rw [e2]; exact hn⟩
      · obtain ⟨n, hn⟩ := ih m' hm _ _ q
        exact ⟨n + 1, by rw [whileN, e]; simp only [Out.bindD_val]; rw [e2]; exact hn⟩
      · exact ⟨1, by rw [whileN, e]; simp only [Out.bindD_val]; rw [e2]; exact q⟩
      · exact ⟨1, by rw [whileN, e]; simp only [Out.bindD_val]; rw [e2]; exact q⟩
      · exact ⟨1, by rw [whileN, e]; simp only [Out.bindD_val]; rw [e2]; exact q⟩
theorem bind_mono {α β : Type} {o o' : Out α} {f f' : α → Store → Out β} (h : o ≠ .bad → o' = o) (hf : ∀ a S, f a S ≠ .bad → f' a S = f a S) (hb : o.bind f ≠ .bad) : o'.bind f' = o.bind f := by
  cases o with
  | bad => exact absurd rfl hb
  | ex c fs r S => rw [h nofun]; rfl
  | ok a S => rw [h nofun]; exact hf a S hb
theorem whileN_mono {S0 : Store} {kill : List Nat} {c : Env → Store → Out RV} {b : Env → Store → Out Fl} : ∀ {n : Nat} {r : Env} {S : Store}, whileN S0 kill c b n r S ≠ .bad → ∀ k, whileN S0 kill c b (n + k) r S = whileN S0 kill c b n r S
  | 0, r, S, h, k => absurd (by rw [whileN]) h
  | n + 1, r, S, h, k => by
    rw [show n + 1 + k = (n + k) + 1 by omega]
    rw [whileN] at h
    rw [whileN, whileN]
    refine bind_mono (fun _ => rfl) (fun d S1 h1 => ?_) h
    dsimp only at h1 ⊢
    split at h1
    · refine bind_mono (fun _ => rfl) (fun o S2 h2 => ?_) h1
      split at h2
      · exact whileN_mono h2 k
      · exact whileN_mono h2 k
      · rfl
      · rfl
    · rfl
    · rfl
theorem whileL_ok {S0 : Store} {kill : List Nat} {c : Env → Store → Out RV} {b : Env → Store → Out Fl} {r : Env} {S : Store} {P : Out Fl → Prop} (hP : ¬ P .bad) (h : ∃ n, P (whileN S0 kill c b n r S)) : P (whileL S0 kill c b r S) := by
  obtain ⟨n, hn⟩ := h
  have hb : whileN S0 kill c b n r S ≠ .bad := fun e => hP (by rw [e] at hn; exact hn)
  have hex : ∃ n, whileN S0 kill c b n r S ≠ .bad := ⟨n, hb⟩
  unfold whileL
  rw [dif_pos hex]
  have h2 := Classical.choose_spec hex
  rw [← whileN_mono h2 n, Nat.add_comm, whileN_mono hb]
  exact hn
theorem while_ind {S0 : Store} {kill : List Nat} {c : Env → Store → Out RV} {b : Env → Store → Out Fl} (P : Out Fl → Prop) (hP : ¬ P .bad) (I : Nat → Env → Store → Prop)
    (h : ∀ m r S, I m r S → (∃ S1, c r S = .ok (.val (.bl false)) S1 ∧ P (.ok (.nx r) S1)) ∨ ∃ S1, c r S = .ok (.val (.bl true)) S1 ∧
      ((∃ m' r1 S2, m' < m ∧ (b r S1 = .ok (.nx r1) S2 ∨ b r S1 = .ok (.ct r1) S2) ∧ I m' (wipeE r1 kill) (gcS S0 (wipeE r1 kill) S2)) ∨ (∃ r1 S2, b r S1 = .ok (.bk r1) S2 ∧ P (.ok (.nx r1) S2)) ∨ (∃ v S2, b r S1 = .ok (.rt v) S2 ∧ P (.ok (.rt v) S2)) ∨ (∃ k fs r1 S2, b r S1 = .ex k fs r1 S2 ∧ P (.ex k fs r1 S2))))
    {m : Nat} {r : Env} {S : Store} (hI : I m r S) : P (whileL S0 kill c b r S) := whileL_ok hP (whileN_ok P hP I h m r S hI)
end Fc

end
section
set_option autoImplicit false
set_option maxHeartbeats 4000000
/-! values: operators, places, slices -/
namespace Fc
open PySem
section
variable (S : Store) (i j : Int) (x y : Str) (xs ys : List D)
@[simp] theorem yb_add : evBin .Add (.int i) (.int j) S = .ok (.val (.int (i + j))) S := rfl
@[simp] theorem yb_sub : evBin .Sub (.int i) (.int j) S = .ok (.val (.int (i - j))) S := rfl
@[simp] theorem yb_mod : evBin .Mod (.int i) (.int j) S = if 0 < j then .ok (.val (.int (i % j))) S else .bad := rfl
@[simp] theorem yb_fdiv : evBin .FloorDiv (.int i) (.int j) S = if 0 < j ∧ j < 1073741824 then .ok (.val (.int (i / j))) S else .bad := rfl
@[simp] theorem yb_mul : evBin .Mult (.int i) (.int j) S = if small64 i ∨ small64 j then .ok (.val (.int (i * j))) S else .bad := rfl
@[simp] theorem yb_pow : evBin .Pow (.int i) (.int j) S = if 0 ≤ j ∧ j ≤ 1000000 ∧ i.natAbs < 18446744073709551616 then .ok (.val (.int (i ^ j.toNat))) S else .bad := rfl
@[simp] theorem yb_addT : evBin .Add (.tup xs) (.tup ys) S = if xs.length + ys.length ≤ 16777216 then .ok (.val (.tup (xs ++ ys))) S else .bad := rfl
@[simp] theorem yb_addL : evBin .Add (.lst xs) (.lst ys) S = if xs.length + ys.length ≤ 16777216 then .ok (.tl (xs ++ ys)) S else .bad := rfl
@[simp] theorem yb_addS : evBin .Add (.str x) (.str y) S = if x.length + y.length ≤ 16777216 then .ok (.val (.str (x ++ y))) S else .bad := rfl
@[simp] theorem yb_mulT : evBin .Mult (.tup xs) (.int j) S = if 1 ≤ j ∧ j ≤ 1000 ∧ xs.length ≤ 1000 then .ok (.val (.tup (List.replicate j.toNat xs).flatten)) S else .bad := rfl
@[simp] theorem yb_mulL : evBin .Mult (.lst xs) (.int j) S = if 0 ≤ j ∧ xs.length * j.toNat ≤ 16777216 ∧ j ≤ 16777216 then .ok (.tl (List.replicate j.toNat xs).flatten) S else .bad := rfl
@[simp] theorem yc_lt : evCmp .Lt (.int i) (.int j) S = .ok (.val (.bl (decide (i < j)))) S := rfl
@[simp] theorem yc_le : evCmp .LtE (.int i) (.int j) S = .ok (.val (.bl (decide (i ≤ j)))) S := rfl
@[simp] theorem yc_gt : evCmp .Gt (.int i) (.int j) S = .ok (.val (.bl (decide (j < i)))) S := rfl
@[simp] theorem yc_ge : evCmp .GtE (.int i) (.int j) S = .ok (.val (.bl (decide (j ≤ i)))) S := rfl
@[simp] theorem yc_eqS : evCmp .Eq (.str x) (.str y) S = .ok (.val (.bl (decide (x = y)))) S := rfl
@[simp] theorem yc_neS : evCmp .NotEq (.str x) (.str y) S = .ok (.val (.bl (!decide (x = y)))) S := rfl
theorem shaped0 {d : PyData} (h : d.canLay0 = true) (hd : d.depth ≤ 64) : SeqAt.shaped d = true := by
  unfold SeqAt.shaped
  rw [h, decide_eq_true hd]
  rfl
@[simp] theorem okD_int : okD (.int i) = true := by
  unfold okD
  rw [shaped0 (by simp [D.py, PyData.canLay0]) (by simp [D.py, PyData.depth])]
  rfl
@[simp] theorem okD_bl (b : Bool) : okD (.bl b) = true := by
  unfold okD
  rw [shaped0 (by simp [D.py, PyData.canLay0]) (by simp [D.py, PyData.depth])]
  rfl
@[simp] theorem okD_non : okD .non = true := by
  unfold okD
  rw [shaped0 (by simp [D.py, PyData.canLay0]) (by simp [D.py, PyData.depth])]
  rfl
@[simp] theorem yc_eq : evCmp .Eq (.int i) (.int j) S = .ok (.val (.bl (decide (i = j)))) S := by
  show (if okD (.int i) = true ∧ okD (.int j) = true then Out.ok (RV.val (D.bl (PyData.eqv (.int i) (.int j)))) S else .bad) = _
  rw [if_pos ⟨okD_int i, okD_int j⟩]
  simp [PyData.eqv]
  rfl
@[simp] theorem yc_ne : evCmp .NotEq (.int i) (.int j) S = .ok (.val (.bl (!decide (i = j)))) S := by
  show (if okD (.int i) = true ∧ okD (.int j) = true then Out.ok (RV.val (D.bl (!PyData.eqv (.int i) (.int j)))) S else .bad) = _
  rw [if_pos ⟨okD_int i, okD_int j⟩]
  simp [PyData.eqv]
  rfl
end
section
variable {α : Type} (xs : List α)
theorem ixN_nat (n k : Nat) : L2.ixN n (k : Int) = if k < n then some k else none := by
  unfold L2.ixN
  rw [if_pos (by omega)]
  by_cases h : k < n
  · rw [if_pos (by omega), if_pos h, Int.toNat_natCast]
  · rw [if_neg (by omega), if_neg h]
theorem atI_cast (k : Nat) : L2.atI xs (k : Int) = xs[k]? := by
  unfold L2.atI
  rw [ixN_nat]
  by_cases h : k < xs.length
  · rw [if_pos h]; rfl
  · rw [if_neg h, List.getElem?_eq_none (by omega)]; rfl
@[simp] theorem atI_0 : L2.atI xs 0 = xs[0]? := atI_cast xs 0
@[simp] theorem atI_1 : L2.atI xs 1 = xs[1]? := atI_cast xs 1
@[simp] theorem atI_2 : L2.atI xs 2 = xs[2]? := atI_cast xs 2
@[simp] theorem atI_3 : L2.atI xs 3 = xs[3]? := atI_cast xs 3
theorem atI_ix {i : Int} (h : 0 ≤ i) : L2.atI xs i = xs[i.toNat]? := by
  have := atI_cast xs i.toNat
  rwa [Int.toNat_of_nonneg h] at this
@[simp] theorem cut_all : cut xs none none = xs := by simp [cut, HT.sIx]
theorem cut_to {k : Int} (h : 0 ≤ k) : cut xs none (some k) = xs.take k.toNat := by
  unfold cut HT.sIx
  dsimp only
  rw [if_neg (by omega)]
  simp only [List.drop_zero, Nat.sub_zero]
  rw [List.take_eq_take_iff]
  omega
theorem cut_from {k : Int} (h : 0 ≤ k) : cut xs (some k) none = xs.drop k.toNat := by
  unfold cut HT.sIx
  dsimp only
  rw [if_neg (by omega)]
  rw [List.take_of_length_le (by simp)]
  by_cases q : k.toNat ≤ xs.length
  · rw [Nat.min_eq_left q]
  · rw [Nat.min_eq_right (by omega), List.drop_length, List.drop_eq_nil_of_le (by omega)]
theorem cut_mid {j k : Int} (hj : 0 ≤ j) (h : 0 ≤ k) : cut xs (some j) (some k) = (xs.drop j.toNat).take (k.toNat - j.toNat) := by
  unfold cut HT.sIx
  dsimp only
  rw [if_neg (by omega), if_neg (by omega)]
  by_cases q : j.toNat ≤ xs.length
  · rw [Nat.min_eq_left q, List.take_eq_take_iff, List.length_drop]
    omega
  · have e : min j.toNat xs.length = xs.length := Nat.min_eq_right (by omega)
    rw [e, List.drop_length, List.drop_eq_nil_of_le (by omega)]
    simp
end
@[simp] theorem look_lst (xs : List D) (S : Store) : (D.lst xs).look S = .lst xs := rfl
@[simp] theorem look_tup (xs : List D) (S : Store) : (D.tup xs).look S = .tup xs := rfl
@[simp] theorem look_int (i : Int) (S : Store) : (D.int i).look S = .int i := rfl
@[simp] theorem look_bl (b : Bool) (S : Store) : (D.bl b).look S = .bl b := rfl
@[simp] theorem look_str (x : Str) (S : Store) : (D.str x).look S = .str x := rfl
@[simp] theorem look_non (S : Store) : D.non.look S = .non := rfl
@[simp] theorem look_dic (t : Bool) (x y : List D) (S : Store) : (D.dic t x y).look S = .dic t x y := rfl
@[simp] theorem yat_tup (xs : List D) (i : Int) (S : Store) : evIx (.tup xs) (.int i) S = match L2.atI xs i with
    | some d => .ok (.val d) S
    | none => .bad := rfl
@[simp] theorem yat_lst (xs : List D) (i : Int) (S : Store) : evIx (.lst xs) (.int i) S = match L2.atI xs i with
    | some d => .ok (.val d) S
    | none => .bad := rfl
@[simp] theorem yat_scr (ns : List Int) (i : Int) (S : Store) : evIx (.scr ns) (.int i) S = match L2.atI (ns.map D.int) i with
    | some d => .ok (.val d) S
    | none => .bad := rfl
@[simp] theorem yat_dic (t : Bool) (ks vs : List D) (k : D) (S : Store) : evIx (.dic t ks vs) k S = if fitK t k = true then (match dgetL ks vs k with
    | some v => .ok (.val v) S
    | none => .bad) else .bad := rfl
@[simp] theorem yat_dil (t : Bool) (ks vs : List D) (k : D) (S : Store) : evIx (.dil t ks vs) k S = if fitK t k = true then (match dgetL ks vs k with
    | some v => .ok (.val v) S
    | none => .bad) else .bad := rfl
theorem yat_ref {l : Nat} {S : Store} {xs : List D} (h : S[l]? = some (.lst xs)) (i : Int) : evIx (.ref l) (.int i) S = match L2.atI xs i with
    | some d => .ok (.val d) S
    | none => .bad := by
  unfold evIx dicM
  dsimp only
  rw [h]
  show (match seqL S (.ref l) with
    | some xs => (match L2.atI xs i with
      | some d => Out.ok (RV.val d) S
      | none => .bad)
    | none => .bad) = _
  rw [seqL_ref h]
theorem dicM_ref {l : Nat} {S : Store} {t : Bool} {ks vs : List D} (h : S[l]? = some (.dic t ks vs)) : dicM S (.ref l) = some (t, ks, vs) := by
  unfold dicM
  dsimp only
  rw [h]
theorem yat_dref {l : Nat} {S : Store} {t : Bool} {ks vs : List D} (h : S[l]? = some (.dic t ks vs)) (k : D) : evIx (.ref l) k S = if fitK t k = true then (match dgetL ks vs k with
    | some v => .ok (.val v) S
    | none => .bad) else .bad := by
  unfold evIx evDGet
  rw [dicM_ref h]
  first | done | rfl
theorem yin_dref {l : Nat} {S : Store} {t : Bool} {ks vs : List D} (h : S[l]? = some (.dic t ks vs)) {k : D} (hk : fitK t k = true) : evCmp .In k (.ref l) S = .ok (.val (.bl (dgetL ks vs k).isSome)) S := by
  show evIn k (.ref l) S = _
  unfold evIn evIn1
  rw [dicM_ref h]
  dsimp only
  rw [if_pos hk]
theorem ynotin_dref {l : Nat} {S : Store} {t : Bool} {ks vs : List D} (h : S[l]? = some (.dic t ks vs)) {k : D} (hk : fitK t k = true) : evCmp .NotIn k (.ref l) S = .ok (.val (.bl (!(dgetL ks vs k).isSome))) S := by
  show evNotIn k (.ref l) S = _
  unfold evNotIn evIn1
  rw [dicM_ref h]
  dsimp only
  rw [if_pos hk]
theorem ydset_ref {l : Nat} {S : Store} {t : Bool} {ks vs : List D} (h : S[l]? = some (.dic t ks vs)) {k : D} (hk : fitK t k = true) (hl : vs.length < 16777216) (x : D) : evSet (.ref l) k x S = .ok () (S.set l (.dic t (dputK ks k) (dputV ks vs k x))) := by
  unfold evSet
  dsimp only
  rw [h]
  dsimp only
  rw [if_pos ⟨hk, hl⟩]
@[simp] theorem fitK_int (i : Int) : fitK false (.int i) = true := rfl
@[simp] theorem fitK_str (x : Str) : fitK false (.str x) = true := rfl
@[simp] theorem ysl_eq (a : Env → Store → Out RV) (lo hi : Option (Env → Store → Out RV)) (r : Env) (S : Store) : sl2 a lo hi r S = (a r S).bindD fun d S1 => part lo r S1 fun l S2 => part hi r S2 fun u S3 => evSl d l u S3 := rfl
@[simp] theorem ypart_none (r : Env) (S : Store) (k : Option Int → Store → Out RV) : part none r S k = k none S := rfl
@[simp] theorem ypart_some (ev : Env → Store → Out RV) (r : Env) (S : Store) (k : Option Int → Store → Out RV) : part (some ev) r S k = (ev r S).bindD fun d S1 => match d with
    | .int i => k (some i) S1
    | _ => .bad := rfl
@[simp] theorem ysl_tup (xs : List D) (lo hi : Option Int) (S : Store) : evSl (.tup xs) lo hi S = .ok (.val (.tup (cut xs lo hi))) S := rfl
@[simp] theorem ysl_lst (xs : List D) (lo hi : Option Int) (S : Store) : evSl (.lst xs) lo hi S = .ok (.tl (cut xs lo hi)) S := rfl
@[simp] theorem ysl_scr (ns : List Int) (lo hi : Option Int) (S : Store) : evSl (.scr ns) lo hi S = .ok (.tl (cut (ns.map D.int) lo hi)) S := rfl
@[simp] theorem ylen_tup (xs : List D) (S : Store) : Bi.len.ev [.tup xs] S = .ok (.val (.int xs.length)) S := rfl
@[simp] theorem ylen_lst (xs : List D) (S : Store) : Bi.len.ev [.lst xs] S = .ok (.val (.int xs.length)) S := rfl
@[simp] theorem ylen_scr (ns : List Int) (S : Store) : Bi.len.ev [.scr ns] S = .ok (.val (.int ns.length)) S := by
  show Out.ok (RV.val (.int ((ns.map D.int).length : Nat))) S = _
  rw [List.length_map]
theorem ylen_ref {l : Nat} {S : Store} {xs : List D} (h : S[l]? = some (.lst xs)) : Bi.len.ev [.ref l] S = .ok (.val (.int xs.length)) S := by
  show (match seqL S (.ref l) with
    | some xs => Out.ok (RV.val (D.int xs.length)) S
    | none => .bad) = _
  rw [seqL_ref h]
@[simp] theorem yabs (i : Int) (S : Store) : Bi.abs.ev [.int i] S = .ok (.val (.int (if i < 0 then -i else i))) S := rfl
@[simp] theorem ydivmod (i j : Int) (S : Store) : Bi.divmod.ev [.int i, .int j] S = if 0 < j ∧ j < 1073741824 then .ok (.val (.pr [.int (i / j), .int (i % j)])) S else .bad := rfl
@[simp] theorem ymax (i j : Int) (S : Store) : Bi.max.ev [.int i, .int j] S = .ok (.val (.int (max i j))) S := by
  show Out.ok (RV.val (.int (if j > i then j else i))) S = _
  congr 3
  split <;> omega
@[simp] theorem ymin (i j : Int) (S : Store) : Bi.min.ev [.int i, .int j] S = .ok (.val (.int (min i j))) S := by
  show Out.ok (RV.val (.int (if j < i then j else i))) S = _
  congr 3
  split <;> omega
@[simp] theorem ymin_lst (ns : List Int) (S : Store) : Bi.min.ev [.lst (ns.map D.int)] S = match minI ns with
    | some m => .ok (.val (.int m)) S
    | none => .bad := by
  have e : ((some (ns.map D.int)).bind intsOf) = some ns := by rw [Option.bind_some, intsOf_map]
  show (match (some (ns.map D.int)).bind intsOf with
    | some ns => (match minI ns with
      | some m => Out.ok (RV.val (D.int m)) S
      | none => .bad)
    | none => (match some (ns.map D.int) with
      | some (x :: xs) => if srtOk (x :: xs) = true then .ok (.val (minF x xs)) S else .bad
      | _ => .bad)) = _
  rw [e]
@[simp] theorem ymin_tup (ns : List Int) (S : Store) : Bi.min.ev [.tup (ns.map D.int)] S = match minI ns with
    | some m => .ok (.val (.int m)) S
    | none => .bad := by
  have e : ((some (ns.map D.int)).bind intsOf) = some ns := by rw [Option.bind_some, intsOf_map]
  show (match (some (ns.map D.int)).bind intsOf with
    | some ns => (match minI ns with
      | some m => Out.ok (RV.val (D.int m)) S
      | none => .bad)
    | none => (match some (ns.map D.int) with
      | some (x :: xs) => if srtOk (x :: xs) = true then .ok (.val (minF x xs)) S else .bad
      | _ => .bad)) = _
  rw [e]
@[simp] theorem ysorted_lst (xs : List D) (S : Store) : Bi.sorted.ev [.lst xs] S = if srtOk xs = true then .ok (.tl (sortD xs)) S else .bad := rfl
@[simp] theorem ysorted_tup (xs : List D) (S : Store) : Bi.sorted.ev [.tup xs] S = if srtOk xs = true then .ok (.tl (sortD xs)) S else .bad := rfl
theorem dicM_lst {l : Nat} {S : Store} {xs : List D} (h : S[l]? = some (.lst xs)) : dicM S (.ref l) = none := by
  unfold dicM
  dsimp only
  rw [h]
theorem dicM_dic {l : Nat} {S : Store} {t : Bool} {ks vs : List D} (h : S[l]? = some (.dic t ks vs)) : dicM S (.ref l) = some (t, ks, vs) := by
  unfold dicM
  dsimp only
  rw [h]
theorem ysorted_ref {l : Nat} {S : Store} {xs : List D} (h : S[l]? = some (.lst xs)) : Bi.sorted.ev [.ref l] S = if srtOk xs = true then .ok (.tl (sortD xs)) S else .bad := by
  show evSortedA [.ref l] S = _
  unfold evSortedA
  dsimp only
  rw [dicM_lst h]
  show (match seqM S (.ref l) with
    | some xs => if srtOk xs = true then Out.ok (RV.tl (sortD xs)) S else .bad
    | none => .bad) = _
  rw [seqM_ref h]
theorem ysorted_dic {l : Nat} {S : Store} {ns : List Int} {vs : List D} (h : S[l]? = some (.dic false (ns.map D.int) vs)) (hl : ns.length < 64) : Bi.sorted.ev [.ref l] S = .ok (.tl (sortD (ns.map D.int))) S := by
  show evSortedA [.ref l] S = _
  unfold evSortedA
  dsimp only
  rw [dicM_dic h]
  dsimp only
  rw [intsOf_map]
  dsimp only
  rw [if_pos hl]
@[simp] theorem ydict_lst (xs : List D) (S : Store) : Bi.dict.ev [.lst xs] S = match pairsOf xs with
    | some ps => .ok (.td false (mergeD ps [] []).1 (mergeD ps [] []).2) S
    | none => .bad := rfl
@[simp] theorem yext2 (a e : Env → Store → Out RV) (r : Env) (S : Store) : evExt2 a e r S = (a r S).bindD fun d S1 => match seqM S1 d with
  | some _ => (e r S1).bindD fun x S2 => evExt d x S2
  | none => .bad := rfl
theorem yext_ref {l : Nat} {S : Store} {xs ys : List D} {x : D} (h : S[l]? = some (.lst xs)) (hx : seqTL S x = some ys) (hl : xs.length + ys.length ≤ 16777216) : evExt (.ref l) x S = .ok (.val .non) (S.set l (.lst (xs ++ ys))) := by
  unfold evExt
  dsimp only
  rw [h, hx]
  dsimp only
  rw [if_pos hl]
@[simp] theorem yget2 (a k x : Env → Store → Out RV) (r : Env) (S : Store) : evGet2 a k x r S = (a r S).bindD fun d S1 => match dicM S1 d with
  | some _ => (k r S1).bindD fun y S2 => (x r S2).bindD fun z S3 => evGet d y z S3
  | none => .bad := rfl
theorem yget_ref {l : Nat} {S : Store} {t : Bool} {ks vs : List D} {k x : D} (h : S[l]? = some (.dic t ks vs)) (hk : fitK t k = true) : evGet (.ref l) k x S = .ok (.val ((dgetL ks vs k).getD x)) S := by
  unfold evGet
  rw [dicM_dic h]
  dsimp only
  rw [if_pos hk]
@[simp] theorem ydic1 (k v : Env → Store → Out RV) (r : Env) (S : Store) : evDic1 k v r S = (k r S).bindD fun y S1 => (v r S1).bindD fun z S2 => if (keyD y).isSome then .ok (.td false [y] [z]) S2 else .bad := rfl
@[simp] theorem keyD_int (i : Int) : keyD (.int i) = some (.inl i) := rfl
@[simp] theorem yrng (t : Bool) (n : Int) (S : Store) : evRng t (.int n) S = if n ≤ 16777216 ∧ -16777216 ≤ n then (match t with
    | true => .bad
    | false => .ok (.tl ((List.range n.toNat).map fun (i : Nat) => D.int i)) S) else .bad := Eq.trans (Eq.refl (evRng t (.int n) S)) (by unfold evRng; rfl)
@[simp] theorem keysF_dil (ks vs : List D) : keysF (.dil false ks vs) = if ks.length ≤ 16777216 then some ks else none := rfl
@[simp] theorem ytuple_lst (xs : List D) (S : Store) : Bi.tuple.ev [.lst xs] S = .ok (.val (.tup xs)) S := rfl
@[simp] theorem ytuple_tup (xs : List D) (S : Store) : Bi.tuple.ev [.tup xs] S = .ok (.val (.tup xs)) S := rfl
theorem ytuple_ref {l : Nat} {S : Store} {xs : List D} (h : S[l]? = some (.lst xs)) : Bi.tuple.ev [.ref l] S = .ok (.val (.tup xs)) S := by
  show (match seqL S (.ref l) with
    | some xs => Out.ok (RV.val (D.tup xs)) S
    | none => .bad) = _
  rw [seqL_ref h]
@[simp] theorem ylist_tup (xs : List D) (S : Store) : Bi.list.ev [.tup xs] S = .ok (.tl xs) S := rfl
@[simp] theorem ylist_lst (xs : List D) (S : Store) : Bi.list.ev [.lst xs] S = .ok (.tl xs) S := rfl
@[simp] theorem yall (bs : List Bool) (S : Store) : Bi.all.ev [.lst (bs.map D.bl)] S = .ok (.val (.bl (bs.all id))) S := by
  simp [Bi.ev, evAll]
@[simp] theorem yrepr (d : D) (S : Store) : Bi.repr.ev [d] S = if rprOk (d.look S) = true then .ok (.val (.str (d.look S).rp.shown)) S else .bad := rfl
@[simp] theorem ynew_tl (xs : List D) (S : Store) : evNew (.tl xs) S = .ok (.val (.ref S.length)) (S ++ [.lst xs]) := rfl
@[simp] theorem ynew_td (t : Bool) (ks vs : List D) (S : Store) : evNew (.td t ks vs) S = .ok (.val (.ref S.length)) (S ++ [.dic t ks vs]) := rfl
@[simp] theorem yapp2 (a e : Env → Store → Out RV) (r : Env) (S : Store) : evApp2 a e r S = (a r S).bindD fun d S1 => match seqM S1 d with
  | some _ => (e r S1).bindD fun x S2 => evApp d x S2
  | none => .bad := rfl
theorem yapp_ref {l : Nat} {S : Store} {xs : List D} (h : S[l]? = some (.lst xs)) (hl : xs.length < 16777216) (x : D) : evApp (.ref l) x S = .ok (.val .non) (S.set l (.lst (xs ++ [x]))) := by
  unfold evApp
  dsimp only
  rw [h]
  dsimp only
  rw [if_pos hl]
@[simp] theorem seqF_tup (xs : List D) : seqF (.tup xs) = some xs := rfl
@[simp] theorem seqF_lst (xs : List D) : seqF (.lst xs) = some xs := rfl
theorem yset_ref {l : Nat} {S : Store} {xs : List D} (h : S[l]? = some (.lst xs)) (k : Nat) (hk : k < xs.length) (x : D) : evSet (.ref l) (.int k) x S = .ok () (S.set l (.lst (xs.set k x))) := by
  unfold evSet
  dsimp only
  rw [h]
  dsimp only
  rw [ixN_nat, if_pos hk]
theorem gcS_cut {S0 S : Store} {r : Env} (hb : envB S0.length r = true) (ho : OldOk S0 S) : gcS S0 r S = S.take S0.length := by
  unfold gcS
  split
  · rename_i h
    rw [List.take_of_length_le h]
  · rw [if_pos ⟨hb, ho⟩]
theorem oldOk_nil {S : Store} : OldOk [] S := fun i o h => absurd h (Nat.not_lt_zero _)
theorem bindD_rv {β : Type} (rv : RV) (S : Store) (k : D → Store → Out β) : (Out.ok rv S).bindD k = k rv.toD S := rfl
theorem of_bindD {o : Out RV} {d : D} {S : Store} (h : o.bindD (fun d S => Out.ok d S) = .ok d S) : ∃ rv, o = .ok rv S ∧ rv.toD = d := by
  cases o with
  | ok rv S1 => cases h; exact ⟨rv, rfl, rfl⟩
  | ex c fs r S1 => cases h
  | bad => cases h
/-- enumerate from k on -/
def pairsF : Nat → List D → List D
  | _, [] => []
  | k, d :: ds => .pr [.int (k : Nat), d] :: pairsF (k + 1) ds
theorem pairsF_eq : ∀ (ds : List D) (k : Nat), (ds.mapIdx fun i x => D.pr [.int ((i + k : Nat) : Int), x]) = pairsF k ds
  | [], _ => by simp [pairsF]
  | d :: ds, k => by
    rw [List.mapIdx_cons, pairsF, ← pairsF_eq ds (k + 1)]
    simp only [Nat.zero_add, List.cons.injEq, true_and]
    congr 1
    funext i x
    rw [show i + 1 + k = i + (k + 1) by omega]
@[simp] theorem pairsE_F (ds : List D) : pairsE ds = pairsF 0 ds := pairsF_eq ds 0
theorem pairsF_mem {ds : List D} {k : Nat} {d : D} (h : d ∈ pairsF k ds) : ∃ i x, d = .pr [.int ((k + i : Nat) : Int), x] ∧ ds[i]? = some x := by
  induction ds generalizing k with
  | nil => simp [pairsF] at h
  | cons a r ih =>
    rw [pairsF] at h
    rcases List.mem_cons.mp h with rfl | h
    · exact ⟨0, a, rfl, rfl⟩
    · obtain ⟨i, x, rfl, h2⟩ := ih h
      exact ⟨i + 1, x, by rw [show k + (i + 1) = k + 1 + i by omega], by simpa using h2⟩
def Out.stops : Out Fl → Bool
  | .ok (.rt _) _ => true
  | .ex .. => true
  | _ => false
/-- a for that looks for a place to stop at, and changes nothing else -/
theorem forL_search {S0 : Store} {kill : List Nat} {f : D → Env → Store → Out Fl} {r : Env} {S : Store} (ex : D → Option (Out Fl)) (hg : S.length ≤ S0.length) : ∀ xs : List D,
    (∀ d ∈ xs, match ex d with
      | none => ∃ r1, (f d r S = .ok (.nx r1) S ∨ f d r S = .ok (.ct r1) S) ∧ wipeE r1 kill = r
      | some o => f d r S = o ∧ o.stops = true) →
    forL S0 kill f xs r S = (xs.findSome? ex).getD (.ok (.nx r) S)
  | [], _ => by rw [forL]; rfl
  | d :: ds, h => by
    rw [forL]
    have h1 := h d (by simp)
    rw [List.findSome?_cons]
    cases e : ex d with
    | none =>
      rw [e] at h1
      obtain ⟨r1, h2 | h2, h3⟩ := h1
      · rw [h2]
        show forL S0 kill f ds (wipeE r1 kill) (gcS S0 (wipeE r1 kill) S) = _
        rw [h3, gcS_same hg]
        exact forL_search ex hg ds fun d hd => h d (by simp [hd])
      · rw [h2]
        show forL S0 kill f ds (wipeE r1 kill) (gcS S0 (wipeE r1 kill) S) = _
        rw [h3, gcS_same hg]
        exact forL_search ex hg ds fun d hd => h d (by simp [hd])
    | some o =>
      rw [e] at h1
      obtain ⟨h2, h3⟩ := h1
      rw [h2]
      cases o with
      | ok fl S1 =>
        cases fl <;> first | rfl | cases h3
      | ex c fs r1 S1 => rfl
      | bad => cases h3
/-- the first place from k on where p fails -/
def badAt (p : Int → D → Bool) : Nat → List D → Option Nat
  | _, [] => none
  | k, d :: r => if p (k : Nat) d then badAt p (k + 1) r else some k
theorem badAt_none {p : Int → D → Bool} : ∀ {xs : List D} {k : Nat}, badAt p k xs = none ↔ ∀ (i : Nat) (x : D), xs[i]? = some x → p ((k + i : Nat) : Int) x = true
  | [], k => by simp [badAt]
  | d :: r, k => by
    rw [badAt]
    by_cases h : p (k : Nat) d = true
    · rw [if_pos h, badAt_none (xs := r) (k := k + 1)]
      constructor
      · intro q i x e
        cases i with
        | zero => simp at e; subst e; exact h
        | succ i => rw [show k + (i + 1) = k + 1 + i by omega]; exact q i x (by simpa using e)
      · intro q i x e
        rw [show k + 1 + i = k + (i + 1) by omega]
        exact q (i + 1) x (by simpa using e)
    · rw [if_neg h]
      constructor
      · intro q; cases q
      · intro q; exact absurd (q 0 d rfl) h
theorem badAt_some {p : Int → D → Bool} : ∀ {xs : List D} {k j : Nat}, badAt p k xs = some j → ∃ i x, j = k + i ∧ xs[i]? = some x ∧ p (j : Nat) x = false
  | [], k, j, h => by cases h
  | d :: r, k, j, h => by
    rw [badAt] at h
    by_cases q : p (k : Nat) d = true
    · rw [if_pos q] at h
      obtain ⟨i, x, rfl, h2, h3⟩ := badAt_some h
      exact ⟨i + 1, x, by omega, by simpa using h2, h3⟩
    · rw [if_neg q] at h
      cases h
      exact ⟨0, d, rfl, rfl, by simpa using q⟩
/-- a for over enumerate that looks for a place to stop at -/
theorem forL_enumF {S0 : Store} {kill : List Nat} {F : D → Env → Store → Out Fl} {r : Env} {S : Store} (p : Int → D → Bool) (f : Int → D → Out Fl) (r1 : Int → D → Env) (hg : S.length ≤ S0.length) : ∀ (xs : List D) (k : Nat),
    (∀ (i : Nat) (x : D), xs[i]? = some x → F (.pr [.int ((k + i : Nat) : Int), x]) r S = (if p ((k + i : Nat) : Int) x then .ok (.nx (r1 ((k + i : Nat) : Int) x)) S else f ((k + i : Nat) : Int) x) ∧ wipeE (r1 ((k + i : Nat) : Int) x) kill = r ∧ (f ((k + i : Nat) : Int) x).stops = true) →
    (∃ i x, badAt p k xs = some (k + i) ∧ xs[i]? = some x ∧ p ((k + i : Nat) : Int) x = false ∧ forL S0 kill F (pairsF k xs) r S = f ((k + i : Nat) : Int) x) ∨ (badAt p k xs = none ∧ forL S0 kill F (pairsF k xs) r S = .ok (.nx r) S)
  | [], k, _ => .inr ⟨rfl, by rw [pairsF, forL]⟩
  | d :: ds, k, h => by
    obtain ⟨h1, h2, h3⟩ := h 0 d rfl
    rw [Nat.add_zero] at h1 h2 h3
    rw [pairsF, forL, badAt]
    by_cases q : p (k : Nat) d = true
    · rw [if_pos q] at h1
      rw [if_pos q, h1]
      show (∃ i x, _ ∧ _ ∧ _ ∧ forL S0 kill F (pairsF (k + 1) ds) (wipeE (r1 (k : Nat) d) kill) (gcS S0 (wipeE (r1 (k : Nat) d) kill) S) = _) ∨ (_ ∧ forL S0 kill F (pairsF (k + 1) ds) (wipeE (r1 (k : Nat) d) kill) (gcS S0 (wipeE (r1 (k : Nat) d) kill) S) = _)
      rw [h2, gcS_same hg]
      rcases forL_enumF p f r1 hg ds (k + 1) (fun i x e => by
        rw [show k + 1 + i = k + (i + 1) by omega]
        exact h (i + 1) x (by simpa using e)) with ⟨i, x, e1, e2, e3, e4⟩ | e
      · rw [show k + 1 + i = k + (i + 1) by omega] at e1 e3 e4
        exact .inl ⟨i + 1, x, e1, by simpa using e2, e3, e4⟩
      · exact .inr e
    · rw [if_neg q] at h1
      rw [if_neg q, h1]
      refine .inl ⟨0, d, rfl, rfl, by simpa using q, ?_⟩
      rw [Nat.add_zero]
      generalize f (k : Nat) d = o at h3
      cases o with
      | ok fl S1 =>
        cases fl <;> first | rfl | cases h3
      | ex c fs r1 S1 => rfl
      | bad => cases h3
theorem forL_enum {S0 : Store} {kill : List Nat} {F : D → Env → Store → Out Fl} {r : Env} {S : Store} (p : Int → D → Bool) (f : Int → D → Out Fl) (r1 : Int → D → Env) (hg : S.length ≤ S0.length) (xs : List D)
    (h : ∀ (i : Nat) (x : D), xs[i]? = some x → F (.pr [.int (i : Int), x]) r S = (if p (i : Int) x then .ok (.nx (r1 (i : Int) x)) S else f (i : Int) x) ∧ wipeE (r1 (i : Int) x) kill = r ∧ (f (i : Int) x).stops = true) :
    (∃ (i : Nat) (x : D), badAt p 0 xs = some i ∧ xs[i]? = some x ∧ p (i : Int) x = false ∧ forL S0 kill F (pairsF 0 xs) r S = f (i : Int) x) ∨ (badAt p 0 xs = none ∧ forL S0 kill F (pairsF 0 xs) r S = .ok (.nx r) S) := by
  have := forL_enumF (S0 := S0) (kill := kill) (F := F) (r := r) (S := S) p f r1 hg xs 0 (fun i x e => by rw [Nat.zero_add]; exact h i x e)
  simpa only [Nat.zero_add] using this
end Fc

end
section
set_option autoImplicit false
set_option maxHeartbeats 4000000
/-! defs: is_within, is_corridor, check_corridors, is_tree -/
namespace Fc
open PySem
def b_is_within_0 : Sts := (.cons (.ret (.andL (.cons (.isi .int (.var 0)) (.cons (.not_ (.isi .bool (.var 0))) (.cons (.cmp2 .LtE .LtE (.var 1) (.var 0) (.var 2)) .nil))))) .nil)
class C_is_within_0 (T : List (Nat × Fd)) : Prop where
  own_is_within_0 : HasD T 0 3 3 b_is_within_0
def b_is_corridor_1 : Sts := (.cons (.ifs (.orL (.cons (.not_ (.isi .tup (.var 0))) (.cons (.cmp .NotEq (.bi .len (.cons (.var 0) .nil)) (.cst (.int 2))) .nil))) (.cons (.ret (.cst (.bl false))) .nil) .nil) (.cons (.ret (.andL (.cons (.call 0 (.cons (.idx (.var 0) (.cst (.int 0))) (.cons (.cst (.int 0)) (.cons (.var 1) .nil)))) (.cons (.call 0 (.cons (.idx (.var 0) (.cst (.int 1))) (.cons (.cst (.int 1)) (.cons (.glb "MAX_LENGTH" (.int 1000000)) .nil)))) .nil)))) .nil))
class C_is_corridor_1 (T : List (Nat × Fd)) : Prop extends C_is_within_0 T where
  own_is_corridor_1 : HasD T 1 2 2 b_is_corridor_1
def b_check_corridors_2 : Sts := (.cons (.ifs (.orL (.cons (.not_ (.isi .tup (.var 0))) (.cons (.cmp .GtE (.bi .len (.cons (.var 0) .nil)) (.glb "MAX_HALLS" (.int 12))) .nil))) (.cons (.rais 3 1 true (.cons (.cst .non) .nil)) .nil) .nil) (.cons (.fors (.tup (.cons (.nm 1) (.cons (.nm 2) .nil))) (.enum (.var 0)) (.cons (.ifs (.not_ (.call 1 (.cons (.var 2) (.cons (.var 1) .nil)))) (.cons (.rais 3 1 true (.cons (.var 1) .nil)) .nil) .nil) .nil) [1, 2]) .nil))
class C_check_corridors_2 (T : List (Nat × Fd)) : Prop extends C_is_corridor_1 T where
  own_check_corridors_2 : HasD T 2 3 1 b_check_corridors_2
def b_is_tree_3 : Sts := (.cons (.try1 (.cons (.expr (.call 2 (.cons (.var 0) .nil))) .nil) [3] (.cons (.ret (.cst (.bl false))) .nil)) (.cons (.ret (.cst (.bl true))) .nil))
class C_is_tree_3 (T : List (Nat × Fd)) : Prop extends C_check_corridors_2 T where
  own_is_tree_3 : HasD T 3 1 1 b_is_tree_3
end Fc

end
section
set_option autoImplicit false
set_option maxHeartbeats 4000000
/-! defs: _law_cell, _law_pool, _law_draw, _law_tree -/
namespace Fc
open PySem
def b_Lcell_4 : Sts := (.cons (.ifs (.cmp .Lt (.var 1) (.bi .len (.cons (.var 0) .nil))) (.cons (.ret (.idx (.var 0) (.var 1))) .nil) .nil) (.cons (.asg (.nm 2) (.bin .Mod (.bin .Mult (.cst (.int 60013)) (.bin .Add (.bin .Add (.bin .Mult (.var 1) (.var 1)) (.bin .Mult (.cst (.int 17)) (.var 1))) (.cst (.int 19)))) (.cst (.int 2147483353)))) (.cons (.fors (.nm 3) (.seq (.slc (.var 0) .none (.some (.cst (.int 3))))) (.cons (.asg (.nm 2) (.bin .Mod (.bin .Add (.bin .Mult (.var 2) (.cst (.int 43019))) (.var 3)) (.cst (.int 2147483353)))) .nil) [3]) (.cons (.ret (.var 2)) .nil))))
class C_Lcell_4 (T : List (Nat × Fd)) : Prop where
  own_Lcell_4 : HasD T 4 4 2 b_Lcell_4
def b_Lpool_5 : Sts := (.cons (.asg (.nm 1) (.ite (.orL (.cons (.cmp .Lt (.var 0) (.cst (.int 0))) (.cons (.cmp .GtE (.var 0) (.bin .Pow (.cst (.int 10)) (.cst (.int 18)))) .nil))) (.bi .abs (.cons (.var 0) .nil)) (.cst (.int 0)))) (.cons (.ret (.lst (.cons (.bin .Mod (.var 0) (.cst (.int 2147483353))) (.cons (.var 1) (.cons (.cst (.int 0)) .nil))))) .nil))
class C_Lpool_5 (T : List (Nat × Fd)) : Prop where
  own_Lpool_5 : HasD T 5 2 1 b_Lpool_5
def b_Ldraw_6 : Sts := (.cons (.asg (.sub (.var 0) (.cst (.int 2))) (.bin .Add (.idx (.var 0) (.cst (.int 2))) (.cst (.int 1)))) (.cons (.asg (.nm 2) (.idx (.var 0) (.cst (.int 0)))) (.cons (.asg (.sub (.var 0) (.cst (.int 0))) (.bin .Mod (.bin .Add (.bin .Add (.bin .Mult (.var 2) (.bin .Add (.bin .Mod (.var 2) (.cst (.int 42013))) (.cst (.int 29009)))) (.bin .Mult (.cst (.int 70019)) (.idx (.var 0) (.cst (.int 2))))) (.cst (.int 11))) (.cst (.int 2147483353)))) (.cons (.ifs (.cmp .Gt (.idx (.var 0) (.cst (.int 1))) (.cst (.int 0))) (.cons (.asg (.tup (.cons (.sub (.var 0) (.cst (.int 1))) (.cons (.nm 3) .nil))) (.bi .divmod (.cons (.idx (.var 0) (.cst (.int 1))) (.cons (.var 1) .nil)))) (.cons (.ret (.var 3)) .nil)) .nil) (.cons (.ret (.bin .Mod (.bin .FloorDiv (.idx (.var 0) (.cst (.int 0))) (.cst (.int 64))) (.var 1))) .nil)))))
class C_Ldraw_6 (T : List (Nat × Fd)) : Prop where
  own_Ldraw_6 : HasD T 6 4 2 b_Ldraw_6
def b_Ltree_7 : Sts := (.cons (.par [2, 3] (.cons (.bin .Add (.cst (.int 1)) (.call 6 (.cons (.var 0) (.cons (.var 1) .nil)))) (.cons (.call 6 (.cons (.var 0) (.cons (.cst (.int 3)) .nil))) .nil))) (.cons (.par [4, 5] (.cons (.idx (.lst (.cons (.cst (.int 1)) (.cons (.cst (.int 9)) (.cons (.bin .Pow (.cst (.int 10)) (.cst (.int 6))) .nil)))) (.call 6 (.cons (.var 0) (.cons (.cst (.int 3)) .nil)))) (.cons (.new (.lst .nil)) .nil))) (.cons (.fors (.nm 6) (.rng (.bin .Sub (.var 2) (.cst (.int 1)))) (.cons (.expr (.app (.var 5) (.tup (.cons (.idx (.lst (.cons (.cst (.int 0)) (.cons (.var 6) (.cons (.call 6 (.cons (.var 0) (.cons (.bin .Add (.var 6) (.cst (.int 1))) .nil))) .nil)))) (.var 3)) (.cons (.bin .Add (.cst (.int 1)) (.call 6 (.cons (.var 0) (.cons (.var 4) .nil)))) .nil))))) .nil) [6]) (.cons (.ret (.bi .tuple (.cons (.var 5) .nil))) .nil))))
class C_Ltree_7 (T : List (Nat × Fd)) : Prop extends C_Ldraw_6 T where
  own_Ltree_7 : HasD T 7 7 2 b_Ltree_7
end Fc

end
section
set_option autoImplicit false
set_option maxHeartbeats 4000000
namespace Fc
open PySem
def b_Lis_tree_8 : Sts := (.cons (.ifs (.orL (.cons (.not_ (.isi .tup (.var 0))) (.cons (.cmp .Gt (.bi .len (.cons (.var 0) .nil)) (.cst (.int 11))) .nil))) (.cons (.ret (.cst (.bl false))) .nil) .nil) (.cons (.fors (.tup (.cons (.nm 1) (.cons (.nm 2) .nil))) (.enum (.var 0)) (.cons (.ifs (.orL (.cons (.not_ (.isi .tup (.var 2))) (.cons (.cmp .NotEq (.bi .len (.cons (.var 2) .nil)) (.cst (.int 2))) .nil))) (.cons (.ret (.cst (.bl false))) .nil) .nil) (.cons (.ifs (.not_ (.bi .all (.cons (.comp (.andL (.cons (.isi .int (.var 3)) (.cons (.not_ (.isi .bool (.var 3))) .nil))) (.nm 3) (.seq (.var 2)) .none [3]) .nil))) (.cons (.ret (.cst (.bl false))) .nil) .nil) (.cons (.ifs (.orL (.cons (.not_ (.cmp2 .LtE .LtE (.cst (.int 0)) (.idx (.var 2) (.cst (.int 0))) (.var 1))) (.cons (.not_ (.cmp2 .LtE .LtE (.cst (.int 1)) (.idx (.var 2) (.cst (.int 1))) (.bin .Pow (.cst (.int 10)) (.cst (.int 6))))) .nil))) (.cons (.ret (.cst (.bl false))) .nil) .nil) .nil))) [1, 2, 3]) (.cons (.ret (.cst (.bl true))) .nil)))
class C_Lis_tree_8 (T : List (Nat × Fd)) : Prop where
  own_Lis_tree_8 : HasD T 8 4 1 b_Lis_tree_8
def b_Ltold_9 : Sts := (.cons (.par [1, 2] (.cons (.call 8 (.cons (.var 0) .nil)) (.cons (.bi .repr (.cons (.var 0) .nil)) .nil))) (.cons (.ret (.andL (.cons (.cmp .Eq (.bi .repr (.cons (.lst (.cons (.call 3 (.cons (.var 0) .nil)) (.cons (.callk 3 [0] .nil (.cons (.var 0) .nil)) .nil))) .nil)) (.bi .repr (.cons (.lst (.cons (.var 1) (.cons (.var 1) .nil))) .nil))) (.cons (.cmp .Eq (.bi .repr (.cons (.var 0) .nil)) (.var 2)) .nil)))) .nil))
class C_Ltold_9 (T : List (Nat × Fd)) : Prop extends C_Lis_tree_8 T, C_is_tree_3 T where
  own_Ltold_9 : HasD T 9 3 1 b_Ltold_9
def b_Lodd_pair_10 : Sts := (.cons (.asg (.nm 2) (.lst (.cons (.cst .non) (.cons (.cst (.int 0)) (.cons (.cst (.str "")) (.cons (.tup .nil) (.cons (.lst .nil) (.cons (.dic0 false) (.cons (.tup (.cons (.cst (.int 0)) .nil)) (.cons (.tup (.cons (.cst (.int 0)) (.cons (.cst (.int 1)) (.cons (.cst (.int 1)) .nil)))) (.cons (.lst (.cons (.cst (.int 0)) (.cons (.cst (.int 1)) .nil))) (.cons (.tup (.cons (.cst (.int 0)) (.cons (.cst (.int 0)) .nil))) (.cons (.tup (.cons (.cst (.int 0)) (.cons (.neg (.cst (.int 1))) .nil))) (.cons (.tup (.cons (.cst (.int 0)) (.cons (.bin .Pow (.cst (.int 10)) (.cst (.int 6))) .nil))) (.cons (.tup (.cons (.cst (.int 0)) (.cons (.bin .Add (.bin .Pow (.cst (.int 10)) (.cst (.int 6))) (.cst (.int 1))) .nil))) (.cons (.tup (.cons (.neg (.cst (.int 1))) (.cons (.cst (.int 1)) .nil))) .nil)))))))))))))))) (.cons (.asg (.nm 2) (.bin .Add (.var 2) (.lst (.cons (.tup (.cons (.var 1) (.cons (.cst (.int 1)) .nil))) (.cons (.tup (.cons (.bin .Add (.var 1) (.cst (.int 1))) (.cons (.cst (.int 1)) .nil))) (.cons (.tup (.cons (.cst (.bl true)) (.cons (.cst (.int 1)) .nil))) (.cons (.tup (.cons (.cst (.bl false)) (.cons (.cst (.int 1)) .nil))) (.cons (.tup (.cons (.cst (.int 0)) (.cons (.cst (.bl true)) .nil))) (.cons (.tup (.cons (.cst (.str "0")) (.cons (.cst (.int 1)) .nil))) (.cons (.tup (.cons (.cst (.int 0)) (.cons (.cst (.str "1")) .nil))) (.cons (.tup (.cons (.cst .non) (.cons (.cst (.int 1)) .nil))) (.cons (.tup (.cons (.cst (.int 0)) (.cons (.cst .non) .nil))) .nil)))))))))))) (.cons (.asg (.nm 2) (.bin .Add (.var 2) (.lst (.cons (.tup (.cons (.tup (.cons (.cst (.int 0)) .nil)) (.cons (.cst (.int 1)) .nil))) (.cons (.tup (.cons (.cst (.int 0)) (.cons (.tup (.cons (.cst (.int 1)) .nil)) .nil))) (.cons (.tup (.cons (.cst (.int 0)) (.cons (.bin .Pow (.cst (.int 10)) (.cst (.int 30))) .nil))) (.cons (.tup (.cons (.lst (.cons (.cst (.int 0)) .nil)) (.cons (.cst (.int 1)) .nil))) (.cons (.tup (.cons (.cst (.int 0)) (.cons (.lst (.cons (.cst (.int 1)) .nil)) .nil))) (.cons (.tup (.cons (.dic0 false) (.cons (.cst (.int 1)) .nil))) .nil))))))))) (.cons (.ret (.idx (.var 2) (.call 6 (.cons (.var 0) (.cons (.cst (.int 29)) .nil))))) .nil))))
class C_Lodd_pair_10 (T : List (Nat × Fd)) : Prop extends C_Ldraw_6 T where
  own_Lodd_pair_10 : HasD T 10 3 2 b_Lodd_pair_10
def b_Lbent_11 : Sts := (.cons (.par [2, 3] (.cons (.call 6 (.cons (.var 0) (.cons (.cst (.int 7)) .nil))) (.cons (.call 6 (.cons (.var 0) (.cons (.bin .Add (.bi .len (.cons (.var 1) .nil)) (.cst (.int 1))) .nil))) .nil))) (.cons (.asg (.nm 4) (.call 10 (.cons (.var 0) (.cons (.var 3) .nil)))) (.cons (.ifs (.cmp .Lt (.var 2) (.cst (.int 3))) (.cons (.ret (.bin .Add (.bin .Add (.slc (.var 1) .none (.some (.var 3))) (.tup (.cons (.var 4) .nil))) (.slc (.var 1) (.some (.bin .Add (.var 3) (.bin .FloorDiv (.var 2) (.cst (.int 2))))) .none))) .nil) .nil) (.cons (.ifs (.cmp .Eq (.var 2) (.cst (.int 3))) (.cons (.ret (.bin .Add (.slc (.var 1) .none (.some (.var 3))) (.slc (.var 1) (.some (.bin .Add (.var 3) (.cst (.int 1)))) .none))) .nil) .nil) (.cons (.ifs (.cmp .Eq (.var 2) (.cst (.int 4))) (.cons (.ret (.idx (.lst (.cons (.rev (.var 1)) (.cons (.bi .list (.cons (.var 1) .nil)) (.cons (.bin .Add (.var 1) (.var 1)) (.cons (.bin .Mult (.var 1) (.cst (.int 12))) .nil))))) (.call 6 (.cons (.var 0) (.cons (.cst (.int 4)) .nil))))) .nil) .nil) (.cons (.ifs (.cmp .Eq (.var 2) (.cst (.int 5))) (.cons (.ret (.tup (.cons (.var 1) .nil))) .nil) .nil) (.cons (.ret (.bin .Add (.bin .Add (.slc (.var 1) .none (.some (.var 3))) (.slc (.var 1) (.some (.var 3)) (.some (.bin .Add (.var 3) (.cst (.int 1)))))) (.slc (.var 1) (.some (.var 3)) .none))) .nil)))))))
class C_Lbent_11 (T : List (Nat × Fd)) : Prop extends C_Lodd_pair_10 T, C_Ldraw_6 T where
  own_Lbent_11 : HasD T 11 5 2 b_Lbent_11
def b_Lby_hand_12 : Sts := (.cons (.asg (.nm 0) (.bi .tuple (.cons (.comp (.tup (.cons (.var 1) (.cons (.cst (.int 1)) .nil))) (.nm 1) (.rng (.cst (.int 12))) .none [1]) .nil))) (.cons (.asg (.nm 2) (.lst (.cons (.tup .nil) (.cons (.slc (.var 0) .none (.some (.cst (.int 11)))) (.cons (.var 0) (.cons (.tup (.cons (.tup (.cons (.cst (.int 0)) (.cons (.bin .Pow (.cst (.int 10)) (.cst (.int 6))) .nil))) .nil)) (.cons (.tup (.cons (.tup (.cons (.cst (.int 0)) (.cons (.bin .Add (.bin .Pow (.cst (.int 10)) (.cst (.int 6))) (.cst (.int 1))) .nil))) .nil)) (.cons (.tup (.cons (.tup (.cons (.cst (.int 0)) (.cons (.cst (.int 0)) .nil))) .nil)) (.cons (.tup (.cons (.tup (.cons (.cst (.int 1)) (.cons (.cst (.int 1)) .nil))) .nil)) (.cons (.tup (.cons (.tup (.cons (.cst (.int 0)) (.cons (.cst (.bl true)) .nil))) .nil)) .nil)))))))))) (.cons (.asg (.nm 2) (.bin .Add (.var 2) (.lst (.cons (.tup (.cons (.tup (.cons (.cst (.bl false)) (.cons (.cst (.int 1)) .nil))) .nil)) (.cons (.cst .non) (.cons (.cst (.bl true)) (.cons (.cst (.int 0)) (.cons (.cst (.int 1)) (.cons (.cst (.str "")) (.cons (.cst (.str "a")) (.cons (.lst .nil) (.cons (.dic0 false) (.cons (.lst (.cons (.tup (.cons (.cst (.int 0)) (.cons (.cst (.int 1)) .nil))) .nil)) (.cons (.tup (.cons (.tup (.cons (.cst (.int 0)) (.cons (.cst (.int 1)) .nil))) (.cons (.cst .non) .nil))) (.cons (.tup (.cons (.cst (.int 0)) (.cons (.cst (.int 1)) .nil))) .nil))))))))))))))) (.cons (.asg (.nm 2) (.bin .Add (.var 2) (.lst (.cons (.tup (.cons (.tup (.cons (.cst (.int 0)) (.cons (.cst (.int 1)) .nil))) (.cons (.tup (.cons (.cst (.int 1)) (.cons (.cst (.int 1)) .nil))) .nil))) (.cons (.tup (.cons (.tup (.cons (.cst (.int 0)) (.cons (.cst (.int 1)) .nil))) (.cons (.tup (.cons (.cst (.int 2)) (.cons (.cst (.int 1)) .nil))) .nil))) .nil))))) (.cons (.asg (.nm 2) (.bin .Add (.var 2) (.lst (.cons (.tup (.cons (.tup (.cons (.cst (.int 0)) (.cons (.cst (.int 1)) .nil))) .nil)) (.cons (.tup (.cons (.tup (.cons (.cst (.int 0)) (.cons (.cst (.bl true)) .nil))) .nil)) (.cons (.tup (.cons (.tup (.cons (.cst (.bl false)) (.cons (.cst (.int 1)) .nil))) .nil)) (.cons (.tup (.cons (.tup (.cons (.cst (.int 0)) (.cons (.cst (.int 1)) .nil))) .nil)) (.cons (.tup (.cons (.tup (.cons (.cst (.int 0)) (.cons (.cst (.int 1)) .nil))) (.cons (.tup (.cons (.cst (.int 1)) (.cons (.cst (.int 1)) .nil))) .nil))) (.cons (.tup (.cons (.tup (.cons (.cst (.int 0)) (.cons (.cst (.int 1)) .nil))) (.cons (.tup (.cons (.cst (.bl true)) (.cons (.cst (.int 1)) .nil))) .nil))) .nil))))))))) (.cons (.ret (.bi .all (.cons (.comp (.call 9 (.cons (.var 3) .nil)) (.nm 3) (.seq (.var 2)) .none [3]) .nil))) .nil))))))
class C_Lby_hand_12 (T : List (Nat × Fd)) : Prop extends C_Ltold_9 T where
  own_Lby_hand_12 : HasD T 12 4 0 b_Lby_hand_12
def b_law_13 : Sts := (.cons (.ifs (.not_ (.call 12 .nil)) (.cons (.ret (.cst (.bl false))) .nil) .nil) (.cons (.fors (.nm 1) (.rng (.bi .max (.cons (.cst (.int 2)) (.cons (.bi .min (.cons (.bi .len (.cons (.var 0) .nil)) (.cons (.cst (.int 6)) .nil))) .nil)))) (.cons (.asg (.nm 2) (.new (.call 5 (.cons (.call 4 (.cons (.var 0) (.cons (.var 1) .nil))) .nil)))) (.cons (.fors (.nm 3) (.rng (.cst (.int 12))) (.cons (.asg (.nm 4) (.call 7 (.cons (.var 2) (.cons (.cst (.int 12)) .nil)))) (.cons (.ifs (.orL (.cons (.not_ (.call 9 (.cons (.var 4) .nil))) (.cons (.not_ (.call 9 (.cons (.call 11 (.cons (.var 2) (.cons (.var 4) .nil))) .nil))) .nil))) (.cons (.ret (.cst (.bl false))) .nil) .nil) .nil)) [3, 4]) .nil)) [1, 2, 3, 4]) (.cons (.ret (.cst (.bl true))) .nil)))
class C_law_13 (T : List (Nat × Fd)) : Prop extends C_Lby_hand_12 T, C_Lpool_5 T, C_Lcell_4 T, C_Ltree_7 T, C_Ltold_9 T, C_Lbent_11 T where
  own_law_13 : HasD T 13 5 1 b_law_13
end Fc

end
section
set_option autoImplicit false
set_option maxHeartbeats 1000000
/-! each construct keeps its meaning -/
namespace Fc
open PySem PySem.Spec L2
variable [CtI] [XsI]
abbrev Ev := Env → Store → Out RV
theorem ifT {P Q : Prop} (h : P) : (if true = true then P else Q) := by rw [if_pos rfl]; exact h
theorem ifF {P Q : Prop} (h : Q) : (if false = true then P else Q) := by rw [if_neg (by decide)]; exact h
section
variable {X : Cx} [KX X] {Wx : WX} {e ea eb ec : Expr} {a b c : Ev} {pos p p' : Pos}

theorem PT_imp {t t' : TT} (h : PT X e t) (i : ∀ σ H Q, t' σ H Q → t σ H Q) : PT X e t' := ⟨fun pins s σ H Q I q => h.run pins s σ H Q I (i σ H Q q)⟩
theorem PW_imp {t t' : TT} (h : PW X e t) (i : ∀ σ H Q, t' σ H Q → t σ H Q) : PW X e t' := ⟨fun wh pins s σ H Q I q => h.run wh pins s σ H Q I (i σ H Q q)⟩
theorem PS_imp {st : Stmt} {t t' : TS} (h : PS X st t) (i : ∀ D σ H, t' D σ H → t D σ H) : PS X st t' := ⟨fun pins s σ H D I q => h.run pins s σ H D I (i D σ H q)⟩
theorem PA_imp {es : List Expr} {t t' : TA} (h : PA X es t) (i : ∀ σ H Q, t' σ H Q → t σ H Q) : PA X es t' := ⟨fun pos pins s σ H Q I q => h.run pos pins s σ H Q I (i σ H Q q)⟩
abbrev Rt (Wx : WX) (ev : Ev) : TT := tB (Rd Wx ev)
theorem rep_bl {W : Wd} {H : Hp} {v : V} {k : Bool} (r : Rep W H v (.bl k)) : v = .bl k := by cases r; rfl
theorem rep_int {W : Wd} {H : Hp} {v : V} {k : Int} (r : Rep W H v (.int k)) : v = .int k := by cases r; rfl

/-! names, constants -/
theorem s_var {i : Nat} {x : Str} (hx : Nox i) (hN : X.N[i]? = some x) (hv : Vis X.env.scope x) (hd : (x == ("__debug__" : Str)) = false) (hcd : (x == ("__classdict__" : Str)) = false) :
    PE X (.Name x pos) (Rd Wx fun r S => match r[i]? with | some (some d) => .ok (.val d) S | _ => .bad) := by
  refine PE_imp (pe_var hN hv hd hcd) fun σ H Q h => ?_
  obtain ⟨W, S, r, w, en, h⟩ := h
  dsimp only at h
  split at h
  · rename_i d e
    obtain ⟨v, h1, h2⟩ := en.at e hx
    exact ⟨v, h1, h.same w h2⟩
  · exact h.elim
theorem s_con {d : D} {v : V} (hp : PE X e (tC v)) (hr : ∀ W H, Rep W H v d) : PE X e (Rd Wx fun _ S => .ok (.val d) S) := by
  refine PE_imp hp fun σ H Q h => ?_
  obtain ⟨W, S, r, w, en, h⟩ := h
  exact h.same w (hr W H)
/-! operators -/
theorem s_bin {op : Operator} (ha : PE X ea (Rd Wx a)) (hb : PE X eb (Rd Wx b)) : PE X (.BinOp ea op eb pos) (Rd Wx (op2 (evBin op) a b)) := pe_op2 (o_bin op) rS_ok ha hb
theorem s_neg (ha : PE X ea (Rd Wx a)) : PE X (.UnaryOp .USub ea pos) (Rd Wx fun r S => (a r S).bindD fun d S1 => match d with | .int i => .ok (.val (.int (-i))) S1 | _ => .bad) := by
  refine PE_imp (pe_un un_neg ha) fun σ H Q h => ?_
  obtain ⟨W, S, r, w, en, h⟩ := h
  refine ⟨W, S, r, w, en, (Post.bind h).mono fun x H1 ⟨W1, S1, d, e1, w1, r1, h1⟩ => ?_⟩
  split at h1
  · cases r1
    exact ⟨_, rfl, h1.same w1 (.int _)⟩
  · exact h1.elim
theorem o_cmp (hu : X.A.units + 64 < cLine) (op : CmpOp) : OpR X (compareOp op) (rS Wx (evCmp op)) := by
  cases op
  case Eq => exact o_eq hu
  case NotEq => exact o_ne hu
  case Lt => exact o_ltT hu
  case LtE => exact o_leT hu
  case Gt => exact o_gt
  case GtE => exact o_ge
  case Is => exact o_is
  case IsNot => exact o_isNot
  case In => exact o_in hu
  case NotIn => exact o_notIn hu
theorem s_cmp {op : CmpOp} (hu : X.A.units + 64 < cLine) (ha : PE X ea (Rd Wx a)) (hb : PE X eb (Rd Wx b)) (hm : behindInMarks op eb = false) : PE X (.Compare ea [op] [eb] pos) (Rd Wx (op2 (evCmp op) a b)) :=
  PE_imp (pe_cmpR (o_cmp hu op) ha hb hm) (rd_op2 rS_ok)
theorem t_cmp {op : CmpOp} (hu : X.A.units + 64 < cLine) (ha : PE X ea (Rd Wx a)) (hb : PE X eb (Rd Wx b)) (hm : behindInMarks op eb = false) : PT X (.Compare ea [op] [eb] pos) (Rt Wx (op2 (evCmp op) a b)) :=
  PT_imp (pt_cmpR (o_cmp (Wx := Wx) hu op) ha hb hm) fun σ H Q h => rd_op2 rS_ok σ H _ h
def ev2 (o1 o2 : CmpOp) (a b c : Ev) : Ev := fun r S => (a r S).bindD fun x S1 => (b r S1).bindD fun y S2 => (evCmp o1 x y S2).bindD fun z S3 => match z with
    | .bl true => (c r S3).bindD fun w S4 => evCmp o2 y w S4
    | .bl false => .ok (.val (.bl false)) S3
    | _ => .bad
theorem rd_chain {o1 o2 : CmpOp} {a b c : Ev} (σ : L2.St) (H : Hp) (Q : VK) (h : Rd Wx (ev2 o1 o2 a b c) σ H Q) : tChain (rS Wx (evCmp o1)) (rS Wx (evCmp o2)) (Rd Wx a) (Rd Wx b) (Rd Wx c) σ H Q := by
  obtain ⟨W, S, r, w, en, h⟩ := h
  unfold ev2 at h
  refine ⟨W, S, r, w, en, (Post.bind h).mono fun x H1 ⟨W1, S1, d, e1, w1, r1, h1⟩ => ?_⟩
  refine ⟨W1, S1, r, w1, en.ext e1, (Post.bind h1).mono fun y H2 ⟨W2, S2, e, e2, w2, r2, h2⟩ => ?_⟩
  refine ⟨σ, W2, S2, d, e, w2, r1.ext e2, r2, (Post.bind h2).mono fun z H3 ⟨W3, S3, f, e3, w3, r3, h3⟩ => ?_⟩
  split at h3
  · refine ⟨true, rep_bl r3, ?_⟩
    rw [if_pos rfl]
    refine ⟨W3, S3, r, w3, ((en.ext e1).ext e2).ext e3, (Post.bind h3).mono fun w' H4 ⟨W4, S4, g, e4, w4, r4, h4⟩ => ?_⟩
    exact ⟨σ, W4, S4, e, g, w4, (r2.ext e3).ext e4, r4, h4⟩
  · refine ⟨false, rep_bl r3, ?_⟩
    rw [if_neg (by decide)]
    exact h3.same w3 (.bl _)
  · exact h3.elim
theorem s_cmp2 {o1 o2 : CmpOp} (hu : X.A.units + 64 < cLine) (ha : PE X ea (Rd Wx a)) (hb : PE X eb (Rd Wx b)) (hc : PE X ec (Rd Wx c)) (hm : lastMarks [o1, o2] [eb, ec] = false) :
    PE X (.Compare ea [o1, o2] [eb, ec] pos) (Rd Wx (ev2 o1 o2 a b c)) := PE_imp (pe_chain (o_cmp hu o1) (o_cmp hu o2) ha hb hc hm) rd_chain
theorem t_cmp2 {o1 o2 : CmpOp} (hu : X.A.units + 64 < cLine) (ha : PE X ea (Rd Wx a)) (hb : PE X eb (Rd Wx b)) (hc : PE X ec (Rd Wx c)) (hm : lastMarks [o1, o2] [eb, ec] = false) :
    PT X (.Compare ea [o1, o2] [eb, ec] pos) (Rt Wx (ev2 o1 o2 a b c)) := PT_imp (pt_chain (o_cmp (Wx := Wx) hu o1) (o_cmp (Wx := Wx) hu o2) ha hb hc hm) fun σ H Q h => rd_chain σ H _ h

/-! and, or, not, if-else -/
def evAnd2 (a b : Ev) : Ev := fun r S => (a r S).bindD fun d S1 => match d with
    | .bl true => b r S1
    | .bl false => .ok (.val (.bl false)) S1
    | _ => .bad
def evOr2 (a b : Ev) : Ev := fun r S => (a r S).bindD fun d S1 => match d with
    | .bl true => .ok (.val (.bl true)) S1
    | .bl false => b r S1
    | _ => .bad
theorem s_and {xb : Expr} {xs : List Expr} (ha : PE X ea (Rd Wx a)) (hb : PE X (.BoolOp .And (xb :: xs) pos) (Rd Wx b)) : PE X (.BoolOp .And (ea :: xb :: xs) pos) (Rd Wx (evAnd2 a b)) := by
  refine PE_imp (pe_and ha hb) fun σ H Q h => ?_
  obtain ⟨W, S, r, w, en, h⟩ := h
  unfold evAnd2 at h
  refine ⟨W, S, r, w, en, (Post.bind h).mono fun x H1 ⟨W1, S1, d, e1, w1, r1, h1⟩ => ?_⟩
  split at h1
  · exact ⟨true, rep_bl r1, ifT ⟨W1, S1, r, w1, en.ext e1, h1⟩⟩
  · exact ⟨false, rep_bl r1, ifF (h1.same w1 (.bl _))⟩
  · exact h1.elim
theorem s_or {xb : Expr} {xs : List Expr} (ha : PE X ea (Rd Wx a)) (hb : PE X (.BoolOp .Or (xb :: xs) pos) (Rd Wx b)) : PE X (.BoolOp .Or (ea :: xb :: xs) pos) (Rd Wx (evOr2 a b)) := by
  refine PE_imp (pe_or ha hb) fun σ H Q h => ?_
  obtain ⟨W, S, r, w, en, h⟩ := h
  unfold evOr2 at h
  refine ⟨W, S, r, w, en, (Post.bind h).mono fun x H1 ⟨W1, S1, d, e1, w1, r1, h1⟩ => ?_⟩
  split at h1
  · exact ⟨true, rep_bl r1, ifT (h1.same w1 (.bl _))⟩
  · exact ⟨false, rep_bl r1, ifF ⟨W1, S1, r, w1, en.ext e1, h1⟩⟩
  · exact h1.elim
theorem t_and {xb : Expr} {xs : List Expr} (ha : PT X ea (Rt Wx a)) (hb : PW X (.BoolOp .And (xb :: xs) pos) (Rt Wx b)) : PW X (.BoolOp .And (ea :: xb :: xs) pos) (Rt Wx (evAnd2 a b)) := by
  refine PW_imp (pw_and ha hb) fun σ H Q h => ?_
  obtain ⟨W, S, r, w, en, h⟩ := h
  unfold evAnd2 at h
  refine ⟨W, S, r, w, en, (Post.bind h).mono fun x H1 ⟨W1, S1, d, e1, w1, r1, h1⟩ => ?_⟩
  split at h1
  · exact ⟨true, rep_bl r1, ifT ⟨W1, S1, r, w1, en.ext e1, h1⟩⟩
  · refine ⟨false, rep_bl r1, ifF ?_⟩
    obtain ⟨k, e, q⟩ := h1.same w1 (.bl _)
    cases e
    exact q
  · exact h1.elim
theorem t_or {xb : Expr} {xs : List Expr} (ha : PT X ea (Rt Wx a)) (hb : PW X (.BoolOp .Or (xb :: xs) pos) (Rt Wx b)) : PW X (.BoolOp .Or (ea :: xb :: xs) pos) (Rt Wx (evOr2 a b)) := by
  refine PW_imp (pw_or ha hb) fun σ H Q h => ?_
  obtain ⟨W, S, r, w, en, h⟩ := h
  unfold evOr2 at h
  refine ⟨W, S, r, w, en, (Post.bind h).mono fun x H1 ⟨W1, S1, d, e1, w1, r1, h1⟩ => ?_⟩
  split at h1
  · refine ⟨true, rep_bl r1, ifT ?_⟩
    obtain ⟨k, e, q⟩ := h1.same w1 (.bl _)
    cases e
    exact q
  · exact ⟨false, rep_bl r1, ifF ⟨W1, S1, r, w1, en.ext e1, h1⟩⟩
  · exact h1.elim
def evNot1 (a : Ev) : Ev := fun r S => (a r S).bindD fun d S1 => match d with
    | .bl b => .ok (.val (.bl (!b))) S1
    | _ => .bad
theorem s_not (ha : PE X ea (Rd Wx a)) : PE X (.UnaryOp .Not ea pos) (Rd Wx (evNot1 a)) := by
  refine PE_imp (pe_not ha) fun σ H Q h => ?_
  obtain ⟨W, S, r, w, en, h⟩ := h
  unfold evNot1 at h
  refine ⟨W, S, r, w, en, (Post.bind h).mono fun x H1 ⟨W1, S1, d, e1, w1, r1, h1⟩ => ?_⟩
  split at h1
  · exact ⟨_, rep_bl r1, h1.same w1 (.bl _)⟩
  · exact h1.elim
theorem t_not (ha : PT X ea (Rt Wx a)) : PT X (.UnaryOp .Not ea pos) (Rt Wx (evNot1 a)) := by
  refine PT_imp (pt_not ha) fun σ H Q h => ?_
  obtain ⟨W, S, r, w, en, h⟩ := h
  unfold evNot1 at h
  refine ⟨W, S, r, w, en, (Post.bind h).mono fun x H1 ⟨W1, S1, d, e1, w1, r1, h1⟩ => ?_⟩
  split at h1
  · obtain ⟨k, e, q⟩ := h1.same w1 (.bl _)
    cases e
    exact ⟨_, rep_bl r1, q⟩
  · exact h1.elim
def evIte (c a b : Ev) : Ev := fun r S => (c r S).bindD fun d S1 => match d with
    | .bl true => a r S1
    | .bl false => b r S1
    | _ => .bad
theorem s_ite (hc : PT X ec (Rt Wx c)) (ha : PE X ea (Rd Wx a)) (hb : PE X eb (Rd Wx b)) : PE X (.IfExp ec ea eb pos) (Rd Wx (evIte c a b)) := by
  refine PE_imp (pe_ifExp hc ha hb) fun σ H Q h => ?_
  obtain ⟨W, S, r, w, en, h⟩ := h
  unfold evIte at h
  refine ⟨W, S, r, w, en, (Post.bind h).mono fun x H1 ⟨W1, S1, d, e1, w1, r1, h1⟩ => ?_⟩
  split at h1
  · exact ⟨true, rep_bl r1, ifT ⟨W1, S1, r, w1, en.ext e1, h1⟩⟩
  · exact ⟨false, rep_bl r1, ifF ⟨W1, S1, r, w1, en.ext e1, h1⟩⟩
  · exact h1.elim
/-! subscripts -/
theorem s_idx (hu : X.A.units + 64 < cLine) (ha : PE X ea (Rd Wx a)) (hb : PE X eb (Rd Wx b)) (hs : PlainIx eb) : PE X (.Subscript ea eb pos) (Rd Wx (op2 evIx a b)) := PE_imp (pe_ix (o_ix (Wx := Wx) hu) ha hb hs) (rd_op2 rS_ok)
theorem s_revT {k : Nat} {p1 p2 p3 : Pos} (ha : PE X ea (Rd Wx a)) : PE X (.Subscript ea (.Slice none none (some (.UnaryOp .USub (.Constant (.int 1) k p1) p2)) p3) pos) (Rd Wx fun r S => (a r S).bindD evRevT) := by
  refine PE_imp (pe_revT ha) fun σ H Q h => ?_
  obtain ⟨W, S, r, w, en, h⟩ := h
  refine ⟨W, S, r, w, en, (Post.bind h).mono fun x H1 ⟨W1, S1, d, e1, w1, r1, h1⟩ => ?_⟩
  unfold evRevT at h1
  split at h1
  · rename_i xs0
    obtain ⟨p, vs, rfl, sa, ra, la⟩ := tup_ok (K := X.K) r1
    cases hn : nk xs0.reverse with
    | false => exact ⟨p, vs, rfl, sa, .inl fun q hq => h1.tup w1 hn hq ra.rev (by simpa using la)⟩
    | true => exact ⟨p, vs, rfl, sa, .inr fun q o hq ho => h1.tupF w1 hn hq ho ra.rev (by simpa using la)⟩
  · exact h1.elim
theorem s_revl {k : Nat} {p1 p2 p3 : Pos} (ha : PE X ea (Rd Wx a)) : PE X (.Subscript ea (.Slice none none (some (.UnaryOp .USub (.Constant (.int 1) k p1) p2)) p3) pos) (Rd Wx fun r S => (a r S).bindD evRevL) := by
  refine PE_imp (pe_revL ha) fun σ H Q h => ?_
  obtain ⟨W, S, r, w, en, h⟩ := h
  refine ⟨W, S, r, w, en, (Post.bind h).mono fun x H1 ⟨W1, S1, d, e1, w1, r1, h1⟩ => ?_⟩
  unfold evRevL at h1
  split at h1
  · rename_i xs hx
    obtain ⟨p, vs, rfl, sa, ra, la⟩ := seqM_ok w1 r1 hx
    exact ⟨p, vs, rfl, SqL.of sa, fun q hq => h1.lst w1 hq ra.rev (by simpa using la)⟩
  · exact h1.elim
theorem s_rev {k : Nat} {p1 p2 p3 : Pos} (ha : PE X ea (Rd Wx a)) : PE X (.Subscript ea (.Slice none none (some (.UnaryOp .USub (.Constant (.int 1) k p1) p2)) p3) pos) (Rd Wx fun r S => (a r S).bindD evRev) := by
  refine ⟨fun pins s σ H Q I h => ?_⟩
  obtain ⟨W, S, r, w, en, h⟩ := h
  have key : (a r S).bindD evRev = (a r S).bindD evRevT ∨ (a r S).bindD evRev = (a r S).bindD evRevL := by
    cases e : a r S with
    | bad => exact .inl rfl
    | ex => exact .inl rfl
    | ok rv S1 =>
      show evRev rv.toD S1 = evRevT rv.toD S1 ∨ evRev rv.toD S1 = evRevL rv.toD S1
      cases rv.toD with
      | tup xs => exact .inl rfl
      | _ => exact .inr rfl
  rcases key with q | q
  · exact (s_revT ha).run pins s σ H Q I ⟨W, S, r, w, en, by show Post W H σ Wx ((a r S).bindD evRevT) Q; rw [← q]; exact h⟩
  · exact (s_revl ha).run pins s σ H Q I ⟨W, S, r, w, en, by show Post W H σ Wx ((a r S).bindD evRevL) Q; rw [← q]; exact h⟩
/-! argument lists -/
abbrev Evs := Env → Store → Out (List D)
def PostL (W : Wd) (H : Hp) (σ : L2.St) (Wx : WX) : Out (List D) → (List V → Hp → Prop) → Prop
  | .ok ds S', Q => ∀ vs H' W', Ext W H W' H' → Wok W' H' S' → Reps W' H' vs ds → Q vs H'
  | .ex c fs _ S', _ => ∀ cls d H' W', Ext W H W' H' → Wok W' H' S' → ExR W' H' cls d c fs → Wx cls d σ H'
  | .bad, _ => False
def RdA (Wx : WX) (ev : Evs) : TA := fun σ H Q => ∃ W S r, Wok W H S ∧ EnvR W H r σ ∧ PostL W H σ Wx (ev r S) Q
theorem PostL.mono {W : Wd} {H : Hp} {σ : L2.St} {o : Out (List D)} {Q Q' : List V → Hp → Prop} (h : PostL W H σ Wx o Q) (hq : ∀ v H', Q v H' → Q' v H') : PostL W H σ Wx o Q' := by
  cases o with
  | ok rv S' => exact fun v H' W' a b c => hq _ _ (h v H' W' a b c)
  | ex c fs r S' => exact h
  | bad => exact h
theorem PostL.ext {W W1 : Wd} {H H1 : Hp} {σ : L2.St} {o : Out (List D)} {Q : List V → Hp → Prop} (e : Ext W H W1 H1) (h : PostL W H σ Wx o Q) : PostL W1 H1 σ Wx o Q := by
  cases o with
  | ok rv S' => exact fun v H' W' a b c => h v H' W' (e.trans a) b c
  | ex c fs r S' => exact fun cls d H' W' a b c => h cls d H' W' (e.trans a) b c
  | bad => exact h
theorem PostL.bind {W : Wd} {H : Hp} {σ : L2.St} {o : Out (List D)} {k : List D → Store → Out RV} {Q : VK} (h : Post W H σ Wx (o.bind k) Q) :
    PostL W H σ Wx o fun xs H1 => ∃ W1 S1 ds, Ext W H W1 H1 ∧ Wok W1 H1 S1 ∧ Reps W1 H1 xs ds ∧ Post W1 H1 σ Wx (k ds S1) Q := by
  cases o with
  | ok ds S' => exact fun v H' W' e w r => ⟨W', S', ds, e, w, r, Post.ext e h⟩
  | ex c fs r S' => exact h
  | bad => exact h
theorem s_nil : PA X [] (RdA Wx fun _ S => .ok [] S) := by
  refine PA_imp pa_nil fun σ H Q h => ?_
  obtain ⟨W, S, r, w, en, h⟩ := h
  exact h [] H W (.refl _ _) w .nil
def evCons (a : Ev) (as : Evs) : Evs := fun r S => (a r S).bindD fun d S1 => (as r S1).bind fun ds S2 => .ok (d :: ds) S2
theorem s_cons {as : Evs} {es : List Expr} (ha : PE X ea (Rd Wx a)) (hr : PA X es (RdA Wx as)) (hs : starEach (ea :: es) X.env = (false, eval ea X.env) :: starEach es X.env) : PA X (ea :: es) (RdA Wx (evCons a as)) := by
  refine PA_imp (pa_cons ha hr hs) fun σ H Q h => ?_
  obtain ⟨W, S, r, w, en, h⟩ := h
  refine ⟨W, S, r, w, en, ?_⟩
  unfold evCons at h
  cases e1 : a r S with
  | bad => rw [e1] at h; exact h.elim
  | ex c fs r' S' => rw [e1] at h; exact h
  | ok rv S1 =>
    rw [e1] at h
    intro v H1 W1 x1 w1 r1
    obtain ⟨W2, x2, w2, r2⟩ := r1.toD w1
    have x12 := x1.trans x2
    refine ⟨W2, S1, r, w2, en.ext x12, ?_⟩
    have h' : PostL W H σ Wx ((as r S1).bind fun ds S2 => .ok (rv.toD :: ds) S2) Q := h
    cases e2 : as r S1 with
    | bad => rw [e2] at h'; exact h'.elim
    | ex c fs r' S' => rw [e2] at h'; exact fun cls d H' W' y1 y2 y3 => h' cls d H' W' (x12.trans y1) y2 y3
    | ok ds S2 =>
      rw [e2] at h'
      intro vs H3 W3 x3 w3 r3
      exact h' (v :: vs) H3 W3 (x12.trans x3) w3 (.cons (r2.ext x3) r3)
def tTupB (t : TA) : TE := fun σ H Q => t σ H fun xs H1 => xs.length ≤ sizeLine ∧ ((∀ p, H1 p = none → Q (.ref p) (upd H1 p (.tup xs))) ∨ ∀ (p : Addr) (o : PySem.Obj), H1 p = none → o.dict = none → Q (.ref p) (upd H1 p (.frz o (.tup xs))))
/-- a displayed tuple, locked or not -/
theorem pe_tupB {es : List Expr} {k : Nat} {t : TA} (h : PA X es t) : PE X (.Tuple es k pos) (tTupB t) := by
  refine ⟨fun pins s σ H Q I hq => wpAny_Tuple_spliced (thn (h.run pos pins s σ H _ I hq) fun us t ⟨xs, H1, J, vals, few, q⟩ => ⟨by rw [← vals.length]; exact few, ?_⟩)⟩
  exact q.elim (fun q => new_tup J vals few (q _ (J.hok.fresh (Nat.le_refl _)))) (new_tupF J vals few)
theorem s_tup {as : Evs} {es : List Expr} {k : Nat} (ha : PA X es (RdA Wx as)) (hl : ∀ r S ds S', as r S = .ok ds S' → ds.length ≤ 16777216) : PE X (.Tuple es k pos) (Rd Wx fun r S => (as r S).bind fun ds S1 => .ok (.val (.tup ds)) S1) := by
  refine PE_imp (pe_tupB ha) fun σ H Q h => ?_
  obtain ⟨W, S, r, w, en, h⟩ := h
  dsimp only at h
  have hb := PostL.bind h
  refine ⟨W, S, r, w, en, ?_⟩
  cases e1 : as r S with
  | bad => rw [e1] at h; exact h.elim
  | ex c fs r' S' => rw [e1] at h; exact h
  | ok ds S1 =>
    have hz := hl r S ds S1 e1
    rw [e1] at hb
    intro vs H1 W1 x1 w1 r1
    rw [e1] at h
    cases hn : nk ds with
    | false => exact ⟨by rw [r1.length, ← lim_eq]; exact hz, .inl fun q hq => (Post.ext x1 h).tup w1 hn hq r1 hz⟩
    | true => exact ⟨by rw [r1.length, ← lim_eq]; exact hz, .inr fun q o hq ho => (Post.ext x1 h).tupF w1 hn hq ho r1 hz⟩
theorem s_lst {as : Evs} {es : List Expr} (ha : PA X es (RdA Wx as)) (hl : ∀ r S ds S', as r S = .ok ds S' → ds.length ≤ 16777216) : PE X (.List es pos) (Rd Wx fun r S => (as r S).bind fun ds S1 => .ok (.tl ds) S1) := by
  refine PE_imp (pe_lst ha) fun σ H Q h => ?_
  obtain ⟨W, S, r, w, en, h⟩ := h
  dsimp only at h
  refine ⟨W, S, r, w, en, ?_⟩
  cases e1 : as r S with
  | bad => rw [e1] at h; exact h.elim
  | ex c fs r' S' => rw [e1] at h; exact h
  | ok ds S1 =>
    have hz := hl r S ds S1 e1
    intro vs H1 W1 x1 w1 r1
    rw [e1] at h
    exact ⟨by rw [r1.length, ← lim_eq]; exact hz, fun q hq => (Post.ext x1 h).lst w1 hq r1 hz⟩
theorem s_dic0 {t : Bool} : PE X (.Dict [] [] pos) (Rd Wx fun _ S => .ok (.td t [] []) S) := by
  cases t with
  | false =>
    refine PE_imp pe_dnewK fun σ H Q h => ?_
    obtain ⟨W, S, r, w, en, h⟩ := h
    exact fun d hd => h _ _ W (upd_F w hd) (w.upd hd) ⟨d, [], rfl, upd_same, rfl, .nil, w.notF hd, w.notm hd, w.notT hd⟩
  | true =>
    refine PE_imp pe_dnewT fun σ H Q h => ?_
    obtain ⟨W, S, r, w, en, h⟩ := h
    exact fun d hd => h _ _ W (upd_F w hd) (w.upd hd) ⟨d, [], rfl, upd_same, rfl, .nil, w.notF hd, w.notm hd, w.notT hd⟩
/-! calls of built-ins -/
theorem s_callB {as : Evs} {x0 : Expr} {es : List Expr} {x : Str} {id : String} {g : List D → Store → Out RV} (hc : CallR X (.builtin id) (rC Wx g)) (hg : Gl X x) (hm : X.mg x = none) (hv : bootBuiltins x = some (.builtin id)) (ha : PA X (x0 :: es) (RdA Wx as))
    (hn : x ≠ "__name__") (hdb : (x == ("__debug__" : Str)) = false) (he : starEach (x0 :: es) X.env = (false, eval x0 X.env) :: starEach es X.env) (hpl : (backTo pos (starEach es X.env)).any (·.1) = false) :
    PE X (.Call (.Name x p) (x0 :: es) [] pos) (Rd Wx fun r S => (as r S).bind fun ds S1 => g ds S1) := by
  refine PE_imp (pe_callB hc hg hm hv ha hn hdb he hpl) fun σ H Q h => ?_
  obtain ⟨W, S, r, w, en, h⟩ := h
  exact ⟨W, S, r, w, en, (PostL.bind h).mono fun xs H1 ⟨W1, S1, ds, e1, w1, r1, h1⟩ => ⟨σ, W1, S1, ds, w1, r1, h1⟩⟩
theorem s_callT {as : Evs} {x0 : Expr} {es : List Expr} {x : Str} {id : String} {g : List D → Store → Out RV} (hc : CallR X (.type id) (rC Wx g)) (hg : Gl X x) (hm : X.mg x = none) (hv : bootBuiltins x = some (.type id)) (ha : PA X (x0 :: es) (RdA Wx as))
    (hn : x ≠ "__name__") (hdb : (x == ("__debug__" : Str)) = false) (he : starEach (x0 :: es) X.env = (false, eval x0 X.env) :: starEach es X.env) (hpl : (backTo pos (starEach es X.env)).any (·.1) = false) :
    PE X (.Call (.Name x p) (x0 :: es) [] pos) (Rd Wx fun r S => (as r S).bind fun ds S1 => g ds S1) := by
  refine PE_imp (pe_callTy hc hg hm hv ha hn hdb he hpl) fun σ H Q h => ?_
  obtain ⟨W, S, r, w, en, h⟩ := h
  exact ⟨W, S, r, w, en, (PostL.bind h).mono fun xs H1 ⟨W1, S1, ds, e1, w1, r1, h1⟩ => ⟨σ, W1, S1, ds, w1, r1, h1⟩⟩
/-- sorted(set(e)) -/
theorem s_sset {a : Ev} {ea : Expr} {p1 p2 pos1 pos2 : Pos} (hc : X.calm = true) (hg1 : Gl X "sorted") (hm1 : X.mg "sorted" = none) (hg2 : Gl X "set") (hm2 : X.mg "set" = none) (ha : PE X ea (Rd Wx a)) (hs : starEach [ea] X.env = [(false, eval ea X.env)]) :
    PE X (.Call (.Name "sorted" p1) [.Call (.Name "set" p2) [ea] [] pos2] [] pos1) (Rd Wx fun r S => (a r S).bindD fun d S1 => evSset [d] S1) := by
  refine PE_imp (pe_callB (cr_sortedSet hc) hg1 hm1 (by decide +kernel) (pa_cons (pe_callTy (cr_setL hc) hg2 hm2 (by decide +kernel) (pa_cons ha pa_nil hs) (he := hs)) pa_nil)) fun σ H Q h => ?_
  obtain ⟨W, S, r, w, en, h⟩ := h
  show Rd Wx a σ H (fun x H1 => rSetL X.K X.w [x] H1 fun y H2 => rSortedSet X.w [y] H2 Q)
  refine ⟨W, S, r, w, en, (Post.bind h).mono fun x H1 ⟨W1, S1, d, e1, w1, r1, h1⟩ => ?_⟩
  unfold evSset at h1
  dsimp only at h1
  split at h1
  · rename_i ns hn
    split at h1
    · rename_i hl
      obtain ⟨zs, z1, z2⟩ := Option.bind_eq_some_iff.mp hn
      have q := intsOf_ok z2
      subst q
      obtain ⟨p, vs, rfl, sq, ra, la⟩ := seqTL_ok (K := X.K) w1 r1 z1
      rw [ra.toInts] at sq
      refine ⟨p, ns, rfl, sq, hl, fun q c hq hcn => ⟨q, _, c, rfl, upd_same, by omega, fun ms z asc mem hlen hz => ?_⟩⟩
      have e : ms = setI ns := asc_mem asc setI_asc fun k => by rw [mem k, setI_mem]; simp
      subst e
      refine (Post.ext (upd_F w1 hq) h1).lst (w1.upd hq) hz (Reps.ints _) ?_
      rw [List.length_map]
      omega
    · exact h1.elim
  · exact h1.elim
/-! new objects of the store; append -/
def Wd.add (W : Wd) (a : Addr) : Wd := ⟨W.F, W.m ++ [a], W.c, W.T⟩
theorem Wd.add_ext {W : Wd} {H : Hp} {a : Addr} : Ext W H (W.add a) H := ⟨fun b h => ⟨h, rfl⟩, ⟨[a], rfl⟩, rfl, fun b h => ⟨h, rfl⟩⟩
theorem Wok.add {W : Wd} {H : Hp} {S : Store} (w : Wok W H S) {a : Addr} {o : Obj} (ho : OR (W.add a) H a o) (hd : H a ≠ none) (nf : ¬ W.F a) (nm : a ∉ W.m) (nt : ¬ W.T a) : Wok (W.add a) H (S ++ [o]) := by
  refine ⟨by simp [Wd.add, w.len], fun l ob h => ?_, ?_, fun l b hb hd' hf => ?_, w.dom, fun b hb => ⟨(w.tem b hb).1, fun hm => ?_, (w.tem b hb).2.2⟩, w.ct⟩
  · by_cases hl : l < S.length
    · rw [List.getElem?_append_left hl] at h
      obtain ⟨b, h1, h2⟩ := w.obj l ob h
      refine ⟨b, ?_, h2.ext Wd.add_ext rfl⟩
      show (W.m ++ [a])[l]? = some b
      rw [List.getElem?_append_left (by rw [w.len]; exact hl)]
      exact h1
    · rw [List.getElem?_append_right (by omega)] at h
      have e : l - S.length = 0 := by
        cases e : l - S.length with
        | zero => rfl
        | succ n => rw [e] at h; simp at h
      rw [e] at h
      have ho' : o = ob := by simpa using h
      subst ho'
      refine ⟨a, ?_, ho⟩
      show (W.m ++ [a])[l]? = some a
      rw [List.getElem?_append_right (by rw [w.len]; omega), w.len, e]
      rfl
  · show (W.m ++ [a]).Nodup
    rw [List.nodup_append]
    exact ⟨w.nd, by simp, fun x hx y hy e => by
      simp at hy
      subst hy e
      exact nm hx⟩
  · have hb' : (W.m ++ [a])[l]? = some b := hb
    by_cases hl : l < S.length
    · rw [List.getElem?_append_left (by rw [w.len]; exact hl)] at hb'
      rw [List.getElem?_append_left hl] at hd'
      exact w.dis l b hb' hd' hf
    · rw [List.getElem?_append_right (by rw [w.len]; omega)] at hb'
      have hq := List.mem_of_getElem? hb'
      simp at hq
      subst hq
      exact nf hf
  · rcases List.mem_append.mp (show b ∈ W.m ++ [a] from hm) with h | h
    · exact (w.tem b hb).2.1 h
    · simp at h
      subst h
      exact nt hb
theorem s_new (ha : PE X ea (Rd Wx a)) : PE X ea (Rd Wx fun r S => (a r S).bind evNew) := by
  refine PE_imp ha fun σ H Q h => ?_
  obtain ⟨W, S, r, w, en, h⟩ := h
  dsimp only at h
  refine ⟨W, S, r, w, en, ?_⟩
  cases e1 : a r S with
  | bad => rw [e1] at h; exact h.elim
  | ex c fs r' S' => rw [e1] at h; exact h
  | ok rv S1 =>
    rw [e1] at h
    have h' : Post W H σ Wx (evNew rv S1) Q := h
    intro v H1 W1 x1 w1 r1
    cases rv with
    | val d => exact h'.elim
    | tl ds =>
      obtain ⟨p, vs, rfl, hp, rs, hl, nf, nm, nt⟩ := r1
      refine h' _ H1 (W1.add p) (x1.trans Wd.add_ext) (w1.add ⟨vs, hp, rs.ext Wd.add_ext, hl⟩ (by rw [hp]; exact nofun) nf nm nt) (.ref ?_)
      show (W1.m ++ [p])[S1.length]? = some p
      rw [← w1.len, List.getElem?_append_right (Nat.le_refl _), Nat.sub_self]
      rfl
    | td t ks vs =>
      cases t with
      | false =>
        obtain ⟨p, kvs, rfl, hp, hk, rs, nf, nm, nt⟩ := r1
        refine h' _ H1 (W1.add p) (x1.trans Wd.add_ext) (w1.add ⟨kvs, hp, hk, rs.ext Wd.add_ext⟩ (by rw [hp]; exact nofun) nf nm nt) (.ref ?_)
        show (W1.m ++ [p])[S1.length]? = some p
        rw [← w1.len, List.getElem?_append_right (Nat.le_refl _), Nat.sub_self]
        rfl
      | true =>
        obtain ⟨p, kvs, rfl, hp, hk, rs, nf, nm, nt⟩ := r1
        refine h' _ H1 (W1.add p) (x1.trans Wd.add_ext) (w1.add ⟨kvs, hp, hk, rs.ext Wd.add_ext⟩ (by rw [hp]; exact nofun) nf nm nt) (.ref ?_)
        show (W1.m ++ [p])[S1.length]? = some p
        rw [← w1.len, List.getElem?_append_right (Nat.le_refl _), Nat.sub_self]
        rfl
theorem nodup_at {α : Type} : ∀ {l : List α} {i j : Nat} {x : α}, l.Nodup → l[i]? = some x → l[j]? = some x → i = j
  | [], _, _, _, _, h, _ => by simp at h
  | a :: r, 0, 0, _, _, _, _ => rfl
  | a :: r, 0, j + 1, x, nd, h1, h2 => by
    have e : a = x := by simpa using h1
    subst e
    exact absurd (List.mem_of_getElem? (by simpa using h2)) (List.nodup_cons.mp nd).1
  | a :: r, i + 1, 0, x, nd, h1, h2 => by
    have e : a = x := by simpa using h2
    subst e
    exact absurd (List.mem_of_getElem? (by simpa using h1)) (List.nodup_cons.mp nd).1
  | a :: r, i + 1, j + 1, x, nd, h1, h2 => congrArg (· + 1) (nodup_at (l := r) (i := i) (j := j) (x := x) (List.nodup_cons.mp nd).2 (by simpa using h1) (by simpa using h2))
/-- an object of the store is written -/
theorem Wok.put {W : Wd} {H : Hp} {S : Store} (w : Wok W H S) {p : Addr} {l : Nat} {u : HO} {o : Obj} (hm : W.m[l]? = some p) (hS : S[l]? ≠ some .dead) (ho : OR W (L2.upd H p u) p o) : Ext W H W (L2.upd H p u) ∧ Wok W (L2.upd H p u) (S.set l o) := by
  have nf : ¬ W.F p := w.dis l p hm hS
  have x : Ext W H W (L2.upd H p u) := ⟨fun b h => ⟨h, upd_ne fun e => nf (e ▸ h)⟩, ⟨[], by simp⟩, rfl, fun b h => ⟨h, upd_ne fun e => (w.tem b h).2.1 (e ▸ List.mem_of_getElem? hm)⟩⟩
  refine ⟨x, ⟨by rw [List.length_set]; exact w.len, fun k ob h => ?_, w.nd, fun k b hk hd => ?_, fun b h => ?_, fun b h => ⟨(w.tem b h).1, (w.tem b h).2.1, by rw [(x.tm b h).2]; exact (w.tem b h).2.2⟩, w.ct⟩⟩
  · by_cases hk : l = k
    · subst hk
      have hlt : l < S.length := by rw [← w.len]; exact (List.getElem?_eq_some_iff.mp hm).1
      rw [List.getElem?_set_self hlt] at h
      cases h
      exact ⟨p, hm, ho⟩
    · rw [List.getElem?_set_ne hk] at h
      obtain ⟨b, h1, h2⟩ := w.obj k ob h
      refine ⟨b, h1, h2.ext x (upd_ne fun e => hk ?_)⟩
      subst e
      have a1 := (List.getElem?_eq_some_iff.mp hm)
      have a2 := (List.getElem?_eq_some_iff.mp h1)
      exact nodup_at w.nd hm h1
  · by_cases hlk : l = k
    · subst hlk
      rw [hm] at hk
      cases hk
      exact nf
    · rw [List.getElem?_set_ne hlk] at hd
      exact w.dis k b hk hd
  · rw [(x.fr b h).2]; exact w.dom b h
theorem s_app {p1 : Pos} (ha : PE X ea (Rd Wx a)) (hb : PE X eb (Rd Wx b)) (hbase : attributeBase ea "append" X.env (eval ea X.env) = eval ea X.env) (hs : starEach [eb] X.env = [(false, eval eb X.env)]) (hline : (p1.endLine == pos.line) = true) :
    PE X (.Call (.Attribute ea "append" p1) [eb] [] pos) (Rd Wx (evApp2 a b)) := by
  have hA : PA X [eb] (tCons (Rd Wx b) tNil) := pa_cons hb pa_nil hs
  have hs' : starEach [eb] X.env = (false, eval eb X.env) :: starEach [] X.env := hs
  refine PE_imp (pe_bm PySem.F.plainAttrs_list PySem.F.slot_list_append PySem.F.type_list_append mt_append ha hA hbase (by rw [hs]; rfl) hline hs' rfl) fun σ H Q h => ?_
  obtain ⟨W, S, r, w, en, h⟩ := h
  unfold evApp2 at h
  refine ⟨W, S, r, w, en, (Post.bind h).mono fun x H1 ⟨W1, S1, d, e1, w1, r1, h1⟩ => ?_⟩
  split at h1
  · rename_i zs hz
    obtain ⟨q, vs, rfl, hq, rs, hl⟩ := seqM_ok w1 r1 hz
    refine ⟨.inl ⟨rfl, vs, SqL.of hq⟩, ⟨W1, S1, r, w1, en.ext e1, (Post.bind h1).mono fun y H2 ⟨W2, S2, e, e2, w2, r2, h2⟩ => ?_⟩⟩
    have r1' := r1.ext e2
    unfold evApp at h2
    split at h2
    · rename_i l
      split at h2
      · rename_i xs hx
        split at h2
        · rename_i hlt
          cases r1' with
          | ref hm =>
            obtain ⟨b', h3, vs', h4, rs', hl'⟩ := w2.obj _ _ hx
            rw [hm] at h3
            cases h3
            refine ⟨q, vs', y, rfl, rfl, h4, by rw [rs'.length, ← lim_eq]; exact hlt, ?_⟩
            have nf : ¬ W2.F q := w2.dis _ q hm (by rw [hx]; exact nofun)
            have xx : Ext W2 H2 W2 (upd H2 q (.lst (vs' ++ [y]))) := ⟨fun b h => ⟨h, upd_ne fun e => nf (e ▸ h)⟩, ⟨[], by simp⟩, rfl, fun b h => ⟨h, upd_ne fun e => (w2.tem b h).2.1 (e ▸ List.mem_of_getElem? hm)⟩⟩
            obtain ⟨x3, w3⟩ := w2.put (o := .lst (xs ++ [e])) hm (by rw [hx]; exact nofun) ⟨vs' ++ [y], upd_same, (rs'.append (.one r2)).ext xx, by simp; omega⟩
            exact h2 _ _ W2 x3 w3 .non
        · exact h2.elim
      · exact h2.elim
    · exact h2.elim
  · exact h1.elim
/-! extend, get, {k: v}, tuple(range(n)) -/
theorem s_ext {p1 : Pos} (ha : PE X ea (Rd Wx a)) (hb : PE X eb (Rd Wx b)) (hbase : attributeBase ea "extend" X.env (eval ea X.env) = eval ea X.env) (hs : starEach [eb] X.env = [(false, eval eb X.env)]) (hline : (p1.endLine == pos.line) = true) :
    PE X (.Call (.Attribute ea "extend" p1) [eb] [] pos) (Rd Wx (evExt2 a b)) := by
  have hA : PA X [eb] (tCons (Rd Wx b) tNil) := pa_cons hb pa_nil hs
  have hs' : starEach [eb] X.env = (false, eval eb X.env) :: starEach [] X.env := hs
  refine PE_imp (pe_bm PySem.F.plainAttrs_list PySem.F.slot_list_extend PySem.F.type_list_extend mt_ext2 ha hA hbase (by rw [hs]; rfl) hline hs' rfl) fun σ H Q h => ?_
  obtain ⟨W, S, r, w, en, h⟩ := h
  unfold evExt2 at h
  refine ⟨W, S, r, w, en, (Post.bind h).mono fun x H1 ⟨W1, S1, d, e1, w1, r1, h1⟩ => ?_⟩
  split at h1
  · rename_i zs hz
    obtain ⟨q, vs, rfl, hq, rs, hl⟩ := seqM_ok w1 r1 hz
    refine ⟨.inl ⟨rfl, vs, SqL.of hq⟩, ⟨W1, S1, r, w1, en.ext e1, (Post.bind h1).mono fun y H2 ⟨W2, S2, e, e2, w2, r2, h2⟩ => ?_⟩⟩
    have r1' := r1.ext e2
    unfold evExt at h2
    split at h2
    · rename_i l
      split at h2
      · rename_i xs ys hx hy
        split at h2
        · rename_i hlt
          cases r1' with
          | ref hm =>
            obtain ⟨b', h3, vs', h4, rs', hl'⟩ := w2.obj _ _ hx
            rw [hm] at h3
            cases h3
            have fin : ∀ us, Reps W2 H2 us ys → Q .non (upd H2 q (.lst (vs' ++ us))) := fun us ru => by
              have nf : ¬ W2.F q := w2.dis _ q hm (by rw [hx]; exact nofun)
              have xx : Ext W2 H2 W2 (upd H2 q (.lst (vs' ++ us))) := ⟨fun b h => ⟨h, upd_ne fun e => nf (e ▸ h)⟩, ⟨[], by simp⟩, rfl, fun b h => ⟨h, upd_ne fun e => (w2.tem b h).2.1 (e ▸ List.mem_of_getElem? hm)⟩⟩
              obtain ⟨x3, w3⟩ := w2.put (o := .lst (xs ++ ys)) hm (by rw [hx]; exact nofun) ⟨vs' ++ us, upd_same, (rs'.append ru).ext xx, by simp; omega⟩
              exact h2 _ _ W2 x3 w3 .non
            by_cases ht : ∃ zs, e = .tup zs
            · obtain ⟨zs, rfl⟩ := ht
              cases hy
              obtain ⟨c, us, rfl, sc, rc, lc⟩ := tup_ok (K := X.K) r2
              exact ⟨q, c, vs', us, rfl, rfl, h4, .inr sc, by rw [rs'.length, rc.length, ← lim_eq]; exact hlt, fin us rc⟩
            · have hz2 : seqM S2 e = some ys := by cases e <;> first | (exact absurd ⟨_, rfl⟩ ht) | exact hy
              obtain ⟨c, us, rfl, sc, rc, lc⟩ := seqM_ok w2 r2 hz2
              exact ⟨q, c, vs', us, rfl, rfl, h4, .inl sc, by rw [rs'.length, rc.length, ← lim_eq]; exact hlt, fin us rc⟩
        · exact h2.elim
      · exact h2.elim
    · exact h2.elim
  · exact h1.elim
theorem isD_of {W : Wd} {H : Hp} {S : Store} {x : V} {d : D} {t : Bool} {ks vs : List D} (w : Wok W H S) (r : Rep W H x d) (h : dicM S d = some (t, ks, vs)) : ∃ a, x = .ref a ∧ IsD H a := by
  obtain ⟨a, rfl, ⟨rfl, kvs, h1, _⟩ | ⟨rfl, kvs, h1, _⟩⟩ := dicM_ok w r h
  · exact ⟨a, rfl, .inl ⟨kvs, h1⟩⟩
  · exact ⟨a, rfl, .inr ⟨kvs, h1⟩⟩
theorem s_get2 {p1 : Pos} (hu : X.A.units + 64 < cLine) (ha : PE X ea (Rd Wx a)) (hb : PE X eb (Rd Wx b)) (hc : PE X ec (Rd Wx c)) (m : M2 X ea "get" p1 eb ec pos) : PE X (.Call (.Attribute ea "get" p1) [eb, ec] [] pos) (Rd Wx (evGet2 a b c)) := by
  refine PE_imp (pe_dget2 (by omega) ha hb hc m) fun σ H Q h => ?_
  obtain ⟨W, S, r, w, en, h⟩ := h
  unfold evGet2 at h
  refine ⟨W, S, r, w, en, (Post.bind h).mono fun x H1 ⟨W1, S1, d, e1, w1, r1, h1⟩ => ?_⟩
  split at h1
  · rename_i p hp
    obtain ⟨t, ks, vs⟩ := p
    obtain ⟨q, rfl, hq⟩ := isD_of w1 r1 hp
    refine ⟨q, rfl, hq, W1, S1, r, w1, en.ext e1, (Post.bind h1).mono fun y H2 ⟨W2, S2, k, e2, w2, r2, h2⟩ => ?_⟩
    refine ⟨W2, S2, r, w2, (en.ext e1).ext e2, (Post.bind h2).mono fun z H3 ⟨W3, S3, dz, e3, w3, r3, h3⟩ => ?_⟩
    unfold evGet at h3
    split at h3
    · rename_i t' ks' vs' hp'
      split at h3
      · rename_i hk
        obtain ⟨q', eq, g1, g2⟩ := dget_ok w3 (r1.ext (e2.trans e3)) (r2.ext e3) hp' hk
        cases eq
        cases hg : dgetL ks' vs' k with
        | some e =>
          obtain ⟨v, g, rv⟩ := g1 e hg
          rw [hg] at h3
          exact ⟨some v, g, h3.same w3 rv⟩
        | none =>
          rw [hg] at h3
          exact ⟨none, g2 hg, h3.same w3 r3⟩
      · exact h3.elim
    · exact h3.elim
  · exact h1.elim
theorem rg_reps {W : Wd} {H : Hp} : ∀ l : List Nat, Reps W H (l.map fun i => V.int (0 + ((i : Nat) : Int))) (l.map fun (i : Nat) => D.int i)
  | [] => .nil
  | i :: l => .cons (by show Rep W H (V.int (0 + (i : Int))) (D.int i); rw [Int.zero_add]; exact .int _) (rg_reps l)
theorem rg_ok {n : Int} (h : n ≤ 16777216 ∧ -16777216 ≤ n) : RgOk 0 n := ⟨by omega, by omega, by omega, by omega, by omega⟩
theorem s_rngT {p1 p2 pos1 pos2 : Pos} (hc : X.calm = true) (hg1 : Gl X "tuple") (hm1 : X.mg "tuple" = none) (hg2 : Gl X "range") (hm2 : X.mg "range" = none) (ha : PE X ea (Rd Wx a)) (hs : starEach [ea] X.env = (false, eval ea X.env) :: starEach [] X.env) :
    PE X (.Call (.Name "tuple" p1) [.Call (.Name "range" p2) [ea] [] pos2] [] pos1) (Rd Wx fun r S => (a r S).bindD (evRng true)) := by
  refine PE_imp (pe_tupRg hc hg1 hm1 (prg_1 hg2 hm2 ha hs)) fun σ H Q h => ?_
  obtain ⟨W, S, r, w, en, h⟩ := h
  refine ⟨W, S, r, w, en, (Post.bind h).mono fun x H1 ⟨W1, S1, d, e1, w1, r1, h1⟩ => ?_⟩
  unfold evRng at h1
  split at h1
  · rename_i n
    split at h1
    · rename_i hn
      exact h1.elim
    · exact h1.elim
  · exact h1.elim
theorem s_rngL {p1 p2 pos1 pos2 : Pos} (hc : X.calm = true) (hg1 : Gl X "list") (hm1 : X.mg "list" = none) (hg2 : Gl X "range") (hm2 : X.mg "range" = none) (ha : PE X ea (Rd Wx a)) (hs : starEach [ea] X.env = (false, eval ea X.env) :: starEach [] X.env) :
    PE X (.Call (.Name "list" p1) [.Call (.Name "range" p2) [ea] [] pos2] [] pos1) (Rd Wx fun r S => (a r S).bindD (evRng false)) := by
  refine PE_imp (pe_listRg hc hg1 hm1 (prg_1 hg2 hm2 ha hs)) fun σ H Q h => ?_
  obtain ⟨W, S, r, w, en, h⟩ := h
  refine ⟨W, S, r, w, en, (Post.bind h).mono fun x H1 ⟨W1, S1, d, e1, w1, r1, h1⟩ => ?_⟩
  unfold evRng at h1
  split at h1
  · rename_i n
    split at h1
    · rename_i hn
      refine ⟨n, rep_int r1, rg_ok hn, fun q hq => h1.lst w1 hq ?_ (by rw [List.length_map, List.length_range]; omega)⟩
      unfold rgV
      rw [Int.sub_zero]
      exact rg_reps _
    · exact h1.elim
  · exact h1.elim
theorem strs_reps {W : Wd} {H : Hp} : ∀ {ds : List D} {vs : List V} {ys : List Str}, Reps W H vs ds → strsOf ds = some ys → vs = ys.map V.str
  | [], _, _, .nil, h => by cases h; rfl
  | d :: ds, _, _, .cons r rs, h => by
    cases d with
    | str x =>
      rw [strsOf] at h
      obtain ⟨zs, h1, rfl⟩ := Option.map_eq_some_iff.mp h
      cases r
      rw [strs_reps rs h1]
      rfl
    | _ => cases h
theorem s_upp {p1 : Pos} (ha : PE X ea (Rd Wx a)) (hbase : attributeBase ea "upper" X.env (eval ea X.env) = eval ea X.env) (hline : (p1.endLine == pos.line) = true) :
    PE X (.Call (.Attribute ea "upper" p1) [] [] pos) (Rd Wx fun r S => (a r S).bindD evUpp) := by
  refine PE_imp (pe_upper ha hbase hline) fun σ H Q h => ?_
  obtain ⟨W, S, r, w, en, h⟩ := h
  refine ⟨W, S, r, w, en, (Post.bind h).mono fun x H1 ⟨W1, S1, d, e1, w1, r1, h1⟩ => ?_⟩
  unfold evUpp at h1
  split at h1
  · rename_i z
    split at h1
    · rename_i hl
      cases r1
      exact ⟨⟨z, rfl⟩, z, rfl, rfl, hl, h1.same w1 (.str _)⟩
    · exact h1.elim
  · exact h1.elim
theorem s_join {p1 : Pos} (ha : PE X ea (Rd Wx a)) (hb : PE X eb (Rd Wx b)) (hbase : attributeBase ea "join" X.env (eval ea X.env) = eval ea X.env) (hs : starEach [eb] X.env = [(false, eval eb X.env)]) (hline : (p1.endLine == pos.line) = true) :
    PE X (.Call (.Attribute ea "join" p1) [eb] [] pos) (Rd Wx (evJoin2 a b)) := by
  refine PE_imp (pe_join ha hb hs hbase hline) fun σ H Q h => ?_
  obtain ⟨W, S, r, w, en, h⟩ := h
  unfold evJoin2 at h
  refine ⟨W, S, r, w, en, (Post.bind h).mono fun x H1 ⟨W1, S1, d, e1, w1, r1, h1⟩ => ?_⟩
  split at h1
  · rename_i hd
    cases d with
    | str z =>
      cases r1
      refine ⟨⟨z, rfl⟩, W1, S1, r, w1, en.ext e1, (Post.bind h1).mono fun y H2 ⟨W2, S2, e, e2, w2, r2, h2⟩ => ?_⟩
      unfold evJoin at h2
      split at h2
      · rename_i a' ys ea' hy
        cases ea'
        split at h2
        · rename_i hl
          obtain ⟨zs, z1, z2⟩ := Option.bind_eq_some_iff.mp hy
          obtain ⟨q, vs, rfl, sq, rs, _⟩ := seqTL_ok (K := X.K) w2 r2 z1
          rw [strs_reps rs z2] at sq
          exact ⟨z, q, ys, rfl, rfl, sq, hl, h2.same w2 (.str _)⟩
        · exact h2.elim
      · exact h2.elim
    | _ => cases hd
  · exact h1.elim
theorem s_popi {p1 : Pos} (ha : PE X ea (Rd Wx a)) (hb : PE X eb (Rd Wx b)) (hbase : attributeBase ea "pop" X.env (eval ea X.env) = eval ea X.env) (hs : starEach [eb] X.env = [(false, eval eb X.env)]) (hline : (p1.endLine == pos.line) = true) :
    PE X (.Call (.Attribute ea "pop" p1) [eb] [] pos) (Rd Wx (evPop2 a b)) := by
  have hA : PA X [eb] (tCons (Rd Wx b) tNil) := pa_cons hb pa_nil hs
  have hs' : starEach [eb] X.env = (false, eval eb X.env) :: starEach [] X.env := hs
  refine PE_imp (pe_bm PySem.F.plainAttrs_list PySem.F.slot_list_pop PySem.F.type_list_pop mt_popAt ha hA hbase (by rw [hs]; rfl) hline hs' rfl) fun σ H Q h => ?_
  obtain ⟨W, S, r, w, en, h⟩ := h
  unfold evPop2 at h
  refine ⟨W, S, r, w, en, (Post.bind h).mono fun x H1 ⟨W1, S1, d, e1, w1, r1, h1⟩ => ?_⟩
  split at h1
  · rename_i zs hz
    obtain ⟨q, vs, rfl, hq, rs, hl⟩ := seqM_ok w1 r1 hz
    refine ⟨.inl ⟨rfl, vs, SqL.of hq⟩, ⟨W1, S1, r, w1, en.ext e1, (Post.bind h1).mono fun y H2 ⟨W2, S2, e, e2, w2, r2, h2⟩ => ?_⟩⟩
    have r1' := r1.ext e2
    unfold evPop at h2
    split at h2
    · rename_i l i
      split at h2
      · rename_i xs hx
        split at h2
        · rename_i k hk
          split at h2
          · rename_i v hv
            cases r2
            cases r1' with
            | ref hm =>
              obtain ⟨b', h3, vs', h4, rs', hl'⟩ := w2.obj _ _ hx
              rw [hm] at h3
              cases h3
              obtain ⟨u, hu, ru⟩ := rs'.get hv
              have hlen := rs'.length
              rw [← hlen] at hk
              obtain ⟨k1, k2, k3, k4⟩ := ixN_seq hk
              have ww : vs'.length ≤ 16777216 := by omega
              refine ⟨q, vs', _, k, u, rfl, rfl, h4, by omega, by omega, k1, hu, ?_⟩
              have nf : ¬ W2.F q := w2.dis _ q hm (by rw [hx]; exact nofun)
              have xx : Ext W2 H2 W2 (upd H2 q (.lst (vs'.eraseIdx k))) := ⟨fun b h => ⟨h, upd_ne fun e => nf (e ▸ h)⟩, ⟨[], by simp⟩, rfl, fun b h => ⟨h, upd_ne fun e => (w2.tem b h).2.1 (e ▸ List.mem_of_getElem? hm)⟩⟩
              obtain ⟨x3, w3⟩ := w2.put (o := .lst (xs.eraseIdx k)) hm (by rw [hx]; exact nofun) ⟨vs'.eraseIdx k, upd_same, (rs'.erase k).ext xx, by have := List.length_eraseIdx_le xs k; omega⟩
              exact h2 _ _ W2 x3 w3 (ru.ext xx)
          · exact h2.elim
        · exact h2.elim
      · exact h2.elim
    · exact h2.elim
  · exact h1.elim
def Wd.tm' (W : Wd) (t : Addr → Prop) : Wd := ⟨W.F, W.m, W.c, t⟩
theorem Wd.tm'_e0 {W : Wd} {H : Hp} {t : Addr → Prop} : E0 W H (W.tm' t) H := ⟨fun a h => ⟨h, rfl⟩, ⟨[], by simp [Wd.tm']⟩, rfl⟩
theorem Wok.tm' {W : Wd} {H : Hp} {S : Store} {t : Addr → Prop} (w : Wok W H S) (h : ∀ a, t a → ¬ W.F a ∧ a ∉ W.m ∧ Tmp (H a)) : Wok (W.tm' t) H S :=
  ⟨w.len, fun l o e => by obtain ⟨a, h1, h2⟩ := w.obj l o e; exact ⟨a, h1, h2.ext0 Wd.tm'_e0 rfl⟩, w.nd, w.dis, w.dom, h, w.ct⟩
theorem s_dic1 (ha : PE X ea (Rd Wx a)) (hb : PE X eb (Rd Wx b)) : PE X (.Dict [some ea] [eb] pos) (Rd Wx (evDic1 a b)) := by
  refine PE_imp (pe_disp (pps_cons ha hb pps_nil) rfl rfl (fun z => by cases z) (show 1 ≤ 15 by decide)) fun σ H Q h => ?_
  obtain ⟨W, S, r, w, en, h⟩ := h
  intro p hp
  have x0 : Ext W H W (upd H p (.dK [])) := upd_F w hp
  have w0 : Wok (W.tm' fun a => W.T a ∨ a = p) (upd H p (.dK [])) S := (w.upd hp).tm' fun a ha => ha.elim (fun ha => (w.upd hp).tem a ha) fun e => by subst e; exact ⟨w.notF hp, w.notm hp, by rw [upd_same]; exact ⟨nofun, nofun⟩⟩
  have x1 : Ext W H (W.tm' fun a => W.T a ∨ a = p) (upd H p (.dK [])) := ⟨x0.fr, x0.pre, x0.c, fun a h => ⟨.inl h, (x0.tm a h).2⟩⟩
  unfold evDic1 at h
  refine ⟨_, S, r, w0, en.ext x1, ?_⟩
  cases ea1 : a r S with
  | bad => rw [ea1] at h; exact h.elim
  | ex c fs r' S' => rw [ea1] at h; exact fun cls d H' W' q1 q2 q3 => h cls d H' W' (x1.trans q1) q2 q3
  | ok rv S1 =>
    rw [ea1] at h
    replace h : Post W H σ Wx ((b r S1).bindD fun z S2 => if (keyD rv.toD).isSome then .ok (.td false [rv.toD] [z]) S2 else .bad) Q := h
    intro x H1 W1' y1 w1' q1
    obtain ⟨W1, z1, w1, r1⟩ := q1.toD w1'
    have e1 := y1.trans z1
    refine ⟨W1, S1, r, w1, (en.ext x1).ext e1, ?_⟩
    cases eb1 : b r S1 with
    | bad => rw [eb1] at h; exact h.elim
    | ex c fs r' S' => rw [eb1] at h; exact fun cls d H' W' q1 q2 q3 => h cls d H' W' ((x1.trans e1).trans q1) q2 q3
    | ok rv2 S2 =>
      rw [eb1] at h
      replace h : Post W H σ Wx (if (keyD rv.toD).isSome then .ok (.td false [rv.toD] [rv2.toD]) S2 else .bad) Q := h
      intro y H2 W2' y2 w2' q2
      obtain ⟨W2, z2, w2, r2⟩ := q2.toD w2'
      have e12 := e1.trans (y2.trans z2)
      obtain ⟨tp, hpp⟩ := e12.tm p (.inr rfl)
      rw [upd_same] at hpp
      refine ⟨hpp, ?_⟩
      split at h
      · rename_i hk
        obtain ⟨k0, e0⟩ := Option.isSome_iff_exists.mp hk
        have e3 := keyD_ok e0
        rw [e3] at r1 h
        have ey : x = kV k0 := by
          cases k0 with
          | inl i => cases r1; rfl
          | inr x => cases r1; rfl
        subst ey
        refine ⟨[(k0, y)], rfl, (show 1 ≤ 15 by decide), ?_⟩
        have nF : ¬ W2.F p := (w2.tem p tp).1
        have nm : p ∉ W2.m := (w2.tem p tp).2.1
        have xa : Ext W H (W2.tm' fun a => W2.T a ∧ a ≠ p) (upd H2 p (.dK [(k0, y)])) := by
          have xx := x1.trans e12
          refine ⟨fun a h => ⟨(xx.fr a h).1, (upd_ne fun e => ?_).trans (xx.fr a h).2⟩, xx.pre, xx.c, fun a h => ?_⟩
          · subst e; exact w.dom _ h hp
          · have ne : a ≠ p := fun e => by subst e; exact (w.tem a h).2.2.1 hp
            exact ⟨⟨(xx.tm a h).1, ne⟩, (upd_ne ne).trans (xx.tm a h).2⟩
        have xb : E0 W2 H2 (W2.tm' fun a => W2.T a ∧ a ≠ p) (upd H2 p (.dK [(k0, y)])) := ⟨fun a h => ⟨h, upd_ne fun e => nF (e ▸ h)⟩, ⟨[], by simp [Wd.tm']⟩, rfl⟩
        have wa : Wok (W2.tm' fun a => W2.T a ∧ a ≠ p) (upd H2 p (.dK [(k0, y)])) S2 := by
          refine ⟨w2.len, fun l ob h => ?_, w2.nd, w2.dis, fun a h => ?_, fun a h => ⟨(w2.tem a h.1).1, (w2.tem a h.1).2.1, by rw [upd_ne h.2]; exact (w2.tem a h.1).2.2⟩, w2.ct⟩
          · obtain ⟨b, h1, h2⟩ := w2.obj l ob h
            exact ⟨b, h1, h2.ext0 xb (upd_ne fun e => nm (e ▸ List.mem_of_getElem? h1))⟩
          · rw [(xb.fr a h).2]; exact w2.dom a h
        exact h _ _ _ xa wa ⟨p, [(k0, y)], rfl, upd_same, rfl, .one (r2.ext0 xb), nF, nm, fun ht => ht.2 rfl⟩
      · exact h.elim
end
end Fc

end
section
set_option autoImplicit false
set_option maxHeartbeats 1000000
/-! targets, walks, comprehensions -/
namespace Fc
open PySem PySem.Spec L2
variable [CtI] [XsI]
def Agr (ts : List Nat) (σ σ' : L2.St) : Prop := σ'.length = σ.length ∧ ∀ i, i ∉ ts → σ'[i]? = σ[i]?
theorem Agr.refl (ts : List Nat) (σ : L2.St) : Agr ts σ σ := ⟨rfl, fun _ _ => rfl⟩
theorem wipe_in {σ : L2.St} {i : Nat} : ∀ {vs : List Nat}, i ∈ vs → i < σ.length → (wipe σ vs)[i]? = some none
  | v :: vs, h, hl => by
    unfold wipe
    by_cases e : v = i
    · subst e
      rw [List.getElem?_set_self (by rw [wipe_length]; exact hl)]
    · rw [List.getElem?_set_ne e]
      exact wipe_in ((List.mem_cons.mp h).resolve_left fun z => e z.symm) hl
theorem Agr.wipe {ts vs : List Nat} {σ σ' : L2.St} (h : Agr ts σ σ') (hs : ∀ i ∈ ts, i ∈ vs) : L2.wipe σ' vs = L2.wipe σ vs := by
  apply List.ext_getElem?
  intro i
  by_cases hi : i ∈ vs
  · by_cases hl : i < σ.length
    · rw [wipe_in hi hl, wipe_in hi (by rw [h.1]; exact hl)]
    · rw [List.getElem?_eq_none (by rw [wipe_length, h.1]; omega), List.getElem?_eq_none (by rw [wipe_length]; omega)]
  · rw [wipe_out hi, wipe_out hi]
    exact h.2 i fun z => hi (hs i z)
theorem Agr.trans {ts us : List Nat} {σ σ' σ'' : L2.St} (a : Agr ts σ σ') (b : Agr us σ' σ'') : Agr (ts ++ us) σ σ'' :=
  ⟨b.1.trans a.1, fun i h => (b.2 i fun z => h (List.mem_append_right _ z)).trans (a.2 i fun z => h (List.mem_append_left _ z))⟩
theorem wipeE_length (r : Env) : ∀ vs : List Nat, (wipeE r vs).length = r.length
  | [] => rfl
  | v :: vs => by unfold wipeE; rw [List.length_set, wipeE_length r vs]
theorem wipeE_some {r : Env} {i : Nat} {x : D} : ∀ {vs : List Nat}, (wipeE r vs)[i]? = some (some x) → r[i]? = some (some x) ∧ i ∉ vs
  | [], h => ⟨h, by simp⟩
  | v :: vs, h => by
    unfold wipeE at h
    by_cases e : v = i
    · subst e
      by_cases hl : v < (wipeE r vs).length
      · rw [List.getElem?_set_self hl] at h; cases h
      · rw [List.getElem?_eq_none (by rw [List.length_set]; omega)] at h; cases h
    · rw [List.getElem?_set_ne e] at h
      obtain ⟨h1, h2⟩ := wipeE_some h
      exact ⟨h1, fun z => (List.mem_cons.mp z).elim (fun z => e z.symm) h2⟩
theorem EnvR.wipe {W : Wd} {H : Hp} {r : Env} {σ : L2.St} (h : EnvR W H r σ) (vs : List Nat) : EnvR W H (wipeE r vs) (L2.wipe σ vs) := by
  refine ⟨by rw [wipeE_length, wipe_length]; exact h.1, fun i d e => ?_⟩
  obtain ⟨h1, h2⟩ := wipeE_some e
  obtain ⟨v, h3, h4⟩ := h.2 i d h1
  exact ⟨v, by rw [wipe_out h2]; exact h3, h4⟩
theorem EnvR.forget {W : Wd} {H : Hp} {r : Env} {σ : L2.St} (h : EnvR W H r σ) (vs : List Nat) : EnvR W H (wipeE r vs) σ :=
  ⟨by rw [wipeE_length]; exact h.1, fun i d e => h.2 i d (wipeE_some e).1⟩
theorem EnvR.set {W : Wd} {H : Hp} {r : Env} {σ : L2.St} {v : V} {d : D} (h : EnvR W H r σ) (q : Rep W H v d) (i : Nat) : EnvR W H (r.set i (some d)) (σ.set i (some v)) := by
  refine ⟨by rw [List.length_set, List.length_set]; exact h.1, fun j e hj => ?_⟩
  by_cases hij : i = j
  · subst hij
    by_cases hl : i < r.length
    · rw [List.getElem?_set_self hl] at hj
      cases hj
      exact ⟨v, by rw [List.getElem?_set_self (by rw [← h.1]; exact hl)], .inl q⟩
    · rw [List.getElem?_eq_none (by rw [List.length_set]; omega)] at hj
      cases hj
  · rw [List.getElem?_set_ne hij] at hj
    rw [List.getElem?_set_ne hij]
    exact h.2 j e hj
theorem Agr.set (i : Nat) (v : Option V) (σ : L2.St) : Agr [i] σ (σ.set i v) := ⟨by simp, fun j h => by rw [List.getElem?_set_ne (fun e => h (by simp [e]))]⟩

theorem Post.noex {W : Wd} {H : Hp} {σ : L2.St} {Wx Wy : WX} {o : Out RV} {Q : VK} (h : Post W H σ Wx o.noex Q) : Post W H σ Wy o Q := by
  cases o with
  | ok rv S' => exact h
  | ex c fs r S' => exact h.elim
  | bad => exact h

def PostE (W : Wd) (H : Hp) (σ : L2.St) (ts : List Nat) : Out Env → (L2.St → Hp → Prop) → Prop
  | .ok r' S', Q => ∀ σ' H' W', Ext W H W' H' → Wok W' H' S' → EnvR W' H' r' σ' → Agr ts σ σ' → Q σ' H'
  | _, _ => False
def RdG (ts : List Nat) (f : D → Env → Store → Out Env) : TG := fun v σ H Q => ∃ W S r d, Wok W H S ∧ EnvR W H r σ ∧ Rep W H v d ∧ PostE W H σ ts (f d r S) Q
def RdGs (ts : List Nat) (f : List D → Env → Store → Out Env) : TGs := fun vs σ H Q => ∃ W S r ds, Wok W H S ∧ EnvR W H r σ ∧ Reps W H vs ds ∧ PostE W H σ ts (f ds r S) Q
theorem PG_imp {X : Cx} {e : Expr} {t t' : TG} (h : PG X e t) (i : ∀ v σ H Q, t' v σ H Q → t v σ H Q) : PG X e t' := ⟨fun pins s σ H v u Q I r q => h.run pins s σ H v u Q I r (i v σ H Q q)⟩
theorem PGs_imp {X : Cx} {e : List Expr} {t t' : TGs} (h : PGs X e t) (i : ∀ v σ H Q, t' v σ H Q → t v σ H Q) : PGs X e t' := ⟨fun pins s σ H v u Q I r q => h.run pins s σ H v u Q I r (i v σ H Q q)⟩
section
variable {X : Cx} [KX X] {Wx : WX} {e ea eb ec : Expr} {a b c : Ev} {pos p p' : Pos}
theorem g_name {i : Nat} {x : Str} (hN : X.N.Nodup) (hi : X.N[i]? = some x) (hx : Loc X.env.scope x) (hf : X.fn x = true ∨ X.env.scope.names.lookup x = some .local) : PG X (.Name x pos) (RdG [i] fun d r S => .ok (r.set i (some d)) S) := by
  refine PG_imp (pg_name hN hi hx hf) fun v σ H Q h => ?_
  obtain ⟨W, S, r, d, w, en, q, h⟩ := h
  exact h _ H W (.refl _ _) w (en.set q i) (Agr.set _ _ _)
theorem gs_nil : PGs X [] (RdGs [] fun ds r S => match ds with | [] => .ok r S | _ => .bad) := by
  refine PGs_imp pgs_nil fun v σ H Q h => ?_
  obtain ⟨W, S, r, d, w, en, q, h⟩ := h
  cases q with
  | nil => exact ⟨rfl, h _ H W (.refl _ _) w en (Agr.refl _ _)⟩
  | cons _ _ => exact h.elim
def asgCons (f : D → Env → Store → Out Env) (g : List D → Env → Store → Out Env) : List D → Env → Store → Out Env
  | d :: ds, r, S => (f d r S).bind fun r1 S1 => g ds r1 S1
  | [], _, _ => .bad
theorem gs_cons {es : List Expr} {ts us : List Nat} {f : D → Env → Store → Out Env} {g : List D → Env → Store → Out Env} (h1 : PG X e (RdG ts f)) (h2 : PGs X es (RdGs us g))
    (hs : (assignEach (e :: es) X.env).map (·.2) = assign e X.env :: (assignEach es X.env).map (·.2)) : PGs X (e :: es) (RdGs (ts ++ us) (asgCons f g)) := by
  refine PGs_imp (pgs_cons h1 h2 hs) fun v σ H Q h => ?_
  obtain ⟨W, S, r, ds, w, en, q, h⟩ := h
  cases q with
  | nil => exact h.elim
  | cons q qs =>
    rename_i v vs d ds
    refine ⟨v, vs, rfl, W, S, r, d, w, en, q, ?_⟩
    replace h : PostE W H σ (ts ++ us) ((f d r S).bind fun r1 S1 => g ds r1 S1) Q := h
    cases e1 : f d r S with
    | bad => rw [e1] at h; exact h.elim
    | ex => rw [e1] at h; exact h.elim
    | ok r1 S1 =>
      rw [e1] at h
      intro σ1 H1 W1 x1 w1 en1 ag1
      refine ⟨W1, S1, r1, ds, w1, en1, qs.ext x1, ?_⟩
      have h' : PostE W H σ (ts ++ us) (g ds r1 S1) Q := h
      cases e2 : g ds r1 S1 with
      | bad => rw [e2] at h'; exact h'.elim
      | ex => rw [e2] at h'; exact h'.elim
      | ok r2 S2 =>
        rw [e2] at h'
        intro σ2 H2 W2 x2 w2 en2 ag2
        exact h' σ2 H2 W2 (x1.trans x2) w2 en2 (ag1.trans ag2)
theorem g_tup {es : List Expr} {k n : Nat} {ts : List Nat} {g : List D → Env → Store → Out Env} (hc : X.calm = true) (h : PGs X es (RdGs ts g)) (hl : ∀ xs r S r' S', g xs r S = .ok r' S' → xs.length = n)
    (hn : (assignEach es X.env).length = n) (hst : (assignEach es X.env).findIdx? (·.1) = none) : PG X (.Tuple es k pos) (RdG ts fun d r S => match d with | .tup xs => g xs r S | .lst xs => g xs r S | .pr xs => g xs r S | _ => .bad) := by
  refine ⟨fun pins s σ H v u Q I rv hw => ?_⟩
  obtain ⟨W, S, r, d, w, en, q, hw⟩ := hw
  dsimp only at hw
  split at hw
  · refine (pg_tup hc h hn hst).run pins s σ H v u Q I rv ?_
    obtain ⟨a, vs, rfl, sa, ra, la⟩ := tup_ok (K := X.K) q
    refine ⟨a, vs, rfl, sa, ?_, W, S, r, _, w, en, ra, hw⟩
    rename_i xs
    cases e1 : g xs r S with
    | bad => rw [e1] at hw; exact hw.elim
    | ex => rw [e1] at hw; exact hw.elim
    | ok r' S' => rw [ra.length]; exact hl _ _ _ _ _ e1
  · refine (pg_lst hc h hn hst).run pins s σ H v u Q I rv ?_
    obtain ⟨a, vs, rfl, sa, ra, la⟩ := seqM_ok w q (seqM_lst S _)
    refine ⟨a, vs, rfl, SqL.of sa, ?_, W, S, r, _, w, en, ra, hw⟩
    rename_i xs
    cases e1 : g xs r S with
    | bad => rw [e1] at hw; exact hw.elim
    | ex => rw [e1] at hw; exact hw.elim
    | ok r' S' => rw [ra.length]; exact hl _ _ _ _ _ e1
  · refine (pg_tup hc h hn hst).run pins s σ H v u Q I rv ?_
    cases q with
    | pr f hr ra =>
      refine ⟨_, _, rfl, SqT.of hr, ?_, W, S, r, _, w, en, ra, hw⟩
      rename_i xs _ _
      cases e1 : g xs r S with
      | bad => rw [e1] at hw; exact hw.elim
      | ex => rw [e1] at hw; exact hw.elim
      | ok r' S' => rw [ra.length]; exact hl _ _ _ _ _ e1
  · exact hw.elim
def PostU (W : Wd) (H : Hp) : Out Unit → (Hp → Prop) → Prop
  | .ok _ S', Q => ∀ H' W', Ext W H W' H' → Wok W' H' S' → Q H'
  | _, _ => False
def rSet : TSet := fun o i v H Q => ∃ W S d k x, Wok W H S ∧ Rep W H o d ∧ Rep W H i k ∧ Rep W H v x ∧ PostU W H (evSet d k x S) Q
theorem o_set (hu : X.A.units + 64 < cLine) : PSet X rSet := by
  intro pins s σ H o i v ov iv u Q I r1 r2 r3 h
  obtain ⟨W, S, d, k, x, w, q1, q2, q3, h⟩ := h
  unfold evSet at h
  split at h
  · split at h
    · rename_i l S xs hx
      split at h
      · split at h
        · rename_i kk j hj
          cases q2
          cases q1 with
          | ref hm =>
            rename_i p
            obtain ⟨b', h3, vs', h4, rs', hl'⟩ := w.obj _ _ hx
            rw [hm] at h3
            cases h3
            have nf : ¬ W.F p := w.dis _ p hm (by rw [hx]; exact nofun)
            have xx : Ext W H W (upd H p (.lst (vs'.set j v))) := ⟨fun b h => ⟨h, upd_ne fun e => nf (e ▸ h)⟩, ⟨[], by simp⟩, rfl, fun b h => ⟨h, upd_ne fun e => (w.tem b h).2.1 (e ▸ List.mem_of_getElem? hm)⟩⟩
            obtain ⟨x3, w3⟩ := w.put (o := .lst (xs.set j x)) hm (by rw [hx]; exact nofun) ⟨vs'.set j v, upd_same, (rs'.set q3 j).ext xx, by simpa using hl'⟩
            exact set_list pins s σ H _ _ v ov iv u Q I r1 r2 r3 ⟨p, vs', _, j, rfl, rfl, h4, by rw [rs'.length]; exact hj, h _ W x3 w3⟩
        · exact h.elim
      · exact h.elim
    · rename_i l S t ks vs hx
      split at h
      · rename_i hk
        obtain ⟨hf, hl⟩ := hk
        cases q1 with
        | ref hm =>
          rename_i p
          obtain ⟨b', h3, h4⟩ := w.obj _ _ hx
          rw [hm] at h3
          cases h3
          have nf : ¬ W.F p := w.dis _ p hm (by rw [hx]; exact nofun)
          have xt : ∀ o', Ext W H W (upd H p o') := fun o' => ⟨fun b h => ⟨h, upd_ne fun e => nf (e ▸ h)⟩, ⟨[], by simp⟩, rfl, fun b h => ⟨h, upd_ne fun e => (w.tem b h).2.1 (e ▸ List.mem_of_getElem? hm)⟩⟩
          cases r1
          cases t with
          | false =>
            obtain ⟨kvs, g1, g2, g3⟩ := h4
            obtain ⟨k0, e0⟩ := Option.isSome_iff_exists.mp hf
            have e1 := keyD_ok e0
            subst e1 g2
            have ey : i = kV k0 := by
              cases k0 with
              | inl i => cases q2; rfl
              | inr x => cases q2; rfl
            obtain ⟨p1, p2⟩ := dput_rel (f := kD) kD_beq k0 q3 g3
            obtain ⟨x3, w3⟩ := w.put (o := .dic false (dputK (kvs.map fun p => kD p.1) (kD k0)) (dputV (kvs.map fun p => kD p.1) vs (kD k0) x)) (u := .dK (putK kvs k0 v)) hm (by rw [hx]; exact nofun) ⟨_, upd_same, p1.symm, p2.ext (xt _)⟩
            refine d_setItem (by omega) I (.inl ⟨kvs, k0, g1, ey, ?_, rfl⟩) r2 r3 fun s' I' => ⟨_, I', h _ W x3 w3⟩
            have := g3.length
            rw [List.length_map] at this
            rw [this, ← lim_eq]
            exact hl
          | true =>
            obtain ⟨kvs, g1, g2, g3⟩ := h4
            obtain ⟨k0, e0⟩ := Option.isSome_iff_exists.mp hf
            have e1 := tkD_ok e0
            subst e1 g2
            cases q2 with
            | tup f hr0 rs' hl' =>
              obtain ⟨x0, i0, ek, _⟩ := tkD_key e0
              have hr := TupAt.key (x := x0) (i := i0) (by rw [ek] at hr0; exact hr0)
              rw [reps_keys rs'] at hr
              obtain ⟨p1, p2⟩ := dput_rel (f := fun p => D.tup (p.map kD)) tD_beq k0 q3 g3
              obtain ⟨x3, w3⟩ := w.put (o := .dic true (dputK (kvs.map fun p => D.tup (p.1.map kD)) (.tup (k0.map kD))) (dputV (kvs.map fun p => D.tup (p.1.map kD)) vs (.tup (k0.map kD)) x)) (u := .dT (putK kvs k0 v)) hm (by rw [hx]; exact nofun) ⟨_, upd_same, p1.symm, p2.ext (xt _)⟩
              refine d_setItem (by omega) I (.inr ⟨kvs, k0, _, g1, rfl, hr, ?_, rfl⟩) r2 r3 fun s' I' => ⟨_, I', h _ W x3 w3⟩
              have := g3.length
              rw [List.length_map] at this
              rw [this, ← lim_eq]
              exact hl
      · exact h.elim
    · exact h.elim
  · exact h.elim
theorem g_sub (hu : X.A.units + 64 < cLine) (ha : PE X ea (Rd Wx a)) (hb : PE X eb (Rd Wx b)) (has : ∀ v, assign (.Subscript ea eb pos) X.env v = (do
      let ov ← holding [v] (eval ea X.env)
      let iv ← holding [v, ov] (eval eb X.env)
      standAt pos
      holding [v, ov, iv] (setItem ov iv v)
      release [v, ov, iv] [])) : PG X (.Subscript ea eb pos) (RdG [] fun d r S => (a r S).noex.bindD fun o S1 => (b r S1).noex.bindD fun k S2 => (evSet o k d S2).bind fun _ S3 => .ok r S3) := by
  refine PG_imp (pg_sub ha hb (o_set hu) has) fun v σ H Q h => ?_
  obtain ⟨W, S, r, d, w, en, q, h⟩ := h
  refine ⟨W, S, r, w, en, ?_⟩
  dsimp only at h
  cases e1 : a r S with
  | bad => rw [e1] at h; exact h.elim
  | ex => rw [e1] at h; exact h.elim
  | ok rv S1 =>
    rw [e1] at h
    intro o H1 W1 x1 w1 q1
    obtain ⟨W2, x2, w2, q2⟩ := q1.toD w1
    refine ⟨W2, S1, r, w2, en.ext (x1.trans x2), ?_⟩
    cases e2 : b r S1 with
    | bad => simp only [Out.noex_ok, Out.bindD, Out.bind_ok, e2] at h; exact h.elim
    | ex => simp only [Out.noex_ok, Out.bindD, Out.bind_ok, e2] at h; exact h.elim
    | ok rv2 S2 =>
      simp only [Out.noex_ok, Out.bindD, Out.bind_ok, e2] at h
      intro i H3 W3 x3 w3 q3
      obtain ⟨W4, x4, w4, q4⟩ := q3.toD w3
      have xx := (x1.trans x2).trans (x3.trans x4)
      refine ⟨W4, S2, _, _, _, w4, q2.ext (x3.trans x4), q4, q.ext xx, ?_⟩
      cases e3 : evSet rv.toD rv2.toD d S2 with
      | bad => rw [e3] at h; exact h.elim
      | ex => rw [e3] at h; exact h.elim
      | ok _ S3 =>
        rw [e3] at h
        exact fun H5 W5 x5 w5 => h σ H5 W5 (xx.trans x5) w5 (en.ext (xx.trans x5)) (Agr.refl _ _)
end

/-! ### walks -/
def ItR (W : Wd) (H : Hp) (J : L2.It) (xs : List D) : Prop := xs.length ≤ 16777216 ∧ ∃ G Y, Walk J xs.length G Y ∧ (∀ W' H', E0 W H W' H' → G H') ∧
  ∀ i W1 H1 S1 x H2, i < xs.length → E0 W H W1 H1 → Wok W1 H1 S1 → Y i H1 x H2 → ∃ W2 d, xs[i]? = some d ∧ Ext W1 H1 W2 H2 ∧ Wok W2 H2 S1 ∧ Rep W2 H2 x d
def PostI (W : Wd) (H : Hp) (σ : L2.St) (Wx : WX) : Out (List D) → (L2.It → Hp → Prop) → Prop
  | .ok xs S', R => ∀ J H' W', Ext W H W' H' → Wok W' H' S' → ItR W' H' J xs → R J H'
  | .ex c fs _ S', _ => ∀ cls d H' W', Ext W H W' H' → Wok W' H' S' → ExR W' H' cls d c fs → Wx cls d σ H'
  | .bad, _ => False
def RdI (Wx : WX) (ev : Evs) : TI := fun σ H R => ∃ W S r, Wok W H S ∧ EnvR W H r σ ∧ PostI W H σ Wx (ev r S) R
theorem PI_imp {X : Cx} {tg e : Expr} {t t' : TI} (h : PI X tg e t) (i : ∀ σ H Q, t' σ H Q → t σ H Q) : PI X tg e t' := ⟨fun pins s σ H Q I q => h.run pins s σ H Q I (i σ H Q q)⟩
theorem PostI.ext {W W1 : Wd} {H H1 : Hp} {σ : L2.St} {Wx : WX} {o : Out (List D)} {R : L2.It → Hp → Prop} (e : Ext W H W1 H1) (h : PostI W H σ Wx o R) : PostI W1 H1 σ Wx o R := by
  cases o with
  | ok xs S' => exact fun v H' W' a b c => h v H' W' (e.trans a) b c
  | ex c fs r S' => exact fun cls d H' W' a b c => h cls d H' W' (e.trans a) b c
  | bad => exact h
theorem PostI.bind {W : Wd} {H : Hp} {σ : L2.St} {Wx : WX} {o : Out RV} {k : D → Store → Out (List D)} {R : L2.It → Hp → Prop} (h : PostI W H σ Wx (o.bindD k) R) :
    Post W H σ Wx o fun x H1 => ∃ W1 S1 d, Ext W H W1 H1 ∧ Wok W1 H1 S1 ∧ Rep W1 H1 x d ∧ PostI W1 H1 σ Wx (k d S1) R := by
  cases o with
  | ok rv S' =>
    intro v H' W' e w r
    obtain ⟨W2, e2, w2, r2⟩ := r.toD w
    exact ⟨W2, S', _, e.trans e2, w2, r2, PostI.ext (e.trans e2) h⟩
  | ex c fs r S' => exact h
  | bad => exact h
theorem Reps.at {W : Wd} {H : Hp} {vs : List V} {ds : List D} {i : Nat} {v : V} (h : Reps W H vs ds) (e : vs[i]? = some v) : ∃ d, ds[i]? = some d ∧ Rep W H v d := by
  have hl : i < ds.length := by rw [← h.length]; exact (List.getElem?_eq_some_iff.mp e).1
  obtain ⟨u, h1, h2⟩ := h.get (List.getElem?_eq_getElem hl)
  rw [e] at h1
  cases h1
  exact ⟨_, List.getElem?_eq_getElem hl, h2⟩
theorem ItR.mk {W : Wd} {H : Hp} {J : L2.It} {vs : List V} {ds : List D} {G : Hp → Prop} (w : Walk J vs.length G (YAt vs)) (rs : Reps W H vs ds) (hl : ds.length ≤ 16777216) (hG : ∀ W' H', E0 W H W' H' → G H') : ItR W H J ds := by
  rw [rs.length] at w
  refine ⟨hl, G, _, w, hG, fun i W1 H1 S1 x H2 hi x1 w1 y => ?_⟩
  obtain ⟨rfl, e⟩ := y
  obtain ⟨d, h1, h2⟩ := (rs.ext0 x1).at e
  exact ⟨W1, d, h1, .refl _ _, w1, h2⟩
theorem ItR.mkP {W : Wd} {H : Hp} {J : L2.It} {vs : List V} {ds : List D} {G : Hp → Prop} (w : Walk J vs.length G (YPair (fun i => some (.int (i : Nat))) (fun i => vs[i]?))) (rs : Reps W H vs ds) (hl : ds.length ≤ 16777216) (hG : ∀ W' H', E0 W H W' H' → G H') : ItR W H J (pairsE ds) := by
  rw [rs.length] at w
  refine ⟨by unfold pairsE; rw [List.length_mapIdx]; exact hl, G, _, by unfold pairsE; rw [List.length_mapIdx]; exact w, hG, fun i W1 H1 S1 x H2 hi x1 w1 y => ?_⟩
  obtain ⟨T, x, y, rfl, hT, rfl, e1, e2⟩ := y
  cases e1
  obtain ⟨d, h1, h2⟩ := (rs.ext0 x1).at e2
  have x2 := (upd_F (o := .tup [.int (i : Nat), y]) w1 hT).trans (Wd.frz_ext (W := W1) (a := T))
  exact ⟨W1.frz T, .pr [.int i, d], by unfold pairsE; rw [List.getElem?_mapIdx, h1]; rfl, x2, (w1.upd hT).frz upd_same (w1.notm hT) (w1.notT hT), .pr (.inr rfl) upd_same (.cons (.int _) (.one (h2.ext x2)))⟩
section
variable {X : Cx} [KX X] {Wx : WX} {tg e ea eb ec : Expr} {a b c : Ev} {pos p p' : Pos}
def iSeq (K : PySem.W.Frag) (tl : TE) : TI := fun σ H R => tl σ H fun x H1 => (∃ a, x = .ref a ∧ (∃ xs, SqL K H1 a xs) ∧ R (Itl K a) H1) ∨ ∃ a, x = .ref a ∧ (∃ xs, SqT K H1 a xs) ∧ R (Itt K a) H1
theorem iter_kept {pins : List (Addr × PySem.Obj)} {σ : L2.St} {H : Hp} {t : Shared} {io : PySem.Obj} (J : Inv X pins σ H t) : Inv X pins σ H { t with heap := t.heap.push io } := J.kept (t' := t.toks) fun _ _ z => Heap.get?_push_of_some _ z
/-- the address of a new iterator is out of what is known -/
theorem iter_own {pins : List (Addr × PySem.Obj)} {σ : L2.St} {H : Hp} {t : Shared} (J : Inv X pins σ H t) (b : Addr) (hb : b ∈ [t.heap.objs.size]) : FpOk X pins H b := by
  cases List.mem_singleton.mp hb
  exact J.fpOk (Nat.le_refl _) (J.hok.fresh (Nat.le_refl _))
theorem pi_seq {l : Expr} {tl : TE} (hl : PE X l tl) : PI X tg l (iSeq X.K tl) where
  run := fun pins s σ H R I h => thn (hl.run pins s σ H _ I h) fun v t ⟨x, H1, J, rx, q⟩ => by
    rcases q with ⟨a, e, ⟨xs, known⟩, q⟩ | ⟨a, e, ⟨xs, known⟩, q⟩ <;> subst e <;> cases rx
    · obtain ⟨its, _, there, _⟩ := J.list known
      exact wpAny_pyIter_list there.isList ⟨_, [t.heap.objs.size], _, _, H1, rfl, iter_kept J, turn_list a _, ⟨_, Heap.get?_push_size _ rfl, rfl, rfl⟩, iter_own J, q⟩
    · obtain ⟨its, _, there, _⟩ := J.tuple known
      exact wpAny_pyIter_tuple (show t.heap.IsTuple a its.toArray from there) ⟨_, [t.heap.objs.size], _, _, H1, rfl, iter_kept J, turn_tuple a _, ⟨_, Heap.get?_push_size _ rfl, rfl, rfl⟩, iter_own J, q⟩
/-- a frozen sequence lies as a tuple or as a list -/
theorem seqF_ok {K : PySem.W.Frag} {W : Wd} {H : Hp} {x : V} {d : D} {ds : List D} (r : Rep W H x d) (h : seqF d = some ds) :
    ∃ a vs, x = .ref a ∧ Reps W H vs ds ∧ ds.length ≤ 16777216 ∧ ((∀ W' H', E0 W H W' H' → SqL K H' a vs) ∨ ∀ W' H', E0 W H W' H' → SqT K H' a vs) := by
  cases r with
  | tup f rd rs hl => cases h; exact ⟨_, _, rfl, rs, hl, .inr fun W' H' x => (rd.ext (x.fr _ f).2).sq⟩
  | lst f rd rs hl => cases h; exact ⟨_, _, rfl, rs, hl, .inl fun W' H' x => SqL.of ((x.fr _ f).2.trans rd)⟩
  | _ => cases h
theorem s_iseq (ha : PE X ea (Rd Wx a)) : PI X tg ea (RdI Wx fun r S => (a r S).bindD fun d S1 => match seqF d with | some xs => .ok xs S1 | none => .bad) := by
  refine PI_imp (pi_seq ha) fun σ H R h => ?_
  obtain ⟨W, S, r, w, en, h⟩ := h
  refine ⟨W, S, r, w, en, (PostI.bind h).mono fun x H1 ⟨W1, S1, d, e1, w1, r1, h1⟩ => ?_⟩
  split at h1
  · rename_i xs hx
    obtain ⟨a, vs, rfl, rs, hl, q | q⟩ := seqF_ok (K := X.K) r1 hx
    · exact .inl ⟨a, rfl, ⟨vs, q _ _ (Ext.refl _ _).e0⟩, h1 _ H1 W1 (.refl _ _) w1 (.mk walk_list rs hl q)⟩
    · exact .inr ⟨a, rfl, ⟨vs, q _ _ (Ext.refl _ _).e0⟩, h1 _ H1 W1 (.refl _ _) w1 (.mk walk_tup rs hl q)⟩
  · exact h1.elim
theorem s_idk (ha : PE X ea (Rd Wx a)) : PI X tg ea (RdI Wx fun r S => (a r S).bindD fun d S1 => match keysF d with | some xs => .ok xs S1 | none => .bad) := by
  refine PI_imp (pi_keys ha) fun σ H R h => ?_
  obtain ⟨W, S, r, w, en, h⟩ := h
  refine ⟨W, S, r, w, en, (PostI.bind h).mono fun x H1 ⟨W1, S1, d, e1, w1, r1, h1⟩ => ?_⟩
  split at h1
  · rename_i xs hx
    unfold keysF at hx
    split at hx
    · split at hx
      · rename_i hl
        cases hx
        cases r1 with
        | dkl f hr rs =>
          refine ⟨_, _, rfl, .inl ⟨_, hr, h1 _ H1 W1 (.refl _ _) w1 ⟨hl, _, _, by rw [List.length_map]; exact walk_keys, fun W' H' x => (x.fr _ f).2.trans hr, fun i W2 H2 S2 y H3 hi x2 w2 z => ?_⟩⟩⟩
          obtain ⟨rfl, k, v, hk, rfl⟩ := z
          refine ⟨W2, kD k, by simp [hk], .refl _ _, w2, ?_⟩
          cases k with
          | inl i => exact .int _
          | inr x => exact .str _
      · cases hx
    · split at hx
      · rename_i hl
        cases hx
        cases r1 with
        | dtl f hr rs =>
          refine ⟨_, _, rfl, .inr ⟨_, hr, h1 _ H1 W1 (.refl _ _) w1 ⟨hl.1, _, _, by rw [List.length_map]; exact walk_keysT, fun W' H' x => (x.fr _ f).2.trans hr, fun i W2 H2 S2 y H3 hi x2 w2 z => ?_⟩⟩⟩
          obtain ⟨rfl, k, v, q, hk, rfl, hq⟩ := z
          obtain ⟨x0, i0, ek⟩ := tups_at hl.2 (d := .tup (k.map kD)) (List.mem_map.mpr ⟨(k, v), List.mem_of_getElem? hk, rfl⟩)
          have ek := D.tup.inj ek
          refine ⟨W2.frz q, .tup (k.map kD), by simp [hk], Wd.frz_ext, w2.frzD hq, .tup (.inr rfl) (.inl ⟨by rw [ek]; rfl, hq⟩) (kReps k) (by rw [ek]; simp)⟩
      · cases hx
    · cases hx
  · exact h1.elim
theorem s_ichr (ha : PE X ea (Rd Wx a)) : PI X tg ea (RdI Wx fun r S => (a r S).bindD fun d S1 => match chrs d with | some xs => .ok xs S1 | none => .bad) := by
  refine PI_imp (pi_str ha) fun σ H R h => ?_
  obtain ⟨W, S, r, w, en, h⟩ := h
  refine ⟨W, S, r, w, en, (PostI.bind h).mono fun x H1 ⟨W1, S1, d, e1, w1, r1, h1⟩ => ?_⟩
  split at h1
  · rename_i xs hx
    unfold chrs at hx
    split at hx
    · split at hx
      · rename_i z hl
        cases hx
        cases r1
        refine ⟨_, rfl, h1 _ H1 W1 (.refl _ _) w1 ⟨by simpa using hl, _, _, by rw [List.length_map, Array.length_toList]; exact walk_str, fun _ _ _ => trivial, fun i W2 H2 S2 y H3 hi x2 w2 q => ?_⟩⟩
        obtain ⟨rfl, c, hc, rfl⟩ := q
        exact ⟨W2, .str ⟨#[c]⟩, by simp [hc], .refl _ _, w2, .str _⟩
      · cases hx
    · cases hx
  · exact h1.elim
def iEnumB (K : PySem.W.Frag) (te : TE) : TI := fun σ H R => te σ H fun v H1 => ∃ a xs, v = .ref a ∧ ((SqL K H1 a xs ∧ R (Ite K a) H1) ∨ (SqT K H1 a xs ∧ R (IteT K a) H1))
theorem PI_or {t u : TI} {v : TI} (h1 : PI X tg e t) (h2 : PI X tg e u) (hv : ∀ σ H R, v σ H R → t σ H R ∨ u σ H R) : PI X tg e v := ⟨fun pins s σ H R I h => (hv σ H R h).elim (h1.run pins s σ H R I) (h2.run pins s σ H R I)⟩
theorem s_ienum {elts : List Expr} {kk : Nat} {tpos : Pos} (hg : Gl X "enumerate") (hm : X.mg "enumerate" = none) (ha : PE X ea (Rd Wx a)) (hs : starEach [ea] X.env = [(false, eval ea X.env)]) :
    PI X (.Tuple elts kk tpos) (.Call (.Name "enumerate" p) [ea] [] pos) (RdI Wx fun r S => (a r S).bindD fun d S1 => match seqF d with | some xs => .ok (pairsE xs) S1 | none => .bad) := by
  have hA : PA X [ea] (tCons (Rd Wx a) tNil) := pa_cons ha pa_nil hs
  refine PI_or (pi_enum hg hm hA hs) (pi_enumT hg hm hA hs) fun σ H R h => ?_
  obtain ⟨W, S, r, w, en, h⟩ := h
  dsimp only at h
  cases e1 : a r S with
  | bad => rw [e1] at h; exact h.elim
  | ex c fs r' S' =>
    rw [e1] at h
    exact .inl ⟨W, S, r, w, en, by rw [e1]; exact h⟩
  | ok rv S1 =>
    have h0 := PostI.bind h
    rw [e1] at h
    have h' : PostI W H σ Wx (match seqF rv.toD with | some xs => .ok (pairsE xs) S1 | none => .bad) R := h
    cases hx : seqF rv.toD with
    | none => rw [hx] at h'; exact h'.elim
    | some xs =>
      rw [hx] at h'
      by_cases ht : ∃ zs, rv.toD = .tup zs
      · refine .inr ⟨W, S, r, w, en, ?_⟩
        rw [e1]
        intro v H1 W1 x1 w1 r1
        obtain ⟨W2, x2, w2, r2⟩ := r1.toD w1
        obtain ⟨zs, ht⟩ := ht
        rw [ht] at hx
        cases hx
        rw [ht] at r2
        cases r2 with
        | tup f rd rs hl => exact ⟨_, _, rfl, rd.sq, h' _ H1 W2 (x1.trans x2) w2 (.mkP walk_enumT rs hl fun W' H' x => (rd.ext (x.fr _ f).2).sq)⟩
      · refine .inl ⟨W, S, r, w, en, ?_⟩
        rw [e1]
        intro v H1 W1 x1 w1 r1
        obtain ⟨W2, x2, w2, r2⟩ := r1.toD w1
        generalize rv.toD = d at *
        cases r2 with
        | lst f rd rs hl => cases hx; exact ⟨_, _, rfl, SqL.of rd, h' _ H1 W2 (x1.trans x2) w2 (.mkP walk_enum rs hl fun W' H' x => SqL.of ((x.fr _ f).2.trans rd))⟩
        | tup f rd rs hl => exact (ht ⟨_, rfl⟩).elim
        | _ => cases hx
theorem s_irng (hg : Gl X "range") (hm : X.mg "range" = none) (ha : PE X ea (Rd Wx a)) (hs : starEach [ea] X.env = [(false, eval ea X.env)]) :
    PI X tg (.Call (.Name "range" p) [ea] [] pos) (RdI Wx fun r S => (a r S).bindD fun d S1 => match d with
      | .int n => if n ≤ 16777216 ∧ -16777216 ≤ n then .ok ((List.range n.toNat).map fun (i : Nat) => D.int i) S1 else .bad
      | _ => .bad) := by
  have hA : PA X [ea] (tCons (Rd Wx a) tNil) := pa_cons ha pa_nil hs
  refine PI_imp (pi_range1 hg hm hA hs) fun σ H R h => ?_
  obtain ⟨W, S, r, w, en, h⟩ := h
  refine ⟨W, S, r, w, en, (PostI.bind h).mono fun x H1 ⟨W1, S1, d, e1, w1, r1, h1⟩ => ?_⟩
  split at h1
  · split at h1
    · rename_i n hn
      refine ⟨n, by rw [rep_int r1], by omega, by omega, h1 _ H1 W1 (.refl _ _) w1 ?_⟩
      refine ⟨by rw [List.length_map, List.length_range]; omega, fun _ => True, _, by rw [List.length_map, List.length_range]; exact walk_range, fun _ _ _ => trivial, fun i W2 H2 S2 x H3 hi x2 w2 y => ?_⟩
      obtain ⟨rfl, rfl⟩ := y
      have hi' : i < n.toNat := by simpa using hi
      exact ⟨W2, .int i, by simp [hi'], .refl _ _, w2, by dsimp only; rw [Int.zero_add]; exact .int _⟩
    · exact h1.elim
  · exact h1.elim
/-! range with two, three arguments -/
theorem rgC_up {i j c : Int} (h1 : 1 ≤ c) (h2 : c ≤ 1000) (h3 : -16777216 ≤ i) (h4 : i ≤ 16777216) (h5 : -16777216 ≤ j) (h6 : j ≤ 16777216) : RgC i j c (if i < j then ((j - i - 1) / c + 1).toNat else 0) := by
  have e : Builtin.Range.rangeSize i j c = ((if i < j then ((j - i - 1) / c + 1).toNat else 0 : Nat) : Int) := by
    unfold Builtin.Range.rangeSize
    rw [if_pos (by omega)]
    by_cases h : i < j
    · rw [if_pos h, if_pos h]
      have : 0 ≤ (j - i - 1) / c := Int.ediv_nonneg (by omega) (by omega)
      omega
    · rw [if_neg h, if_neg h]; rfl
  have b1 : (if i < j then ((j - i - 1) / c + 1).toNat else 0 : Nat) ≤ 33554433 := by
    split
    · have : (j - i - 1) / c ≤ j - i - 1 := Int.ediv_le_self _ (by omega)
      omega
    · omega
  refine ⟨by omega, by omega, ?_, e⟩
  generalize (if i < j then ((j - i - 1) / c + 1).toNat else 0 : Nat) = n at *
  unfold Builtin.Range.small
  rw [e]
  simp only [Builtin.Range.rangeFitsLong, Bool.and_eq_true, Bool.or_eq_true, decide_eq_true_eq, beq_iff_eq]
  have hm : (n : Int) * c ≤ 33554433 * 1000 := Int.mul_le_mul (by omega) h2 (by omega) (by omega)
  have hm0 : 0 ≤ (n : Int) * c := Int.mul_nonneg (by omega) (by omega)
  refine ⟨⟨⟨⟨by omega, by omega⟩, by omega, by omega⟩, by omega, by omega⟩, .inr ?_⟩
  rw [if_pos (by omega)]
  simp only [Bool.and_eq_true, decide_eq_true_eq]
  omega
theorem rng3_at {i j c : Int} {xs : List D} (h : rng3D (.int i) (.int j) (.int c) = some xs) : ∃ n : Nat, RgC i j c n ∧ xs = (List.range n).map (fun (k : Nat) => D.int (i + (k : Int) * c)) ∧ n ≤ 16777216 ∧ -16777216 ≤ i ∧ i ≤ 16777216 ∧ -16777216 ≤ j ∧ j ≤ 16777216 := by
  unfold rng3D at h
  dsimp only at h
  split at h
  · rename_i hb
    obtain ⟨b1, b2, b3, b4, b5, b6, b7⟩ := hb
    cases h
    refine ⟨_, rgC_up b1 b2 b3 b4 b5 b6, rfl, ?_, b3, b4, b5, b6⟩
    split
    · have : (j - i - 1) / c ≤ j - i - 1 := Int.ediv_le_self _ (by omega)
      omega
    · omega
  · cases h
theorem rng3_ints {d e f : D} {xs : List D} (h : rng3D d e f = some xs) : ∃ i j c, d = .int i ∧ e = .int j ∧ f = .int c := by
  unfold rng3D at h
  split at h
  · exact ⟨_, _, _, rfl, rfl, rfl⟩
  · cases h
theorem s_irng3 (hg : Gl X "range") (hm : X.mg "range" = none) (ha : PE X ea (Rd Wx a)) (hb : PE X eb (Rd Wx b)) (hc : PE X ec (Rd Wx c)) (h1 : starEach [ea, eb, ec] X.env = (false, eval ea X.env) :: starEach [eb, ec] X.env) (h2 : starEach [eb, ec] X.env = (false, eval eb X.env) :: starEach [ec] X.env) (h3 : starEach [ec] X.env = [(false, eval ec X.env)]) (hpl : (backTo pos (starEach [eb, ec] X.env)).any (·.1) = false) :
    PI X tg (.Call (.Name "range" p) [ea, eb, ec] [] pos) (RdI Wx fun r S => (a r S).bindD fun d S1 => (b r S1).bindD fun e S2 => (c r S2).bindD fun f S3 => match rng3D d e f with | some xs => .ok xs S3 | none => .bad) := by
  have hA : PA X [ea, eb, ec] (tCons (Rd Wx a) (tCons (Rd Wx b) (tCons (Rd Wx c) tNil))) := pa_cons ha (pa_cons hb (pa_cons hc pa_nil h3) h2) h1
  refine PI_imp (pi_range3 hg hm hA h1 hpl) fun σ H R h => ?_
  obtain ⟨W, S, r, w, en, h⟩ := h
  refine ⟨W, S, r, w, en, (PostI.bind h).mono fun x H1 ⟨W1, S1, d, e1, w1, r1, h1⟩ => ?_⟩
  refine ⟨W1, S1, r, w1, en.ext e1, (PostI.bind h1).mono fun y H2 ⟨W2, S2, e, e2, w2, r2, h2⟩ => ?_⟩
  refine ⟨W2, S2, r, w2, (en.ext e1).ext e2, (PostI.bind h2).mono fun z H3 ⟨W3, S3, f, e3, w3, r3, h3⟩ => ?_⟩
  split at h3
  · rename_i xs hx
    obtain ⟨i, j, k, rfl, rfl, rfl⟩ := rng3_ints hx
    obtain ⟨n, g1, g2, g3, _⟩ := rng3_at hx
    subst g2
    refine ⟨i, j, k, n, by rw [rep_int r1, rep_int r2, rep_int r3], g1, h3 _ H3 W3 (.refl _ _) w3 ?_⟩
    refine ⟨by rw [List.length_map, List.length_range]; exact g3, fun _ => True, _, by rw [List.length_map, List.length_range]; exact walk_rangeC, fun _ _ _ => trivial, fun q W4 H4 S4 x H5 hi x4 w4 y => ?_⟩
    obtain ⟨rfl, rfl⟩ := y
    have hi' : q < n := by simpa using hi
    exact ⟨W4, .int (i + (q : Int) * k), by simp [hi'], .refl _ _, w4, .int _⟩
  · exact h3.elim
theorem s_irng2 (hg : Gl X "range") (hm : X.mg "range" = none) (ha : PE X ea (Rd Wx a)) (hb : PE X eb (Rd Wx b)) (h1 : starEach [ea, eb] X.env = (false, eval ea X.env) :: starEach [eb] X.env) (h2 : starEach [eb] X.env = [(false, eval eb X.env)]) (hpl : (backTo pos (starEach [eb] X.env)).any (·.1) = false) :
    PI X tg (.Call (.Name "range" p) [ea, eb] [] pos) (RdI Wx fun r S => (a r S).bindD fun d S1 => (b r S1).bindD fun e S2 => match rng3D d e (.int 1) with | some xs => .ok xs S2 | none => .bad) := by
  have hA : PA X [ea, eb] (tCons (Rd Wx a) (tCons (Rd Wx b) tNil)) := pa_cons ha (pa_cons hb pa_nil h2) h1
  refine PI_imp (pi_range2 hg hm hA (by rw [h1, h2]) h2) fun σ H R h => ?_
  obtain ⟨W, S, r, w, en, h⟩ := h
  refine ⟨W, S, r, w, en, (PostI.bind h).mono fun x H1 ⟨W1, S1, d, e1, w1, r1, h1⟩ => ?_⟩
  refine ⟨W1, S1, r, w1, en.ext e1, (PostI.bind h1).mono fun y H2 ⟨W2, S2, e, e2, w2, r2, h2⟩ => ?_⟩
  split at h2
  · rename_i xs hx
    obtain ⟨i, j, k, rfl, rfl, hk⟩ := rng3_ints hx
    cases hk
    obtain ⟨n, g1, g2, g3, g4, g5, g6, g7⟩ := rng3_at hx
    have hn : n = (j - i).toNat := by
      have e1 := g1.2.2.2
      rw [rangeSize_one] at e1
      split at e1 <;> omega
    subst hn
    subst g2
    refine ⟨i, j, by rw [rep_int r1, rep_int r2], ⟨by omega, by omega, by omega, by omega⟩, h2 _ H2 W2 (.refl _ _) w2 ?_⟩
    refine ⟨by rw [List.length_map, List.length_range]; exact g3, fun _ => True, _, by rw [List.length_map, List.length_range]; exact walk_range, fun _ _ _ => trivial, fun q W4 H4 S4 x H5 hi x4 w4 y => ?_⟩
    obtain ⟨rfl, rfl⟩ := y
    have hi' : q < (j - i).toNat := by simpa using hi
    exact ⟨W4, .int (i + (q : Int) * 1), by simp [hi'], .refl _ _, w4, by rw [Int.mul_one]; exact .int _⟩
  · exact h2.elim
end
end Fc

end
section
set_option autoImplicit false
set_option maxHeartbeats 1000000
/-! comprehensions; the end of a loop's turn, of a call -/
namespace Fc
open PySem PySem.Spec L2
variable [CtI] [XsI]
def PostT (W : Wd) (H : Hp) : Out Bool → (Bool → Hp → Prop) → Prop
  | .ok b S', Q => ∀ H' W', Ext W H W' H' → Wok W' H' S' → Q b H'
  | _, _ => False
abbrev Evb := Env → Store → Out Bool
def RdT (tt : Evb) : TT := fun σ H Q => ∃ W S r, Wok W H S ∧ EnvR W H r σ ∧ PostT W H (tt r S) Q
abbrev noX : WX := fun _ _ _ _ => False
theorem PTs_imp {X : Cx} {e : List Expr} {t t' : TT} (h : PTs X e t) (i : ∀ σ H Q, t' σ H Q → t σ H Q) : PTs X e t' := ⟨fun pins s σ H Q I q => h.run pins s σ H Q I (i σ H Q q)⟩
theorem ts_nil {X : Cx} : PTs X [] (RdT fun _ S => .ok true S) := by
  refine PTs_imp pts_nil fun σ H Q h => ?_
  obtain ⟨W, S, r, w, en, h⟩ := h
  exact h H W (.refl _ _) w
theorem ts_one {X : Cx} {c : Expr} {a : Ev} (h : PT X c (Rt noX a)) : PTs X [c] (RdT fun r S => (a r S).bindD fun d S1 => match d with | .bl b => .ok b S1 | _ => .bad) := by
  refine PTs_imp (pts_one h) fun σ H Q h => ?_
  obtain ⟨W, S, r, w, en, h⟩ := h
  refine ⟨W, S, r, w, en, ?_⟩
  dsimp only at h
  cases e1 : a r S with
  | bad => rw [e1] at h; exact h.elim
  | ex => rw [e1] at h; exact h.elim
  | ok rv S1 =>
    rw [e1] at h
    have h' : PostT W H (match rv.toD with | .bl b => .ok b S1 | _ => .bad) Q := h
    intro v H1 W1 x1 w1 r1
    obtain ⟨W2, x2, w2, r2⟩ := r1.toD w1
    split at h'
    · rename_i b hb
      rw [hb] at r2
      exact ⟨b, rep_bl r2, h' H1 W2 (x1.trans x2) w2⟩
    · exact h'.elim
def turnC (f : D → Env → Store → Out Env) (tt : Evb) (ev : Ev) (r : Env) : D → Store → Out (Option D) := fun d S => (f d r S).bind fun r1 S2 => (tt r1 S2).bind fun b S3 => match b with
  | true => (ev r1 S3).bindD fun x S4 => .ok (some x) S4
  | false => .ok none S3
def evComp (xs : Evs) (f : D → Env → Store → Out Env) (tt : Evb) (ev : Ev) (own : List Nat) : Ev := fun r S => (xs r S).bind fun zs S1 => (compL (turnC f tt ev (wipeE r own)) zs S1).bind fun ys S2 => .ok (.tl ys) S2
theorem compL_noex {f : D → Store → Out (Option D)} : ∀ {zs : List D} {S : Store} {c fs r S'}, compL f zs S ≠ .ex c fs r S'
  | [], _, _, _, _, _ => by unfold compL; exact nofun
  | d :: ds, S, c, fs, r, S' => by
    unfold compL
    cases e : f d S with
    | bad => exact nofun
    | ex => exact nofun
    | ok o S1 =>
      show ((compL f ds S1).bind _) ≠ _
      cases e2 : compL f ds S1 with
      | bad => exact nofun
      | ex => exact absurd e2 compL_noex
      | ok ys S2 => exact nofun
def tailO : Option D → List D → List D
  | some x, r => x :: r
  | none, r => r
theorem compL_cons {f : D → Store → Out (Option D)} {d : D} {ds : List D} {S : Store} {ys : List D} {Sn : Store} (h : compL f (d :: ds) S = .ok ys Sn) :
    ∃ o S1 rest, f d S = .ok o S1 ∧ compL f ds S1 = .ok rest Sn ∧ ys = o.toList ++ rest := by
  unfold compL at h
  cases e : f d S with
  | bad => rw [e] at h; cases h
  | ex => rw [e] at h; cases h
  | ok o S1 =>
    rw [e] at h
    replace h : ((compL f ds S1).bind fun r S2 => Out.ok (tailO o r) S2) = .ok ys Sn := by cases o <;> exact h
    cases e2 : compL f ds S1 with
    | bad => rw [e2] at h; cases h
    | ex => rw [e2] at h; cases h
    | ok rest S2 =>
      rw [e2] at h
      cases o with
      | none => cases h; exact ⟨none, S1, rest, rfl, e2, rfl⟩
      | some x => cases h; exact ⟨some x, S1, rest, rfl, e2, rfl⟩
def Wd.tm (W : Wd) (t : Addr → Prop) : Wd := ⟨W.F, W.m, W.c, t⟩
theorem Wd.tm_e0 {W : Wd} {H : Hp} {t : Addr → Prop} : E0 W H (W.tm t) H := ⟨fun a h => ⟨h, rfl⟩, ⟨[], by simp [Wd.tm]⟩, rfl⟩
theorem Wok.tm {W : Wd} {H : Hp} {S : Store} {t : Addr → Prop} (w : Wok W H S) (h : ∀ a, t a → ¬ W.F a ∧ a ∉ W.m ∧ Tmp (H a)) : Wok (W.tm t) H S :=
  ⟨w.len, fun l o e => by obtain ⟨a, h1, h2⟩ := w.obj l o e; exact ⟨a, h1, h2.ext0 Wd.tm_e0 rfl⟩, w.nd, w.dis, w.dom, h, w.ct⟩
theorem comp_lc {Wx : WX} {xs : Evs} {ts : List Nat} {f : D → Env → Store → Out Env} {tt : Evb} {ev : Ev} {own : List Nat} (hts : ∀ i ∈ ts, i ∈ own) {σ : L2.St} {H : Hp} {Q : VK} (h : Rd Wx (evComp xs f tt ev own) σ H Q) :
    tLc (RdI Wx xs) (RdG ts f) (RdT tt) (Rd noX ev) own σ H Q := by
  obtain ⟨W, S, r, w, en, h⟩ := h
  unfold evComp at h
  refine ⟨W, S, r, w, en, ?_⟩
  cases e1 : xs r S with
  | bad => rw [e1] at h; exact h.elim
  | ex c fs r' S' => rw [e1] at h; exact h
  | ok zs S1 =>
    rw [e1] at h
    replace h : Post W H σ Wx ((compL (turnC f tt ev (wipeE r own)) zs S1).bind fun ys S2 => .ok (.tl ys) S2) Q := h
    cases e2 : compL (turnC f tt ev (wipeE r own)) zs S1 with
    | bad => rw [e2] at h; exact h.elim
    | ex => exact absurd e2 compL_noex
    | ok all Sn =>
      rw [e2] at h
      replace h : Post W H σ Wx (.ok (.tl all) Sn) Q := h
      intro J H1 W1 x1 w1 it
      obtain ⟨hz, G, Y, wk, hG, hY⟩ := it
      intro D hD
      have nT : ¬ W1.T D := w1.notT hD
      have nF : ¬ W1.F D := w1.notF hD
      have xu : Ext W1 H1 W1 (upd H1 D (.lst [])) := upd_F w1 hD
      refine lc_it wk (fun i Hi => ∃ Wi Si ys rest accv, Wi.T = W1.T ∧ Ext W1 H1 Wi Hi ∧ Wok Wi Hi Si ∧ ¬ Wi.F D ∧ D ∉ Wi.m ∧ Hi D = some (.lst accv) ∧ Reps Wi Hi accv ys ∧ ys.length ≤ i ∧ compL (turnC f tt ev (wipeE r own)) (zs.drop i) Si = .ok rest Sn ∧ all = ys ++ rest)
        ⟨W1, S1, [], all, [], rfl, xu, w1.upd hD, nF, w1.notm hD, upd_same, .nil, Nat.le_refl _, e2, rfl⟩ (fun i Hi _ ⟨Wi, _, _, _, _, _, xi, _⟩ => hG Wi Hi xi.e0) (fun i x Hi H' hi ⟨Wi, Si, ys, rest, accv, hT, xi, wi, fD, mD, rD, rs, hl, hc, ha⟩ y => ?_) fun Hn ⟨Wi, Si, ys, rest, accv, hT, xi, wi, fD, mD, rD, rs, hl, hc, ha⟩ => ?_
      · -- a turn
        have wp : Wok (Wi.tm fun a => W1.T a ∨ a = D) Hi Si := wi.tm fun a h => h.elim (fun h => wi.tem a (by rw [hT]; exact h)) fun h => by subst h; exact ⟨fD, mD, by rw [rD]; exact ⟨nofun, nofun⟩⟩
        have xp : Ext W1 H1 (Wi.tm fun a => W1.T a ∨ a = D) Hi := ⟨xi.fr, xi.pre, xi.c, fun a h => ⟨.inl h, (xi.tm a h).2⟩⟩
        obtain ⟨W2, d, hd, x2, w2, r2⟩ := hY i _ Hi Si x H' hi xp.e0 wp y
        have hdr : zs.drop i = d :: zs.drop (i + 1) := by
          have hlt : i < zs.length := hi
          rw [List.drop_eq_getElem_cons hlt]
          rw [List.getElem?_eq_getElem hlt] at hd
          cases hd
          rfl
        rw [hdr] at hc
        obtain ⟨o, S5, rest', ht, hc', hr⟩ := compL_cons hc
        have en2 : EnvR W2 H' (wipeE r own) (L2.wipe σ own) := (((en.ext x1).ext xp).ext x2).wipe own
        refine ⟨W2, Si, wipeE r own, d, w2, en2, r2, ?_⟩
        unfold turnC at ht
        cases e3 : f d (wipeE r own) Si with
        | bad => rw [e3] at ht; cases ht
        | ex => rw [e3] at ht; cases ht
        | ok r3 S3 =>
          rw [e3] at ht
          replace ht : ((tt r3 S3).bind fun b S3 => match b with | true => (ev r3 S3).bindD fun x S4 => Out.ok (some x) S4 | false => .ok none S3) = .ok o S5 := ht
          intro σ3 H3 W3 x3 w3 en3 ag3
          refine ⟨?_, W3, S3, r3, w3, en3, ?_⟩
          · have hw := ag3.wipe hts
            rw [hw]
            apply List.ext_getElem?
            intro j
            by_cases hj : j ∈ own
            · by_cases hjl : j < σ.length
              · rw [wipe_in hj (by rw [wipe_length]; exact hjl), wipe_in hj hjl]
              · rw [List.getElem?_eq_none (by rw [wipe_length, wipe_length]; omega), List.getElem?_eq_none (by rw [wipe_length]; omega)]
            · rw [wipe_out hj]
          cases e4 : tt r3 S3 with
          | bad => rw [e4] at ht; cases ht
          | ex => rw [e4] at ht; cases ht
          | ok b S4 =>
            rw [e4] at ht
            replace ht : (match b with | true => (ev r3 S4).bindD fun x S4 => Out.ok (some x) S4 | false => .ok none S4) = .ok o S5 := ht
            intro H4 W4 x4 w4
            -- the next invariant
            have next : ∀ (W5 : Wd) (H5 : Hp), Ext (Wi.tm fun a => W1.T a ∨ a = D) Hi W5 H5 → Wok W5 H5 S5 → ∀ (H6 : Hp) (zv : List V), (∀ a, a ≠ D → H6 a = H5 a) → H6 D = some (.lst (accv ++ zv)) → Reps W5 H5 zv o.toList →
                ∃ Wi Si ys rest accv, Wi.T = W1.T ∧ Ext W1 H1 Wi H6 ∧ Wok Wi H6 Si ∧ ¬ Wi.F D ∧ D ∉ Wi.m ∧ H6 D = some (.lst accv) ∧ Reps Wi H6 accv ys ∧ ys.length ≤ i + 1 ∧ compL (turnC f tt ev (wipeE r own)) (zs.drop (i + 1)) Si = .ok rest Sn ∧ all = ys ++ rest := by
              intro W5 H5 x5 w5 H6 zv h6 h6D rz
              have tD := (x5.tm D (.inr rfl)).1
              have f5 : ¬ W5.F D := (w5.tem D tD).1
              have m5 : D ∉ W5.m := (w5.tem D tD).2.1
              have ne : ∀ a, W1.T a → a ≠ D := fun a h z => nT (z ▸ h)
              have xq : E0 W5 H5 (W5.tm W1.T) H6 := ⟨fun a h => ⟨h, h6 a fun z => f5 (z ▸ h)⟩, ⟨[], by simp [Wd.tm]⟩, rfl⟩
              have xv : Ext W1 H1 W5 H5 := xp.trans x5
              refine ⟨W5.tm W1.T, S5, ys ++ o.toList, rest', accv ++ zv, rfl, ⟨fun a h => ⟨(xv.fr a h).1, (h6 a fun z => f5 (z ▸ (xv.fr a h).1)).trans (xv.fr a h).2⟩, xv.pre, xv.c, fun a h => ⟨h, (h6 a (ne a h)).trans (xv.tm a h).2⟩⟩, ?_, f5, m5, h6D, ?_, ?_, hc', by rw [ha, hr, List.append_assoc]⟩
              · refine ⟨w5.len, fun l ob hl => ?_, w5.nd, w5.dis, fun a h => ?_, fun a h => ?_, w5.ct⟩
                · obtain ⟨a, h1, h2⟩ := w5.obj l ob hl
                  exact ⟨a, h1, h2.ext0 xq (h6 a fun z => m5 (z ▸ List.mem_of_getElem? h1))⟩
                · rw [h6 a fun z => f5 (z ▸ h)]; exact w5.dom a h
                · have t5 := (xv.tm a h).1
                  exact ⟨(w5.tem a t5).1, (w5.tem a t5).2.1, by rw [h6 a (ne a h)]; exact (w5.tem a t5).2.2⟩
              · have xr : E0 Wi Hi W5 H5 := ⟨x5.fr, x5.pre, x5.c⟩
                exact ((rs.ext0 xr).ext0 xq).append (rz.ext0 xq)
              · rw [List.length_append]
                have : o.toList.length ≤ 1 := by cases o <;> simp
                omega
            have x24 : Ext (Wi.tm fun a => W1.T a ∨ a = D) Hi W4 H4 := (x2.trans x3).trans x4
            cases b with
            | false =>
              cases ht
              refine ifF (next W4 H4 x24 w4 H4 [] (fun _ _ => rfl) ?_ .nil)
              rw [List.append_nil, (x24.tm D (.inr rfl)).2]
              exact rD
            | true =>
              replace ht : ((ev r3 S4).bindD fun x S4 => Out.ok (some x) S4) = .ok o S5 := ht
              refine ifT ⟨W4, S4, r3, w4, en3.ext x4, ?_⟩
              cases e5 : ev r3 S4 with
              | bad => rw [e5] at ht; cases ht
              | ex => rw [e5] at ht; cases ht
              | ok rv S6 =>
                rw [e5] at ht
                cases ht
                intro v H5 W5 x5 w5 r5
                obtain ⟨W6, x6, w6, r6⟩ := r5.toD w5
                have x26 := x24.trans (x5.trans x6)
                have hD5 : H5 D = some (.lst accv) := by rw [(x26.tm D (.inr rfl)).2]; exact rD
                refine ⟨accv, hD5, by rw [rs.length, ← lim_eq]; omega, next W6 H5 x26 w6 _ [v] (fun a h => upd_ne h) upd_same (.one r6)⟩
      · have e0 : zs.drop zs.length = [] := List.drop_eq_nil_of_le (Nat.le_refl _)
        rw [e0] at hc
        have hr : Out.ok ([] : List Fc.D) Si = .ok rest Sn := hc
        cases hr
        rw [List.append_nil] at ha
        subst ha
        exact h _ Hn Wi (x1.trans xi) wi ⟨D, accv, rfl, rD, rs, by omega, fD, mD, by rw [hT]; exact nT⟩
/-! two walks, one within the other -/
def turn2 (f : D → Env → Store → Out Env) (tt : Evb) (xs2 : Evs) (f2 : D → Env → Store → Out Env) (tt2 : Evb) (ev : Ev) (own2 : List Nat) (r : Env) : D → Store → Out (List D) := fun d S => (f d r S).bind fun r1 S2 => (tt r1 S2).bind fun b S3 => match b with
  | true => (xs2 r1 S3).bind fun zs S4 => compL (turnC f2 tt2 ev (wipeE r1 own2)) zs S4
  | false => .ok [] S3
def evComp2 (xs : Evs) (f : D → Env → Store → Out Env) (tt : Evb) (xs2 : Evs) (f2 : D → Env → Store → Out Env) (tt2 : Evb) (ev : Ev) (own own2 : List Nat) : Ev := fun r S => (xs r S).bind fun zs S1 => (compM (turn2 f tt xs2 f2 tt2 ev own2 (wipeE r own)) zs S1).bind fun ys S2 => if ys.length ≤ 16777216 then .ok (.tl ys) S2 else .bad
theorem compM_noex {f : D → Store → Out (List D)} : ∀ {zs : List D} {S : Store} {c fs r S'}, compM f zs S ≠ .ex c fs r S'
  | [], _, _, _, _, _ => by unfold compM; exact nofun
  | d :: ds, S, c, fs, r, S' => by
    unfold compM
    cases e : f d S with
    | bad => exact nofun
    | ex => exact nofun
    | ok o S1 =>
      show ((compM f ds S1).bind _) ≠ _
      cases e2 : compM f ds S1 with
      | bad => exact nofun
      | ex => exact absurd e2 compM_noex
      | ok ys S2 => exact nofun
theorem compM_cons {f : D → Store → Out (List D)} {d : D} {ds : List D} {S : Store} {ys : List D} {Sn : Store} (h : compM f (d :: ds) S = .ok ys Sn) :
    ∃ o S1 rest, f d S = .ok o S1 ∧ compM f ds S1 = .ok rest Sn ∧ ys = o ++ rest := by
  unfold compM at h
  cases e : f d S with
  | bad => rw [e] at h; cases h
  | ex => rw [e] at h; cases h
  | ok o S1 =>
    rw [e] at h
    replace h : ((compM f ds S1).bind fun zs S2 => Out.ok (o ++ zs) S2) = .ok ys Sn := h
    cases e2 : compM f ds S1 with
    | bad => rw [e2] at h; cases h
    | ex => rw [e2] at h; cases h
    | ok rest S2 => rw [e2] at h; cases h; exact ⟨o, S1, rest, rfl, e2, rfl⟩
theorem EnvR.ext0 {W W' : Wd} {H H' : Hp} (e : E0 W H W' H') {r : Env} {σ : L2.St} (h : EnvR W H r σ) : EnvR W' H' r σ :=
  ⟨h.1, fun i d q => by obtain ⟨v, h1, h2⟩ := h.2 i d q; exact ⟨v, h1, h2.imp (·.ext0 e) (·.ext0 e)⟩⟩
theorem E0.trans {W W1 W2 : Wd} {H H1 H2 : Hp} (a : E0 W H W1 H1) (b : E0 W1 H1 W2 H2) : E0 W H W2 H2 :=
  ⟨fun x h => ⟨(b.fr x (a.fr x h).1).1, ((b.fr x (a.fr x h).1).2).trans (a.fr x h).2⟩, by
    obtain ⟨t, e⟩ := a.pre
    obtain ⟨u, e'⟩ := b.pre
    exact ⟨t ++ u, by rw [e', e, List.append_assoc]⟩, b.c.trans a.c⟩
/-- a walk's turns, the next wish told by Pv -/
theorem it_go {J : L2.It} {n : Nat} {G : Hp → Prop} {Y : Nat → Hp → V → Hp → Prop} (w : Walk J n G Y) {B : V → Hp → (Hp → Prop) → Prop} {H0 : Hp} {Qd : Hp → Prop} (Pv : Nat → Hp → Prop) (h0 : Pv 0 H0) (hG : ∀ i H, i ≤ n → Pv i H → G H)
    (hs : ∀ i x H H', i < n → Pv i H → Y i H x H' → B x H' (Pv (i + 1))) (hd : ∀ H, Pv n H → Qd H) :
    ∃ W : Nat → Nat → Hp → Prop, (∃ m, W 0 m H0) ∧ ∀ i m H, W i m H → (J.stop i H ∧ Qd H) ∨ (J.go i H ∧ ∃ Nx : Hp → Prop, (∀ H', Nx H' → ∃ m', m' < m ∧ W (i + 1) m' H') ∧ ∀ x H', J.yld i H x H' → B x H' Nx) := by
  refine ⟨fun i m H => m = n - i ∧ i ≤ n ∧ Pv i H, ⟨n, ⟨(Nat.sub_zero n).symm, Nat.zero_le _, h0⟩⟩, fun i m H z => ?_⟩
  obtain ⟨e, hi, p⟩ := z
  by_cases hlt : i < n
  · exact .inr ⟨w.goes i H hlt (hG i H hi p), Pv (i + 1), fun H' p' => ⟨n - (i + 1), by omega, rfl, hlt, p'⟩, fun x H' y => hs i x H H' hlt p (w.yields i H x H' hlt (hG i H hi p) y)⟩
  · have e2 : i = n := by omega
    rw [e2] at p ⊢
    exact .inl ⟨w.stops H (hG n H (Nat.le_refl _) p), hd H p⟩
/-- the list in the making lies at D -/
structure LcI (W1 : Wd) (H1 : Hp) (D : Addr) (Wi : Wd) (Hi : Hp) (Si : Store) (ys : List Fc.D) : Prop where
  T : Wi.T = W1.T
  x : Ext W1 H1 Wi Hi
  w : Wok Wi Hi Si
  f : ¬ Wi.F D
  m : D ∉ Wi.m
  l : ∃ accv, Hi D = some (.lst accv) ∧ Reps Wi Hi accv ys
section
variable {W1 : Wd} {H1 : Hp} {D : Addr} {Wi : Wd} {Hi : Hp} {Si : Store} {ys : List Fc.D}
/-- while a turn runs, D is in hand -/
def tmD (W1 Wi : Wd) (D : Addr) : Wd := Wi.tm fun a => W1.T a ∨ a = D
theorem LcI.wp (h : LcI W1 H1 D Wi Hi Si ys) : Wok (tmD W1 Wi D) Hi Si := h.w.tm fun a q => q.elim (fun q => h.w.tem a (by rw [h.T]; exact q)) fun q => by
  obtain ⟨accv, e, _⟩ := h.l
  subst q
  exact ⟨h.f, h.m, by rw [e]; exact ⟨nofun, nofun⟩⟩
theorem LcI.xp (h : LcI W1 H1 D Wi Hi Si ys) : Ext W1 H1 (tmD W1 Wi D) Hi := ⟨h.x.fr, h.x.pre, h.x.c, fun a q => ⟨.inl q, (h.x.tm a q).2⟩⟩
/-- behind the turn: some values are put behind -/
theorem LcI.next (nT : ¬ W1.T D) (h : LcI W1 H1 D Wi Hi Si ys) {W5 : Wd} {H5 H6 : Hp} {S5 : Store} {zv : List V} {zs : List Fc.D} (x5 : Ext (tmD W1 Wi D) Hi W5 H5) (w5 : Wok W5 H5 S5) (h6 : ∀ a, a ≠ D → H6 a = H5 a) (hD : ∀ accv, H5 D = some (.lst accv) → H6 D = some (.lst (accv ++ zv))) (rz : Reps W5 H5 zv zs) :
    LcI W1 H1 D (W5.tm W1.T) H6 S5 (ys ++ zs) ∧ E0 W5 H5 (W5.tm W1.T) H6 := by
  obtain ⟨accv, rD, rs⟩ := h.l
  have tD := (x5.tm D (.inr rfl)).1
  have f5 : ¬ W5.F D := (w5.tem D tD).1
  have m5 : D ∉ W5.m := (w5.tem D tD).2.1
  have ne : ∀ a, W1.T a → a ≠ D := fun a q z => nT (z ▸ q)
  have xq : E0 W5 H5 (W5.tm W1.T) H6 := ⟨fun a q => ⟨q, h6 a fun z => f5 (z ▸ q)⟩, ⟨[], by simp [Wd.tm]⟩, rfl⟩
  have xv : Ext W1 H1 W5 H5 := h.xp.trans x5
  refine ⟨⟨rfl, ⟨fun a q => ⟨(xv.fr a q).1, (h6 a fun z => f5 (z ▸ (xv.fr a q).1)).trans (xv.fr a q).2⟩, xv.pre, xv.c, fun a q => ⟨q, (h6 a (ne a q)).trans (xv.tm a q).2⟩⟩, ?_, f5, m5, accv ++ zv, hD accv (by rw [(x5.tm D (.inr rfl)).2]; exact rD), ?_⟩, xq⟩
  · refine ⟨w5.len, fun l ob hl => ?_, w5.nd, w5.dis, fun a q => ?_, fun a q => ?_, w5.ct⟩
    · obtain ⟨a, h1, h2⟩ := w5.obj l ob hl
      exact ⟨a, h1, h2.ext0 xq (h6 a fun z => m5 (z ▸ List.mem_of_getElem? h1))⟩
    · rw [h6 a fun z => f5 (z ▸ q)]; exact w5.dom a q
    · have t5 := (xv.tm a q).1
      exact ⟨(w5.tem a t5).1, (w5.tem a t5).2.1, by rw [h6 a (ne a q)]; exact (w5.tem a t5).2.2⟩
  · have xr : E0 Wi Hi W5 H5 := ⟨x5.fr, x5.pre, x5.c⟩
    exact ((rs.ext0 xr).ext0 xq).append (rz.ext0 xq)
end
theorem wipes_eq {own : List Nat} {σ σ2 : L2.St} {ts : List Nat} (hts : ∀ i ∈ ts, i ∈ own) (ag : Agr ts (L2.wipe σ own) σ2) : L2.wipe σ2 own = L2.wipe σ own := by
  rw [ag.wipe hts]
  apply List.ext_getElem?
  intro j
  by_cases hj : j ∈ own
  · by_cases hjl : j < σ.length
    · rw [wipe_in hj (by rw [wipe_length]; exact hjl), wipe_in hj hjl]
    · rw [List.getElem?_eq_none (by rw [wipe_length, wipe_length]; omega), List.getElem?_eq_none (by rw [wipe_length]; omega)]
  · rw [wipe_out hj]
theorem drop_at {α : Type} {zs : List α} {i : Nat} {d : α} (h : zs[i]? = some d) : zs.drop i = d :: zs.drop (i + 1) := by
  obtain ⟨hlt, e⟩ := List.getElem?_eq_some_iff.mp h
  rw [List.drop_eq_getElem_cons hlt, e]
theorem comp_lc2 {Wx : WX} {xs xs2 : Evs} {ts ts2 : List Nat} {f f2 : D → Env → Store → Out Env} {tt tt2 : Evb} {ev : Ev} {own own2 : List Nat} (hts : ∀ i ∈ ts, i ∈ own) (hts2 : ∀ i ∈ ts2, i ∈ own2) {σ : L2.St} {H : Hp} {Q : VK} (h : Rd Wx (evComp2 xs f tt xs2 f2 tt2 ev own own2) σ H Q) :
    tLc2 (RdI Wx xs) (RdG ts f) (RdT tt) (RdI noX xs2) (RdG ts2 f2) (RdT tt2) (Rd noX ev) own own2 σ H Q := by
  obtain ⟨W, S, r, w, en, h⟩ := h
  unfold evComp2 at h
  refine ⟨W, S, r, w, en, ?_⟩
  cases e1 : xs r S with
  | bad => rw [e1] at h; exact h.elim
  | ex c fs r' S' => rw [e1] at h; exact h
  | ok zs S1 =>
    rw [e1] at h
    replace h : Post W H σ Wx ((compM (turn2 f tt xs2 f2 tt2 ev own2 (wipeE r own)) zs S1).bind fun ys S2 => if ys.length ≤ 16777216 then .ok (.tl ys) S2 else .bad) Q := h
    cases e2 : compM (turn2 f tt xs2 f2 tt2 ev own2 (wipeE r own)) zs S1 with
    | bad => rw [e2] at h; exact h.elim
    | ex => exact absurd e2 compM_noex
    | ok all Sn =>
      rw [e2] at h
      replace h : Post W H σ Wx (if all.length ≤ 16777216 then .ok (.tl all) Sn else .bad) Q := h
      by_cases hb : all.length ≤ 16777216
      · rw [if_pos hb] at h
        intro J H1 W1 x1 w1 it
        obtain ⟨hz, G, Y, wk, hG, hY⟩ := it
        intro D hD
        have nT : ¬ W1.T D := w1.notT hD
        have nF : ¬ W1.F D := w1.notF hD
        have xu : Ext W1 H1 W1 (upd H1 D (.lst [])) := upd_F w1 hD
        refine it_go wk (fun i Hi => ∃ Wi Si ys rest, LcI W1 H1 D Wi Hi Si ys ∧ compM (turn2 f tt xs2 f2 tt2 ev own2 (wipeE r own)) (zs.drop i) Si = .ok rest Sn ∧ all = ys ++ rest)
          ⟨W1, S1, [], all, ⟨rfl, xu, w1.upd hD, nF, w1.notm hD, [], upd_same, .nil⟩, e2, rfl⟩ (fun i Hi _ ⟨Wi, _, _, _, lc, _⟩ => hG Wi Hi lc.x.e0) (fun i x Hi H' hi ⟨Wi, Si, ys, rest, lc, hc, ha⟩ y => ?_) fun Hn ⟨Wi, Si, ys, rest, lc, hc, ha⟩ => ?_
        · obtain ⟨W2, d, hd, x2, w2, r2⟩ := hY i _ Hi Si x H' hi lc.xp.e0 lc.wp y
          rw [drop_at hd] at hc
          obtain ⟨o, S5, rest', ht, hc', hr⟩ := compM_cons hc
          have en2 : EnvR W2 H' (wipeE r own) (L2.wipe σ own) := (((en.ext x1).ext lc.xp).ext x2).wipe own
          refine ⟨W2, Si, wipeE r own, d, w2, en2, r2, ?_⟩
          unfold turn2 at ht
          cases e3 : f d (wipeE r own) Si with
          | bad => rw [e3] at ht; cases ht
          | ex => rw [e3] at ht; cases ht
          | ok r3 S3 =>
            rw [e3] at ht
            replace ht : ((tt r3 S3).bind fun b S3 => match b with | true => (xs2 r3 S3).bind fun zs S4 => compL (turnC f2 tt2 ev (wipeE r3 own2)) zs S4 | false => .ok [] S3) = .ok o S5 := ht
            intro σ3 H3 W3 x3 w3 en3 ag3
            refine ⟨wipes_eq hts ag3, W3, S3, r3, w3, en3, ?_⟩
            cases e4 : tt r3 S3 with
            | bad => rw [e4] at ht; cases ht
            | ex => rw [e4] at ht; cases ht
            | ok b S4 =>
              rw [e4] at ht
              replace ht : (match b with | true => (xs2 r3 S4).bind fun zs S4 => compL (turnC f2 tt2 ev (wipeE r3 own2)) zs S4 | false => .ok [] S4) = .ok o S5 := ht
              intro H4 W4 x4 w4
              have x24 : Ext (tmD W1 Wi D) Hi W4 H4 := (x2.trans x3).trans x4
              cases b with
              | false =>
                cases ht
                exact ifF ⟨W4.tm W1.T, _, ys ++ [], rest', (lc.next nT x24 w4 (fun _ _ => rfl) (fun accv e => by rw [List.append_nil]; exact e) .nil).1, hc', by rw [ha, hr]; simp⟩
              | true =>
                replace ht : ((xs2 r3 S4).bind fun zs S4 => compL (turnC f2 tt2 ev (wipeE r3 own2)) zs S4) = .ok o S5 := ht
                refine ifT ⟨W4, S4, r3, w4, en3.ext x4, ?_⟩
                cases e5 : xs2 r3 S4 with
                | bad => rw [e5] at ht; cases ht
                | ex => rw [e5] at ht; cases ht
                | ok zs2 S6 =>
                  rw [e5] at ht
                  replace ht : compL (turnC f2 tt2 ev (wipeE r3 own2)) zs2 S6 = .ok o S5 := ht
                  intro J1 H6 W6 x6 w6 it2
                  obtain ⟨hz2, G2, Y2, wk2, hG2, hY2⟩ := it2
                  have lc0 := lc.next nT (x24.trans x6) w6 (H6 := H6) (fun _ _ => rfl) (fun accv e => by rw [List.append_nil]; exact e) .nil
                  refine it_go wk2 (fun j Hj => ∃ Wj Sj ys2 rest2, LcI W1 H1 D Wj Hj Sj (ys ++ ys2) ∧ E0 W6 H6 Wj Hj ∧ compL (turnC f2 tt2 ev (wipeE r3 own2)) (zs2.drop j) Sj = .ok rest2 S5 ∧ o = ys2 ++ rest2)
                    ⟨_, S6, [], o, lc0.1, lc0.2, ht, rfl⟩ (fun j Hj _ ⟨Wj, _, _, _, _, x0, _⟩ => hG2 Wj Hj x0) (fun j x Hj H' hj ⟨Wj, Sj, ys2, rest2, lj, xj, hcj, haj⟩ y => ?_) fun Hn ⟨Wn, Sm, ys2, rest2, ln, _, hcn, han⟩ => ?_
                  · have xpj : E0 W6 H6 (tmD W1 Wj D) Hj := xj.trans ⟨fun a h => ⟨h, rfl⟩, ⟨[], by simp [tmD, Wd.tm]⟩, rfl⟩
                    obtain ⟨W7, d2, hd2, x7, w7, r7⟩ := hY2 j _ Hj Sj x H' hj xpj lj.wp y
                    rw [drop_at hd2] at hcj
                    obtain ⟨o2, S8, rest3, ht2, hc2, hr2⟩ := compL_cons hcj
                    have en7 : EnvR W7 H' (wipeE r3 own2) (L2.wipe σ3 own2) := ((((en3.ext x4).ext x6).ext0 xpj).ext x7).wipe own2
                    refine ⟨W7, Sj, wipeE r3 own2, d2, w7, en7, r7, ?_⟩
                    unfold turnC at ht2
                    cases e6 : f2 d2 (wipeE r3 own2) Sj with
                    | bad => rw [e6] at ht2; cases ht2
                    | ex => rw [e6] at ht2; cases ht2
                    | ok r4 S9 =>
                      rw [e6] at ht2
                      replace ht2 : ((tt2 r4 S9).bind fun b S3 => match b with | true => (ev r4 S3).bindD fun x S4 => Out.ok (some x) S4 | false => .ok none S3) = .ok o2 S8 := ht2
                      intro σ4 H8 W8 x8 w8 en8 ag8
                      refine ⟨wipes_eq hts2 ag8, W8, S9, r4, w8, en8, ?_⟩
                      cases e7 : tt2 r4 S9 with
                      | bad => rw [e7] at ht2; cases ht2
                      | ex => rw [e7] at ht2; cases ht2
                      | ok b2 S10 =>
                        rw [e7] at ht2
                        replace ht2 : (match b2 with | true => (ev r4 S10).bindD fun x S4 => Out.ok (some x) S4 | false => .ok none S10) = .ok o2 S8 := ht2
                        intro H9 W9 x9 w9
                        have x79 : Ext (tmD W1 Wj D) Hj W9 H9 := (x7.trans x8).trans x9
                        cases b2 with
                        | false =>
                          cases ht2
                          have nx := lj.next nT x79 w9 (H6 := H9) (fun _ _ => rfl) (fun accv e => by rw [List.append_nil]; exact e) .nil
                          exact ifF ⟨W9.tm W1.T, _, ys2 ++ [], rest3, by rw [← List.append_assoc]; exact nx.1, (xpj.trans x79.e0).trans nx.2, hc2, by rw [haj, hr2]; simp⟩
                        | true =>
                          replace ht2 : ((ev r4 S10).bindD fun x S4 => Out.ok (some x) S4) = .ok o2 S8 := ht2
                          refine ifT ⟨W9, S10, r4, w9, en8.ext x9, ?_⟩
                          cases e8 : ev r4 S10 with
                          | bad => rw [e8] at ht2; cases ht2
                          | ex => rw [e8] at ht2; cases ht2
                          | ok rv S11 =>
                            rw [e8] at ht2
                            cases ht2
                            intro v H10 W10 x10 w10 r10
                            obtain ⟨W11, x11, w11, r11⟩ := r10.toD w10
                            have xn := x79.trans (x10.trans x11)
                            obtain ⟨accv, rD, rs⟩ := lj.l
                            have hD10 : H10 D = some (.lst accv) := by rw [(xn.tm D (.inr rfl)).2]; exact rD
                            have nx := lj.next nT xn w11 (H6 := upd H10 D (.lst (accv ++ [v]))) (zv := [v]) (zs := [rv.toD]) (fun a h => upd_ne h) (fun av e => by
                              rw [upd_same]
                              rw [hD10] at e
                              cases e
                              rfl) (.one r11)
                            refine ⟨accv, hD10, ?_, W11.tm W1.T, S8, ys2 ++ [rv.toD], rest3, by rw [← List.append_assoc]; exact nx.1, (xpj.trans xn.e0).trans nx.2, hc2, by rw [haj, hr2]; simp⟩
                            have : all = ys ++ (ys2 ++ (rv.toD :: rest3) ++ rest') := by rw [ha, hr, haj, hr2]; rfl
                            rw [this] at hb
                            simp only [List.length_append, List.length_cons] at hb
                            rw [rs.length, List.length_append, ← lim_eq]
                            omega
                  · have e0 : zs2.drop zs2.length = [] := List.drop_eq_nil_of_le (Nat.le_refl _)
                    rw [e0] at hcn
                    have hr2 : Out.ok ([] : List Fc.D) Sm = .ok rest2 S5 := hcn
                    cases hr2
                    rw [List.append_nil] at han
                    rw [← han] at ln
                    exact ⟨Wn, _, ys ++ o, rest', ln, hc', by rw [ha, hr, List.append_assoc]⟩
        · have e0 : zs.drop zs.length = [] := List.drop_eq_nil_of_le (Nat.le_refl _)
          rw [e0] at hc
          have hr : Out.ok ([] : List Fc.D) Si = .ok rest Sn := hc
          cases hr
          rw [List.append_nil] at ha
          subst ha
          obtain ⟨accv, rD, rs⟩ := lc.l
          exact h _ Hn Wi (x1.trans lc.x) lc.w ⟨D, accv, rfl, rD, rs, hb, lc.f, lc.m, by rw [lc.T]; exact nT⟩
      · rw [if_neg hb] at h
        exact h.elim
section
variable {X : Cx} [KX X] {Wx : WX}
theorem s_comp {elt tg iter : Expr} {ifs : List Expr} {scope : Scope} {own : List (Str × Nat)} {pos : Pos} {xs : Evs} {ts : List Nat} {f : D → Env → Store → Out Env} {tt : Evb} {ev : Ev} (hc : X.calm = true) (hN : X.N.Nodup) (hi : PI X tg iter (RdI Wx xs)) (ok : BlkOk X.N X.env.scope scope own)
    (hts : ∀ i ∈ ts, i ∈ own.map (·.2))
    (hg : ∀ (s : Shared) (H : Hp) (C : Addr) (cl : List (Str × Addr)) (fp : List Addr), PG (X.blk s H scope (compEnvC scope cl C X.env) fp) tg (RdG ts f)) (ht : ∀ (s : Shared) (H : Hp) (C : Addr) (cl : List (Str × Addr)) (fp : List Addr), PTs (X.blk s H scope (compEnvC scope cl C X.env) fp) ifs (RdT tt))
    (he : ∀ (s : Shared) (H : Hp) (C : Addr) (cl : List (Str × Addr)) (fp : List Addr), PE (X.blk s H scope (compEnvC scope cl C X.env) fp) elt (Rd noX ev)) (hs : ∀ x, foldedSetIterable iter X.env x = pure x) :
    PE X (.ListComp elt [⟨tg, iter, ifs, 0⟩] scope pos) (Rd Wx (evComp xs f tt ev (own.map (·.2)))) := PE_imp (pe_lc hc hN hi ok hg ht he hs) fun σ H Q h => comp_lc hts h
theorem s_comp2 {elt tg iter tg1 iter1 : Expr} {ifs ifs1 : List Expr} {scope : Scope} {own : List (Str × Nat)} {own2 : List Nat} {pos : Pos} {xs xs2 : Evs} {ts ts2 : List Nat} {f f2 : D → Env → Store → Out Env} {tt tt2 : Evb} {ev : Ev} (hc : X.calm = true) (hN : X.N.Nodup) (hi : PI X tg iter (RdI Wx xs)) (ok : BlkOk X.N X.env.scope scope own) (hv : ∀ i ∈ own2, i ∈ own.map (·.2))
    (hts : ∀ i ∈ ts, i ∈ own.map (·.2)) (hts2 : ∀ i ∈ ts2, i ∈ own2)
    (hg : ∀ (s : Shared) (H : Hp) (C : Addr) (cl : List (Str × Addr)) (fp : List Addr), PG (X.blk s H scope (compEnvC scope cl C X.env) fp) tg (RdG ts f)) (ht : ∀ (s : Shared) (H : Hp) (C : Addr) (cl : List (Str × Addr)) (fp : List Addr), PTs (X.blk s H scope (compEnvC scope cl C X.env) fp) ifs (RdT tt))
    (hi1 : ∀ (s : Shared) (H : Hp) (C : Addr) (cl : List (Str × Addr)) (fp : List Addr), PI (X.blk s H scope (compEnvC scope cl C X.env) fp) tg1 iter1 (RdI noX xs2))
    (hg1 : ∀ (s : Shared) (H : Hp) (C : Addr) (cl : List (Str × Addr)) (fp : List Addr), PG (X.blk s H scope (compEnvC scope cl C X.env) fp) tg1 (RdG ts2 f2)) (ht1 : ∀ (s : Shared) (H : Hp) (C : Addr) (cl : List (Str × Addr)) (fp : List Addr), PTs (X.blk s H scope (compEnvC scope cl C X.env) fp) ifs1 (RdT tt2))
    (he : ∀ (s : Shared) (H : Hp) (C : Addr) (cl : List (Str × Addr)) (fp : List Addr), PE (X.blk s H scope (compEnvC scope cl C X.env) fp) elt (Rd noX ev)) (hs : ∀ x, foldedSetIterable iter X.env x = pure x) (hs1 : ∀ env x, foldedSetIterable iter1 env x = pure x) :
    PE X (.ListComp elt [⟨tg, iter, ifs, 0⟩, ⟨tg1, iter1, ifs1, 0⟩] scope pos) (Rd Wx (evComp2 xs f tt xs2 f2 tt2 ev (own.map (·.2)) own2)) := PE_imp (pe_lc2 hc hN hi ok hv hg ht hi1 hg1 ht1 he hs hs1) fun σ H Q h => comp_lc2 hts hts2 h
end

/-! ### worlds cut -/
def Wd.cut (W : Wd) (k : Nat) : Wd := ⟨W.F, W.m.take k, W.c, W.T⟩
mutual
theorem Rep.tk {W : Wd} {H : Hp} {k : Nat} : ∀ {v : V} {d : D}, Rep W H v d → d.blw k = true → Rep (W.cut k) H v d
  | _, _, .non, _ => .non
  | _, _, .bl b, _ => .bl b
  | _, _, .int i, _ => .int i
  | _, _, .str x, _ => .str x
  | _, _, .tup f r rs hl, h => .tup f r (rs.tk h) hl
  | _, _, .lst f r rs hl, h => .lst f r (rs.tk h) hl
  | _, _, .scr f hl, _ => .scr f hl
  | _, _, .dk f r rs, h => .dk f r (rs.tk h)
  | _, _, .dt f r rs, h => .dt f r (rs.tk h)
  | _, _, .dkl f r rs, h => .dkl f r (rs.tk h)
  | _, _, .dtl f r rs, h => .dtl f r (rs.tk h)
  | _, _, .ob f g r q rs hl, h => .ob f g r q (rs.tk h) hl
  | _, _, .pr f r rs, h => .pr f r (rs.tk h)
  | _, _, .ref hm, h => .ref (by
      have hk := of_decide_eq_true h
      show (W.m.take k)[_]? = _
      rw [List.getElem?_take_of_lt hk]; exact hm)
theorem Reps.tk {W : Wd} {H : Hp} {k : Nat} : ∀ {vs : List V} {ds : List D}, Reps W H vs ds → D.blws k ds = true → Reps (W.cut k) H vs ds
  | _, _, .nil, _ => .nil
  | _, _, .cons r rs, h => .cons (r.tk (Bool.and_eq_true_iff.mp h).1) (rs.tk (Bool.and_eq_true_iff.mp h).2)
end
mutual
theorem Rep.lo {W : Wd} {H : Hp} : ∀ {v : V} {d : D}, Rep W H v d → d.blw W.m.length = true
  | _, _, .non => rfl
  | _, _, .bl b => rfl
  | _, _, .int i => rfl
  | _, _, .str x => rfl
  | _, _, .tup f r rs hl => rs.lo
  | _, _, .lst f r rs hl => rs.lo
  | _, _, .scr f hl => rfl
  | _, _, .dk f r rs => rs.lo
  | _, _, .dt f r rs => rs.lo
  | _, _, .dkl f r rs => rs.lo
  | _, _, .dtl f r rs => rs.lo
  | _, _, .ob f g r q rs hl => rs.lo
  | _, _, .pr f r rs => rs.lo
  | _, _, .ref hm => decide_eq_true (List.getElem?_eq_some_iff.mp hm).1
theorem Reps.lo {W : Wd} {H : Hp} : ∀ {vs : List V} {ds : List D}, Reps W H vs ds → D.blws W.m.length ds = true
  | _, _, .nil => rfl
  | _, _, .cons r rs => Bool.and_eq_true_iff.mpr ⟨r.lo, rs.lo⟩
end
theorem OR.lo {W : Wd} {H : Hp} {a : Addr} : ∀ {o : Obj}, OR W H a o → o.blw W.m.length = true
  | .lst ds, ⟨vs, h, r, hl⟩ => r.lo
  | .dic false .., ⟨kvs, h, k, r⟩ => r.lo
  | .dic true .., ⟨kvs, h, k, r⟩ => r.lo
  | .ins .., ⟨dx, vs, h, k, r⟩ => r.lo
  | .dead, h => rfl
theorem OR.tk {W : Wd} {H : Hp} {a : Addr} {k : Nat} : ∀ {o : Obj}, OR W H a o → o.blw k = true → OR (W.cut k) H a o
  | .lst ds, ⟨vs, h, r, hl⟩, q => ⟨vs, h, r.tk q, hl⟩
  | .dic false .., ⟨kvs, h, k, r⟩, q => ⟨kvs, h, k, r.tk q⟩
  | .dic true .., ⟨kvs, h, k, r⟩, q => ⟨kvs, h, k, r.tk q⟩
  | .ins .., ⟨dx, vs, h, k, r⟩, q => ⟨dx, vs, h, k, r.tk q⟩
  | .dead, h, _ => h
theorem Wok.cut {W0 W : Wd} {H0 H : Hp} {S0 S : Store} (w0 : Wok W0 H0 S0) (x : Ext W0 H0 W H) (w : Wok W H S) (ho : OldOk S0 S) : Wok (W.cut S0.length) H (S.take S0.length) ∧ Ext W0 H0 (W.cut S0.length) H := by
  have hle : S0.length ≤ S.length := by
    rw [← w0.len, ← w.len]
    obtain ⟨t, e⟩ := x.pre
    rw [e]; simp
  refine ⟨⟨?_, fun l o h => ?_, (List.take_sublist _ _).nodup w.nd, fun l a hl hd => ?_, w.dom, fun a h => ⟨(w.tem a h).1, fun hm => (w.tem a h).2.1 (List.mem_of_mem_take hm), (w.tem a h).2.2⟩, w.ct⟩, ⟨x.fr, ⟨[], ?_⟩, x.c, x.tm⟩⟩
  · show (W.m.take S0.length).length = _
    rw [List.length_take, List.length_take, w.len]
  · have hl : l < S0.length := by
      have := (List.getElem?_eq_some_iff.mp h).1
      rw [List.length_take] at this
      omega
    rw [List.getElem?_take_of_lt hl] at h
    obtain ⟨a, h1, h2⟩ := w.obj l o h
    refine ⟨a, by show (W.m.take S0.length)[l]? = _; rw [List.getElem?_take_of_lt hl]; exact h1, h2.tk ?_⟩
    rcases ho l o hl h with q | q
    · obtain ⟨b, _, h4⟩ := w0.obj l o q
      rw [← w0.len]; exact h4.lo
    · exact q
  · have hl' : l < S0.length := by
      have := (List.getElem?_eq_some_iff.mp hl).1
      replace this : l < (W.m.take S0.length).length := this
      rw [List.length_take] at this
      omega
    replace hl : (W.m.take S0.length)[l]? = some a := hl
    rw [List.getElem?_take_of_lt hl'] at hl
    rw [List.getElem?_take_of_lt hl'] at hd
    exact w.dis l a hl hd
  · show W.m.take S0.length = W0.m ++ []
    obtain ⟨t, e⟩ := x.pre
    rw [e, ← w0.len, List.take_left, List.append_nil]
theorem EnvR.tk {W : Wd} {H : Hp} {r : Env} {σ : L2.St} {k : Nat} (h : EnvR W H r σ) (hb : envB k r = true) : EnvR (W.cut k) H r σ := by
  refine ⟨h.1, fun i d e => ?_⟩
  obtain ⟨v, h1, h2⟩ := h.2 i d e
  have hd : d.blw k = true := List.all_eq_true.mp hb (some d) (List.mem_of_getElem? e)
  refine ⟨v, h1, h2.imp (·.tk hd) fun ⟨a, cls, dd, c, fs, q1, q2, q3, q4, kn, dx, vs, q5, q6, q7, q8, q9⟩ => ?_⟩
  subst q2
  unfold xcD at hd
  rw [D.blw] at hd
  exact ⟨a, cls, dd, c, fs, q1, rfl, q3, q4, kn, dx, vs, q5, q6, q7, q8.tk hd, q9⟩
theorem gcS_ok {W0 W : Wd} {H0 H : Hp} {S0 S : Store} {r : Env} {σ : L2.St} (w0 : Wok W0 H0 S0) (x : Ext W0 H0 W H) (w : Wok W H S) (en : EnvR W H r σ) : ∃ W', Ext W0 H0 W' H ∧ Wok W' H (gcS S0 r S) ∧ EnvR W' H r σ := by
  unfold gcS
  split
  · exact ⟨W, x, w, en⟩
  · split
    · rename_i h
      obtain ⟨h1, h2⟩ := w0.cut x w h.2
      exact ⟨_, h2, h1, en.tk h.1⟩
    · exact ⟨W, x, w, en⟩
theorem RepR.tk {W : Wd} {H : Hp} {v : V} {k : Nat} : ∀ {rv : RV}, RepR W H v rv → rv.toD.blw k = true → RepR (W.cut k) H v rv
  | .val d, r, h => Rep.tk r h
  | .tl ds, ⟨a, vs, e, ha, rs, hl, nf, nm, nt⟩, h => ⟨a, vs, e, ha, rs.tk h, hl, nf, fun z => nm (List.mem_of_mem_take z), nt⟩
  | .td false ks vs, ⟨a, kvs, e, ha, hk, rs, nf, nm, nt⟩, h => ⟨a, kvs, e, ha, hk, rs.tk h, nf, fun z => nm (List.mem_of_mem_take z), nt⟩
  | .td true ks vs, ⟨a, kvs, e, ha, hk, rs, nf, nm, nt⟩, h => ⟨a, kvs, e, ha, hk, rs.tk h, nf, fun z => nm (List.mem_of_mem_take z), nt⟩
theorem fin_ok {W0 W : Wd} {H0 H : Hp} {S0 S : Store} {v : V} {rv : RV} (w0 : Wok W0 H0 S0) (x : Ext W0 H0 W H) (w : Wok W H S) (q : RepR W H v rv) : ∃ W' rv' S', fin S0 rv S = .ok rv' S' ∧ Ext W0 H0 W' H ∧ Wok W' H S' ∧ RepR W' H v rv' := by
  unfold fin
  split
  · exact ⟨W, rv, S, rfl, x, w, q⟩
  split
  · rename_i l
    split
    · rename_i hl
      split
      · rename_i ho
        obtain ⟨h1, h2⟩ := w0.cut x w ho
        exact ⟨_, _, _, rfl, h2, h1, q.tk (decide_eq_true hl)⟩
      · exact ⟨W, _, S, rfl, x, w, q⟩
    · rename_i hl
      split
      · rename_i xs hx
        split
        · rename_i ho
          obtain ⟨h1, h2⟩ := w0.cut x w ho.2
          refine ⟨_, _, _, rfl, h2, h1, ?_⟩
          cases q with
          | ref hm =>
            rename_i a
            obtain ⟨b, h3, vs, h4, rs, hz⟩ := w.obj _ _ hx
            rw [hm] at h3
            cases h3
            refine ⟨a, vs, rfl, h4, rs.tk ho.1, hz, w.dis _ _ hm (by rw [hx]; exact nofun), fun z => ?_, fun z => (w.tem _ z).2.1 (List.mem_of_getElem? hm)⟩
            obtain ⟨j, hj⟩ := List.getElem?_of_mem z
            replace hj : (W.m.take S0.length)[j]? = some a := hj
            have hjl : j < S0.length := by
              have := (List.getElem?_eq_some_iff.mp hj).1
              rw [List.length_take] at this
              omega
            rw [List.getElem?_take_of_lt hjl] at hj
            have := nodup_at w.nd hj hm
            omega
        · exact ⟨W, _, S, rfl, x, w, q⟩
      · rename_i t ks vs hx
        split
        · rename_i ho
          obtain ⟨h1, h2⟩ := w0.cut x w ho.2
          refine ⟨_, _, _, rfl, h2, h1, ?_⟩
          cases q with
          | ref hm =>
            rename_i a
            have nmm : a ∉ (W.cut S0.length).m := fun z => by
              obtain ⟨j, hj⟩ := List.getElem?_of_mem z
              replace hj : (W.m.take S0.length)[j]? = some a := hj
              have hjl : j < S0.length := by
                have := (List.getElem?_eq_some_iff.mp hj).1
                rw [List.length_take] at this
                omega
              rw [List.getElem?_take_of_lt hjl] at hj
              have := nodup_at w.nd hj hm
              omega
            cases t with
            | false =>
              obtain ⟨b, h3, kvs, h4, hk, rs⟩ := w.obj _ _ hx
              rw [hm] at h3
              cases h3
              exact ⟨a, kvs, rfl, h4, hk, rs.tk ho.1, w.dis _ _ hm (by rw [hx]; exact nofun), nmm, fun z => (w.tem _ z).2.1 (List.mem_of_getElem? hm)⟩
            | true =>
              obtain ⟨b, h3, kvs, h4, hk, rs⟩ := w.obj _ _ hx
              rw [hm] at h3
              cases h3
              exact ⟨a, kvs, rfl, h4, hk, rs.tk ho.1, w.dis _ _ hm (by rw [hx]; exact nofun), nmm, fun z => (w.tem _ z).2.1 (List.mem_of_getElem? hm)⟩
        · exact ⟨W, _, S, rfl, x, w, q⟩
      · exact ⟨W, _, S, rfl, x, w, q⟩
  · split
    · rename_i h
      obtain ⟨h1, h2⟩ := w0.cut x w h.2
      exact ⟨_, _, _, rfl, h2, h1, q.tk h.1⟩
    · exact ⟨W, _, S, rfl, x, w, q⟩
theorem finX_ok {W0 W : Wd} {H0 H : Hp} {S0 S : Store} {cls : Value} {d : Option Addr} {c : Nat} {fs : List D} (w0 : Wok W0 H0 S0) (x : Ext W0 H0 W H) (w : Wok W H S) (q : ExR W H cls d c fs) : ∃ W' S', finX S0 c fs S = .ex c fs [] S' ∧ Ext W0 H0 W' H ∧ Wok W' H S' ∧ ExR W' H cls d c fs := by
  unfold finX
  split
  · exact ⟨W, S, rfl, x, w, q⟩
  split
  · rename_i h
    obtain ⟨h1, h2⟩ := w0.cut x w h.2
    refine ⟨_, _, rfl, h2, h1, ?_⟩
    obtain ⟨e, kn, dd, vs, e1, e0, e2, rs, hl⟩ := q
    exact ⟨e, kn, dd, vs, e1, e0, e2, rs.tk h.1, hl⟩
  · exact ⟨W, S, rfl, x, w, q⟩
end Fc

end
section
set_option autoImplicit false
set_option maxHeartbeats 1000000
/-! statements -/
namespace Fc
open PySem PySem.Spec L2
variable [CtI] [XsI]
abbrev EvS := Env → Store → Out Fl
def PostS (W : Wd) (H : Hp) (Wx : WX) : Out Fl → Ends → Prop
  | .ok (.nx r') S', D => ∀ σ' H' W', Ext W H W' H' → Wok W' H' S' → EnvR W' H' r' σ' → D.nx σ' H'
  | .ok (.bk r') S', D => ∀ σ' H' W', Ext W H W' H' → Wok W' H' S' → EnvR W' H' r' σ' → D.bk σ' H'
  | .ok (.ct r') S', D => ∀ σ' H' W', Ext W H W' H' → Wok W' H' S' → EnvR W' H' r' σ' → D.ct σ' H'
  | .ok (.rt rv) S', D => ∀ v H' W', Ext W H W' H' → Wok W' H' S' → RepR W' H' v rv → D.rt v H'
  | .ex c fs r' S', _ => ∀ cls d σ' H' W', Ext W H W' H' → Wok W' H' S' → EnvR W' H' r' σ' → ExR W' H' cls d c fs → Wx cls d σ' H'
  | .bad, _ => False
def RdS (Wx : WX) (ev : EvS) : TS := fun D σ H => ∃ W S r, Wok W H S ∧ EnvR W H r σ ∧ PostS W H Wx (ev r S) D
theorem PostS.ext {W W1 : Wd} {H H1 : Hp} {Wx : WX} {D : Ends} (e : Ext W H W1 H1) : ∀ {o : Out Fl}, PostS W H Wx o D → PostS W1 H1 Wx o D
  | .ok (.nx r') S', h => fun σ' H' W' a b c => h σ' H' W' (e.trans a) b c
  | .ok (.bk r') S', h => fun σ' H' W' a b c => h σ' H' W' (e.trans a) b c
  | .ok (.ct r') S', h => fun σ' H' W' a b c => h σ' H' W' (e.trans a) b c
  | .ok (.rt rv) S', h => fun σ' H' W' a b c => h σ' H' W' (e.trans a) b c
  | .ex c fs r' S', h => fun cls d σ' H' W' a b c q => h cls d σ' H' W' (e.trans a) b c q
  | .bad, h => h
theorem PostS.noex {W : Wd} {H : Hp} {Wx Wy : WX} {D : Ends} : ∀ {o : Out Fl}, PostS W H Wx o.noex D → PostS W H Wy o D
  | .ok (.nx r') S', h => h
  | .ok (.bk r') S', h => h
  | .ok (.ct r') S', h => h
  | .ok (.rt rv) S', h => h
  | .ex c fs r' S', h => h.elim
  | .bad, h => h
section
variable {W : Wd} {H : Hp} {σ : L2.St} {Wx : WX} {D : Ends} {r : Env}
theorem PostS.bindE {o : Out RV} {k : RV → Store → Out Fl} (en : EnvR W H r σ) (h : PostS W H Wx ((o.env r).bind k) D) :
    Post W H σ Wx o fun x H1 => ∃ W1 S1 rv, Ext W H W1 H1 ∧ Wok W1 H1 S1 ∧ RepR W1 H1 x rv ∧ PostS W1 H1 Wx (k rv S1) D := by
  cases o with
  | ok rv S' => exact fun v H' W' e w q => ⟨W', S', rv, e, w, q, PostS.ext e h⟩
  | ex c fs r' S' => exact fun cls d H' W' e w q => h cls d σ H' W' e w (en.ext e) q
  | bad => exact h
theorem PostS.bindD {o : Out RV} {k : Fc.D → Store → Out Fl} (en : EnvR W H r σ) (h : PostS W H Wx ((o.env r).bindD k) D) :
    Post W H σ Wx o fun x H1 => ∃ W1 S1 d, Ext W H W1 H1 ∧ Wok W1 H1 S1 ∧ Rep W1 H1 x d ∧ PostS W1 H1 Wx (k d S1) D := by
  refine (PostS.bindE en h).mono fun x H1 ⟨W1, S1, rv, e, w, q, h1⟩ => ?_
  obtain ⟨W2, e2, w2, r2⟩ := q.toD w
  exact ⟨W2, S1, _, e.trans e2, w2, r2, PostS.ext e2 h1⟩
theorem PostS.bindL {o : Out (List Fc.D)} {k : List Fc.D → Store → Out Fl} (en : EnvR W H r σ) (h : PostS W H Wx ((o.env r).bind k) D) :
    PostL W H σ Wx o fun x H1 => ∃ W1 S1 ds, Ext W H W1 H1 ∧ Wok W1 H1 S1 ∧ Reps W1 H1 x ds ∧ PostS W1 H1 Wx (k ds S1) D := by
  cases o with
  | ok rv S' => exact fun v H' W' e w q => ⟨W', S', rv, e, w, q, PostS.ext e h⟩
  | ex c fs r' S' => exact fun cls d H' W' e w q => h cls d σ H' W' e w (en.ext e) q
  | bad => exact h
end
section
variable {X : Cx} [KX X] {Wx : WX} {e ea eb ec tg : Expr} {a b c : Ev} {pos p p' : Pos} {st : Stmt} {f g : EvS} {sts s1 s2 : List Stmt}
theorem PSs_imp {t t' : TS} (h : PSs X sts t) (i : ∀ D σ H, t' D σ H → t D σ H) : PSs X sts t' := ⟨fun pins s σ H D I q => h.run pins s σ H D I (i D σ H q)⟩
theorem ss_nil : PSs X [] (RdS Wx fun r S => .ok (.nx r) S) := by
  refine PSs_imp pss_nil fun D σ H h => ?_
  obtain ⟨W, S, r, w, en, h⟩ := h
  exact h σ H W (.refl _ _) w en
def evSeq (f g : EvS) : EvS := fun r S => (f r S).bind fun o S1 => match o with
  | .nx r1 => g r1 S1
  | o => .ok o S1
theorem ss_cons (h1 : PS X st (RdS Wx f)) (h2 : PSs X sts (RdS Wx g)) : PSs X (st :: sts) (RdS Wx (evSeq f g)) := by
  refine PSs_imp (pss_cons h1 h2) fun D σ H h => ?_
  obtain ⟨W, S, r, w, en, h⟩ := h
  refine ⟨W, S, r, w, en, ?_⟩
  unfold evSeq at h
  cases e1 : f r S with
  | bad => rw [e1] at h; exact h.elim
  | ex => rw [e1] at h; exact h
  | ok o S1 =>
    rw [e1] at h
    cases o with
    | nx r1 => exact fun σ' H' W' x w' en' => ⟨W', S1, r1, w', en', PostS.ext x h⟩
    | rt v => exact h
    | bk r1 => exact h
    | ct r1 => exact h
def evFrz (i : Nat) (g : EvS) : EvS := fun r S => match r[i]? with
    | some (some (.ref l)) => (match S[l]? with
      | some (.lst xs) => g (r.set i (some (.lst xs))) (S.set l .dead)
      | some (.dic t ks vs) => g (r.set i (some (.dil t ks vs))) (S.set l .dead)
      | _ => .bad)
    | _ => .bad
theorem Wok.freeze {W : Wd} {H : Hp} {S : Store} {l : Nat} {a : Addr} {xs : List D} (w : Wok W H S) (hm : W.m[l]? = some a) (hS : S[l]? = some (.lst xs)) : Wok (W.frz a) H (S.set l .dead) ∧ Rep (W.frz a) H (.ref a) (.lst xs) := by
  obtain ⟨b, h1, vs, h2, rs, hl⟩ := w.obj l _ hS
  rw [hm] at h1
  cases h1
  refine ⟨⟨by rw [List.length_set]; exact w.len, fun k o h => ?_, w.nd, fun k b hk hd hf => ?_, fun b hb => ?_, fun b hb => ⟨fun hf => ?_, (w.tem b hb).2⟩, w.ct⟩, .lst (.inr rfl) h2 (rs.ext Wd.frz_ext) hl⟩
  · by_cases hk : l = k
    · subst hk
      rw [List.getElem?_set_self (List.getElem?_eq_some_iff.mp hS).1] at h
      cases h
      exact ⟨a, hm, by show H a ≠ none; rw [h2]; exact nofun⟩
    · rw [List.getElem?_set_ne hk] at h
      obtain ⟨b, h3, h4⟩ := w.obj k o h
      exact ⟨b, h3, h4.ext Wd.frz_ext rfl⟩
  · by_cases hlk : l = k
    · subst hlk
      exact hd (List.getElem?_set_self (List.getElem?_eq_some_iff.mp hS).1)
    · rw [List.getElem?_set_ne hlk] at hd
      rcases hf with hf | hf
      · exact w.dis k b hk hd hf
      · subst hf
        exact hlk (nodup_at w.nd hm hk)
  · rcases hb with hb | hb
    · exact w.dom b hb
    · subst hb; rw [h2]; exact nofun
  · rcases hf with hf | hf
    · exact (w.tem b hb).1 hf
    · subst hf; exact (w.tem b hb).2.1 (List.mem_of_getElem? hm)
theorem set_same {σ : L2.St} {i : Nat} {v : V} (h1 : σ[i]? = some (some v)) : σ.set i (some v) = σ := by
  apply List.ext_getElem?
  intro j
  by_cases hj : i = j
  · subst hj
    rw [List.getElem?_set_self (List.getElem?_eq_some_iff.mp h1).1, h1]
  · rw [List.getElem?_set_ne hj]
/-- a dict is locked for good -/
theorem Wok.lock {W : Wd} {H : Hp} {S : Store} {l : Nat} {a : Addr} {t : Bool} {ks vs : List D} (w : Wok W H S) (hm : W.m[l]? = some a) (hS : S[l]? = some (.dic t ks vs)) :
    ∃ u, H a = some u ∧ Mut (some u) ∧ ∀ o, Ext W H (W.frz a) (L2.upd H a (.frz o u)) ∧ Wok (W.frz a) (L2.upd H a (.frz o u)) (S.set l .dead) ∧ Rep (W.frz a) (L2.upd H a (.frz o u)) (.ref a) (.dil t ks vs) := by
  obtain ⟨b, h1, h2⟩ := w.obj l _ hS
  rw [hm] at h1
  cases h1
  have nF : ¬ W.F a := w.dis l a hm (by rw [hS]; exact nofun)
  have xt : ∀ u, Ext W H (W.frz a) (L2.upd H a u) := fun u => ⟨fun b h => ⟨.inl h, upd_ne fun e => nF (e ▸ h)⟩, ⟨[], by simp [Wd.frz]⟩, rfl, fun b h => ⟨h, upd_ne fun e => (w.tem b h).2.1 (e ▸ List.mem_of_getElem? hm)⟩⟩
  have wk : ∀ u, Wok (W.frz a) (L2.upd H a u) (S.set l .dead) := fun u => by
    refine ⟨by rw [List.length_set]; exact w.len, fun k o h => ?_, w.nd, fun k b hk hd hf => ?_, fun b hb => ?_, fun b hb => ⟨fun hf => ?_, (w.tem b hb).2.1, by rw [((xt u).tm b hb).2]; exact (w.tem b hb).2.2⟩, w.ct⟩
    · by_cases hk : l = k
      · subst hk
        rw [List.getElem?_set_self (List.getElem?_eq_some_iff.mp hS).1] at h
        cases h
        exact ⟨a, hm, by show L2.upd H a u a ≠ none; rw [upd_same]; exact nofun⟩
      · rw [List.getElem?_set_ne hk] at h
        obtain ⟨b, h3, h4⟩ := w.obj k o h
        exact ⟨b, h3, h4.ext (xt u) (upd_ne fun e => hk (nodup_at w.nd hm (e ▸ h3)))⟩
    · by_cases hlk : l = k
      · subst hlk
        exact hd (List.getElem?_set_self (List.getElem?_eq_some_iff.mp hS).1)
      · rw [List.getElem?_set_ne hlk] at hd
        rcases hf with hf | hf
        · exact w.dis k b hk hd hf
        · subst hf
          exact hlk (nodup_at w.nd hm hk)
    · rcases hb with hb | hb
      · rw [((xt u).fr b hb).2]; exact w.dom b hb
      · subst hb; rw [upd_same]; exact nofun
    · rcases hf with hf | hf
      · exact (w.tem b hb).1 hf
      · subst hf; exact (w.tem b hb).2.1 (List.mem_of_getElem? hm)
  cases t with
  | false =>
    obtain ⟨kvs, h3, rfl, rs⟩ := h2
    exact ⟨_, h3, trivial, fun o => ⟨xt _, wk _, .dkl (.inr rfl) upd_same (rs.ext (xt _))⟩⟩
  | true =>
    obtain ⟨kvs, h3, rfl, rs⟩ := h2
    exact ⟨_, h3, trivial, fun o => ⟨xt _, wk _, .dtl (.inr rfl) upd_same (rs.ext (xt _))⟩⟩
theorem ss_frz {i : Nat} (hx : Nox i) (h : PSs X sts (RdS Wx g)) : PSs X sts (RdS Wx (evFrz i g)) := by
  refine ⟨fun pins s σ H D I q => ?_⟩
  obtain ⟨W, S, r, w, en, q⟩ := q
  unfold evFrz at q
  split at q
  · rename_i l hr
    obtain ⟨v, h1, h2⟩ := en.at hr hx
    split at q
    · rename_i xs hS
      cases h2 with
      | ref hm =>
        rename_i a
        obtain ⟨w', p⟩ := w.freeze hm hS
        refine h.run pins s σ H D I ⟨W.frz a, _, _, w', ?_, PostS.ext Wd.frz_ext q⟩
        have := (en.ext (Wd.frz_ext (H := H) (a := a))).set p i
        rw [set_same h1] at this
        exact this
    · rename_i t ks vs hS
      cases h2 with
      | ref hm =>
        rename_i a
        obtain ⟨u, hu, mu, lk⟩ := w.lock hm hS
        obtain ⟨o, I'⟩ := I.lock hu mu
        obtain ⟨x', w', p⟩ := lk o
        refine h.run pins s σ _ D I' ⟨W.frz a, _, _, w', ?_, PostS.ext x' q⟩
        have := (en.ext x').set p i
        rw [set_same h1] at this
        exact this
    · exact q.elim
  · exact q.elim
theorem st_pass : PS X (.Pass pos) (RdS Wx fun r S => .ok (.nx r) S) := by
  refine PS_imp ps_pass fun D σ H h => ?_
  obtain ⟨W, S, r, w, en, h⟩ := h
  exact h σ H W (.refl _ _) w en
theorem st_break : PS X (.Break pos) (RdS Wx fun r S => .ok (.bk r) S) := by
  refine PS_imp ps_break fun D σ H h => ?_
  obtain ⟨W, S, r, w, en, h⟩ := h
  exact h σ H W (.refl _ _) w en
theorem st_cont : PS X (.Continue pos) (RdS Wx fun r S => .ok (.ct r) S) := by
  refine PS_imp ps_continue fun D σ H h => ?_
  obtain ⟨W, S, r, w, en, h⟩ := h
  exact h σ H W (.refl _ _) w en
theorem st_doc {x j} : PS X (.Expr (.Constant (.str x) j p) pos) (RdS Wx fun r S => .ok (.nx r) S) := by
  refine PS_imp ps_doc fun D σ H h => ?_
  obtain ⟨W, S, r, w, en, h⟩ := h
  exact h σ H W (.refl _ _) w en
theorem st_expr (ha : PE X ea (Rd Wx a)) (hs : swapsWith ea none pos.line X.env = pure false) : PS X (.Expr ea pos) (RdS Wx fun r S => ((a r S).env r).bind fun _ S1 => .ok (.nx r) S1) := by
  refine PS_imp (ps_expr ha hs) fun D σ H h => ?_
  obtain ⟨W, S, r, w, en, h⟩ := h
  exact ⟨W, S, r, w, en, (PostS.bindE en h).mono fun x H1 ⟨W1, S1, rv, e1, w1, r1, h1⟩ => h1 σ H1 W1 (.refl _ _) w1 (en.ext e1)⟩
theorem st_ret (ha : PE X ea (Rd Wx a)) : PS X (.Return (some ea) pos) (RdS Wx fun r S => ((a r S).env r).bind fun v S1 => .ok (.rt v) S1) := by
  refine PS_imp (ps_ret ha) fun D σ H h => ?_
  obtain ⟨W, S, r, w, en, h⟩ := h
  exact ⟨W, S, r, w, en, (PostS.bindE en h).mono fun x H1 ⟨W1, S1, rv, e1, w1, r1, h1⟩ => h1 x H1 W1 (.refl _ _) w1 r1⟩
theorem st_retN : PS X (.Return none pos) (RdS Wx fun _ S => .ok (.rt (.val .non)) S) := by
  refine PS_imp ps_retN fun D σ H h => ?_
  obtain ⟨W, S, r, w, en, h⟩ := h
  exact h .non H W (.refl _ _) w .non
theorem st_if (hc : PT X ec (Rt Wx c)) (h1 : PSs X s1 (RdS Wx f)) (h2 : PSs X s2 (RdS Wx g)) : PS X (.If ec s1 s2 pos) (RdS Wx fun r S => ((c r S).env r).bindD fun d S1 => match d with
    | .bl true => f r S1
    | .bl false => g r S1
    | _ => .bad) := by
  refine PS_imp (ps_if hc h1 h2) fun D σ H h => ?_
  obtain ⟨W, S, r, w, en, h⟩ := h
  refine ⟨W, S, r, w, en, (PostS.bindD en h).mono fun x H1 ⟨W1, S1, d, e1, w1, r1, h1⟩ => ?_⟩
  split at h1
  · exact ⟨true, rep_bl r1, ifT ⟨W1, S1, r, w1, en.ext e1, h1⟩⟩
  · exact ⟨false, rep_bl r1, ifF ⟨W1, S1, r, w1, en.ext e1, h1⟩⟩
  · exact h1.elim
theorem st_asg {ts : List Nat} {F : D → Env → Store → Out Env} (ha : PE X ea (Rd Wx a)) (hg : PG X tg (RdG ts F)) (hs : swapsWithSole [tg] ea pos.line X.env = pure false) (hw : swappedStores [tg] ea X.env = pure none)
    (h1 : (assignEach [tg] X.env).map (·.2) = [assign tg X.env]) : PS X (.Assign [tg] ea pos) (RdS Wx fun r S => ((a r S).env r).bindD fun d S1 => (F d r S1).noex.bind fun r1 S2 => .ok (.nx r1) S2) := by
  refine PS_imp (ps_asg ha hg hs hw h1) fun D σ H h => ?_
  obtain ⟨W, S, r, w, en, h⟩ := h
  refine ⟨W, S, r, w, en, (PostS.bindD en h).mono fun x H1 ⟨W1, S1, d, e1, w1, r1, h1⟩ => ⟨W1, S1, r, d, w1, en.ext e1, r1, ?_⟩⟩
  cases e2 : F d r S1 with
  | bad => rw [e2] at h1; exact h1.elim
  | ex => rw [e2] at h1; exact h1.elim
  | ok r2 S2 => rw [e2] at h1; exact fun σ' H' W' x2 w2 en2 _ => h1 σ' H' W' x2 w2 en2
theorem st_asg2 {ts1 ts2 : List Nat} {tg1 tg2 : Expr} {F1 F2 : D → Env → Store → Out Env} (ha : PE X ea (Rd Wx a)) (hg1 : PG X tg1 (RdG ts1 F1)) (hg2 : PG X tg2 (RdG ts2 F2))
    (h1 : (assignEach [tg1, tg2] X.env).map (·.2) = [assign tg1 X.env, assign tg2 X.env]) : PS X (.Assign [tg1, tg2] ea pos) (RdS Wx fun r S => ((a r S).env r).bindD fun d S1 => (F1 d r S1).noex.bind fun r1 S2 => (F2 d r1 S2).noex.bind fun r2 S3 => .ok (.nx r2) S3) := by
  have hw : swappedStores [tg1, tg2] ea X.env = pure none := by cases tg1 <;> cases ea <;> rfl
  refine PS_imp (ps_asg2 ha hg1 hg2 h1 hw) fun D σ H h => ?_
  obtain ⟨W, S, r, w, en, h⟩ := h
  refine ⟨W, S, r, w, en, (PostS.bindD en h).mono fun x H1 ⟨W1, S1, d, e1, w1, r1, h1⟩ => ⟨W1, S1, r, d, w1, en.ext e1, r1, ?_⟩⟩
  cases e2 : F1 d r S1 with
  | bad => rw [e2] at h1; exact h1.elim
  | ex => rw [e2] at h1; exact h1.elim
  | ok r2 S2 =>
    rw [e2] at h1
    intro σ' H' W' x2 w2 en2 _
    refine ⟨W', S2, r2, d, w2, en2, r1.ext x2, ?_⟩
    replace h1 := PostS.ext x2 h1
    dsimp only [Out.noex_ok, Out.bind_ok] at h1
    cases e3 : F2 d r2 S2 with
    | bad => rw [e3] at h1; exact h1.elim
    | ex => rw [e3] at h1; exact h1.elim
    | ok r3 S3 => rw [e3] at h1; exact fun σ' H' W' x3 w3 en3 _ => h1 σ' H' W' x3 w3 en3
theorem st_set {i : Nat} {x : Str} (hN : X.N.Nodup) (hi : X.N[i]? = some x) (hx : Loc X.env.scope x) (ha : PE X ea (Rd Wx a)) (hs : swapsWith ea (some (.Name x p')) pos.line X.env = pure false) (hf : X.fn x = true ∨ X.env.scope.names.lookup x = some .local) :
    PS X (.Assign [.Name x p'] ea pos) (RdS Wx fun r S => ((a r S).env r).bindD fun d S1 => ((fun d r S => Out.ok (r.set i (some d)) S : D → Env → Store → Out Env) d r S1).noex.bind fun r1 S2 => .ok (.nx r1) S2) := by
  refine PS_imp (ps_set hN hi hx ha hs hf) fun D σ H h => ?_
  obtain ⟨W, S, r, w, en, h⟩ := h
  refine ⟨W, S, r, w, en, (PostS.bindD en h).mono fun x H1 ⟨W1, S1, d, e1, w1, r1, h1⟩ => ?_⟩
  exact h1 _ H1 W1 (.refl _ _) w1 ((en.ext e1).set r1 i)
theorem st_setC {i : Nat} {y : Str} {py : Pos} {elt iter : Expr} {ifs : List Expr} {scope : Scope} {own : List (Str × Nat)} {spos : Pos} {xs : Evs} {ts : List Nat} {F : D → Env → Store → Out Env} {tt : Evb} {ev : Ev} (hc : X.calm = true) (hN : X.N.Nodup) (hy : X.N[i]? = some y) (hyl : X.env.scope.names.lookup y = some .local)
    (hsw : swapsWith (.ListComp elt [⟨tg, iter, ifs, 0⟩] scope pos) (some (.Name y py)) spos.line X.env = pure true) (hi : PI X tg iter (RdI Wx xs)) (ok : BlkOk X.N X.env.scope scope own)
    (hts : ∀ i ∈ ts, i ∈ own.map (·.2))
    (hg : ∀ (s : Shared) (H : Hp) (C : Addr) (cl : List (Str × Addr)) (fp : List Addr), PG (X.blk s H scope (compEnvC scope cl C X.env) fp) tg (RdG ts F)) (ht : ∀ (s : Shared) (H : Hp) (C : Addr) (cl : List (Str × Addr)) (fp : List Addr), PTs (X.blk s H scope (compEnvC scope cl C X.env) fp) ifs (RdT tt))
    (he : ∀ (s : Shared) (H : Hp) (C : Addr) (cl : List (Str × Addr)) (fp : List Addr), PE (X.blk s H scope (compEnvC scope cl C X.env) fp) elt (Rd noX ev)) (hs : ∀ x, foldedSetIterable iter X.env x = pure x) (m : Bool) :
    PS X (.Assign [.Name y py] (.ListComp elt [⟨tg, iter, ifs, 0⟩] scope pos) spos) (RdS Wx fun r S => ((evComp xs F tt ev (own.map (·.2)) r S).env r).bind fun rv S1 => match m with
      | true => (evNew rv S1).bindD fun d S2 => .ok (.nx (r.set i (some d))) S2
      | false => .ok (.nx (r.set i (some rv.toD))) S1) := by
  refine PS_imp (ps_setLc hc hN hy hyl hsw hi ok hg ht he hs) fun D σ H h => comp_lc (Wx := Wx) hts ?_
  obtain ⟨W, S, r, w, en, h⟩ := h
  refine ⟨W, S, r, w, en, (PostS.bindE en h).mono fun x H1 ⟨W1, S1, rv, e1, w1, r1, h1⟩ => ?_⟩
  cases m with
  | false =>
    obtain ⟨W2, e2, w2, r2⟩ := r1.toD w1
    exact h1 _ H1 W2 e2 w2 ((en.ext (e1.trans e2)).set r2 i)
  | true =>
    replace h1 : PostS W1 H1 Wx ((evNew rv S1).bindD fun d S2 => .ok (.nx (r.set i (some d))) S2) D := h1
    cases rv with
    | val d => exact h1.elim
    | tl ds =>
      obtain ⟨p, vs, rfl, hp, rs, hl, nf, nm, nt⟩ := r1
      refine h1 _ H1 (W1.add p) Wd.add_ext (w1.add ⟨vs, hp, rs.ext Wd.add_ext, hl⟩ (by rw [hp]; exact nofun) nf nm nt) ((en.ext (e1.trans Wd.add_ext)).set (.ref ?_) i)
      show (W1.m ++ [p])[S1.length]? = some p
      rw [← w1.len, List.getElem?_append_right (Nat.le_refl _), Nat.sub_self]
      rfl
    | td t ks vs =>
      cases t with
      | false =>
        obtain ⟨p, kvs, rfl, hp, hk, rs, nf, nm, nt⟩ := r1
        refine h1 _ H1 (W1.add p) Wd.add_ext (w1.add ⟨kvs, hp, hk, rs.ext Wd.add_ext⟩ (by rw [hp]; exact nofun) nf nm nt) ((en.ext (e1.trans Wd.add_ext)).set (.ref ?_) i)
        show (W1.m ++ [p])[S1.length]? = some p
        rw [← w1.len, List.getElem?_append_right (Nat.le_refl _), Nat.sub_self]
        rfl
      | true =>
        obtain ⟨p, kvs, rfl, hp, hk, rs, nf, nm, nt⟩ := r1
        refine h1 _ H1 (W1.add p) Wd.add_ext (w1.add ⟨kvs, hp, hk, rs.ext Wd.add_ext⟩ (by rw [hp]; exact nofun) nf nm nt) ((en.ext (e1.trans Wd.add_ext)).set (.ref ?_) i)
        show (W1.m ++ [p])[S1.length]? = some p
        rw [← w1.len, List.getElem?_append_right (Nat.le_refl _), Nat.sub_self]
        rfl
theorem st_par2 {i j : Nat} {x y : Str} {as : Evs} {px py pt : Pos} {kt k2 pt2} (hc : X.calm = true) (hN : X.N.Nodup) (hi : X.N[i]? = some x) (hj : X.N[j]? = some y) (hij : i ≠ j)
    (hx : X.env.scope.names.lookup x = some .local) (hy : X.env.scope.names.lookup y = some .local) (ha : PA X [ea, eb] (RdA Wx as))
    (hw : swappedStores [.Tuple [.Name x px, .Name y py] kt pt] (.Tuple [ea, eb] k2 pt2) X.env = pure (some [x, y]))
    (hs : swapsWithSole [.Tuple [.Name x px, .Name y py] kt pt] (.Tuple [ea, eb] k2 pt2) pos.line X.env = pure false) :
    PS X (.Assign [.Tuple [.Name x px, .Name y py] kt pt] (.Tuple [ea, eb] k2 pt2) pos) (RdS Wx fun r S => ((as r S).env r).bind fun ds S1 => if ds.length = [i, j].length then .ok (.nx (setAll [i, j] ds r)) S1 else .bad) := by
  refine PS_imp (ps_par hc hN hi hj hij hx hy ha hw hs) fun D σ H h => ?_
  obtain ⟨W, S, r, w, en, h⟩ := h
  refine ⟨W, S, r, w, en, (PostS.bindL en h).mono fun vs H1 ⟨W1, S1, ds, e1, w1, r1, h1⟩ => ?_⟩
  split at h1
  · rename_i hl
    cases r1 with
    | nil => cases hl
    | cons q1 rs =>
      cases rs with
      | nil => cases hl
      | cons q2 rs =>
        cases rs with
        | cons _ _ => simp at hl
        | nil => exact ⟨_, _, rfl, h1 _ H1 W1 (.refl _ _) w1 (((en.ext e1).set q1 i).set q2 j)⟩
  · exact h1.elim
theorem st_par3 {i j l : Nat} {x y z : Str} {as : Evs} {px py pz pt : Pos} {kt k2 pt2} (hc : X.calm = true) (hN : X.N.Nodup) (hi : X.N[i]? = some x) (hj : X.N[j]? = some y) (hl : X.N[l]? = some z) (hij : i ≠ j) (hil : i ≠ l) (hjl : j ≠ l)
    (hx : X.env.scope.names.lookup x = some .local) (hy : X.env.scope.names.lookup y = some .local) (hz : X.env.scope.names.lookup z = some .local) (ha : PA X [ea, eb, ec] (RdA Wx as))
    (hw : swappedStores [.Tuple [.Name x px, .Name y py, .Name z pz] kt pt] (.Tuple [ea, eb, ec] k2 pt2) X.env = pure (some [x, y, z]))
    (hs : swapsWithSole [.Tuple [.Name x px, .Name y py, .Name z pz] kt pt] (.Tuple [ea, eb, ec] k2 pt2) pos.line X.env = pure false) :
    PS X (.Assign [.Tuple [.Name x px, .Name y py, .Name z pz] kt pt] (.Tuple [ea, eb, ec] k2 pt2) pos) (RdS Wx fun r S => ((as r S).env r).bind fun ds S1 => if ds.length = [i, j, l].length then .ok (.nx (setAll [i, j, l] ds r)) S1 else .bad) := by
  refine PS_imp (ps_par3 hc hN hi hj hl hij hil hjl hx hy hz ha hw hs) fun D σ H h => ?_
  obtain ⟨W, S, r, w, en, h⟩ := h
  refine ⟨W, S, r, w, en, (PostS.bindL en h).mono fun vs H1 ⟨W1, S1, ds, e1, w1, r1, h1⟩ => ?_⟩
  split at h1
  · rename_i hl
    cases r1 with
    | nil => cases hl
    | cons q1 rs =>
      cases rs with
      | nil => cases hl
      | cons q2 rs =>
        cases rs with
        | nil => cases hl
        | cons q3 rs =>
          cases rs with
          | cons _ _ => simp at hl
          | nil => exact ⟨_, _, _, rfl, h1 _ H1 W1 (.refl _ _) w1 ((((en.ext e1).set q1 i).set q2 j).set q3 l)⟩
  · exact h1.elim
def rAug (op : Operator) : TIp := fun x y H Q => ∃ σ W S d e, Wok W H S ∧ Rep W H x d ∧ Rep W H y e ∧ Post W H σ noX (evAug op d e S) Q
theorem o_aug (op : Operator) : PIp X op (rAug op) := by
  intro pins s σ H x y v u Q I r1 r2 h
  obtain ⟨σ', W, S, d, e, w, q1, q2, h⟩ := h
  unfold evAug at h
  split at h
  · cases q1; cases q2
    exact ip_add pins s σ H _ _ v u Q I r1 r2 ⟨_, _, rfl, rfl, h.same w (.int _)⟩
  · cases q1; cases q2
    exact ip_sub pins s σ H _ _ v u Q I r1 r2 ⟨_, _, rfl, rfl, h.same w (.int _)⟩
  · exact h.elim
theorem evAug_noex {op : Operator} {x y : D} {S : Store} {c fs r S'} : evAug op x y S ≠ .ex c fs r S' := by
  unfold evAug
  split <;> exact nofun
theorem st_aug {i : Nat} {x : Str} {op : Operator} (hx2 : Nox i) (hN : X.N.Nodup) (hi : X.N[i]? = some x) (hx : Loc X.env.scope x) (ha : PE X ea (Rd Wx a)) (hf : X.fn x = true ∨ X.env.scope.names.lookup x = some .local) :
    PS X (.AugAssign (.Name x p') op ea pos) (RdS Wx fun r S => match r[i]? with
      | some (some x) => ((a r S).env r).bindD fun y S1 => (evAug op x y S1).bindD fun z S2 => .ok (.nx (r.set i (some z))) S2
      | _ => .bad) := by
  refine PS_imp (ps_aug hN hi hx ha (o_aug op) hf) fun D σ H h => ?_
  obtain ⟨W, S, r, w, en, h⟩ := h
  dsimp only at h
  split at h
  · rename_i d0 hr
    obtain ⟨v, h1, h2⟩ := en.at hr hx2
    refine ⟨v, h1, W, S, r, w, en, (PostS.bindD en h).mono fun y H1 ⟨W1, S1, d, e1, w1, r1, h3⟩ => ?_⟩
    refine ⟨σ, W1, S1, d0, d, w1, h2.ext e1, r1, ?_⟩
    cases e2 : evAug op d0 d S1 with
    | bad => rw [e2] at h3; exact h3.elim
    | ex => exact absurd e2 evAug_noex
    | ok rv S2 =>
      rw [e2] at h3
      intro z H2 W2 x2 w2 r2
      obtain ⟨W3, x3, w3, r3⟩ := r2.toD w2
      exact h3 _ H2 W3 (x2.trans x3) w3 ((en.ext (e1.trans (x2.trans x3))).set r3 i)
  · exact h.elim
noncomputable def evFor (xs : Evs) (F : D → Env → Store → Out Env) (g : EvS) (kill : List Nat) : Env → Store → Out Fl := fun r S => ((xs r S).env r).bind fun zs S1 => forL S1 kill (fun d r S => (F d r S).noex.bind fun r1 S2 => g r1 S2) zs r S1
end
/-- a loop's turn -/
noncomputable def forK (S0 : Store) (kill : List Nat) (f : D → Env → Store → Out Fl) (ds : List D) (o : Fl) (S1 : Store) : Out Fl := match o with
    | .nx r1 => forL S0 kill f ds (wipeE r1 kill) (gcS S0 (wipeE r1 kill) S1)
    | .ct r1 => forL S0 kill f ds (wipeE r1 kill) (gcS S0 (wipeE r1 kill) S1)
    | .bk r1 => .ok (.nx r1) S1
    | .rt v => .ok (.rt v) S1
theorem forL_cons (S0 : Store) (kill : List Nat) (f : D → Env → Store → Out Fl) (d : D) (ds : List D) (r : Env) (S : Store) : forL S0 kill f (d :: ds) r S = (f d r S).bind fun o S1 => forK S0 kill f ds o S1 := by
  rw [forL]
  congr 1
theorem forL_nil (S0 : Store) (kill : List Nat) (f : D → Env → Store → Out Fl) (r : Env) (S : Store) : forL S0 kill f [] r S = .ok (.nx r) S := by rw [forL]
noncomputable def whileK (S0 : Store) (kill : List Nat) (c : Ev) (b : EvS) (n : Nat) (o : Fl) (S2 : Store) : Out Fl := match o with
      | .nx r1 => whileN S0 kill c b n (wipeE r1 kill) (gcS S0 (wipeE r1 kill) S2)
      | .ct r1 => whileN S0 kill c b n (wipeE r1 kill) (gcS S0 (wipeE r1 kill) S2)
      | .bk r1 => .ok (.nx r1) S2
      | .rt v => .ok (.rt v) S2
theorem whileN_succ (S0 : Store) (kill : List Nat) (c : Ev) (b : EvS) (n : Nat) (r : Env) (S : Store) : whileN S0 kill c b (n + 1) r S = (c r S).bindD fun d S1 => match d with
    | .bl true => (b r S1).bind fun o S2 => whileK S0 kill c b n o S2
    | .bl false => .ok (.nx r) S1
    | _ => .bad := by
  rw [whileN]
  congr 1
section
variable {X : Cx} [KX X] {Wx : WX} {e ea eb ec tg : Expr} {a b c : Ev} {pos p p' : Pos} {st : Stmt} {f g : EvS} {sts s1 s2 : List Stmt}
theorem st_for {iter : Expr} {ts : List Nat} {xs : Evs} {F : D → Env → Store → Out Env} {kill : List Nat} (hp : PassesOwn (model X.prog X.w) X.A X.env X.xe) (hc : X.calm = true) (hi : PI X tg iter (RdI Wx xs)) (hg : PG X tg (RdG ts F)) (hb : PSs X sts (RdS Wx g))
    (hs : ∀ x, foldedSetIterable iter X.env x = pure x) : PS X (.For tg iter sts [] pos) (RdS Wx (evFor xs F g kill)) := by
  refine PS_imp (ps_for hp hc hi hg hb hs) fun D σ H h => ?_
  obtain ⟨W, S, r, w, en, h⟩ := h
  refine ⟨W, S, r, w, en, ?_⟩
  unfold evFor at h
  cases e1 : xs r S with
  | bad => rw [e1] at h; exact h.elim
  | ex c fs r' S' => rw [e1] at h; exact fun cls d H' W' x w q => h cls d σ H' W' x w (en.ext x) q
  | ok zs S1 =>
    rw [e1] at h
    replace h : PostS W H Wx (forL S1 kill (fun d r S => (F d r S).noex.bind fun r1 S2 => g r1 S2) zs r S1) D := h
    intro J H1 W1 x1 w1 it
    obtain ⟨hz, G, Y, wk, hG, hY⟩ := it
    refine for_it wk (fun i σi Hi => ∃ Wi Si ri, Ext W1 H1 Wi Hi ∧ Wok Wi Hi Si ∧ EnvR Wi Hi ri σi ∧ PostS W1 H1 Wx (forL S1 kill (fun d r S => (F d r S).noex.bind fun r1 S2 => g r1 S2) (zs.drop i) ri Si) D)
      ⟨W1, S1, r, .refl _ _, w1, en.ext x1, PostS.ext x1 h⟩ (fun i σ Hi _ ⟨Wi, _, _, xi, _⟩ => hG Wi Hi xi.e0) (fun i x σi Hi H' hi ⟨Wi, Si, ri, xi, wi, eni, hi'⟩ y => ?_) fun σn Hn ⟨Wi, Si, ri, xi, wi, eni, hi'⟩ => ?_
    · obtain ⟨W2, d, hd, x2, w2, r2⟩ := hY i _ Hi Si x H' hi xi.e0 wi y
      have hdr : zs.drop i = d :: zs.drop (i + 1) := by
        have hlt : i < zs.length := hi
        rw [List.drop_eq_getElem_cons hlt]
        rw [List.getElem?_eq_getElem hlt] at hd
        cases hd
        rfl
      rw [hdr, forL_cons] at hi'
      refine ⟨W2, Si, ri, d, w2, eni.ext x2, r2, ?_⟩
      cases e3 : F d ri Si with
      | bad => rw [e3] at hi'; exact hi'.elim
      | ex => rw [e3] at hi'; exact hi'.elim
      | ok r3 S3 =>
        rw [e3] at hi'
        replace hi' : PostS W1 H1 Wx ((g r3 S3).bind fun o S1' => forK S1 kill (fun d r S => (F d r S).noex.bind fun r1 S2 => g r1 S2) (zs.drop (i + 1)) o S1') D := hi'
        intro σ3 H3 W3 x3 w3 en3 _
        have x13 := (xi.trans x2).trans x3
        refine ⟨W3, S3, r3, w3, en3, ?_⟩
        cases e4 : g r3 S3 with
        | bad => rw [e4] at hi'; exact hi'.elim
        | ex c fs r' S' => rw [e4] at hi'; exact PostS.ext (o := .ex c fs r' S') x13 hi'
        | ok o S4 =>
          rw [e4] at hi'
          have next : ∀ r4, PostS W1 H1 Wx (forL S1 kill (fun d r S => (F d r S).noex.bind fun r1 S2 => g r1 S2) (zs.drop (i + 1)) (wipeE r4 kill) (gcS S1 (wipeE r4 kill) S4)) D → ∀ σ' H' W', Ext W3 H3 W' H' → Wok W' H' S4 → EnvR W' H' r4 σ' →
              ∃ Wi Si ri, Ext W1 H1 Wi H' ∧ Wok Wi H' Si ∧ EnvR Wi H' ri σ' ∧ PostS W1 H1 Wx (forL S1 kill (fun d r S => (F d r S).noex.bind fun r1 S2 => g r1 S2) (zs.drop (i + 1)) ri Si) D := by
            intro r4 h4 σ' H' W' x' w' en'
            obtain ⟨W5, x5, w5, en5⟩ := gcS_ok w1 (x13.trans x') w' (en'.forget kill)
            exact ⟨W5, _, _, x5, w5, en5, h4⟩
          cases o with
          | nx r4 => exact next r4 hi'
          | ct r4 => exact next r4 hi'
          | bk r4 => exact fun σ' H' W' x' w' en' => hi' σ' H' W' (x13.trans x') w' en'
          | rt v => exact fun σ' H' W' x' w' en' => hi' σ' H' W' (x13.trans x') w' en'
    · have e0 : zs.drop zs.length = [] := List.drop_eq_nil_of_le (Nat.le_refl _)
      rw [e0, forL_nil] at hi'
      exact hi' σn Hn Wi xi wi eni
theorem st_while {kill : List Nat} (hp : PassesOwn (model X.prog X.w) X.A X.env X.xe) (hc : PT X ec (Rt Wx c)) (hb : PSs X sts (RdS Wx g)) : PS X (.While ec sts [] pos) (RdS Wx fun r S => whileL S kill (fun r S => (c r S).env r) g r S) := by
  refine PS_imp (ps_while hp hc hb) fun D σ H h => ?_
  obtain ⟨W0, S0, r, w0, en, h⟩ := h
  dsimp only at h
  unfold whileL at h
  split at h
  · rename_i hex
    generalize Classical.choose hex = n at h
    refine ⟨fun m σi Hi => ∃ Wi Si ri, Ext W0 H Wi Hi ∧ Wok Wi Hi Si ∧ EnvR Wi Hi ri σi ∧ PostS W0 H Wx (whileN S0 kill (fun r S => (c r S).env r) g m ri Si) D, ⟨n, W0, S0, r, .refl _ _, w0, en, h⟩, ?_⟩
    rintro m σi Hi ⟨Wi, Si, ri, xi, wi, eni, hi⟩
    cases m with
    | zero => rw [whileN] at hi; exact hi.elim
    | succ m =>
      rw [whileN_succ] at hi
      refine ⟨Wi, Si, ri, wi, eni, ?_⟩
      cases e1 : c ri Si with
      | bad => rw [e1] at hi; exact hi.elim
      | ex c fs r' S' => rw [e1] at hi; exact fun cls d H' W' x w q => hi cls d σi H' W' (xi.trans x) w (eni.ext x) q
      | ok rv S1 =>
        rw [e1] at hi
        intro v H1 W1 x1 w1 r1
        obtain ⟨W2, x2, w2, r2⟩ := r1.toD w1
        have x02 := xi.trans (x1.trans x2)
        have en2 := eni.ext (x1.trans x2)
        replace hi : PostS W0 H Wx (match rv.toD with
            | .bl true => (g ri S1).bind fun o S2 => whileK S0 kill (fun r S => (c r S).env r) g m o S2
            | .bl false => .ok (.nx ri) S1
            | _ => .bad) D := hi
        split at hi
        · rename_i hb
          rw [hb] at r2
          refine ⟨true, rep_bl r2, ifT ⟨_, fun σ' H' q => ⟨m, Nat.lt_succ_self _, q⟩, W2, S1, ri, w2, en2, ?_⟩⟩
          cases e4 : g ri S1 with
          | bad => rw [e4] at hi; exact hi.elim
          | ex c fs r' S' => rw [e4] at hi; exact PostS.ext (o := .ex c fs r' S') x02 hi
          | ok o S4 =>
            rw [e4] at hi
            have next : ∀ r4, PostS W0 H Wx (whileN S0 kill (fun r S => (c r S).env r) g m (wipeE r4 kill) (gcS S0 (wipeE r4 kill) S4)) D → ∀ σ' H' W', Ext W2 H1 W' H' → Wok W' H' S4 → EnvR W' H' r4 σ' →
                ∃ Wi Si ri, Ext W0 H Wi H' ∧ Wok Wi H' Si ∧ EnvR Wi H' ri σ' ∧ PostS W0 H Wx (whileN S0 kill (fun r S => (c r S).env r) g m ri Si) D := by
              intro r4 h4 σ' H' W' x' w' en'
              obtain ⟨W5, x5, w5, en5⟩ := gcS_ok w0 (x02.trans x') w' (en'.forget kill)
              exact ⟨W5, _, _, x5, w5, en5, h4⟩
            cases o with
            | nx r4 => exact next r4 hi
            | ct r4 => exact next r4 hi
            | bk r4 => exact fun σ' H' W' x' w' en' => hi σ' H' W' (x02.trans x') w' en'
            | rt v => exact fun σ' H' W' x' w' en' => hi σ' H' W' (x02.trans x') w' en'
        · rename_i hb
          rw [hb] at r2
          exact ⟨false, rep_bl r2, ifF (hi σi H1 W2 x02 w2 en2)⟩
        · exact hi.elim
  · exact h.elim
/-! exceptions -/
def PostM (W : Wd) (H : Hp) (σ : L2.St) (Wx : WX) (c : Nat) : Out (List D) → XK → Prop
  | .ok ds S', Q => ∀ cls d H' W', Ext W H W' H' → Wok W' H' S' → ExR W' H' cls d c ds → Q cls d H'
  | .ex c fs _ S', _ => ∀ cls d H' W', Ext W H W' H' → Wok W' H' S' → ExR W' H' cls d c fs → Wx cls d σ H'
  | .bad, _ => False
def RdM (Wx : WX) (c : Nat) (as : Evs) : L2.St → Hp → XK → Prop := fun σ H Q => ∃ W S r, Wok W H S ∧ EnvR W H r σ ∧ PostM W H σ Wx c (as r S) Q
theorem st_raise {as : Evs} {c : Nat} (hc : X.calm = true) (tk : Takes X Wx) (he : PMk X e (RdM Wx c as)) : PS X (.Raise (some e) none pos) (RdS Wx fun r S => ((as r S).env r).bind fun ds S1 => .ex c ds r S1) := by
  refine PS_imp (ps_raise hc tk he) fun D σ H h => ?_
  obtain ⟨W, S, r, w, en, h⟩ := h
  refine ⟨W, S, r, w, en, ?_⟩
  dsimp only at h
  cases e1 : as r S with
  | bad => rw [e1] at h; exact h.elim
  | ex c fs r' S' => rw [e1] at h; exact fun cls d H' W' x w q => h cls d σ H' W' x w (en.ext x) q
  | ok ds S1 => rw [e1] at h; exact fun cls d H' W' x w q => h cls d σ H' W' x w (en.ext x) q
def evTry (f : EvS) (cs : List Nat) (g : EvS) : EvS := fun r S => match f r S with
    | .ex c' fs r1 S1 => if cs.contains c' then (g r1 S1).noex else .ex c' fs r1 S1
    | o => o
theorem st_try {x : Str} {cv : Value} {body suite : List Stmt} {b₀ : Stmt} {np pos' : Pos} {cs : List Nat} (hs : X.stack = X.env :: X.outer) (hf : X.env.frame = some X.env.locals) (hc : Names X x cv) (tk : Takes X Wx)
    (hb : ∀ (Wx : WX) (pn : List (Addr × PySem.Obj)) (xe : Value → Shared → Prop), Takes (X.tr pn xe) Wx → PassesOwn (model X.prog X.w) X.A X.env xe → PSs (X.tr pn xe) body (RdS Wx f))
    (hsu : ∀ (a : Addr) (pn : List (Addr × PySem.Obj)), PSs (X.suite a pn) (b₀ :: suite) (RdS noX g))
    (hm : ∀ c, CtI.kn c → PySem.W.exmOne X.K (.ref (CtI.ct.adr c)) cv = some (cs.contains c)) :
    PS X (.Try body [.ExceptHandler (some (.Name x np)) none (b₀ :: suite) pos'] [] [] pos) (RdS Wx (evTry f cs g)) := by
  refine PS_imp (ps_try_only (tb := fun Wx => RdS Wx f) (ts := fun _ _ _ => RdS noX g) hs hf hc tk hb fun a oe cls d pn _ _ => hsu a _) fun D σ H h => ?_
  obtain ⟨W, S, r, w, en, h⟩ := h
  refine ⟨W, S, r, w, en, ?_⟩
  unfold evTry at h
  cases e1 : f r S with
  | bad => rw [e1] at h; exact h.elim
  | ok o S1 =>
    rw [e1] at h
    cases o <;> exact h
  | ex c' fs r1 S1 =>
    rw [e1] at h
    replace h : PostS W H Wx (if cs.contains c' then (g r1 S1).noex else .ex c' fs r1 S1) D := h
    intro cls d σ' H' W' x1 w1 en1 q1
    have hcl : cls = .ref (CtI.ct.adr c') := by rw [q1.1, w1.ct]
    by_cases hc : cs.contains c' = true
    · refine ⟨true, by rw [hcl, hm c' q1.2.1, hc], fun _ a ha => ?_, nofun⟩
      refine ⟨W', S1, r1, w1, en1, PostS.noex (Wx := Wx) ?_⟩
      rw [if_pos hc] at h
      exact PostS.ext x1 h
    · rw [if_neg hc] at h
      exact ⟨false, by rw [hcl, hm c' q1.2.1, Bool.eq_false_iff.mpr hc], nofun, fun _ => h cls d σ' H' W' x1 w1 en1 q1⟩
end
end Fc

end
section
set_option autoImplicit false
set_option maxHeartbeats 1000000
/-! calls of the table's defs -/
namespace Fc
open PySem PySem.Spec L2 PyProof.Rows
variable [CtI] [XsI]
structure FnG (P : Program) (w : World) (K : PySem.W.Frag) (mg : Str → Option Value) (base : Heap) (k : Nat) (f : Addr) (fd : FuncData) (ps : List Str) (sp : Sp) : Prop where
  len : ∀ vs H Q E, sp vs H Q E → vs.length = ps.length
  run : ∀ (A : Around) (outer : List PySem.Env) (s : Shared) (H : Hp) (args : Args) (us : List Value) (vs : List V) (Q : VK) (E : XK), Room k A → A.guards = some [] → Env0 P w K mg base A outer s H → BindsTo s fd args (ps.zip us) → Vals vs us → sp vs H Q E →
    codeAny (model P w) A (.call (.ref f) args) (CR (CX P w) outer P w H s Q E) s
def PostF (W : Wd) (H : Hp) : Out RV → VK → XK → Prop
  | .ok rv S', Q, _ => ∀ v H' W', Ext W H W' H' → Wok W' H' S' → RepR W' H' v rv → Q v H'
  | .ex c fs _ S', _, E => ∀ cls d H' W', Ext W H W' H' → Wok W' H' S' → ExR W' H' cls d c fs → E cls d H'
  | .bad, _, _ => False
def spG (np : Nat) (g : List D → Store → Out RV) : Sp := fun vs H Q E => ∃ W S ds, Wok W H S ∧ Reps W H vs ds ∧ ds.length = np ∧ PostF W H (g ds S) Q E
def permV {α : Type} (p : List Nat) (l : List α) : List α := p.filterMap (l[·]?)
/-- how a call with n values ahead and the keywords ks binds -/
def KB (K : PySem.W.Frag) (dt : FuncData) (ps : List Str) (q : Nat × List Str × List Nat) : Prop := ∀ (s : Shared) (us ws : List Value), K.In s.heap → us.length = q.1 → ws.length = q.2.1.length → BindsTo s dt ⟨us, q.2.1.zip ws⟩ (ps.zip (permV q.2.2 (us ++ ws)))
/-- a def of the table, as it stands -/
def FnAt (X : Cx) (fd : Fd) (k : Nat) (g : List D → Store → Out RV) : Prop := ∃ (a : Addr) (dt : FuncData), X.mg fd.nm = some (.ref a) ∧ PySem.W.keepIn X.K (.ref a) = true ∧ Binds X.K dt fd.ps [] ∧ (∀ q ∈ fd.kws, KB X.K dt fd.ps q) ∧ FnG X.prog X.w X.K X.mg X.base k a dt fd.ps (spG fd.np g)

section
variable {X : Cx} {k : Nat} {f : Addr} {fd : FuncData} {ps ks : List Str} {sp : Sp} {E : XK} {x : Str} {p pos : Pos} {e : Expr} {es : List Expr}
theorem run_fnG {pins : List (Addr × PySem.Obj)} {σ : L2.St} {H : Hp} {s : Shared} {Q : VK} {us : List Value} {vs : List V} {args : Args} (F : FnG X.prog X.w X.K X.mg X.base k f fd ps sp) (hr : Room k X.A) (hg : X.A.guards = some []) (hx : PassesAt (CX X.prog X.w) X σ E)
    (I : Inv X pins σ H s) (hb : BindsTo s fd args (ps.zip us)) (r : Vals vs us) (h : sp vs H Q E) : wpAny (model X.prog X.w) X.A (call (.ref f) args.pos args.kw) (EP X pins σ Q) X.xe s := by
  refine wpAny_call (codeAny_mono (F.run X.A X.stack s H args us vs Q E hr hg I.env0 hb r h) fun r s' hq => ?_)
  cases r with
  | error e => exact hx pins H s e s' I hq
  | ok fl =>
    cases fl with
    | ret u => exact I.after hq
    | next => exact False.elim hq
    | brk => exact False.elim hq
    | cont => exact False.elim hq
theorem pe_callG {t : TA} {E : L2.St → XK} (F : FnG X.prog X.w X.K X.mg X.base k f fd ps sp) (hr : Room k X.A) (hgu : X.A.guards = some []) (hg : Gl X x) (hm : X.mg x = some (.ref f)) (hk : PySem.W.keepIn X.K (.ref f) = true) (hb : Binds X.K fd ps []) (hx : ∀ σ, PassesAt (CX X.prog X.w) X σ (E σ))
    (ha : PA X (e :: es) t) (hdb : (x == ("__debug__" : Str)) = false) (he : starEach (e :: es) X.env = (false, eval e X.env) :: starEach es X.env) (hpl : (backTo pos (starEach es X.env)).any (·.1) = false) :
    PE X (.Call (.Name x p) (e :: es) [] pos) (tCallS sp E t) := by
  refine ⟨fun pins s σ H Q I h => wpAny_Call_Name_kw (ld_glob I hg hm (PySem.W.callWith_K (h₀ := X.base) I.ok.mod.kin hk (thn (ha.run pos pins s σ H _ I h) fun us t ⟨vs, H1, J, r, q⟩ => ⟨J.kIn, ?_⟩) he hpl) hdb)⟩
  have b : BindsTo t fd ⟨us, []⟩ (ps.zip us) := by
    have n : us.length + 0 = ps.length := r.length ▸ F.len _ _ _ _ q
    simpa using hb t us J.kIn (by simpa using n)
  exact run_fnG F hr hgu (hx σ) J b r q
theorem pe_callG0 {E : L2.St → XK} (F : FnG X.prog X.w X.K X.mg X.base k f fd ps sp) (hr : Room k X.A) (hgu : X.A.guards = some []) (hg : Gl X x) (hm : X.mg x = some (.ref f)) (hk : PySem.W.keepIn X.K (.ref f) = true) (hb : Binds X.K fd ps []) (hx : ∀ σ, PassesAt (CX X.prog X.w) X σ (E σ))
    (hdb : (x == ("__debug__" : Str)) = false) : PE X (.Call (.Name x p) [] [] pos) (tCallS sp E tNil) := by
  refine ⟨fun pins s σ H Q I h => ?_⟩
  refine wpAny_Call_Name_kw (ld_glob I hg hm ?_ hdb)
  refine PySem.W.callWith_K0 I.kIn hk ?_
  replace h : sp [] H Q (E σ) := h
  have hl : ([] : List Value).length = ps.length := by rw [← F.len _ _ _ _ h]; rfl
  have b := hb s [] I.kIn (by rw [List.append_nil]; exact hl)
  exact run_fnG (args := ⟨[], []⟩) (vs := []) (us := []) F hr hgu (hx σ) I b .nil h
def tCallKG (sp : Sp) (p : List Nat) (E : L2.St → XK) (t tk : TA) : TE := fun σ H Q => t σ H fun vs H1 => tk σ H1 fun zs H2 => sp (permV p (vs ++ zs)) H2 Q (E σ)
theorem Vals.perm {p : List Nat} {vs : List V} {us : List Value} (r : Vals vs us) : Vals (permV p vs) (permV p us) := by
  induction p with
  | nil => exact .nil
  | cons i p ih =>
    unfold permV at *
    rw [List.filterMap_cons, List.filterMap_cons]
    cases e : vs[i]? with
    | none =>
      have e2 : us[i]? = none := by
        rw [List.getElem?_eq_none_iff] at e ⊢
        rw [← r.length]; exact e
      rw [e2]
      exact ih
    | some v =>
      obtain ⟨u, hu, rv⟩ := r.get e
      rw [hu]
      exact .cons rv ih
theorem pe_callKG {n : Nat} {pm : List Nat} {t tk : TA} {kws : List Keyword} {E : L2.St → XK} (F : FnG X.prog X.w X.K X.mg X.base k f fd ps sp) (hr : Room k X.A) (hgu : X.A.guards = some []) (hg : Gl X x) (hm : X.mg x = some (.ref f)) (hk : PySem.W.keepIn X.K (.ref f) = true)
    (hb : KB X.K fd ps ((e :: es).length, ks, pm)) (hx : ∀ σ, PassesAt (CX X.prog X.w) X σ (E σ)) (ha : PA X (e :: es) t) (hkw : PK X kws tk) (hla : ∀ σ H Q, t σ H Q → t σ H fun vs H1 => vs.length = (e :: es).length ∧ Q vs H1) (hlk : ∀ σ H Q, tk σ H Q → tk σ H fun vs H1 => vs.length = ks.length ∧ Q vs H1)
    (hall : (backToKw pos (keywordEach kws X.env)).all (·.1.isSome) = true) (hks : (backToKw pos (keywordEach kws X.env)).filterMap (·.1) = ks)
    (hdb : (x == ("__debug__" : Str)) = false) (he : starEach (e :: es) X.env = (false, eval e X.env) :: starEach es X.env)
    (hpl : ((backTo pos (starEach (e :: es) X.env)).any (·.1) || (backToKw pos (keywordEach kws X.env)).any (·.1.isNone)) = false) :
    PE X (.Call (.Name x p) (e :: es) kws pos) (tCallKG sp pm E t tk) := by
  refine ⟨fun pins s σ H Q I h => ?_⟩
  refine wpAny_Call_Name_kw (ld_glob I hg hm ?_ hdb)
  refine PySem.W.callWith_KW (h₀ := X.base) I.ok.mod.kin hk hall (thn (ha.run pos pins s σ H _ I (hla _ _ _ h)) fun us s1 ⟨vs, H1, I1, r, hl1, q⟩ => ?_) hpl he
  refine thn (hkw.run pos pins s1 σ H1 _ I1 (hlk _ _ _ q)) fun ws s2 ⟨zs, H2, I2, rz, hl2, q2⟩ => ⟨I2.kIn, ?_⟩
  rw [hks]
  exact run_fnG (args := ⟨us, ks.zip ws⟩) F hr hgu (hx σ) I2 (hb s2 us ws I2.kIn (by rw [← r.length]; exact hl1) (by rw [← rz.length]; exact hl2)) (Vals.perm (r.append rz)) q2
theorem pe_callKG0 {n : Nat} {pm : List Nat} {tk : TA} {kws : List Keyword} {E : L2.St → XK} (F : FnG X.prog X.w X.K X.mg X.base k f fd ps sp) (hr : Room k X.A) (hgu : X.A.guards = some []) (hg : Gl X x) (hm : X.mg x = some (.ref f)) (hk : PySem.W.keepIn X.K (.ref f) = true)
    (hb : KB X.K fd ps (0, ks, pm)) (hx : ∀ σ, PassesAt (CX X.prog X.w) X σ (E σ)) (hkw : PK X kws tk) (hlk : ∀ σ H Q, tk σ H Q → tk σ H fun vs H1 => vs.length = ks.length ∧ Q vs H1)
    (hall : (backToKw pos (keywordEach kws X.env)).all (·.1.isSome) = true) (hks : (backToKw pos (keywordEach kws X.env)).filterMap (·.1) = ks)
    (hdb : (x == ("__debug__" : Str)) = false) (hpl : ((backTo pos (starEach [] X.env)).any (·.1) || (backToKw pos (keywordEach kws X.env)).any (·.1.isNone)) = false) :
    PE X (.Call (.Name x p) [] kws pos) (tCallKG sp pm E tNil tk) := by
  refine ⟨fun pins s σ H Q I h => ?_⟩
  refine wpAny_Call_Name_kw (ld_glob I hg hm ?_ hdb)
  refine PySem.W.callWith_KW0 (h₀ := X.base) I.ok.mod.kin hk hall ?_ hpl
  refine thn (hkw.run pos pins s σ H _ I (hlk _ _ _ h)) fun ws s2 ⟨zs, H2, I2, rz, hl2, q2⟩ => ⟨I2.kIn, ?_⟩
  rw [hks]
  exact run_fnG (args := ⟨[], ks.zip ws⟩) F hr hgu (hx σ) I2 (hb s2 [] ws I2.kIn rfl (by rw [← rz.length]; exact hl2)) (Vals.perm rz) q2
end
section
variable {X : Cx} [KX X] {Wx : WX} {p pos : Pos} {e : Expr} {es : List Expr} {G : List D → Store → Out RV} {as bs : Evs} {fd : Fd} {k : Nat}
theorem PostF.of {W : Wd} {H : Hp} {σ : L2.St} {r : Env} {o : Out RV} {Q : VK} (h : Post W H σ Wx (o.env r) Q) : PostF W H o Q (WE Wx σ) := by
  cases o with
  | ok rv S' => exact h
  | ex c fs r' S' => exact h
  | bad => exact h
theorem s_call (F : FnAt X fd k G) (hG : ∀ ds S, ds.length ≠ fd.np → G ds S = .bad) (hr : Room k X.A) (hgu : X.A.guards = some []) (hg : Gl X fd.nm) (tk : Takes X Wx) (ha : PA X (e :: es) (RdA Wx as))
    (hdb : (fd.nm == ("__debug__" : Str)) = false) (he : starEach (e :: es) X.env = (false, eval e X.env) :: starEach es X.env) (hpl : (backTo pos (starEach es X.env)).any (·.1) = false) :
    PE X (.Call (.Name fd.nm p) (e :: es) [] pos) (Rd Wx fun r S => (as r S).bind fun ds S1 => (G ds S1).env r) := by
  obtain ⟨a, dt, hm, hk, hb, _, F⟩ := F
  refine PE_imp (pe_callG (E := WE Wx) F hr hgu hg hm hk hb (passAt tk) ha hdb he hpl) fun σ H Q h => ?_
  obtain ⟨W, S, r, w, en, h⟩ := h
  refine ⟨W, S, r, w, en, (PostL.bind h).mono fun xs H1 ⟨W1, S1, ds, e1, w1, r1, h1⟩ => ⟨W1, S1, ds, w1, r1, ?_, PostF.of h1⟩⟩
  apply Decidable.byContradiction
  intro hn
  rw [hG ds S1 hn] at h1
  exact h1
theorem s_call0 (F : FnAt X fd k G) (hG : ∀ ds S, ds.length ≠ fd.np → G ds S = .bad) (hr : Room k X.A) (hgu : X.A.guards = some []) (hg : Gl X fd.nm) (tk : Takes X Wx) (hdb : (fd.nm == ("__debug__" : Str)) = false) :
    PE X (.Call (.Name fd.nm p) [] [] pos) (Rd Wx fun r S => (Out.ok ([] : List D) S).bind fun ds S1 => (G ds S1).env r) := by
  obtain ⟨a, dt, hm, hk, hb, _, F⟩ := F
  refine PE_imp (pe_callG0 (E := WE Wx) F hr hgu hg hm hk hb (passAt tk) hdb) fun σ H Q h => ?_
  obtain ⟨W, S, r, w, en, h⟩ := h
  refine ⟨W, S, [], w, .nil, ?_, PostF.of h⟩
  apply Decidable.byContradiction
  intro hn
  replace h : Post W H σ Wx ((G [] S).env r) Q := h
  rw [hG [] S hn] at h
  exact h
def RdA_len (as : Evs) (n : Nat) : Prop := ∀ r S ds S', as r S = .ok ds S' → ds.length = n
theorem rdA_len {n : Nat} (hl : RdA_len as n) {σ : L2.St} {H : Hp} {Q : List V → Hp → Prop} (h : RdA Wx as σ H Q) : RdA Wx as σ H fun vs H1 => vs.length = n ∧ Q vs H1 := by
  obtain ⟨W, S, r, w, en, h⟩ := h
  refine ⟨W, S, r, w, en, ?_⟩
  cases e1 : as r S with
  | bad => rw [e1] at h; exact h
  | ex => rw [e1] at h; exact h
  | ok ds S' => rw [e1] at h; exact fun vs H' W' x w q => ⟨by rw [q.length]; exact hl _ _ _ _ e1, h vs H' W' x w q⟩
theorem PK_imp {kws : List Keyword} {t t' : TA} (h : PK X kws t) (i : ∀ σ H Q, t' σ H Q → t σ H Q) : PK X kws t' := ⟨fun pos pins s σ H Q I q => h.run pos pins s σ H Q I (i σ H Q q)⟩
theorem permV_reps {W : Wd} {H : Hp} {pm : List Nat} {vs : List V} {ds : List D} (r : Reps W H vs ds) : Reps W H (permV pm vs) (permV pm ds) := by
  induction pm with
  | nil => exact .nil
  | cons i p ih =>
    unfold permV at *
    rw [List.filterMap_cons, List.filterMap_cons]
    cases e : ds[i]? with
    | none =>
      have e2 : vs[i]? = none := by
        rw [List.getElem?_eq_none_iff] at e ⊢
        rw [r.length]; exact e
      rw [e2]
      exact ih
    | some v =>
      obtain ⟨u, hu, rv⟩ := r.get e
      rw [hu]
      exact .cons rv ih
def evCallk (pm : List Nat) (as bs : Evs) (G : List D → Store → Out RV) : Ev := fun r S => (as r S).bind fun ds S1 => (bs r S1).bind fun zs S2 => (G (pm.filterMap ((ds ++ zs)[·]?)) S2).env r
theorem rd_callk {pm : List Nat} (hG : ∀ ds S, ds.length ≠ fd.np → G ds S = .bad) {σ : L2.St} {H : Hp} {Q : VK} (h : Rd Wx (evCallk pm as bs G) σ H Q) : tCallKG (spG fd.np G) pm (WE Wx) (RdA Wx as) (RdA Wx bs) σ H Q := by
  obtain ⟨W, S, r, w, en, h⟩ := h
  refine ⟨W, S, r, w, en, (PostL.bind h).mono fun xs H1 ⟨W1, S1, ds, e1, w1, r1, h1⟩ => ?_⟩
  refine ⟨W1, S1, r, w1, en.ext e1, (PostL.bind h1).mono fun ys H2 ⟨W2, S2, zs, e2, w2, r2, h2⟩ => ?_⟩
  refine ⟨W2, S2, permV pm (ds ++ zs), w2, permV_reps ((r1.ext e2).append r2), ?_, PostF.of h2⟩
  apply Decidable.byContradiction
  intro hn
  replace h2 : Post W2 H2 σ Wx ((G (permV pm (ds ++ zs)) S2).env r) Q := h2
  rw [hG _ S2 hn] at h2
  exact h2
theorem s_callk {kws : List Keyword} {ks : List Str} {pm : List Nat} (F : FnAt X fd k G) (hG : ∀ ds S, ds.length ≠ fd.np → G ds S = .bad) (hr : Room k X.A) (hgu : X.A.guards = some []) (hg : Gl X fd.nm) (tk : Takes X Wx) (hq : ((e :: es).length, ks, pm) ∈ fd.kws) (ha : PA X (e :: es) (RdA Wx as)) (hkw : PK X kws (RdA Wx bs))
    (la : RdA_len as (e :: es).length) (lb : RdA_len bs ks.length) (hall : (backToKw pos (keywordEach kws X.env)).all (·.1.isSome) = true) (hks : (backToKw pos (keywordEach kws X.env)).filterMap (·.1) = ks)
    (hdb : (fd.nm == ("__debug__" : Str)) = false) (he : starEach (e :: es) X.env = (false, eval e X.env) :: starEach es X.env)
    (hpl : ((backTo pos (starEach (e :: es) X.env)).any (·.1) || (backToKw pos (keywordEach kws X.env)).any (·.1.isNone)) = false) :
    PE X (.Call (.Name fd.nm p) (e :: es) kws pos) (Rd Wx (evCallk pm as bs G)) := by
  obtain ⟨a, dt, hm, hk, _, hb, F⟩ := F
  exact PE_imp (pe_callKG (n := 0) (E := WE Wx) F hr hgu hg hm hk (hb _ hq) (passAt tk) ha hkw (fun _ _ _ h => rdA_len la h) (fun _ _ _ h => rdA_len lb h) hall hks hdb he hpl) fun σ H Q h => rd_callk hG h
theorem s_callk0 {kws : List Keyword} {ks : List Str} {pm : List Nat} (F : FnAt X fd k G) (hG : ∀ ds S, ds.length ≠ fd.np → G ds S = .bad) (hr : Room k X.A) (hgu : X.A.guards = some []) (hg : Gl X fd.nm) (tk : Takes X Wx) (hq : (0, ks, pm) ∈ fd.kws) (hkw : PK X kws (RdA Wx bs))
    (lb : RdA_len bs ks.length) (hall : (backToKw pos (keywordEach kws X.env)).all (·.1.isSome) = true) (hks : (backToKw pos (keywordEach kws X.env)).filterMap (·.1) = ks)
    (hdb : (fd.nm == ("__debug__" : Str)) = false) (hpl : ((backTo pos (starEach [] X.env)).any (·.1) || (backToKw pos (keywordEach kws X.env)).any (·.1.isNone)) = false) :
    PE X (.Call (.Name fd.nm p) [] kws pos) (Rd Wx (evCallk pm (fun _ S => .ok [] S) bs G)) := by
  obtain ⟨a, dt, hm, hk, _, hb, F⟩ := F
  refine PE_imp (pe_callKG0 (n := 0) (E := WE Wx) F hr hgu hg hm hk (hb _ hq) (passAt tk) hkw (fun _ _ _ h => rdA_len lb h) hall hks hdb hpl) fun σ H Q h => ?_
  obtain ⟨W, S, r, w, en, h⟩ := h
  replace h : Post W H σ Wx ((bs r S).bind fun zs S2 => (G (pm.filterMap (([] ++ zs)[·]?)) S2).env r) Q := h
  refine ⟨W, S, r, w, en, (PostL.bind h).mono fun ys H2 ⟨W2, S2, zs, e2, w2, r2, h2⟩ => ?_⟩
  refine ⟨W2, S2, permV pm zs, w2, permV_reps r2, ?_, PostF.of h2⟩
  apply Decidable.byContradiction
  intro hn
  replace h2 : Post W2 H2 σ Wx ((G (permV pm zs) S2).env r) Q := h2
  rw [hG _ S2 hn] at h2
  exact h2
theorem s_knil : PK X [] (RdA Wx fun _ S => .ok [] S) := by
  refine PK_imp pk_nil fun σ H Q h => ?_
  obtain ⟨W, S, r, w, en, h⟩ := h
  exact h [] H W (.refl _ _) w .nil
theorem s_kcons {a : Ev} {kws : List Keyword} {nm : Option Str} {kpos : Pos} (ha : PE X e (Rd Wx a)) (hr : PK X kws (RdA Wx as)) : PK X (⟨nm, e, kpos⟩ :: kws) (RdA Wx (evCons a as)) := by
  refine PK_imp (pk_cons ha hr) fun σ H Q h => ?_
  obtain ⟨W, S, r, w, en, h⟩ := h
  refine ⟨W, S, r, w, en, ?_⟩
  unfold evCons at h
  cases e1 : a r S with
  | bad => rw [e1] at h; exact h.elim
  | ex c fs r' S' => rw [e1] at h; exact h
  | ok rv S1 =>
    rw [e1] at h
    intro v H1 W1 x1 w1 r1
    obtain ⟨W2, x2, w2, r2⟩ := r1.toD w1
    have x12 := x1.trans x2
    refine ⟨W2, S1, r, w2, en.ext x12, ?_⟩
    have h' : PostL W H σ Wx ((as r S1).bind fun ds S2 => .ok (rv.toD :: ds) S2) Q := h
    cases e2 : as r S1 with
    | bad => rw [e2] at h'; exact h'.elim
    | ex c fs r' S' => rw [e2] at h'; exact fun cls d H' W' y1 y2 y3 => h' cls d H' W' (x12.trans y1) y2 y3
    | ok ds S2 =>
      rw [e2] at h'
      intro vs H3 W3 x3 w3 r3
      exact h' (v :: vs) H3 W3 (x12.trans x3) w3 (.cons (r2.ext x3) r3)
end
end Fc

end
section
set_option autoImplicit false
set_option maxHeartbeats 1000000
/-! own exceptions with fields -/
namespace Fc
open PySem PySem.Spec L2 PyProof.Rows
variable [CtI] [XsI]
def fmtV : V → Prop
  | .non => True
  | .bl _ => True
  | .int i => i.natAbs.log2 < 1920
  | .str y => y.length ≤ 1000000
  | _ => False
def tFmtN (te : TE) : TE := fun σ H Q => te σ H fun x H1 => fmtV x ∧ ∀ y : Str, y.length ≤ 1000000 → Q (.str y) H1
section
variable {X : Cx} {e o : Expr} {es : List Expr} {te to : TE} {ta : TA} {p p1 p2 pos : Pos}
theorem int_text_short {a : Int} (h : a.natAbs.log2 < 1920) : (Str.ofString (toString a)).length ≤ 1000000 := by
  have e := int_text_length_le (k := 1920) (by decide) h
  rw [PySem.ofString_length]; omega
theorem pe_fmtN (he : PE X e te) : PE X (.FormattedValue e (-1) none pos) (tFmtN te) := by
  refine ⟨fun pins s σ H Q I h => ?_⟩
  refine wpAny_FormattedValue_plain (thn (he.run pins s σ H _ I h) fun v s1 hv => ?_)
  obtain ⟨x, H1, I1, r1, hf, q⟩ := hv
  have hz : (1000000 : Nat) ≤ sizeLine := by rw [← lim_eq]; decide
  cases x with
  | non =>
    cases r1
    exact wpAny_formatField_none ⟨.str "None", H1, I1.tok _, ⟨_, rfl⟩, q _ (by decide)⟩
  | bl b =>
    cases r1
    exact wpAny_formatField_bool ⟨.str _, H1, I1.tok _, ⟨_, rfl⟩, q _ (by cases b <;> decide)⟩
  | int i =>
    obtain ⟨t, rfl⟩ := r1
    exact wpAny_formatField_int hf ⟨.str (toString i), H1, I1.tok _, ⟨_, rfl⟩, q _ (int_text_short hf)⟩
  | str y =>
    obtain ⟨t, rfl⟩ := r1
    exact wpAny_formatField_str ⟨.str y, H1, I1, ⟨t, rfl⟩, q _ hf⟩ ⟨.str y, H1, I1.tok _, ⟨_, rfl⟩, q _ hf⟩ (Nat.le_trans hf hz)
  | _ => exact hf.elim
/-- some text comes, the heap as it was, if what the slots hold may be written -/
def tTxt (m : Bool) : TE := fun σ H Q => (m = true → ∀ i v, σ[i + 1]? = some (some v) → fmtV v) ∧ (∀ i, i < σ.length → ∃ v, σ[i]? = some (some v)) ∧ ∀ y : Str, Q (.str y) H
structure BaseF (K : PySem.W.Frag) (BA : Addr) : Prop where
  ga : PySem.W.specialIn K (.ref BA) "__getattribute__" = some (some (.builtin "type.__getattribute__"))
  ty : PySem.W.typeIn K (.ref BA) = some (.type "type")
  rd : PySem.W.readsIn K BA (.type "type") = true
  fc : PySem.W.findCls K (.ref BA) (.type "type") "__init__" = some (.val (.builtin "ValueError.__init__"))
theorem pe_binit {B : Str} {BA : Addr} {pl : Sem Bool} (hg : Gl X B) (hm : X.mg B = some (.ref BA)) (bf : BaseF X.K BA) (ha : PA X (e :: es) ta) (hdb : (B == ("__debug__" : Str)) = false)
    (hc : eval (.Call (.Attribute (.Name B p1) "__init__" p2) (e :: es) [] pos) X.env = (do
      let ov ← eval (.Name B p1) X.env
      standAt p2.atName
      let (f, first) ← holding [ov] (getMethod ov "__init__" pl)
      callWith pos f first (backTo pos (starEach (e :: es) X.env)) (backToKw pos (keywordEach [] X.env))))
    (he : starEach (e :: es) X.env = (false, eval e X.env) :: starEach es X.env) (hpl : (backTo pos (starEach es X.env)).any (·.1) = false) :
    PE X (.Call (.Attribute (.Name B p1) "__init__" p2) (e :: es) [] pos) (tVeI X.K ta) := by
  refine ⟨fun pins s σ H Q I h => ?_⟩
  have ⟨_, fr⟩ := I.fr
  refine PySem.W.methodCall_KW (ld_glob I hg hm (PySem.W.method_of_cls fr I.ok.mod.kin bf.ga (PySem.W.cls_val fr I.ok.mod.kin bf.ty bf.rd bf.fc (by decide +kernel) ?_)) hdb) hc
  show wpAny _ _ (callWith pos (Value.builtin "ValueError.__init__") [] (backTo pos (starEach (e :: es) X.env)) []) _ _ _
  refine PyProof.Rows.callWith_method1 (thn (ha.run pos pins _ σ H _ (I.tok _) h) fun us t ⟨vs, H1, J, rvs, a, C, ws, ev, few, T, there, q⟩ => ?_) he hpl
  subst ev
  obtain ⟨u, rest, rfl, ra, rw'⟩ : ∃ u rest, us = u :: rest ∧ RelV (.ref a) u ∧ Vals ws rest := by cases rvs with | cons ra rw' => exact ⟨_, _, rfl, ra, rw'⟩
  cases ra
  exact oinit_ok T J there (Nat.le_trans (Nat.le_of_eq rw'.length.symm) (by rw [sizeLine_eq]; omega)) fun s' J' => ⟨.non, H1, J', rfl, q⟩
end
/-! the text of an __init__ -/
def okPart (N : List Str) (m : Bool) : Expr → Bool
  | .Constant (.str x) _ _ => decide (x.length ≤ 1000000)
  | .FormattedValue (.Name y _) (-1) none _ => m && N.tail.contains y
  | _ => false
def okMsg (N : List Str) (m : Bool) : Expr → Bool
  | .Constant (.str x) _ _ => true
  | .JoinedStr (v1 :: v2 :: rest) _ => (v1 :: v2 :: rest).all (okPart N m) && decide (rest.length ≤ 8)
  | _ => false
def okF1 (N : List Str) (k : Nat) : Stmt → Bool
  | .Assign [.Attribute (.Name s _) f' _] (.Name y _) _ => decide (s = "self") && decide (N[k]? = some f') && decide (y = f')
  | _ => false
def okFl (N : List Str) : Nat → List Stmt → Bool
  | k, [] => decide (N.drop k = [])
  | k, st :: rest => okF1 N k st && okFl N (k + 1) rest
def okInit (B : Str) (N : List Str) (m : Bool) : List Stmt → Bool
  | .Expr (.Call (.Attribute (.Name b _) i ap) [.Name s _, msg] [] cp) _ :: rest => (ap.endLine == cp.line) && decide (b = B) && decide (i = "__init__") && decide (s = "self") && okMsg N m msg && okFl N 1 rest && decide (N[0]? = some ("self" : Str)) && nstM msg
  | _ => false
where nstM : Expr → Bool
  | .Starred .. => false
  | _ => true
def okVis (sc : Scope) (N : List Str) : Bool := N.all fun x => decide (sc.names.lookup x = some .local) && !(x == ("__debug__" : Str)) && !(x == ("__classdict__" : Str))
section
variable {X : Cx} {N : List Str} {m : Bool}
theorem ix_of {N : List Str} {y : Str} (h : N.tail.contains y = true) : ∃ i : Nat, N[i + 1]? = some y := by
  have h' : y ∈ N.tail := by simpa using h
  obtain ⟨i, hi⟩ := List.getElem?_of_mem h'
  exact ⟨i, by rw [List.getElem?_tail] at hi; exact hi⟩
theorem vis_of {sc : Scope} {N : List Str} {x : Str} (h : okVis sc N = true) (hx : x ∈ N) : sc.names.lookup x = some .local ∧ (x == ("__debug__" : Str)) = false ∧ (x == ("__classdict__" : Str)) = false := by
  have := List.all_eq_true.mp h x hx
  simp only [Bool.and_eq_true, decide_eq_true_eq, Bool.not_eq_true'] at this
  exact ⟨this.1.1, this.1.2, this.2⟩
/-- the parts -/
theorem pe_part (hN : X.N = N) (hv : okVis X.env.scope N = true) {e : Expr} (h : okPart N m e = true) : PE X e (fun σ H Q => (m = true → ∀ i v, σ[i + 1]? = some (some v) → fmtV v) ∧ (∀ i, i < σ.length → ∃ v, σ[i]? = some (some v)) ∧ σ.length = N.length ∧ ∀ y : Str, y.length ≤ 1000000 → Q (.str y) H) := by
  unfold okPart at h
  split at h
  · exact PE_imp pe_str fun σ H Q ⟨_, _, _, q⟩ => q _ (of_decide_eq_true h)
  · rename_i y _ _
    obtain ⟨hm, hy⟩ := Bool.and_eq_true_iff.mp h
    obtain ⟨i, hi⟩ := ix_of hy
    obtain ⟨l1, l2, l3⟩ := vis_of hv (List.mem_of_getElem? hi)
    refine PE_imp (pe_fmtN (pe_var (i := i + 1) (by rw [hN]; exact hi) (.inl l1) l2 l3)) fun σ H Q ⟨q1, q2, q3, q⟩ => ?_
    obtain ⟨v, e⟩ := q2 (i + 1) (by rw [q3]; exact (List.getElem?_eq_some_iff.mp hi).1)
    exact ⟨v, e, q1 hm _ _ e, q⟩
  · cases h
/-- the slots as at the entry of an __init__ -/
def SlotsOk (N : List Str) (m : Bool) (σ : L2.St) : Prop := (m = true → ∀ i v, σ[i + 1]? = some (some v) → fmtV v) ∧ (∀ i, i < σ.length → ∃ v, σ[i]? = some (some v)) ∧ σ.length = N.length
theorem js_run {σ : L2.St} {H : Hp} (ok : SlotsOk N m σ) : ∀ (k : Nat) (acc : Str) (j : Nat) (Q : Str → Hp → Prop), acc.length ≤ j * 1000000 → j + k ≤ 16 → (∀ y, Q y H) →
    tJs (List.replicate k (fun σ H Q => (m = true → ∀ i v, σ[i + 1]? = some (some v) → fmtV v) ∧ (∀ i, i < σ.length → ∃ v, σ[i]? = some (some v)) ∧ σ.length = N.length ∧ ∀ y : Str, y.length ≤ 1000000 → Q (.str y) H)) acc σ H Q
  | 0, acc, j, Q, _, _, q => q acc
  | k + 1, acc, j, Q, ha, hj, q => by
    rw [List.replicate_succ]
    refine ⟨ok.1, ok.2.1, ok.2.2, fun y hy => ⟨y, rfl, ?_, ?_⟩⟩
    · rw [Str.length_append, ← lim_eq]; omega
    · exact js_run ok k (acc ++ y) (j + 1) Q (by rw [Str.length_append]; omega) (by omega) q
theorem pj_all (hN : X.N = N) (hv : okVis X.env.scope N = true) : ∀ {es : List Expr}, es.all (okPart N m) = true → PJ X es (List.replicate es.length (fun σ H Q => (m = true → ∀ i v, σ[i + 1]? = some (some v) → fmtV v) ∧ (∀ i, i < σ.length → ∃ v, σ[i]? = some (some v)) ∧ σ.length = N.length ∧ ∀ y : Str, y.length ≤ 1000000 → Q (.str y) H))
  | [], _ => .nil
  | e :: es, h => by
    rw [List.all_cons] at h
    obtain ⟨h1, h2⟩ := Bool.and_eq_true_iff.mp h
    exact .cons (pe_part hN hv h1) (pj_all hN hv h2)
theorem pe_msg (hN : X.N = N) (hv : okVis X.env.scope N = true) {e : Expr} (h : okMsg N m e = true) : PE X e (fun σ H Q => SlotsOk N m σ ∧ ∀ y : Str, Q (.str y) H) := by
  unfold okMsg at h
  split at h
  · exact PE_imp pe_str fun σ H Q ⟨_, q⟩ => q _
  · rename_i v1 v2 rest _
    obtain ⟨h1, h2⟩ := Bool.and_eq_true_iff.mp h
    refine PE_imp (pe_joined (pj_all hN hv h1)) fun σ H Q ⟨ok, q⟩ => ?_
    exact js_run ok _ _ 0 _ (by show 0 ≤ _; omega) (by have := of_decide_eq_true h2; simp; omega) fun y => q y
  · cases h
def tFls (K : PySem.W.Frag) : Nat → List Str → TS
  | _, [] => tNext
  | k, f :: r => tSeq (tOst K f (tVar 0) (tVar k)) (tFls K (k + 1) r)
theorem ps_f1 (hN : X.N = N) (h0 : N[0]? = some ("self" : Str)) (hv : okVis X.env.scope N = true) {st : Stmt} {k : Nat} (h : okF1 N k st = true) : ∃ f, N[k]? = some f ∧ PS X st (tOst X.K f (tVar 0) (tVar k)) := by
  unfold okF1 at h
  split at h
  · simp only [Bool.and_eq_true, decide_eq_true_eq] at h
    obtain ⟨⟨rfl, hf⟩, rfl⟩ := h
    obtain ⟨l1, l2, l3⟩ := vis_of hv (List.mem_of_getElem? hf)
    obtain ⟨k1, k2, k3⟩ := vis_of hv (List.mem_of_getElem? h0)
    exact ⟨_, hf, ps_ost (pe_var (i := 0) (by rw [hN]; exact h0) (.inl k1) k2 k3) (pe_var (i := k) (by rw [hN]; exact hf) (.inl l1) l2 l3)⟩
  · cases h
theorem ps_fls (hN : X.N = N) (h0 : N[0]? = some ("self" : Str)) (hv : okVis X.env.scope N = true) : ∀ (sts : List Stmt) (k : Nat), okFl N k sts = true → PSs X sts (tFls X.K k (N.drop k))
  | [], k, h => by
    have e : N.drop k = [] := of_decide_eq_true h
    rw [e]
    exact pss_nil
  | st :: sts, k, h => by
    obtain ⟨h1, h2⟩ := Bool.and_eq_true_iff.mp (show (okF1 N k st && okFl N (k + 1) sts) = true from h)
    obtain ⟨f, hf, hp⟩ := ps_f1 hN h0 hv h1
    have hd : N.drop k = f :: N.drop (k + 1) := by
      have hlt := (List.getElem?_eq_some_iff.mp hf).1
      rw [List.drop_eq_getElem_cons hlt]
      rw [List.getElem?_eq_getElem hlt] at hf
      cases hf
      rfl
    rw [hd]
    exact pss_cons hp (ps_fls hN h0 hv sts (k + 1) h2)
theorem call_line {o : Expr} {m : Str} {apos pos : Pos} {env : PySem.Env} {args : List Expr} (hb : attributeBase o m env (eval o env) = eval o env) (hl : (apos.endLine == pos.line) = true) (hf : methodCallForm (args.length + ([] : List Keyword).length) (backTo pos (starEach args env)) (backToKw pos (keywordEach [] env)) = true) :
    eval (.Call (.Attribute o m apos) args [] pos) env = (do
      let ov ← eval o env
      standAt apos.atName
      let (f, first) ← holding [ov] (getMethod ov m (do return (← importBound o env).getD true))
      callWith pos f first (backTo pos (starEach args env)) (backToKw pos (keywordEach [] env))) := by
  have hpos : methodCallPos true o env apos pos = pure pos := by unfold methodCallPos; simp [hl]
  show (do
    let ov ← attributeBase o m env (eval o env)
    standAt apos.atName
    methodCall o m apos pos env ov (args.length + ([] : List Keyword).length) (backTo pos (starEach args env)) (backToKw pos (keywordEach [] env))) = _
  rw [hb]
  unfold methodCall calleeOf
  rw [hf, hpos]
  simp only [if_true, pure_bind]
theorem fls_old {K : PySem.W.Frag} {C a dx : Addr} {σ : L2.St} {D : Ends} (T : OexC K C) (h0 : σ[0]? = some (some (.ref a))) (hne : dx ≠ a) : ∀ (fl : List Str) (ws : List V) (k : Nat) (fs : List (Str × V)) (H : Hp), ws.length = fl.length → (∀ j v, ws[j]? = some v → σ[k + j]? = some (some v)) →
    (∀ f ∈ fl, PySem.W.findIn K (.ref C) f = some none) → fs.length + fl.length ≤ 900 → H a = some (exo a C (some dx)) → H dx = some (exd dx fs) →
    (∀ H', H' a = some (exo a C (some dx)) → H' dx = some (exd dx ((fl.zip ws).reverse ++ fs)) → (∀ b, b ≠ a → b ≠ dx → H' b = H b) → D.nx σ H') → tFls K k fl D σ H
  | [], ws, k, fs, H, hl, hw, hf, hz, e1, e2, q => q H e1 (by simpa using e2) fun _ _ _ => rfl
  | f :: fl, [], _, _, _, hl, _, _, _, _, _, _ => by cases hl
  | f :: fl, w :: ws, k, fs, H, hl, hw, hf, hz, e1, e2, q => by
    refine ⟨w, by simpa using hw 0 w rfl, .ref a, h0, a, C, rfl, T, hf f (by simp), .inr ⟨dx, fs, e1, e2, by simp at hz; omega, ?_⟩⟩
    refine fls_old T h0 hne fl ws (k + 1) ((f, w) :: fs) _ (by simpa using hl) (fun j v h => ?_) (fun g hg => hf g (by simp [hg])) (by simp at hz ⊢; omega) (by rw [upd_ne (Ne.symm hne)]; exact e1) upd_same fun H' h1 h2 h3 => ?_
    · have := hw (j + 1) v (by simpa using h)
      rw [show k + 1 + j = k + (j + 1) by omega]
      exact this
    · refine q H' h1 (by rw [h2]; simp) fun b hb1 hb2 => ?_
      rw [h3 b hb1 hb2, upd_ne hb2]
/-- what an __init__ keeps -/
def spI (C : Addr) (fl : List Str) (m : Bool) : Sp := fun vs H Q _ => ∃ a ws, vs = .ref a :: ws ∧ ws.length = fl.length ∧ H a = some (exo a C none) ∧ (m = true → ∀ w ∈ ws, fmtV w) ∧
  ∀ dx H', H dx = none → dx ≠ a → H' a = some (exo a C (some dx)) → H' dx = some (exd dx (fl.zip ws).reverse) → (∀ b, b ≠ a → b ≠ dx → H' b = H b) → Q .non H'
theorem init_ok {P : Program} {w : World} {K : PySem.W.Frag} {mg : Str → Option Value} {base : Heap} {C BA f : Addr} {fd : FuncData} {B qual nm : Str} {params : Arguments} {body : List Stmt} {scope : Scope} {fl : List Str} (F : FunD K nm qual params body scope [] [] f fd)
    (S : FnScope ("self" :: fl) ("self" :: fl) scope) (hv : okVis scope ("self" :: fl) = true) (hB : scope.names.lookup B = some .globalImplicit) (hdb : (B == ("__debug__" : Str)) = false) (hm : mg B = some (.ref BA)) (bf : BaseF K BA) (T : OexC K C) (hn : ∀ f ∈ fl, PySem.W.findIn K (.ref C) f = some none)
    (hne : fl ≠ []) (hz : fl.length ≤ 100) (ok : okInit B ("self" :: fl) m body = true) : FnOk P w K mg base (CX P w) 1 f fd ("self" :: fl) (spI C fl m) := by
  refine F.ok S (fun vs H Q E h => ?_) (fun cdv A outer s H vs Q E hr h => ?_)
  · obtain ⟨a, ws, rfl, hl, _⟩ := h
    simp [hl]
  · unfold okInit at ok
    split at ok
    · rename_i b' p1 i' p2 s' p3 msg pos1 pos2 rest
      simp only [Bool.and_eq_true, decide_eq_true_eq] at ok
      obtain ⟨⟨⟨⟨⟨⟨⟨hln, rfl⟩, rfl⟩, rfl⟩, okM⟩, okF⟩, _⟩, nsM⟩ := ok
      have hN : (cxOf (CX P w) P w K mg base ("self" :: fl) qual scope f cdv A outer s H E).N = ("self" : Str) :: fl := rfl
      obtain ⟨k1, k2, k3⟩ := vis_of hv (List.mem_cons_self (a := ("self" : Str)) (l := fl))
      have hsM : ∀ env, starEach [msg] env = [(false, eval msg env)] := fun env => by
        cases msg <;> first | rfl | cases nsM
      have pM := pe_msg (X := cxOf (CX P w) P w K mg base ("self" :: fl) qual scope f cdv A outer s H E) hN hv okM
      have pS : PE (cxOf (CX P w) P w K mg base ("self" :: fl) qual scope f cdv A outer s H E) (.Name "self" p3) (tVar 0) := pe_var (i := 0) rfl (.inl k1) k2 k3
      have pA := pa_cons pS (pa_cons pM pa_nil (hsM _)) (by show _ = _ :: starEach [msg] _; rfl)
      have p0 := pe_binit (X := cxOf (CX P w) P w K mg base ("self" :: fl) qual scope f cdv A outer s H E) (p1 := p1) (p2 := p2) (pos := pos1) hB hm bf pA hdb (call_line rfl hln (by rw [show starEach [.Name "self" p3, msg] _ = _ :: starEach [msg] _ from rfl, hsM]; rfl)) rfl (by rw [hsM]; rfl)
      refine ⟨_, pss_cons (ps_expr p0 rfl) (ps_fls hN rfl hv rest 1 okF), ?_⟩
      obtain ⟨a, ws, rfl, hl, ea, hf, q⟩ := h
      have hst : L2.start ("self" :: fl) (.ref a :: ws) = some (.ref a) :: ws.map some := by
        unfold L2.start
        simp [hl]
      rw [hst]
      have sl : SlotsOk ("self" :: fl) m (some (.ref a) :: ws.map some) := by
        refine ⟨fun hm i v e => hf hm v ?_, fun i hi => ?_, by simp [hl]⟩
        · have e' : (ws.map some)[i]? = some (some v) := e
          rw [List.getElem?_map] at e'
          cases e2 : ws[i]? with
          | none => rw [e2] at e'; cases e'
          | some u => rw [e2] at e'; cases e'; exact List.mem_of_getElem? e2
        · cases i with
          | zero => exact ⟨_, rfl⟩
          | succ i =>
            have hi' : i < ws.length := by simpa using hi
            exact ⟨ws[i], by simp [hi']⟩
      refine ⟨.ref a, rfl, sl, fun y => ⟨a, C, [.str y], rfl, by simp, T, ea, ?_⟩⟩
      show tFls K 1 fl _ _ H
      cases fl with
      | nil => exact absurd rfl hne
      | cons f1 fl =>
        cases ws with
        | nil => cases hl
        | cons w1 ws =>
          refine ⟨w1, rfl, .ref a, rfl, a, C, rfl, T, hn f1 (by simp), .inl ⟨ea, fun dx hd hda => ?_⟩⟩
          refine fls_old T rfl hda fl ws 2 [(f1, w1)] _ (by simpa using hl) (fun j v h => ?_) (fun g hg => hn g (by simp [hg])) (by simp at hz ⊢; omega) upd_same (by rw [upd_ne hda]; exact upd_same) fun H' h1 h2 h3 => ?_
          · have : (2 + j) = (j + 1) + 1 := by omega
            rw [this]
            simp [List.getElem?_map, h]
          · refine q dx H' hd hda h1 (by rw [h2]; simp) fun b hb1 hb2 => ?_
            rw [h3 b hb1 hb2, upd_ne hb1, upd_ne hb2]
    · cases ok
/-- a class of exceptions, as it stands -/
def MkAt (X : Cx) (x : Str) (c k : Nat) (m : Bool) : Prop := X.mg x = some (.ref (CtI.ct.adr c)) ∧ CtI.kn c ∧ (CtI.ct.flds c).length = k ∧ k ≤ 100 ∧ OexC X.K (CtI.ct.adr c) ∧ ∃ (fI : Addr) (fd : FuncData), PySem.W.findIn X.K (.ref (CtI.ct.adr c)) "__init__" = some (some (.ref fI)) ∧
  PySem.W.typeIn X.K (.ref fI) = some (.type "function") ∧ L2.Binds X.K fd ("self" :: CtI.ct.flds c) [] ∧ FnOk X.prog X.w X.K X.mg X.base (CX X.prog X.w) 1 fI fd ("self" :: CtI.ct.flds c) (spI (CtI.ct.adr c) (CtI.ct.flds c) m)
theorem fmt_ok {W : Wd} {H : Hp} {v : V} {d : D} (r : Rep W H v d) (h : d.fmt = true) : fmtV v := by
  cases r with
  | non => trivial
  | bl b => trivial
  | int i => exact of_decide_eq_true (p := i.natAbs.log2 < 1920) h
  | str x => exact of_decide_eq_true (p := x.length ≤ 1000000) h
  | _ => cases h
theorem fmts_ok {W : Wd} {H : Hp} : ∀ {vs : List V} {ds : List D}, Reps W H vs ds → ds.all D.fmt = true → ∀ v ∈ vs, fmtV v
  | _, _, .nil, _, v, hv => by cases hv
  | _, _, .cons r rs, h, v, hv => by
    rw [List.all_cons] at h
    obtain ⟨h1, h2⟩ := Bool.and_eq_true_iff.mp h
    rcases List.mem_cons.mp hv with rfl | hv
    · exact fmt_ok r h1
    · exact fmts_ok rs h2 v hv
theorem s_mk {Wx : WX} {x : Str} {c k : Nat} {e : Expr} {es : List Expr} {as : Evs} {p pos : Pos} (M : MkAt X x c k m) (hr : Room 2 X.A) (hg : Gl X x) (ha : PA X (e :: es) (RdA Wx as)) (hdb : (x == ("__debug__" : Str)) = false)
    (he : starEach (e :: es) X.env = (false, eval e X.env) :: starEach es X.env) (hpl : (backTo pos (starEach es X.env)).any (·.1) = false) :
    PMk X (.Call (.Name x p) (e :: es) [] pos) (RdM Wx c fun r S => (as r S).bind fun ds S1 => if chk k m ds then .ok ds S1 else .bad) := by
  obtain ⟨hm, hkn, hk, hk2, T, fI, fd, iC, tI, hb, F⟩ := M
  have h1 := pmk_oex (CX := CX X.prog X.w) (pos := pos) (p := p) T iC tI F hr hb .nil (fun pins σ H s e s' I c => by obtain ⟨_, _, _, _, _, _, _, _, _, _, _, _, z⟩ := c; exact z.elim) hg hm ha hdb he hpl
  intro pins s σ H Q I h
  refine h1 pins s σ H Q I ?_
  obtain ⟨W, S, r, w, en, h⟩ := h
  refine ⟨W, S, r, w, en, ?_⟩
  dsimp only at h
  cases e1 : as r S with
  | bad => rw [e1] at h; exact h.elim
  | ex c fs r' S' => rw [e1] at h; exact h
  | ok ds S1 =>
    rw [e1] at h
    replace h : PostM W H σ Wx c (if chk k m ds then .ok ds S1 else .bad) Q := h
    intro vs H1 W1 x1 w1 r1
    by_cases hc : chk k m ds = true
    · rw [if_pos hc] at h
      obtain ⟨hc1, hc2⟩ := Bool.and_eq_true_iff.mp hc
      have hlen : ds.length = k := of_decide_eq_true hc1
      refine ⟨by rw [r1.length]; omega, fun a han => ⟨a, vs, by simp, by rw [r1.length, hlen, hk], upd_same, fun hm v hv => ?_, fun dx H' hd hda h1 h2 h3 => ?_⟩⟩
      · subst hm
        exact fmts_ok r1 (by simpa using hc2) v hv
      · rw [upd_ne hda] at hd
        refine ⟨rfl, dx, _, h1, h2, hd, ?_⟩
        have eH : upd (del H' a) dx (.xd ((CtI.ct.flds c).zip vs).reverse) = upd H1 dx (.xd ((CtI.ct.flds c).zip vs).reverse) := by
          funext b
          by_cases hb : b = dx
          · rw [hb, upd_same, upd_same]
          · rw [upd_ne hb, upd_ne hb]
            by_cases hba : b = a
            · rw [hba, del_same, han]
            · rw [del_ne hba, h3 b hba hb, upd_ne hba]
        rw [eH]
        have xx := (upd_F (o := .xd ((CtI.ct.flds c).zip vs).reverse) w1 hd).trans (Wd.frz_ext (W := W1) (a := dx))
        refine h _ _ _ (W1.frz dx) (x1.trans xx) ((w1.upd hd).frz upd_same (w1.notm hd) (w1.notT hd)) ⟨by show _ = Value.ref (W1.c.adr c); rw [w1.ct], hkn, dx, vs, rfl, .inr rfl, ?_, r1.ext xx, ?_⟩
        · show upd H1 dx _ dx = _
          rw [upd_same]
          show _ = some (HO.xd ((W1.c.flds c).zip vs).reverse)
          rw [w1.ct]
        · show _ = (W1.c.flds c).length
          rw [w1.ct, r1.length, hlen, hk]
    · rw [if_neg hc] at h
      exact h.elim
end
end Fc

end
section
set_option autoImplicit false
set_option maxHeartbeats 1000000
/-! instances: fields, methods -/
namespace Fc
open PySem PySem.Spec L2 PyProof.Rows
variable [CtI] [XsI]
/-- how a call with n values ahead and the keywords ks binds; None for what is left out -/
def KBd (K : PySem.W.Frag) (dt : FuncData) (ps : List Str) (q : Nat × List Str × List Nat) : Prop := ∀ (s : Shared) (us ws : List Value), K.In s.heap → us.length = q.1 → ws.length = q.2.1.length → BindsTo s dt ⟨us, q.2.1.zip ws⟩ (ps.zip (permV q.2.2 (us ++ ws ++ [Value.none])))
theorem zip_lookup {α : Type} : ∀ {ns : List Str} {vs : List α} {i : Nat} {f : Str} {v : α}, ns.Nodup → ns[i]? = some f → vs[i]? = some v → (ns.zip vs).lookup f = some v
  | [], _, _, _, _, _, h, _ => by simp at h
  | _ :: _, [], _, _, _, _, _, h => by simp at h
  | n :: ns, u :: vs, 0, f, v, _, h1, h2 => by
    have e1 : n = f := by simpa using h1
    have e2 : u = v := by simpa using h2
    subst e1 e2
    rw [List.zip_cons_cons, List.lookup_cons, beq_self_eq_true]
  | n :: ns, u :: vs, i + 1, f, v, nd, h1, h2 => by
    have h1' : ns[i]? = some f := by simpa using h1
    have h2' : vs[i]? = some v := by simpa using h2
    have ne : (f == n) = false := by
      rw [beq_eq_false_iff_ne]
      intro e
      subst e
      exact (List.nodup_cons.mp nd).1 (List.mem_of_getElem? h1')
    rw [List.zip_cons_cons, List.lookup_cons, ne]
    exact zip_lookup (List.nodup_cons.mp nd).2 h1' h2'
theorem zip_lookup_none {α : Type} : ∀ {ns : List Str} {vs : List α} {f : Str}, f ∉ ns → (ns.zip vs).lookup f = none
  | [], _, _, _ => rfl
  | _ :: _, [], _, _ => rfl
  | n :: ns, u :: vs, f, h => by
    have ne : (f == n) = false := by
      rw [beq_eq_false_iff_ne]
      intro e
      subst e
      exact h (by simp)
    rw [List.zip_cons_cons, List.lookup_cons, ne]
    exact zip_lookup_none fun q => h (by simp [q])
section
variable {X : Cx} [KX X] {Wx : WX} {p pos apos : Pos} {e o ea : Expr} {es : List Expr} {G : List D → Store → Out RV} {as bs : Evs} {a : Ev} {k : Nat} {m : Str} {C f : Addr} {fd : FuncData} {ps ks : List Str} {sp : Sp} {ta : TE} {t tk : TA}
theorem s_fld {c i : Nat} {fl : Str} (hf : (CtI.ct.flds c)[i]? = some fl) (hnd : (CtI.ct.flds c).Nodup) (hC : Cls X.K (CtI.ct.adr c)) (hN : NoAttr X.K (CtI.ct.adr c) fl) (ha : PE X ea (Rd Wx a)) (hb : attributeBase ea fl X.env (eval ea X.env) = eval ea X.env) :
    PE X (.Attribute ea fl pos) (Rd Wx fun r S => (a r S).bindD (evFld c i)) := by
  refine PE_imp (pe_fld ha hb) fun σ H Q h => ?_
  obtain ⟨W, S, r, w, en, h⟩ := h
  refine ⟨W, S, r, w, en, (Post.bind h).mono fun x H1 ⟨W1, S1, d, e1, w1, r1, h1⟩ => ?_⟩
  unfold evFld at h1
  split at h1
  · rename_i c' fs
    split at h1
    · rename_i hc
      subst hc
      split at h1
      · rename_i y hy
        cases r1 with
        | ob f1 f2 h2 h3 rs hl =>
          rw [w1.ct] at h2
          obtain ⟨v, hv, rv⟩ := rs.get hy
          exact ⟨_, _, _, _, v, rfl, h2, hC, hN, zip_lookup hnd hf hv, h1.same w1 rv⟩
      · exact h1.elim
    · exact h1.elim
  · exact h1.elim
theorem call_meth {M : Model} {A : Around} {E : Value → Shared → Prop} {s : Shared} {env : PySem.Env} {name : Str} {args : List Expr} {kws : List Keyword} {Q : Value → Shared → Prop} (hbase : attributeBase o name env (eval o env) = eval o env)
    (hfew : methodCallForm (args.length + kws.length) (backTo pos (starEach args env)) (backToKw pos (keywordEach kws env)) = true) (hline : (apos.endLine == pos.line) = true)
    (h : wpAny M A (eval o env) (fun ov s₁ => wpAny M A (getMethod ov name (do return (← importBound o env).getD true)) (fun fx s₂ => wpAny M A (callWith pos fx.1 fx.2 (backTo pos (starEach args env)) (backToKw pos (keywordEach kws env))) Q E s₂) E s₁) E s) :
    wpAny M A (eval (.Call (.Attribute o name apos) args kws pos) env) Q E s := by
  have line : methodCallPos true o env apos pos = pure pos := by simp [methodCallPos, hline]
  rw [arm_eval_Call, hbase]
  unfold methodCall
  rw [hfew]
  exact wpAny_bind (wpAny_mono h (fun _ _ got => wpAny_bind (wpAny_standAt (wpAny_bind (wpAny_holding (wpAny_mono got (fun _ _ go => wpAny_bind (wpAny_of_eq line go)) fun _ _ z => z))))) fun _ _ z => z)
/-- o.m(..), also by keywords -/
def tMethKG (C : Addr) (m : Str) (sp : Sp) (pm : List Nat) (E : L2.St → XK) (ta : TE) (t tk : TA) : TE := fun σ H Q => ta σ H fun x H1 => ∃ a dx fs, x = .ref a ∧ H1 a = some (.ins C dx fs) ∧ fs.lookup m = none ∧
  t σ H1 fun vs H2 => tk σ H2 fun zs H3 => sp (permV pm (x :: vs ++ zs ++ [.non])) H3 Q (E σ)
theorem pe_methKG {pm : List Nat} {kws : List Keyword} {E : L2.St → XK} (ho : PE X o ta) (c : Cls X.K C) (hm : Meth X.K C m f) (F : FnG X.prog X.w X.K X.mg X.base k f fd ps sp) (hr : Room k X.A) (hgu : X.A.guards = some [])
    (hb : KBd X.K fd ps ((e :: es).length + 1, ks, pm)) (hx : ∀ σ, PassesAt (CX X.prog X.w) X σ (E σ)) (ha : PA X (e :: es) t) (hkw : PK X kws tk) (hla : ∀ σ H Q, t σ H Q → t σ H fun vs H1 => vs.length = (e :: es).length ∧ Q vs H1) (hlk : ∀ σ H Q, tk σ H Q → tk σ H fun vs H1 => vs.length = ks.length ∧ Q vs H1)
    (hall : (backToKw pos (keywordEach kws X.env)).all (·.1.isSome) = true) (hks : (backToKw pos (keywordEach kws X.env)).filterMap (·.1) = ks)
    (he : starEach (e :: es) X.env = (false, eval e X.env) :: starEach es X.env) (hpl : ((backTo pos (starEach (e :: es) X.env)).any (·.1) || (backToKw pos (keywordEach kws X.env)).any (·.1.isNone)) = false)
    (hbase : attributeBase o m X.env (eval o X.env) = eval o X.env) (hfew : methodCallForm ((e :: es).length + kws.length) (backTo pos (starEach (e :: es) X.env)) (backToKw pos (keywordEach kws X.env)) = true) (hline : (apos.endLine == pos.line) = true) :
    PE X (.Call (.Attribute o m apos) (e :: es) kws pos) (tMethKG C m sp pm E ta t tk) := by
  refine ⟨fun pins s σ H Q I h => ?_⟩
  refine call_meth hbase hfew hline (thn (ho.run pins s σ H _ I h) fun u s0 ⟨x, H0, I0, rx, a, dx, fs, ex, ea, l, q⟩ => ?_)
  subst ex
  obtain rfl : u = Value.ref a := rx
  refine getmeth_ok I0 ea c hm l ?_
  refine PySem.W.callWith_KW (h₀ := X.base) I0.ok.mod.kin hm.kp hall (thn (ha.run pos pins s0 σ H0 _ I0 (hla _ _ _ q)) fun us s1 ⟨vs, H1, I1, r, hl1, q⟩ => ?_) hpl he
  refine thn (hkw.run pos pins s1 σ H1 _ I1 (hlk _ _ _ q)) fun ws s2 ⟨zs, H2, I2, rz, hl2, q2⟩ => ⟨I2.kIn, ?_⟩
  rw [hks]
  have r2 : Vals (V.ref a :: vs) (Value.ref a :: us) := .cons rfl r
  have rn : Vals [V.non] [Value.none] := .cons (show L2.RelV .non .none from rfl) .nil
  exact run_fnG (args := ⟨Value.ref a :: us, ks.zip ws⟩) F hr hgu (hx σ) I2 (hb s2 (Value.ref a :: us) ws I2.kIn (by rw [List.length_cons, ← r.length, hl1]) (by rw [← rz.length]; exact hl2)) (Vals.perm ((r2.append rz).append rn)) q2
theorem pe_methKG0 {pm : List Nat} {kws : List Keyword} {E : L2.St → XK} (ho : PE X o ta) (c : Cls X.K C) (hm : Meth X.K C m f) (F : FnG X.prog X.w X.K X.mg X.base k f fd ps sp) (hr : Room k X.A) (hgu : X.A.guards = some [])
    (hb : KBd X.K fd ps (1, ks, pm)) (hx : ∀ σ, PassesAt (CX X.prog X.w) X σ (E σ)) (hkw : PK X kws tk) (hlk : ∀ σ H Q, tk σ H Q → tk σ H fun vs H1 => vs.length = ks.length ∧ Q vs H1)
    (hall : (backToKw pos (keywordEach kws X.env)).all (·.1.isSome) = true) (hks : (backToKw pos (keywordEach kws X.env)).filterMap (·.1) = ks)
    (hpl : ((backTo pos (starEach [] X.env)).any (·.1) || (backToKw pos (keywordEach kws X.env)).any (·.1.isNone)) = false)
    (hbase : attributeBase o m X.env (eval o X.env) = eval o X.env) (hfew : methodCallForm (([] : List Expr).length + kws.length) (backTo pos (starEach [] X.env)) (backToKw pos (keywordEach kws X.env)) = true) (hline : (apos.endLine == pos.line) = true) :
    PE X (.Call (.Attribute o m apos) [] kws pos) (tMethKG C m sp pm E ta tNil tk) := by
  refine ⟨fun pins s σ H Q I h => ?_⟩
  refine call_meth hbase hfew hline (thn (ho.run pins s σ H _ I h) fun u s0 ⟨x, H0, I0, rx, a, dx, fs, ex, ea, l, q⟩ => ?_)
  subst ex
  obtain rfl : u = Value.ref a := rx
  refine getmeth_ok I0 ea c hm l ?_
  refine PySem.W.callWith_KW0 (h₀ := X.base) I0.ok.mod.kin hm.kp hall ?_ hpl
  replace q : tk σ H0 fun zs H3 => sp (permV pm (V.ref a :: [] ++ zs ++ [.non])) H3 Q (E σ) := q
  refine thn (hkw.run pos pins s0 σ H0 _ I0 (hlk _ _ _ q)) fun ws s2 ⟨zs, H2, I2, rz, hl2, q2⟩ => ⟨I2.kIn, ?_⟩
  rw [hks]
  have r2 : Vals [V.ref a] [Value.ref a] := .cons rfl .nil
  have rn : Vals [V.non] [Value.none] := .cons (show L2.RelV .non .none from rfl) .nil
  exact run_fnG (args := ⟨[Value.ref a], ks.zip ws⟩) F hr hgu (hx σ) I2 (hb s2 [Value.ref a] ws I2.kIn rfl (by rw [← rz.length]; exact hl2)) (Vals.perm ((r2.append rz).append rn)) q2
end
end Fc

end
section
set_option autoImplicit false
set_option maxHeartbeats 2000000
/-! a def's call, told for any context of its body -/
namespace Fc
open PySem PySem.Spec PyProof.Rows L2
/-- a call's frame as it begins: the cells laid, the parameters bound -/
abbrev Begun (qual : Str) (scope : Scope) (f : Addr) (cdv : Value) (bs : List (Str × Value)) (s t : Shared) : Prop :=
  InCallC s s.heap.objs.size (bindL (envOfC qual scope s.heap.objs.size f cdv).kindOf bs fun _ => none) (cellsFrom (s.heap.objs.size + 1) scope.names []) (bindC (envOfC qual scope s.heap.objs.size f cdv).kindOf bs fun _ => none) t
/-- the context of a def's body, with exceptions pinned or not -/
abbrev cxP (CX : CXT) (P : Program) (w : World) (K : PySem.W.Frag) (mg : Str → Option Value) (base : Heap) (N : List Str) (qual : Str) (scope : Scope) (f : Addr) (cdv : Value) (A : Around) (outer : List PySem.Env) (s : Shared) (H : Hp) (E : XK) (cm : Bool) (pn : List (Addr × PySem.Obj)) : Cx :=
  { cxOf CX P w K mg base N qual scope f cdv A outer s H E with calm := cm, pn := pn }
section
variable {CX : CXT} {P : Program} {w : World} {K : PySem.W.Frag} {mg : Str → Option Value} {base : Heap} {f : Addr} {name qual : Str} {params : Arguments} {body : List Stmt} {scope : Scope} {dV kV doc pm cdv ct oc : Value} {an od : Option Addr}
  {osl : Array (Option Value)} {N ps : List Str} {A : Around} {outer : List PySem.Env} {s : Shared} {H : Hp} {args : Args} {us : List Value} {vs : List V} {Q : VK} {E : XK} {cm : Bool} {pn : List (Addr × PySem.Obj)} {t : TS}
/-- how a body ends is how its call ends -/
theorem call_ends {s' : Shared} : ∀ {fl : Flow}, SP (cxP CX P w K mg base N qual scope f cdv A outer s H E cm pn) [] { nx := fun _ H' => Q .non H', rt := Q } fl s' → CE outer P w H s Q (match fl with | .ret u => u | _ => .none) s'
  | .ret _, ⟨v, _, H', I, rv, q⟩ => ⟨v, H', I.os, I.bare, I.base, I.hok, rv, q⟩
  | .next, ⟨_, H', I, q⟩ => ⟨.non, H', I.os, I.bare, I.base, I.hok, rfl, q⟩
  | .brk, ⟨_, _, _, q⟩ => q.elim
  | .cont, ⟨_, _, _, q⟩ => q.elim
theorem def_runs (lk : K.lookup f = some ⟨oc, od, .func (PySem.W.fnOf name qual params body scope dV kV doc pm an cdv ct), osl⟩) (code : PySem.W.codeIn K cdv qual = true) (S : FnScope N ps scope) (deep : A.depth < recursionLimit) (e0 : Env0 P w K mg base A outer s H)
    (hb : BindsTo s (PySem.W.fnOf name qual params body scope dV kV doc pm an cdv ct) args (ps.zip us)) (walk : PSs (cxP CX P w K mg base N qual scope f cdv A outer s H E cm pn) body t) (q : t { nx := fun _ H' => Q .non H', rt := Q } (L2.start N vs) H)
    (begins : ∀ t, Begun qual scope f cdv (ps.zip us) s t → Inv (cxP CX P w K mg base N qual scope f cdv A outer s H E cm pn) [] (L2.start N vs) H t) : codeAny (model P w) A (.call (.ref f) args) (CR CX outer P w H s Q E) s := by
  have mod := e0.mod
  have frag : K.In s.heap := fun b o e => (e0.bs b o (mod.kin b o e)).1
  have place : ∀ y ∈ ps.zip us, scope.names.lookup y.1 = some .local ∨ (scope.names.lookup y.1 = some .cell ∧ ((cellsFrom (s.heap.objs.size + 1) scope.names []).lookup y.1).isSome = true) := fun y hy =>
    (S.par y.1 (List.of_mem_zip (a := y.1) (b := y.2) hy).1).imp id fun c => ⟨c, PySem.W.cellsFrom_some _ _ _ (.inl c)⟩
  refine codeAny_call_function deep (frag f _ lk) rfl S.co S.gen rfl (PySem.W.codeRec_of frag code) (hb _ _ _ _ (wpAny_newFunctionEnv_cells S.kind place fun env here t1 b => ?_))
  cases here
  refine ⟨(mod.nolimit.keeps fun b o e => (e0.bs b o e).1).keeps b.toInCall.keep, codeAny_func (wpAny_mono (walk.run [] t1 _ H _ (begins t1 b) q) (fun fl s' h => ?_) fun _ _ h => h)⟩
  have e := call_ends h
  cases fl <;> exact e
end
end Fc

end
section
set_option autoImplicit false
set_option maxHeartbeats 4000000
/-! the making of a network: its __init__ -/
namespace Fc
open PySem PySem.Spec L2 PyProof.Rows
variable [CtI] [XsI]
theorem fn_ofG {P : Program} {w : World} {K : PySem.W.Frag} {mg : Str → Option Value} {base : Heap} {k : Nat} {f : Addr} {x qual : Str} {params : Arguments} {body : List Stmt} {scope : Scope} {dvs : List V} {kws : List (Str × V)} {fd : FuncData} {N ps : List Str} {sp : Sp}
    (F : FunD K x qual params body scope dvs kws f fd) (S : FnScope N ps scope) (len : ∀ vs H Q E, sp vs H Q E → vs.length = ps.length)
    (hbody : ∀ (cdv : Value) (A : Around) (outer : List PySem.Env) (s : Shared) (H : Hp) (vs : List V) (Q : VK) (E : XK), Room k (A.deeper (envOfC qual scope s.heap.objs.size f cdv)) → A.guards = some [] → sp vs H Q E →
      ∃ t, PSs (cxOf (CX P w) P w K mg base N qual scope f cdv A outer s H E) body t ∧ t { nx := fun _ H' => Q .non H', rt := Q } (L2.start N vs) H) :
    FnG P w K mg base (k + 1) f fd ps sp := by
  obtain ⟨_, _, _, _, _, _, _, cdv, _, _, rfl, lk, code, _, _⟩ := F.ex
  refine ⟨len, fun A outer s H args us vs Q E room gu e0 b r given => ?_⟩
  obtain ⟨t, walk, q⟩ := hbody cdv A outer s H vs Q E (room.deeper _) gu given
  exact def_runs (pn := []) lk code S room.depth e0 b walk q fun _ x => inv_start S room.hd e0 (len _ _ _ _ given) r x
theorem Wok.lockT {W : Wd} {H : Hp} {S : Store} {a : Addr} {u : HO} (w : Wok W H S) (ha : H a = some u) (nf : ¬ W.F a) (nm : a ∉ W.m) (nt : ¬ W.T a) (o : HO) : Ext W H (W.frz a) (L2.upd H a o) ∧ Wok (W.frz a) (L2.upd H a o) S := by
  have xt : Ext W H (W.frz a) (L2.upd H a o) := ⟨fun b h => ⟨.inl h, upd_ne fun e => nf (e ▸ h)⟩, ⟨[], by simp [Wd.frz]⟩, rfl, fun b h => ⟨h, upd_ne fun e => nt (e ▸ h)⟩⟩
  refine ⟨xt, ⟨w.len, fun l ob h => ?_, w.nd, fun l b hb hd hf => ?_, fun b hb => ?_, fun b hb => ⟨fun hf => ?_, (w.tem b hb).2.1, by rw [(xt.tm b hb).2]; exact (w.tem b hb).2.2⟩, w.ct⟩⟩
  · obtain ⟨b, h1, h2⟩ := w.obj l ob h
    exact ⟨b, h1, h2.ext xt (upd_ne fun e => nm (e ▸ List.mem_of_getElem? h1))⟩
  · rcases hf with hf | hf
    · exact w.dis l b hb hd hf
    · subst hf; exact nm (List.mem_of_getElem? hb)
  · rcases hb with hb | hb
    · rw [(xt.fr b hb).2]; exact w.dom b hb
    · subst hb; rw [upd_same]; exact nofun
  · rcases hf with hf | hf
    · exact (w.tem b hb).1 hf
    · subst hf; exact nt hb
def Lk (Q : VK) : VK := fun v H => Q v H ∨ ∃ d u, H d = some u ∧ Mut (some u) ∧ ∀ od, Q v (L2.upd H d (.frz od u))
/-- what comes is kept, a dict locked -/
theorem lk_of {W : Wd} {H : Hp} {S : Store} {v : V} {rv : RV} {Q : VK} (w : Wok W H S) (r : RepR W H v rv) (h : ∀ H' W', Ext W H W' H' → Wok W' H' S → Rep W' H' v rv.toL → Q v H') : Lk Q v H := by
  cases rv with
  | val d => exact .inl (h H W (.refl _ _) w r)
  | tl ds =>
    obtain ⟨W', x', w', r'⟩ := RepR.toD (rv := .tl ds) w r
    exact .inl (h H W' x' w' r')
  | td t ks vs =>
    cases t with
    | false =>
      obtain ⟨a, kvs, rfl, ha, rfl, rs, nf, nm, nt⟩ := r
      refine .inr ⟨a, _, ha, trivial, fun od => ?_⟩
      obtain ⟨x, w'⟩ := w.lockT ha nf nm nt (.frz od (.dK kvs))
      exact h _ _ x w' (.dkl (.inr rfl) upd_same (rs.ext x))
    | true =>
      obtain ⟨a, kvs, rfl, ha, rfl, rs, nf, nm, nt⟩ := r
      refine .inr ⟨a, _, ha, trivial, fun od => ?_⟩
      obtain ⟨x, w'⟩ := w.lockT ha nf nm nt (.frz od (.dT kvs))
      exact h _ _ x w' (.dtl (.inr rfl) upd_same (rs.ext x))
def tLk (t : TE) : TE := fun σ H Q => t σ H (Lk Q)
theorem pe_lk {X : Cx} {e : Expr} {t : TE} (h : PE X e t) : PE X e (tLk t) := by
  refine ⟨fun pins s σ H Q I q => thn (h.run pins s σ H _ I q) fun u s1 ⟨v, H1, I1, rv, q1⟩ => ?_⟩
  rcases q1 with q1 | ⟨d, w, h1, h2, h3⟩
  · exact ⟨v, H1, I1, rv, q1⟩
  · obtain ⟨od, I2⟩ := I1.lock h1 h2
    exact ⟨v, _, I2, rv, h3 od⟩
def netN : List Str := ["self", "stations", "lines"]
def netF : List Str := ["trees", "spots", "stations", "lines"]
def okNet : List Stmt → Bool
  | [.Assign [.Attribute (.Name s1 _) f1 _] (.Call (.Name r1 _) [.Name a1 _] [] _) _, .Assign [.Attribute (.Name s2 _) f2 _] (.Call (.Name r2 _) [.Attribute (.Name s3 _) f3 _, .Name a2 _] [] _) _, .Assign [.Attribute (.Name s4 _) f4 _] (.Name a3 _) _, .Assign [.Attribute (.Name s5 _) f5 _] (.Name a4 _) _] =>
    decide (s1 = "self") && decide (f1 = "trees") && decide (r1 = "read_trees") && decide (a1 = "stations") && decide (s2 = "self") && decide (f2 = "spots") && decide (r2 = "read_spots") && decide (s3 = "self") && decide (f3 = "trees") && decide (a2 = "lines") &&
    decide (s4 = "self") && decide (f4 = "stations") && decide (a3 = "stations") && decide (s5 = "self") && decide (f5 = "lines") && decide (a4 = "lines")
  | _ => false
def PostN (C a dx : Addr) (v1 v2 : V) (d1 d2 : D) (W0 : Wd) (H : Hp) : Out (D × D) → VK → XK → Prop
  | .ok x S', Q, _ => ∀ (H' : Hp) (W' : Wd) (t1 t2 : V), Ext W0 H W' H' → Wok W' H' S' → W'.T a → W'.T dx → H' dx = some (.own a) → H' a = some (.ins C dx (netF.zip [t1, t2, v1, v2])) → Reps W' H' [t1, t2, v1, v2] [x.1, x.2, d1, d2] → Q .non H'
  | .ex c fs _ S', _, E => ∀ cls d H' W', Ext W0 H W' H' → Wok W' H' S' → ExR W' H' cls d c fs → E cls d H'
  | .bad, _, _ => False
def spN (C : Addr) (g1 g2 : List D → Store → Out RV) : Sp := fun vs H Q E => ∃ (a dx : Addr) (v1 v2 : V) (W0 W : Wd) (S : Store) (d1 d2 : D), vs = [.ref a, v1, v2] ∧ a ≠ dx ∧ W = ⟨W0.F, W0.m, W0.c, fun b => W0.T b ∨ b = a ∨ b = dx⟩ ∧ ¬ W0.T a ∧ ¬ W0.T dx ∧ H a = some (.ins C dx []) ∧ H dx = some (.own a) ∧
  Wok W H S ∧ Rep W H v1 d1 ∧ Rep W H v2 d2 ∧ PostN C a dx v1 v2 d1 d2 W0 H (netO g1 g2 d1 d2 S) Q E
theorem touch_e0 {W : Wd} {H : Hp} {S : Store} {a : Addr} {o : HO} (w : Wok W H S) (ha : W.T a) : E0 W H W (L2.upd H a o) := ⟨fun b hb => ⟨hb, upd_ne fun e => by subst e; exact (w.tem _ ha).1 hb⟩, ⟨[], by simp⟩, rfl⟩
theorem Wok.touch {W : Wd} {H : Hp} {S : Store} {a : Addr} {o : HO} (w : Wok W H S) (ha : W.T a) (ho : ∀ xs, o ≠ .tup xs) : Wok W (L2.upd H a o) S := by
  have x := touch_e0 (o := o) w ha
  refine ⟨w.len, fun l ob h => ?_, w.nd, w.dis, fun b hb => ?_, fun b hb => ⟨(w.tem b hb).1, (w.tem b hb).2.1, ?_⟩, w.ct⟩
  · obtain ⟨b, h1, h2⟩ := w.obj l ob h
    exact ⟨b, h1, h2.ext0 x (upd_ne fun e => by subst e; exact (w.tem _ ha).2.1 (List.mem_of_getElem? h1))⟩
  · rw [(x.fr b hb).2]; exact w.dom b hb
  · by_cases e : b = a
    · subst e; rw [upd_same]; exact ⟨nofun, fun xs z => ho xs (Option.some.inj z)⟩
    · rw [upd_ne e]; exact (w.tem b hb).2.2
theorem Ext.touch {W0 W : Wd} {H0 H : Hp} {S : Store} {a : Addr} {o : HO} (x : Ext W0 H0 W H) (w : Wok W H S) (ha : W.T a) (hn : ¬ W0.T a) : Ext W0 H0 W (L2.upd H a o) :=
  ⟨fun b hb => ⟨(x.fr b hb).1, (upd_ne fun e => by subst e; exact (w.tem _ ha).1 (x.fr _ hb).1).trans (x.fr b hb).2⟩, x.pre, x.c, fun b hb => ⟨(x.tm b hb).1, (upd_ne fun e => by subst e; exact hn hb).trans (x.tm b hb).2⟩⟩
theorem net_init {P : Program} {w : World} {K : PySem.W.Frag} {mg : Str → Option Value} {base : Heap} {C fI f1 f2 : Addr} {fdI fd1 fd2 : FuncData} {nm qual : Str} {params : Arguments} {body : List Stmt} {scope : Scope} {k : Nat} {g1 g2 : List D → Store → Out RV} {ps1 ps2 : List Str}
    (F : FunD K nm qual params body scope [] [] fI fdI) (Sc : FnScope netN netN scope) (hv : okVis scope netN = true) (ok : okNet body = true) (hC : Cls K C) (hN : ∀ f ∈ netF, NoAttr K C f)
    (l1 : scope.names.lookup ("read_trees" : Str) = some .globalImplicit) (m1 : mg "read_trees" = some (.ref f1)) (k1 : PySem.W.keepIn K (.ref f1) = true) (b1 : L2.Binds K fd1 ps1 []) (G1 : FnG P w K mg base k f1 fd1 ps1 (spG 1 g1))
    (l2 : scope.names.lookup ("read_spots" : Str) = some .globalImplicit) (m2 : mg "read_spots" = some (.ref f2)) (k2 : PySem.W.keepIn K (.ref f2) = true) (b2 : L2.Binds K fd2 ps2 []) (G2 : FnG P w K mg base k f2 fd2 ps2 (spG 2 g2)) :
    FnG P w K mg base (k + 1) fI fdI netN (spN C g1 g2) := by
  refine fn_ofG F Sc (fun vs H Q E h => ?_) fun cdv A outer s H vs Q E hr hgu h => ?_
  · obtain ⟨a, dx, v1, v2, _, _, _, _, _, rfl, _⟩ := h
    rfl
  · unfold okNet at ok
    split at ok
    · rename_i s1 ps1' f1' pf1 r1 pr1 a1 pa1 pc1 pp1 s2 ps2' f2' pf2 r2 pr2 s3 ps3 f3 pf3 a2 pa2 pc2 pp2 s4 ps4 f4 pf4 a3 pa3 pp3 s5 ps5 f5 pf5 a4 pa4 pp4
      simp only [Bool.and_eq_true, decide_eq_true_eq] at ok
      obtain ⟨⟨⟨⟨⟨⟨⟨⟨⟨⟨⟨⟨⟨⟨⟨rfl, rfl⟩, rfl⟩, rfl⟩, rfl⟩, rfl⟩, rfl⟩, rfl⟩, rfl⟩, rfl⟩, rfl⟩, rfl⟩, rfl⟩, rfl⟩, rfl⟩, rfl⟩ := ok
      let X := cxOf (CX P w) P w K mg base netN qual scope fI cdv A outer s H E
      have tk : Takes X (fun cls d _ H => E cls d H) := takes_of rfl rfl rfl rfl
      have gu : X.A.guards = some [] := by
        show (A.deeper _).guards = some []
        first
          | exact hgu
          | (show _ = _; simp [Around.deeper, Around.under, Code.guards, Code.isGuard, pushGuards, hgu])
      obtain ⟨q1, q2, q3⟩ := vis_of hv (show ("self" : Str) ∈ netN from by decide)
      obtain ⟨q4, q5, q6⟩ := vis_of hv (show ("stations" : Str) ∈ netN from by decide)
      obtain ⟨q7, q8, q9⟩ := vis_of hv (show ("lines" : Str) ∈ netN from by decide)
      have pS : ∀ p, PE X (.Name "self" p) (tVar 0) := fun p => pe_var (i := 0) rfl (.inl q1) q2 q3
      have pT : ∀ p, PE X (.Name "stations" p) (tVar 1) := fun p => pe_var (i := 1) rfl (.inl q4) q5 q6
      have pL : ∀ p, PE X (.Name "lines" p) (tVar 2) := fun p => pe_var (i := 2) rfl (.inl q7) q8 q9
      have c1 := pe_callG (X := X) (E := fun _ => E) (p := pr1) (pos := pc1) G1 hr gu l1 m1 k1 b1 (fun σ => passAt tk σ) (pa_cons (pT pa1) pa_nil) (by decide) rfl rfl
      have c2 := pe_callG (X := X) (E := fun _ => E) (p := pr2) (pos := pc2) G2 hr gu l2 m2 k2 b2 (fun σ => passAt tk σ) (pa_cons (pe_fld (f := "trees") (pos := pf3) (pS ps3) rfl) (pa_cons (pL pa2) pa_nil)) (by decide) rfl rfl
      refine ⟨_, pss_cons (ps_fld (pS ps1') (pe_lk c1) rfl) (pss_cons (ps_fld (pS ps2') (pe_lk c2) rfl) (pss_cons (ps_fld (pS ps4) (pT pa3) rfl) (pss_one (ps_fld (pS ps5) (pL pa4) rfl)))), ?_⟩
      obtain ⟨a, dx, v1, v2, W0, W, S, d1, d2, rfl, nad, hW, n1, n2, ha, hdx, wk, rv1, rv2, h⟩ := h
      have xW : Ext W0 H W H := by
        subst hW
        exact ⟨fun b hb => ⟨hb, rfl⟩, ⟨[], by simp⟩, rfl, fun b hb => ⟨.inl hb, rfl⟩⟩
      have Ta : W.T a := by subst hW; exact .inr (.inl rfl)
      have Td : W.T dx := by subst hW; exact .inr (.inr rfl)
      have hst : L2.start netN [.ref a, v1, v2] = [some (.ref a), some v1, some v2] := rfl
      rw [hst]
      refine ⟨v1, rfl, W, S, [d1], wk, .one rv1, rfl, ?_⟩
      cases e1 : g1 [d1] S with
      | bad => unfold netO at h; rw [e1] at h; exact h.elim
      | ex c fs r' S' =>
        unfold netO at h
        rw [e1] at h
        exact fun cls d H' W' x w' q => h cls d H' W' (xW.trans x) w' q
      | ok rv S1 =>
        unfold netO at h
        rw [e1] at h
        replace h : PostN C a dx v1 v2 d1 d2 W0 H ((g2 [rv.toL, d2] S1).bind fun x2 S2 => .ok (rv.toL, x2.toL) S2) Q E := h
        intro t1 H1o W1 x1 w1 r1
        refine lk_of w1 r1 fun H1 W1' x1' w1' r1' => ?_
        have y1 := x1.trans x1'
        have T1a := y1.tm a Ta
        have T1d := y1.tm dx Td
        have ha1 : H1 a = some (.ins C dx []) := T1a.2.trans ha
        have hd1 : H1 dx = some (.own a) := T1d.2.trans hdx
        refine ⟨.ref a, rfl, a, C, dx, [], rfl, ha1, hC, hN "trees" (by decide), by simp, ?_⟩
        -- the field is there; the second reader
        have w1t := w1'.touch (o := .ins C dx [("trees", t1)]) T1a.1 nofun
        have xb : Ext W0 H W1' (L2.upd H1 a (.ins C dx [("trees", t1)])) := (xW.trans y1).touch w1' T1a.1 n1
        have e0 := touch_e0 (o := .ins C dx [("trees", t1)]) w1' T1a.1
        refine ⟨.ref a, rfl, a, C, dx, [("trees", t1)], t1, rfl, upd_same, hC, hN "trees" (by decide), rfl, v2, rfl, W1', S1, [rv.toL, d2], w1t, .cons (r1'.ext0 e0) (.one ((rv2.ext y1).ext0 e0)), rfl, ?_⟩
        cases e2 : g2 [rv.toL, d2] S1 with
        | bad => rw [e2] at h; exact h.elim
        | ex c fs r' S' =>
          rw [e2] at h
          exact fun cls d H' W' x w' q => h cls d H' W' (xb.trans x) w' q
        | ok rv2' S2 =>
          rw [e2] at h
          intro t2 H2o W2 x2 w2 r2
          refine lk_of w2 r2 fun H2 W2' x2' w2' r2' => ?_
          have y2 := x2.trans x2'
          have T2a := y2.tm a T1a.1
          have T2d := y2.tm dx T1d.1
          have ha2 : H2 a = some (.ins C dx [("trees", t1)]) := by rw [T2a.2]; exact upd_same
          have hd2 : H2 dx = some (.own a) := by
            rw [T2d.2, upd_ne (Ne.symm nad)]
            exact hd1
          have z2 := xb.trans y2
          refine ⟨.ref a, rfl, a, C, dx, [("trees", t1)], rfl, ha2, hC, hN "spots" (by decide), by simp, ?_⟩
          have w3 := w2'.touch (o := .ins C dx [("trees", t1), ("spots", t2)]) T2a.1 nofun
          have z3 := z2.touch (o := .ins C dx [("trees", t1), ("spots", t2)]) w2' T2a.1 n1
          have w4 := w3.touch (o := .ins C dx [("trees", t1), ("spots", t2), ("stations", v1)]) T2a.1 nofun
          have z4 := z3.touch (o := .ins C dx [("trees", t1), ("spots", t2), ("stations", v1)]) w3 T2a.1 n1
          have w5 := w4.touch (o := .ins C dx [("trees", t1), ("spots", t2), ("stations", v1), ("lines", v2)]) T2a.1 nofun
          have z5 := z4.touch (o := .ins C dx [("trees", t1), ("spots", t2), ("stations", v1), ("lines", v2)]) w4 T2a.1 n1
          have e2a := touch_e0 (o := .ins C dx [("trees", t1), ("spots", t2)]) w2' T2a.1
          have e3a := touch_e0 (o := .ins C dx [("trees", t1), ("spots", t2), ("stations", v1)]) w3 T2a.1
          have e4a := touch_e0 (o := .ins C dx [("trees", t1), ("spots", t2), ("stations", v1), ("lines", v2)]) w4 T2a.1
          refine ⟨v1, rfl, .ref a, rfl, a, C, dx, _, rfl, upd_same, hC, hN "stations" (by decide), (show 2 < 1000 by decide), ?_⟩
          refine ⟨v2, rfl, .ref a, rfl, a, C, dx, _, rfl, upd_same, hC, hN "lines" (by decide), (show 3 < 1000 by decide), ?_⟩
          refine h _ W2' t1 t2 z5 w5 T2a.1 T2d.1 ?_ upd_same ?_
          · rw [upd_ne (Ne.symm nad), upd_ne (Ne.symm nad), upd_ne (Ne.symm nad)]
            exact hd2
          · have go : ∀ {v : V} {d : D}, Rep W2' H2 v d → Rep W2' _ v d := fun r => ((r.ext0 e2a).ext0 e3a).ext0 e4a
            exact .cons (go ((r1'.ext0 e0).ext y2)) (.cons (go r2') (.cons (go (((rv1.ext y1).ext0 e0).ext y2)) (.one (go (((rv2.ext y1).ext0 e0).ext y2)))))
    · cases ok
end Fc

end
section
set_option autoImplicit false
set_option maxHeartbeats 4000000
/-! Network(..) -/
namespace Fc
open PySem PySem.Spec L2 PyProof.Rows
variable [CtI] [XsI]
section
variable {X : Cx} [KX X] {Wx : WX} {p pos apos : Pos} {e o ea : Expr} {es : List Expr} {as bs : Evs} {k : Nat} {x : Str} {C f : Addr} {fd : FuncData} {ps ks : List Str} {sp : Sp} {t tk : TA}
theorem run_makeG {pins : List (Addr × PySem.Obj)} {σ : L2.St} {H : Hp} {s : Shared} {Q : VK} {us ws : List Value} {vs zs : List V} {pm : List Nat} {E : L2.St → XK} (M : Mk X.K C f) (F : FnG X.prog X.w X.K X.mg X.base k f fd ps sp) (hr : Room (k + 1) X.A) (hgu : X.A.guards = some [])
    (hb : KB X.K fd ps (us.length + 1, ks, pm)) (hx : ∀ σ, PassesAt (CX X.prog X.w) X σ (E σ)) (I : Inv X pins σ H s) (r : Vals vs us) (rz : Vals zs ws) (hl : ws.length = ks.length)
    (h : ∀ x dx, H x = none → H dx = none → dx ≠ x → sp (permV pm (.ref x :: vs ++ zs)) (upd (upd H dx (.own x)) x (.ins C dx [])) (fun v H2 => v = .non ∧ Q (.ref x) H2) (E σ)) :
    wpAny (model X.prog X.w) X.A (call (.ref C) us (ks.zip ws)) (EP X pins σ Q) X.xe s := by
  have hq := h (s.heap.objs.size + 1) s.heap.objs.size (I.hok.fresh (Nat.le_succ _)) (I.hok.fresh (Nat.le_refl _)) (Nat.ne_of_lt (Nat.lt_succ_self _))
  have I2 := Inv.made (C := C) I
  have r2 : Vals (V.ref (s.heap.objs.size + 1) :: vs ++ zs) (Value.ref (s.heap.objs.size + 1) :: us ++ ws) := Vals.append (.cons rfl r) rz
  have gu : (X.A.under (.builtin "type.__call__" ⟨.ref C :: us, ks.zip ws⟩)).guards = some [] := by
    first
      | exact hgu
      | (show _ = _; simp [Around.under, Code.guards, Code.isGuard, pushGuards, hgu])
  refine wpAny_call (make_map (f := f) I.kIn M.makes M.init (beq_iff_eq.mp M.fn) (codeAny_mono (F.run _ X.stack _ _ ⟨Value.ref (s.heap.objs.size + 1) :: us, ks.zip ws⟩ (permV pm (Value.ref (s.heap.objs.size + 1) :: us ++ ws)) _ _ (E σ) (hr.make C us (ks.zip ws)) gu
    (I2.env0.make C us (ks.zip ws)) (hb _ (Value.ref (s.heap.objs.size + 1) :: us) ws I2.kIn rfl hl) (Vals.perm r2) hq) fun r s' hq' => ?_))
  cases r with
  | error e => exact hx σ pins _ _ e s' I2 hq'
  | ok fl =>
    cases fl with
    | ret u =>
      obtain ⟨v, H', I3, rv, ev, q3⟩ := I2.after hq'
      subst ev
      exact ⟨rv, ⟨V.ref (s.heap.objs.size + 1), H', I3, rfl, q3⟩⟩
    | next => exact False.elim hq'
    | brk => exact False.elim hq'
    | cont => exact False.elim hq'
def tMakeKG (C : Addr) (sp : Sp) (pm : List Nat) (E : L2.St → XK) (t tk : TA) : TE := fun σ H Q => t σ H fun vs H1 => tk σ H1 fun zs H2 => ∀ x dx, H2 x = none → H2 dx = none → dx ≠ x → sp (permV pm (.ref x :: vs ++ zs)) (upd (upd H2 dx (.own x)) x (.ins C dx [])) (fun v H3 => v = .non ∧ Q (.ref x) H3) (E σ)
theorem pe_makeKG {pm : List Nat} {kws : List Keyword} {E : L2.St → XK} (M : Mk X.K C f) (F : FnG X.prog X.w X.K X.mg X.base k f fd ps sp) (hr : Room (k + 1) X.A) (hgu : X.A.guards = some []) (hg : Gl X x) (hm : X.mg x = some (.ref C))
    (hb : KB X.K fd ps ((e :: es).length + 1, ks, pm)) (hx : ∀ σ, PassesAt (CX X.prog X.w) X σ (E σ)) (ha : PA X (e :: es) t) (hkw : PK X kws tk) (hla : ∀ σ H Q, t σ H Q → t σ H fun vs H1 => vs.length = (e :: es).length ∧ Q vs H1) (hlk : ∀ σ H Q, tk σ H Q → tk σ H fun vs H1 => vs.length = ks.length ∧ Q vs H1)
    (hall : (backToKw pos (keywordEach kws X.env)).all (·.1.isSome) = true) (hks : (backToKw pos (keywordEach kws X.env)).filterMap (·.1) = ks)
    (hdb : (x == ("__debug__" : Str)) = false) (he : starEach (e :: es) X.env = (false, eval e X.env) :: starEach es X.env)
    (hpl : ((backTo pos (starEach (e :: es) X.env)).any (·.1) || (backToKw pos (keywordEach kws X.env)).any (·.1.isNone)) = false) :
    PE X (.Call (.Name x p) (e :: es) kws pos) (tMakeKG C sp pm E t tk) := by
  refine ⟨fun pins s σ H Q I h => ?_⟩
  refine wpAny_Call_Name_kw (ld_glob I hg hm ?_ hdb)
  refine PySem.W.callWith_KW (h₀ := X.base) I.ok.mod.kin M.kp hall (thn (ha.run pos pins s σ H _ I (hla _ _ _ h)) fun us s1 ⟨vs, H1, I1, r, hl1, q⟩ => ?_) hpl he
  refine thn (hkw.run pos pins s1 σ H1 _ I1 (hlk _ _ _ q)) fun ws s2 ⟨zs, H2, I2, rz, hl2, q2⟩ => ⟨I2.kIn, ?_⟩
  rw [hks]
  have hul : us.length = (e :: es).length := by rw [← r.length]; exact hl1
  have hb' : KB X.K fd ps (us.length + 1, ks, pm) := by rw [hul]; exact hb
  exact run_makeG (us := us) M F hr hgu hb' hx I2 r rz (by rw [← rz.length]; exact hl2) q2
theorem pe_makeKG0 {pm : List Nat} {kws : List Keyword} {E : L2.St → XK} (M : Mk X.K C f) (F : FnG X.prog X.w X.K X.mg X.base k f fd ps sp) (hr : Room (k + 1) X.A) (hgu : X.A.guards = some []) (hg : Gl X x) (hm : X.mg x = some (.ref C))
    (hb : KB X.K fd ps (1, ks, pm)) (hx : ∀ σ, PassesAt (CX X.prog X.w) X σ (E σ)) (hkw : PK X kws tk) (hlk : ∀ σ H Q, tk σ H Q → tk σ H fun vs H1 => vs.length = ks.length ∧ Q vs H1)
    (hall : (backToKw pos (keywordEach kws X.env)).all (·.1.isSome) = true) (hks : (backToKw pos (keywordEach kws X.env)).filterMap (·.1) = ks)
    (hdb : (x == ("__debug__" : Str)) = false) (hpl : ((backTo pos (starEach [] X.env)).any (·.1) || (backToKw pos (keywordEach kws X.env)).any (·.1.isNone)) = false) :
    PE X (.Call (.Name x p) [] kws pos) (tMakeKG C sp pm E tNil tk) := by
  refine ⟨fun pins s σ H Q I h => ?_⟩
  refine wpAny_Call_Name_kw (ld_glob I hg hm ?_ hdb)
  refine PySem.W.callWith_KW0 (h₀ := X.base) I.ok.mod.kin M.kp hall ?_ hpl
  refine thn (hkw.run pos pins s σ H _ I (hlk _ _ _ h)) fun ws s2 ⟨zs, H2, I2, rz, hl2, q2⟩ => ⟨I2.kIn, ?_⟩
  rw [hks]
  exact run_makeG (us := []) (vs := []) M F hr hgu hb hx I2 .nil rz (by rw [← rz.length]; exact hl2) q2
/-- Network(..): the arguments at i and j are the stations and the lines -/
def evNet (c i j : Nat) (g1 g2 : List D → Store → Out RV) (as bs : Evs) : Ev := fun r S => (as r S).bind fun ds S1 => (bs r S1).bind fun zs S2 => match (ds ++ zs)[i]?, (ds ++ zs)[j]? with
  | some d1, some d2 => ((netO g1 g2 d1 d2 S2).env r).bind fun x S3 => .ok (.val (.ob c [x.1, x.2, d1, d2])) S3
  | _, _ => .bad
theorem rd_net {c i j : Nat} {g1 g2 : List D → Store → Out RV} (hC : CtI.ct.adr c = C) (hF : CtI.ct.flds c = netF) {σ : L2.St} {H : Hp} {Q : VK} (h : Rd Wx (evNet c i j g1 g2 as bs) σ H Q) : tMakeKG C (spN C g1 g2) [0, i + 1, j + 1] (WE Wx) (RdA Wx as) (RdA Wx bs) σ H Q := by
  obtain ⟨W, S, r, w, en, h⟩ := h
  refine ⟨W, S, r, w, en, (PostL.bind h).mono fun xs H1 ⟨W1, S1, ds, e1, w1, r1, h1⟩ => ?_⟩
  refine ⟨W1, S1, r, w1, en.ext e1, (PostL.bind h1).mono fun ys H2 ⟨W2, S2, zs, e2, w2, r2, h2⟩ => ?_⟩
  intro x dx hx hdx ne
  have rr := (r1.ext e2).append r2
  split at h2
  · rename_i d1 d2 g1e g2e
    obtain ⟨v1, hv1, q1⟩ := rr.get g1e
    obtain ⟨v2, hv2, q2⟩ := rr.get g2e
    have hpm : permV [0, i + 1, j + 1] (V.ref x :: xs ++ ys) = [.ref x, v1, v2] := by
      unfold permV
      simp [hv1, hv2]
    rw [hpm]
    have wa := w2.upd (o := .own x) hdx
    have hx' : upd H2 dx (.own x) x = none := by rw [upd_ne (Ne.symm ne)]; exact hx
    have wb := wa.upd (o := .ins C dx []) hx'
    have xab : Ext W2 H2 W2 (upd (upd H2 dx (.own x)) x (.ins C dx [])) := (upd_F w2 hdx).trans (upd_F wa hx')
    have nTx : ¬ W2.T x := w2.notT hx
    have nTd : ¬ W2.T dx := w2.notT hdx
    have wc : Wok ⟨W2.F, W2.m, W2.c, fun b => W2.T b ∨ b = x ∨ b = dx⟩ (upd (upd H2 dx (.own x)) x (.ins C dx [])) S2 := by
      refine wb.tm' (t := fun b => W2.T b ∨ b = x ∨ b = dx) fun b hb => ?_
      rcases hb with hb | rfl | rfl
      · exact wb.tem b hb
      · exact ⟨w2.notF hx, w2.notm hx, by rw [upd_same]; exact ⟨nofun, nofun⟩⟩
      · exact ⟨w2.notF hdx, w2.notm hdx, by rw [upd_ne ne, upd_same]; exact ⟨nofun, nofun⟩⟩
    have e0 : E0 W2 H2 ⟨W2.F, W2.m, W2.c, fun b => W2.T b ∨ b = x ∨ b = dx⟩ (upd (upd H2 dx (.own x)) x (.ins C dx [])) := ⟨xab.fr, ⟨[], by simp⟩, rfl⟩
    refine ⟨x, dx, v1, v2, W2, _, S2, d1, d2, rfl, Ne.symm ne, rfl, nTx, nTd, upd_same, by rw [upd_ne ne, upd_same], wc, q1.ext0 e0, q2.ext0 e0, ?_⟩
    cases eo : netO g1 g2 d1 d2 S2 with
    | bad => rw [eo] at h2; exact h2.elim
    | ex c' fs r' S' =>
      rw [eo] at h2
      exact fun cls d H' W' y w' q => h2 cls d H' W' (xab.trans y) w' q
    | ok xx S3 =>
      rw [eo] at h2
      replace h2 : Post W2 H2 σ Wx (.ok (.val (.ob c [xx.1, xx.2, d1, d2])) S3) Q := h2
      intro H' W' t1 t2 y w' Tx Td hd' hx2 rs
      refine ⟨rfl, h2 (.ref x) H' ⟨fun b => W'.F b ∨ b = x ∨ b = dx, W'.m, W'.c, fun b => W'.T b ∧ b ≠ x ∧ b ≠ dx⟩ ?_ ?_ ?_⟩
      · have yy := xab.trans y
        refine ⟨fun b hb => ⟨.inl (yy.fr b hb).1, (yy.fr b hb).2⟩, yy.pre, yy.c, fun b hb => ⟨⟨(yy.tm b hb).1, fun e => ?_, fun e => ?_⟩, (yy.tm b hb).2⟩⟩
        · subst e; exact nTx hb
        · subst e; exact nTd hb
      · have ee : E0 W' H' ⟨fun b => W'.F b ∨ b = x ∨ b = dx, W'.m, W'.c, fun b => W'.T b ∧ b ≠ x ∧ b ≠ dx⟩ H' := ⟨fun b hb => ⟨.inl hb, rfl⟩, ⟨[], by simp⟩, rfl⟩
        refine ⟨w'.len, fun l ob hl => ?_, w'.nd, fun l b hb hd hf => ?_, fun b hb => ?_, fun b hb => ⟨fun hf => ?_, (w'.tem b hb.1).2⟩, w'.ct⟩
        · obtain ⟨b, h3, h4⟩ := w'.obj l ob hl
          exact ⟨b, h3, h4.ext0 ee rfl⟩
        · rcases hf with hf | rfl | rfl
          · exact w'.dis l b hb hd hf
          · exact (w'.tem _ Tx).2.1 (List.mem_of_getElem? hb)
          · exact (w'.tem _ Td).2.1 (List.mem_of_getElem? hb)
        · rcases hb with hb | rfl | rfl
          · exact w'.dom b hb
          · rw [hx2]; exact nofun
          · rw [hd']; exact nofun
        · rcases hf with hf | rfl | rfl
          · exact (w'.tem b hb.1).1 hf
          · exact hb.2.1 rfl
          · exact hb.2.2 rfl
      · have ee : E0 W' H' ⟨fun b => W'.F b ∨ b = x ∨ b = dx, W'.m, W'.c, fun b => W'.T b ∧ b ≠ x ∧ b ≠ dx⟩ H' := ⟨fun b hb => ⟨.inl hb, rfl⟩, ⟨[], by simp⟩, rfl⟩
        refine .ob (.inr (.inl rfl)) (.inr (.inr rfl)) ?_ hd' (rs.ext0 ee) ?_
        · show H' x = some (.ins (W'.c.adr c) dx ((W'.c.flds c).zip [t1, t2, v1, v2]))
          rw [w'.ct, hC, hF]
          exact hx2
        · show 4 = (W'.c.flds c).length
          rw [w'.ct, hF]
          rfl
  · exact h2.elim
theorem netG_eq {c i j : Nat} {g1 g2 : List D → Store → Out RV} {G : List D → Store → Out RV} (hs : ∀ d1 d2 S, G [d1, d2] S = packN (netO g1 g2 d1 d2 S)) (as bs : Evs) : evNetG c i j G as bs = evNet c i j g1 g2 as bs := by
  funext r S
  unfold evNetG evNet
  congr 1
  funext ds S1
  congr 1
  funext zs S2
  cases h1 : (ds ++ zs)[i]? with
  | none => rfl
  | some d1 =>
    cases h2 : (ds ++ zs)[j]? with
    | none => rfl
    | some d2 =>
      dsimp only
      rw [hs]
      cases netO g1 g2 d1 d2 S2 <;> rfl
theorem rd_meth {pm : List Nat} {c np : Nat} {m : Str} {a : Ev} {G : List D → Store → Out RV} (hC : CtI.ct.adr c = C) (hm : m ∉ CtI.ct.flds c) (hG : ∀ ds S, ds.length ≠ np → G ds S = .bad) {σ : L2.St} {H : Hp} {Q : VK} (h : Rd Wx (evMeth c pm a as bs G) σ H Q) :
    tMethKG C m (spG np G) pm (WE Wx) (Rd Wx a) (RdA Wx as) (RdA Wx bs) σ H Q := by
  obtain ⟨W, S, r, w, en, h⟩ := h
  unfold evMeth at h
  refine ⟨W, S, r, w, en, (Post.bind h).mono fun x H0 ⟨W0, S0, o, e0, w0, r0, h0⟩ => ?_⟩
  split at h0
  · rename_i ho
    cases o with
    | ob c' fs =>
      have hc : c' = c := of_decide_eq_true ho
      subst hc
      have r0' := r0
      cases r0 with
      | ob f1 f2 h2 h3 rs hl =>
        rw [w0.ct, hC] at h2
        refine ⟨_, _, _, rfl, h2, zip_lookup_none hm, ?_⟩
        refine ⟨W0, S0, r, w0, en.ext e0, (PostL.bind h0).mono fun xs H1 ⟨W1, S1, ds, e1, w1, r1, h1⟩ => ?_⟩
        refine ⟨W1, S1, r, w1, (en.ext e0).ext e1, (PostL.bind h1).mono fun ys H2 ⟨W2, S2, zs, e2, w2, r2, h2⟩ => ?_⟩
        refine ⟨W2, S2, permV pm (D.ob c' fs :: ds ++ zs ++ [.non]), w2, permV_reps (((Reps.cons (r0'.ext (e1.trans e2)) (r1.ext e2)).append r2).append (.one .non)), ?_, ?_⟩
        · apply Decidable.byContradiction
          intro hn
          replace h2 : Post W2 H2 σ Wx (match G (permV pm (D.ob c' fs :: ds ++ zs ++ [.non])) S2 with
            | .ex c fs _ S => .ex c fs r S
            | x => x) Q := h2
          rw [hG _ S2 hn] at h2
          exact h2
        · replace h2 : Post W2 H2 σ Wx (match G (permV pm (D.ob c' fs :: ds ++ zs ++ [.non])) S2 with
            | .ex c fs _ S => .ex c fs r S
            | x => x) Q := h2
          generalize G (permV pm (D.ob c' fs :: ds ++ zs ++ [.non])) S2 = oo at *
          cases oo with
          | ok rv S' => exact h2
          | ex c fs r' S' => exact h2
          | bad => exact h2
    | _ => cases ho
  · exact h0.elim
end
end Fc

end
section
set_option autoImplicit false
set_option maxHeartbeats 1000000
/-! x == y by the class's own __eq__ -/
namespace Fc
open PySem PySem.Spec L2 PyProof.Rows
variable [CtI] [XsI]
section
variable {X : Cx} [KX X] {Wx : WX}
theorem o_eqO {k np c : Nat} {f : Addr} {fd : FuncData} {ps : List Str} {g : List D → Store → Out RV} (hnp : np = 2) (hC : Cls X.K (CtI.ct.adr c)) (hM : Meth X.K (CtI.ct.adr c) "__eq__" f) (F : FnG X.prog X.w X.K X.mg X.base k f fd ps (spG np g)) (hr : Room k X.A) (hgu : X.A.guards = some [])
    (hu : X.A.units < cLine) (hb : KBd X.K fd ps (2, [], [0, 1])) : OpR X (compareOp .Eq) (rS Wx (evEqO c g)) := by
  intro pins s σ H x y v u Q I rx ry h
  obtain ⟨σ', W, S, d, e, w, r1, r2, h⟩ := h
  unfold evEqO at h
  split at h
  · rename_i hob
    obtain ⟨o1, o2⟩ := hob
    unfold isOb at o1 o2
    split at o1
    · split at o2
      · rename_i c1 f1 c2 f2
        have e1 := of_decide_eq_true o1
        have e2 := of_decide_eq_true o2
        subst e1
        subst e2
        have r1' := r1
        have r2' := r2
        cases r1' with
        | @ob a1 dx1 _ vs1 _ g1 g2 ha hdx rs hl =>
          cases r2' with
          | @ob a2 dx2 _ vs2 _ g3 g4 hb' hdx' rs' hl' =>
            rw [w.ct] at ha hb'
            cases rx
            cases ry
            obtain ⟨mA, J, _⟩ := ins_get I.hok ha
            obtain ⟨mB, J', _⟩ := ins_get I.hok hb'
            obtain ⟨od, J, _⟩ := J.look
            obtain ⟨od', J', _⟩ := J'.look
            obtain ⟨m, hF⟩ := I.fr
            show wpAny (model X.prog X.w) X.A (richCompare .Eq _ _) (EP X pins σ Q) X.xe s
            refine PySem.W.cmp_K (op := .Eq) (tb := .ref (CtI.ct.adr c2)) hu hF I.ok.mod.kin J J'.type (by simp [PySem.W.notFirst]) hM.at_ hM.fn ?_
            split at h
            · rename_i b S1 hg
              have hsp : spG np g [.ref a1, .ref a2] H (fun v H' => v = .bl b ∧ Q (.bl b) H') (fun _ _ _ => False) := ⟨W, S, _, w, .cons r1 (.cons r2 .nil), hnp.symm, by
                rw [hg]
                exact fun v H' W' x1 w1 r3 => by
                  cases (show Rep W' H' v (.bl b) from r3)
                  exact ⟨rfl, h _ H' W' x1 w1 (.bl b)⟩⟩
              have r3 : Vals [V.ref a1, V.ref a2] [Value.ref a1, Value.ref a2] := .cons rfl (.cons rfl .nil)
              have hb2 := hb s [.ref a1, .ref a2] [] I.kIn rfl rfl
              refine wpAny_call (codeAny_mono (F.run X.A X.stack s H ⟨[.ref a1, .ref a2], []⟩ [.ref a1, .ref a2] [.ref a1, .ref a2] _ _ hr hgu I.env0 hb2 r3 hsp) fun r s' hq => ?_)
              cases r with
              | error e => obtain ⟨_, _, _, _, _, _, _, _, _, _, _, _, z⟩ := hq; exact z.elim
              | ok fl =>
                cases fl with
                | ret u =>
                  obtain ⟨z, H', I', rz, ez, q⟩ := I.after hq
                  subst ez
                  obtain rfl : u = Value.bool b := rz
                  exact ⟨.bl b, H', I', rfl, q⟩
                | next => exact False.elim hq
                | brk => exact False.elim hq
                | cont => exact False.elim hq
            · exact h.elim
      · cases o2
    · cases o1
  · exact h.elim
end
end Fc

end
section
set_option autoImplicit false
set_option maxHeartbeats 1000000
/-! len(x) by the class's own __len__; xs.index(y); range with a step -/
namespace Fc
open PySem PySem.Spec L2 PyProof.Rows
variable [CtI] [XsI]
section
variable {X : Cx} [KX X] {Wx : WX}
def evLen1 (c : Nat) (g : List D → Store → Out RV) : List D → Store → Out RV
  | [d], S => evLenO c g d S
  | _, _ => .bad
theorem c_lenO {k c : Nat} {f : Addr} {fd : FuncData} {ps : List Str} {g : List D → Store → Out RV} (hM : Meth X.K (CtI.ct.adr c) "__len__" f) (F : FnG X.prog X.w X.K X.mg X.base k f fd ps (spG 1 g)) (hr : Room (k + 1) X.A) (hgu : X.A.guards = some [])
    (hb : KBd X.K fd ps (1, [], [0])) : CallR X (.builtin "len") (rC Wx (evLen1 c g)) := by
  intro pins s σ H xs us Q I rv h
  obtain ⟨σ', W, S, ds, w, r, h⟩ := h
  unfold evLen1 at h
  split at h
  · obtain ⟨x, rfl, r0⟩ := reps1 r
    obtain ⟨u, rfl, rx⟩ := vals1 rv
    unfold evLenO at h
    split at h
    · rename_i o1
      unfold isOb at o1
      split at o1
      · rename_i c1 f1
        have e1 := of_decide_eq_true o1
        subst e1
        have r1' := r0
        cases r1' with
        | @ob a1 dx1 _ vs1 _ g1 g2 ha hdx rs hl =>
          rw [w.ct] at ha
          cases rx
          obtain ⟨mA, J, _⟩ := ins_get I.hok ha
          obtain ⟨od, J, _⟩ := J.look
          obtain ⟨m, hF⟩ := I.fr
          refine PySem.W.len_K hF I.ok.mod.kin J hM.at_ hM.fn ?_
          split at h
          · rename_i n S1 hg
            split at h
            · rename_i hn
              have hsp : spG 1 g [.ref a1] H (fun v H' => v = .int n ∧ Q (.int n) H') (fun _ _ _ => False) := ⟨W, S, _, w, .cons r0 .nil, rfl, by
                rw [hg]
                exact fun v H' W' x1 w1 r3 => by
                  cases (show Rep W' H' v (.int n) from r3)
                  exact ⟨rfl, h _ H' W' x1 w1 (.int n)⟩⟩
              have r3 : Vals [V.ref a1] [Value.ref a1] := .cons rfl .nil
              have hb2 := hb s [.ref a1] [] I.kIn rfl rfl
              refine wpAny_call (codeAny_mono (F.run X.A.in1 X.stack s H ⟨[.ref a1], []⟩ [.ref a1] [.ref a1] _ _ hr.in1 hgu I.env0.in1 hb2 r3 hsp) fun r s' hq => ?_)
              cases r with
              | error e => obtain ⟨_, _, _, _, _, _, _, _, _, _, _, _, z⟩ := hq; exact z.elim
              | ok fl =>
                cases fl with
                | ret u =>
                  obtain ⟨z, H', I', rz, ez, q⟩ := I.after hq
                  subst ez
                  obtain ⟨t, rfl⟩ : ∃ t, u = Value.int n t := rz
                  exact ⟨⟨hn.1, by omega⟩, .int n, H', I'.tok _, ⟨_, rfl⟩, q⟩
                | next => exact False.elim hq
                | brk => exact False.elim hq
                | cont => exact False.elim hq
            · exact h.elim
          · exact h.elim
      · cases o1
    · exact h.elim
  · exact h.elim
theorem s_lenO {k c : Nat} {f : Addr} {fd : FuncData} {ps : List Str} {g : List D → Store → Out RV} {a : Ev} {ea : Expr} {p pos : Pos} (hM : Meth X.K (CtI.ct.adr c) "__len__" f) (F : FnG X.prog X.w X.K X.mg X.base k f fd ps (spG 1 g)) (hr : Room (k + 1) X.A) (hgu : X.A.guards = some [])
    (hb : KBd X.K fd ps (1, [], [0])) (hg : Gl X "len") (hm : X.mg "len" = none) (ha : PE X ea (Rd Wx a)) (hs : starEach [ea] X.env = [(false, eval ea X.env)]) : PE X (.Call (.Name "len" p) [ea] [] pos) (Rd Wx fun r S => (a r S).bindD (evLenO c g)) := by
  have hA : PA X [ea] (tCons (Rd Wx a) tNil) := pa_cons ha pa_nil hs
  have hs1 : starEach [ea] X.env = (false, eval ea X.env) :: starEach [] X.env := hs
  refine PE_imp (pe_callB (c_lenO (Wx := Wx) hM F hr hgu hb) hg hm (by decide +kernel) hA (by decide) (by decide) hs1 rfl) fun σ H Q h => ?_
  obtain ⟨W, S, r, w, en, h⟩ := h
  exact ⟨W, S, r, w, en, (Post.bind h).mono fun x H1 ⟨W1, S1, d, e1, w1, r1, h1⟩ => ⟨σ, W1, S1, [d], w1, .one r1, h1⟩⟩
omit [CtI] [XsI] in
/-- read as data, a sequence has at each place what the data have there -/
theorem read_here {h : Heap} {ds : List PyData} {its : List Value} {as : List Addr} (lay : PyData.canLayAll0 ds = true) (rd : ReadsAll h its ds as) {m : Nat} (lt : m < its.toArray.size) : ds[m]? = some (SeqAt.readOf h its.toArray[m]) := by
  have lt' : m < its.length := lt
  have e := (congrArg (fun l => l[m]?) (SeqAt.readsAll_map ds its as lay rd)).symm
  rw [List.getElem?_map, List.getElem?_eq_getElem lt'] at e
  exact e
/-- j is the first place at which an equal of d stands -/
def FirstAt (ds : List PyData) (d : PyData) (j : Nat) : Prop := (∃ z, ds[j]? = some z ∧ PyData.eqv z d = true) ∧ ∀ (m : Nat) (z : PyData), m < j → ds[m]? = some z → PyData.eqv z d = false
omit [CtI] [XsI] in
theorem FirstAt.read {h : Heap} {ds : List PyData} {d : PyData} {j : Nat} {its : List Value} {as : List Addr} (f : FirstAt ds d j) (lay : PyData.canLayAll0 ds = true) (rd : ReadsAll h its ds as) :
    ∃ lt : j < its.toArray.size, PyData.eqv (SeqAt.readOf h its.toArray[j]) d = true ∧ ∀ (m : Nat) (hm : m < its.toArray.size), m < j → PyData.eqv (SeqAt.readOf h its.toArray[m]) d = false := by
  obtain ⟨⟨z, hz, e⟩, no⟩ := f
  have l1 : its.length = ds.length := SeqAt.ReadsAll.length ds its as rd
  have lt : j < its.toArray.size := by rw [List.size_toArray, l1]; exact (List.getElem?_eq_some_iff.mp hz).1
  refine ⟨lt, ?_, fun m hm hj => no m _ hj (read_here lay rd hm)⟩
  rw [read_here lay rd lt] at hz
  exact Option.some.inj hz ▸ e
/-- what xs.index(y) asks: xs a list (c = false) or a tuple -/
def rIdx (K : PySem.W.Frag) (c : Bool) : V → List V → Hp → VK → Prop := fun x ys H Q => ∃ (a : Addr) (y : V) (d : PyData) (ds : List PyData) (j : Nat), x = V.ref a ∧ ys = [y] ∧ Dp K H (V.ref a) (bif c then .tuple ds else .list ds) ∧ Dp K H y d ∧ PyData.canLayAll0 ds = true ∧ PyData.canLay0 d = true ∧ d.depth ≤ 60 ∧
  FirstAt ds d j ∧ Q (.int (j : Nat)) H
theorem mt_idxL (hu : X.A.units + 64 < cLine) : MtR X "list.index" (rIdx X.K false) := fun pins s σ H x ys v us Q I rx rys ⟨a, y, d, ds, j, ex, ey, dl, dy, lay, layd, deep, f, q⟩ => by
  subst ex ey
  obtain ⟨uy, rfl, ry⟩ := vals1 rys
  cases rx
  obtain ⟨bs, ready⟩ := Dp.reads I d y uy dy ry
  obtain ⟨hs, ha⟩ : ∃ xs, SqL X.K H a xs ∧ DpAll X.K H xs ds := by cases dl with | lst hs ha => exact ⟨_, hs, ha⟩
  obtain ⟨its, vals, ⟨⟨_, dd, _, sls⟩, n, ho, hc, _, hdt⟩, few⟩ := I.list ha.1
  cases hc
  cases hdt
  obtain ⟨as, all⟩ := Dp.readsAll I ds _ its ha.2 vals
  obtain ⟨lt, yes, no⟩ := f.read lay all
  have small : its.toArray.size ≤ sizeLine := by rw [List.size_toArray, ← vals.length]; exact few
  have room : X.A.units + 1 + min (PyData.depthAll ds) d.depth < cLine := Nat.lt_of_le_of_lt (Nat.add_le_add_left (Nat.le_trans (Nat.min_le_right ..) deep) _) (by omega)
  exact call_meets F.slot_list_index ⟨_, ho, rfl⟩ F.entry_list_index (F.args_list_index_2 _ _)
    (SeqAt.list_indexAt a its.toArray n dd sls uy _ j lt (by have := sizeLine_eq; omega) yes no) ⟨ho, SeqAt.items_eqAt (vs := its.toArray) all ready lay layd room, .int (j : Nat), H, I.tok _, ⟨_, rfl⟩, q⟩
theorem mt_idxT (hu : X.A.units + 64 < cLine) : MtR X "tuple.index" (rIdx X.K true) := fun pins s σ H x ys v us Q I rx rys ⟨a, y, d, ds, j, ex, ey, dl, dy, lay, layd, deep, f, q⟩ => by
  subst ex ey
  obtain ⟨uy, rfl, ry⟩ := vals1 rys
  cases rx
  obtain ⟨bs, ready⟩ := Dp.reads I d y uy dy ry
  obtain ⟨hs, ha⟩ : ∃ xs, SqT X.K H a xs ∧ DpAll X.K H xs ds := by cases dl with | tup hs ha => exact ⟨_, hs, ha⟩
  obtain ⟨its, vals, ⟨⟨_, dd, _, sls⟩, ho, hc, n, hdt⟩, few⟩ := I.tuple ha.1
  cases hc
  cases hdt
  obtain ⟨as, all⟩ := Dp.readsAll I ds _ its ha.2 vals
  obtain ⟨lt, yes, no⟩ := f.read lay all
  have room : X.A.units + 1 + min (PyData.depthAll ds) d.depth < cLine := Nat.lt_of_le_of_lt (Nat.add_le_add_left (Nat.le_trans (Nat.min_le_right ..) deep) _) (by omega)
  exact call_meets F.slot_tuple_index ⟨_, ho, rfl⟩ F.entry_tuple_index (F.args_tuple_index_2 _ _)
    (TI.tuple_indexAt a its.toArray n dd sls uy _ j lt yes no) ⟨ho, SeqAt.items_eqAt (vs := its.toArray) all ready lay layd room, .int (j : Nat), H, I.tok _, ⟨_, rfl⟩, q⟩
/-- a method of a locked tuple -/
def tBMT (r : V → List V → Hp → VK → Prop) (to : TE) (t : TA) : TE := fun σ H Q => to σ H fun x H1 => (∃ (a : Addr) (o : PySem.Obj) (xs : List V), x = .ref a ∧ H1 a = some (.frz o (.tup xs)) ∧ o.dict = none) ∧ t σ H1 fun xs H2 => r x xs H2 Q
theorem pe_bmT {o e : Expr} {es : List Expr} {to : TE} {t : TA} {name : Str} {apos cpos : Pos} {id : String} {r : V → List V → Hp → VK → Prop} (slot : Slot "tuple" name id) (kind : typeOf (.builtin id) = pure (.type "method_descriptor")) (hm : MtR X id r) (ho : PE X o to) (ha : PA X (e :: es) t)
    (base : attributeBase o name X.env (eval o X.env) = eval o X.env)
    (few : ((backTo cpos (starEach (e :: es) X.env)).all (fun x => !x.1) && (backToKw cpos (keywordEach [] X.env)).all (fun x => x.1.isSome) && decide ((e :: es).length + ([] : List Keyword).length + (if ([] : List Keyword).isEmpty then 0 else 1) < 30)) = true)
    (line : (apos.endLine == cpos.line) = true) (hs : starEach (e :: es) X.env = (false, eval e X.env) :: starEach es X.env) (plain : (backTo cpos (starEach es X.env)).any (·.1) = false) : PE X (.Call (.Attribute o name apos) (e :: es) [] cpos) (tBMT r to t) where
  run := fun pins s σ H Q I h => wpAny_Call_method_late base few line rfl (thn (ho.run pins s σ H _ I h) fun v t ⟨x, H1, I1, rv, ⟨a, ob, xs, ex, known, nd⟩, q1⟩ => by
    subst ex
    cases rv
    have there : t.heap.get? a = some ob := (I1.hok a _ known).1
    have cls : ob.cls = .type "tuple" := by
      obtain ⟨_, _, _, _, ⟨o', go, hc, _⟩⟩ := I1.hok a _ known
      exact Option.some.inj (there.symm.trans go) ▸ hc
    refine ⟨"tuple", id, F.plainAttrs_tuple, slot, kind, ⟨ob, there, cls⟩, fun b e => by cases e; exact ⟨ob, there, nd⟩, ?_⟩
    have args := ha.run cpos pins t σ H1 _ I1 q1
    rw [hs] at args ⊢
    have none_starred : ((backTo cpos ((false, eval e X.env) :: starEach es X.env)).any (·.1)) = false := plain
    exact Calls.callWith_builtin none_starred (Calls.evalArgs_plain (thn args fun us t2 ⟨vs, H2, I2, rvs, q2⟩ => hm pins t2 σ H2 (.ref a) vs _ us Q I2 rfl rvs q2)))
omit [CtI] [XsI] in
theorem first_at {p : D → Bool} {xs : List D} {j : Nat} (h : xs.findIdx? p = some j) : ∃ z, xs[j]? = some z ∧ p z = true ∧ ∀ (m : Nat) (z' : D), m < j → xs[m]? = some z' → p z' = false := by
  obtain ⟨h1, h2, h3⟩ := List.findIdx?_eq_some_iff_getElem.mp h
  refine ⟨xs[j], List.getElem?_eq_getElem h1, h2, fun m z' hm e => ?_⟩
  obtain ⟨h4, rfl⟩ := List.getElem?_eq_some_iff.mp e
  have := h3 m hm
  simpa using this
omit [CtI] [XsI] in
theorem bools_dp {K : PySem.W.Frag} {H : Hp} : ∀ bs : List Bool, DpAll K H (bs.map V.bl) (bs.map PyData.bool)
  | [] => .nil
  | b :: r => .cons (.bl b) (bools_dp r)
omit [CtI] [XsI] in
theorem bools_are : ∀ {bs : List Bool} {its : List Value}, Vals (bs.map V.bl) its → its = bs.map Value.bool
  | [], _, .nil => rfl
  | b :: r, _, .cons h t => by rw [List.map_cons, show _ = Value.bool b from h, bools_are t]
omit [CtI] [XsI] in
theorem bools_lay : ∀ bs : List Bool, PyData.canLayAll0 (bs.map PyData.bool) = true
  | [] => by simp [PyData.canLayAll0]
  | b :: r => by simp [PyData.canLayAll0, PyData.canLay0, bools_lay r]
/-- l.count(b), l a list of truth values -/
def rCntB (K : PySem.W.Frag) : V → List V → Hp → VK → Prop := fun x ys H Q => ∃ (a : Addr) (b : Bool) (bs : List Bool), x = V.ref a ∧ ys = [.bl b] ∧ SqL K H a (bs.map V.bl) ∧ Q (.int (bs.countP (· == b) : Nat)) H
theorem mt_cntB (hu : X.A.units + 64 < cLine) : MtR X "list.count" (rCntB X.K) := fun pins s σ H x ys v us Q I rx rys ⟨a, b, bs, ex, ey, known, q⟩ => by
  subst ex ey
  obtain ⟨uy, rfl, ry⟩ := vals1 rys
  cases rx
  cases ry
  obtain ⟨its, vals, ⟨⟨_, dd, _, sls⟩, n, ho, hc, _, hdt⟩, few⟩ := I.list known
  cases hc
  cases hdt
  obtain ⟨as, all⟩ := Dp.readsAll I _ _ its (bools_dp bs) vals
  have room : X.A.units + 1 + min (PyData.depthAll (bs.map PyData.bool)) (PyData.bool b).depth < cLine := Nat.lt_of_le_of_lt (Nat.add_le_add_left (Nat.min_le_right ..) _) (by simp only [PyData.depth]; omega)
  refine call_meets F.slot_list_count ⟨_, ho, rfl⟩ F.entry_list_count (F.args_list_count_2 _ _)
    (SeqAt.list_countAt a its.toArray n dd sls (.bool b) fun u => PyData.eqv (SeqAt.readOf s.heap u) (.bool b)) ⟨ho, SeqAt.items_eqAt (vs := its.toArray) all (.bool b) (bools_lay bs) (by simp [PyData.canLay0]) room, ?_⟩
  have same : its.toArray.toList.countP (fun u => PyData.eqv (SeqAt.readOf s.heap u) (.bool b)) = bs.countP (· == b) := by
    have read : its.map (SeqAt.readOf s.heap) = bs.map PyData.bool := SeqAt.readsAll_map _ its as (bools_lay bs) all
    have e : its.countP (fun u => PyData.eqv (SeqAt.readOf s.heap u) (.bool b)) = (its.map (SeqAt.readOf s.heap)).countP fun d => PyData.eqv d (.bool b) := by rw [List.countP_map] <;> rfl
    show its.countP _ = _
    rw [e, read, List.countP_map]
    refine List.countP_congr fun c _ => ?_
    cases c <;> cases b <;> simp [PyData.eqv]
  exact ⟨.int (bs.countP (· == b) : Nat), H, I.tok _, ⟨s.toks, by rw [same]⟩, q⟩
omit [CtI] [XsI] in
theorem bools_of : ∀ {xs : List D}, (xs.all fun d => match d with | .bl _ => true | _ => false) = true → ∃ bs : List Bool, xs = bs.map D.bl
  | [], _ => ⟨[], rfl⟩
  | d :: r, h => by
    rw [List.all_cons, Bool.and_eq_true] at h
    obtain ⟨bs, rfl⟩ := bools_of h.2
    cases d with
    | bl b => exact ⟨b :: bs, rfl⟩
    | _ => exact absurd h.1 Bool.false_ne_true
theorem bools_vs {W : Wd} {H : Hp} : ∀ {bs : List Bool} {vs : List V}, Reps W H vs (bs.map D.bl) → vs = bs.map V.bl
  | [], _, .nil => rfl
  | b :: r, _, .cons h t => by cases h; rw [List.map_cons, bools_vs t]
theorem s_cnt {a b : Ev} {ea eb : Expr} {p1 pos : Pos} (hu : X.A.units + 64 < cLine) (ha : PE X ea (Rd Wx a)) (hb : PE X eb (Rd Wx b)) (hbase : attributeBase ea "count" X.env (eval ea X.env) = eval ea X.env) (hs : starEach [eb] X.env = [(false, eval eb X.env)]) (hline : (p1.endLine == pos.line) = true) :
    PE X (.Call (.Attribute ea "count" p1) [eb] [] pos) (Rd Wx (evCnt2 a b)) := by
  have hA : PA X [eb] (tCons (Rd Wx b) tNil) := pa_cons hb pa_nil hs
  have hs' : starEach [eb] X.env = (false, eval eb X.env) :: starEach [] X.env := hs
  refine PE_imp (pe_bm PySem.F.plainAttrs_list PySem.F.slot_list_count PySem.F.type_list_count (mt_cntB hu) ha hA hbase (by rw [hs]; rfl) hline hs' rfl) fun σ H Q ⟨W, S, r, w, en, h⟩ => ?_
  unfold evCnt2 at h
  refine ⟨W, S, r, w, en, (Post.bind h).mono fun x H1 ⟨W1, S1, d, e1, w1, r1, h1⟩ => ?_⟩
  split at h1
  · rename_i zs hz
    obtain ⟨q, vs, rfl, hq, rs, hl⟩ := seqM_ok w1 r1 hz
    refine ⟨.inl ⟨rfl, vs, SqL.of hq⟩, ⟨W1, S1, r, w1, en.ext e1, (Post.bind h1).mono fun y H2 ⟨W2, S2, e, e2, w2, r2, h2⟩ => ?_⟩⟩
    cases e
    case bl b0 =>
      unfold evCnt at h2
      dsimp only at h2
      split at h2
      · rename_i xs hx
        obtain ⟨q', vs', eq', hq', rs', hl'⟩ := seqM_ok w2 (r1.ext e2) hx
        cases eq'
        split at h2
        · rename_i ok
          obtain ⟨bs, rfl⟩ := bools_of ok.1
          cases bools_vs rs'
          cases r2
          refine ⟨q, b0, bs, rfl, rfl, SqL.of hq', ?_⟩
          have : (bs.map D.bl).countP (fun d => D.beq d (.bl b0)) = bs.countP (· == b0) := by
            rw [List.countP_map]
            refine List.countP_congr fun c _ => ?_
            cases c <;> cases b0 <;> simp [D.beq]
          rw [this] at h2
          exact h2.same w2 (.int _)
        · exact h2.elim
      · exact h2.elim
    all_goals (unfold evCnt at h2; exact h2.elim)
  · exact h1.elim
theorem s_idxm {t : Bool} {a b : Ev} {ea eb : Expr} {p1 pos : Pos} (hu : X.A.units + 64 < cLine) (ha : PE X ea (Rd Wx a)) (hb : PE X eb (Rd Wx b)) (hbase : attributeBase ea "index" X.env (eval ea X.env) = eval ea X.env) (hs : starEach [eb] X.env = [(false, eval eb X.env)]) (hline : (p1.endLine == pos.line) = true) :
    PE X (.Call (.Attribute ea "index" p1) [eb] [] pos) (Rd Wx (evIndex2 t a b)) := by
  have hA : PA X [eb] (tCons (Rd Wx b) tNil) := pa_cons hb pa_nil hs
  have hs' : starEach [eb] X.env = (false, eval eb X.env) :: starEach [] X.env := hs
  cases t with
  | false =>
    refine PE_imp (pe_bm PySem.F.plainAttrs_list PySem.F.slot_list_index PySem.F.type_list_index (mt_idxL hu) ha hA hbase (by rw [hs]; rfl) hline hs' rfl) fun σ H Q h => ?_
    obtain ⟨W, S, r, w, en, h⟩ := h
    unfold evIndex2 at h
    refine ⟨W, S, r, w, en, (Post.bind h).mono fun x H1 ⟨W1, S1, d, e1, w1, r1, h1⟩ => ?_⟩
    split at h1
    · rename_i zs hz
      obtain ⟨q, vs, rfl, hq, rs, hl⟩ := seqM_ok w1 r1 hz
      refine ⟨.inl ⟨rfl, vs, SqL.of hq⟩, ⟨W1, S1, r, w1, en.ext e1, (Post.bind h1).mono fun y H2 ⟨W2, S2, e, e2, w2, r2, h2⟩ => ?_⟩⟩
      have r1' := r1.ext e2
      unfold evIndex at h2
      dsimp only at h2
      split at h2
      · rename_i xs hx
        obtain ⟨q', vs', eq', hq', rs', hl'⟩ := seqM_ok w2 r1' hx
        cases eq'
        split at h2
        · rename_i hk
          split at h2
          · rename_i j hj
            obtain ⟨z, z1, z2, z3⟩ := first_at hj
            have k1 := okD_and hk.1
            have k2 := okD_and hk.2.1
            have p1 : D.plains xs = true := by simpa [D.plain] using k1.1
            refine ⟨_, y, e.py, D.pys xs, j, rfl, rfl, .lst (SqL.of hq') (rs'.dp p1), r2.dp k2.1, SeqAt.canLay_of_shaped (d := .list (D.pys xs)) (by simpa [D.py] using k1.2), SeqAt.canLay_of_shaped k2.2, hk.2.2, ⟨⟨z.py, ?_, z2⟩, fun m z' hm q => ?_⟩, h2.same w2 (.int _)⟩
            · rw [pys_map, List.getElem?_map, z1]; rfl
            · rw [pys_map, List.getElem?_map] at q
              obtain ⟨z'', e1, rfl⟩ := Option.map_eq_some_iff.mp q
              exact z3 m z'' hm e1
          · exact h2.elim
        · exact h2.elim
      · exact h2.elim
    · exact h1.elim
  | true =>
    refine PE_imp (pe_bmT PySem.F.slot_tuple_index PySem.F.type_tuple_index (mt_idxT hu) ha hA hbase (by rw [hs]; rfl) hline hs' rfl) fun σ H Q h => ?_
    obtain ⟨W, S, r, w, en, h⟩ := h
    unfold evIndex2 at h
    refine ⟨W, S, r, w, en, (Post.bind h).mono fun x H1 ⟨W1, S1, d, e1, w1, r1, h1⟩ => ?_⟩
    split at h1
    · rename_i xs
      split at h1
      case isFalse => exact h1.elim
      rename_i hn
      have hty : ∃ (a : Addr) (o : PySem.Obj) (vs : List V), x = .ref a ∧ H1 a = some (.frz o (.tup vs)) ∧ o.dict = none := by
        cases r1 with
        | tup f hr rs hl =>
          rcases hr with hr | ⟨_, o, hd, ho⟩
          · rw [hn] at hr; cases hr.1
          · exact ⟨_, o, _, rfl, ho, hd⟩
      refine ⟨hty, ⟨W1, S1, r, w1, en.ext e1, (Post.bind h1).mono fun y H2 ⟨W2, S2, e, e2, w2, r2, h2⟩ => ?_⟩⟩
      have r1' := r1.ext e2
      unfold evIndex at h2
      dsimp only at h2
      split at h2
      · rename_i hk
        split at h2
        · rename_i j hj
          obtain ⟨z, z1, z2, z3⟩ := first_at hj
          have k1 := okD_and hk.1
          have k2 := okD_and hk.2.1
          have p1 : (D.tup xs).plain = true := k1.1
          obtain ⟨a0, _, _, ex, _⟩ := hty
          subst ex
          refine ⟨a0, y, e.py, D.pys xs, j, rfl, rfl, by simpa [D.py] using r1'.dp (K := X.K) p1, r2.dp k2.1, SeqAt.canLay_of_shaped (d := .tuple (D.pys xs)) (by simpa [D.py] using k1.2), SeqAt.canLay_of_shaped k2.2, hk.2.2, ⟨⟨z.py, ?_, z2⟩, fun m z' hm q => ?_⟩, h2.same w2 (.int _)⟩
          · rw [pys_map, List.getElem?_map, z1]; rfl
          · rw [pys_map, List.getElem?_map] at q
            obtain ⟨z'', e1, rfl⟩ := Option.map_eq_some_iff.mp q
            exact z3 m z'' hm e1
        · exact h2.elim
      · exact h2.elim
    · exact h1.elim
end
end Fc

end
section
set_option autoImplicit false
set_option maxHeartbeats 2000000
/-! several except clauses, with classes and names -/
namespace Fc
open PySem PySem.Spec PyProof.Rows L2
/-- what a clause asks of a class -/
def exmCs (K : PySem.W.Frag) (cls : Value) : List Value → Option Bool
  | [c] => PySem.W.exmOne K cls c
  | cs => PySem.W.exmAny K cls cs
inductive TestOk (X : Cx) : Expr → List Value → Prop
  | one {x : Str} {c : Value} {p : Pos} : Names X x c → TestOk X (.Name x p) [c]
  | two {x1 x2 : Str} {c1 c2 : Value} {p1 p2 tp : Pos} {k : Nat} : Names X x1 c1 → Names X x2 c2 → TestOk X (.Tuple [.Name x1 p1, .Name x2 p2] k tp) [c1, c2]
  | three {x1 x2 x3 : Str} {c1 c2 c3 : Value} {p1 p2 p3 tp : Pos} {k : Nat} : Names X x1 c1 → Names X x2 c2 → Names X x3 c3 → TestOk X (.Tuple [.Name x1 p1, .Name x2 p2, .Name x3 p3] k tp) [c1, c2, c3]
section
variable {X : Cx} {a : Addr} {pn pins : List (Addr × PySem.Obj)} {σ : L2.St} {H : Hp} {s : Shared}
theorem name_ld {x : Str} {c : Value} {p : Pos} {A : Around} (hA : (X.suite a pn).A = A) (I : Inv (X.suite a pn) pins σ H s) (hc : Names X x c) {Q : Value → Shared → Prop} {E : Value → Shared → Prop} (q : Q c s) : wpAny (model X.prog X.w) A (eval (.Name x p) X.env) Q E s := by
  subst hA
  obtain ⟨hg, hdbg, hm | ⟨hm, hv, hnn⟩⟩ := hc
  · exact ld_glob (X := X.suite a pn) I hg hm q hdbg
  · exact ld_blt (X := X.suite a pn) I hg hm hv q hnn hdbg
theorem test_ok {t : Expr} {cs : List Value} {cls : Value} {b : Bool} (T : TestOk X t cs) (I : Inv (X.suite a pn) pins σ H s) (LT : PySem.W.Looks (model X.prog X.w) s.heap (typeOf (.ref a)) cls) (he : exmCs X.K cls cs = some b)
    {Q : Bool → Shared → Prop} {E : Value → Shared → Prop} (q : ∀ h', (∀ b o, s.heap.get? b = some o → h'.get? b = some o) → Q b { s with heap := h' }) :
    wpAny (model X.prog X.w) (X.A.mark (some (.ref a))) (eval t X.env) (fun c s₁ => wpAny (model X.prog X.w) (X.A.mark (some (.ref a))) (excMatches (.ref a) c) Q E s₁) E s := by
  have now : ∀ {x : Str} {c : Value} {p : Pos}, Names X x c → ∀ {R : Value → Shared → Prop}, R c s → wpAny (model X.prog X.w) (X.A.mark (some (.ref a))) (eval (.Name x p) X.env) R E s := fun n _ r => name_ld rfl I n r
  have old : ∀ (T : List Value) (b : Addr) (o : PySem.Obj), s.heap.get? b = some o → (s.heap.push { cls := .type "tuple", data := .seq T.toArray }).get? b = some o := fun T b o z => Heap.get?_push_of_some _ z
  have frag := fun T => I.kIn.keeps (old T)
  have typ : ∀ T, PySem.W.Looks (model X.prog X.w) (s.heap.push { cls := .type "tuple", data := .seq (List.toArray T) }) (typeOf (.ref a)) cls := fun T A R F t k r => LT A R F t (fun b o z => k b o (old T b o z)) r
  cases T with
  | one n => exact now n ((PySem.W.exm_one I.kIn LT he).here (q s.heap fun _ _ z => z))
  | two n1 n2 => exact wpAny_Tuple_spliced (spliced_more (now n1 (spliced_more (now n2 (spliced_none ⟨(show (2 : Nat) ≤ sizeLine by decide), (PySem.W.exm_tup2 (frag _) (typ _) (Heap.get?_push_size _ rfl) he).here (q _ (old _))⟩)))))
  | three n1 n2 n3 => exact wpAny_Tuple_spliced (spliced_more (now n1 (spliced_more (now n2 (spliced_more (now n3 (spliced_none ⟨(show (3 : Nat) ≤ sizeLine by decide), (PySem.W.exm_tup3 (frag _) (typ _) (Heap.get?_push_size _ rfl) he).here (q _ (old _))⟩)))))))
end
theorem flyZ_keeps {B h h' : Heap} {l : List PySem.Env} {e : Addr} {Z : PySem.Obj → Prop} (R : HandSPX.FlyingZ B l e Z h) (k : ∀ b o, h.get? b = some o → h'.get? b = some o) : HandSPX.FlyingZ B l e Z h' := by
  obtain ⟨f1, f2, f3, oe, vs, T, oT, ts, he, hz, hd, h1, hr⟩ := R
  exact ⟨fun b o q => k b o (f1 b o q), f2, f3.of_keeps fun b o q _ => ⟨o, k b o q, rfl⟩, oe, vs, T, oT, ts, k _ _ he, hz, hd, h1, hr.1, hr.2.1, k _ _ hr.2.2.1, hr.2.2.2⟩
/-- what a suite ends with, told of another context -/
theorem sp_carry {X Y : Cx} {p q : List (Addr × PySem.Obj)} {D E : Ends} {g : L2.St → L2.St} {f : Flow} {s t : Shared} (hI : ∀ σ H, Inv X p σ H s → Inv Y q (g σ) H t)
    (h1 : ∀ σ H, D.nx σ H → E.nx (g σ) H) (h2 : ∀ σ H, D.bk σ H → E.bk (g σ) H) (h3 : ∀ σ H, D.ct σ H → E.ct (g σ) H) (h4 : ∀ v H, D.rt v H → E.rt v H) (h : SP X p D f s) : SP Y q E f t := by
  cases f with
  | ret u => exact let ⟨v, σ, H, I, r, z⟩ := h; ⟨v, g σ, H, hI σ H I, r, h4 v H z⟩
  | next => exact let ⟨σ, H, I, z⟩ := h; ⟨g σ, H, hI σ H I, h1 σ H z⟩
  | brk => exact let ⟨σ, H, I, z⟩ := h; ⟨g σ, H, hI σ H I, h2 σ H z⟩
  | cont => exact let ⟨σ, H, I, z⟩ := h; ⟨g σ, H, hI σ H I, h3 σ H z⟩
abbrev Clause : Type := List Value × Option Nat × (Addr → Value → Option Addr → TS)
/-- what the clauses wish of an exception of the body, one after the other -/
def wCl (K : PySem.W.Frag) (Wout : WX) (D : Ends) : List Clause → WX
  | [] => Wout
  | (cs, none, ts) :: r => fun cls d σ H => ∃ b, exmCs K cls cs = some b ∧ (b = true → ∀ a, H a = none → ts a cls d D σ H) ∧ (b = false → wCl K Wout D r cls d σ H)
  | (cs, some i, ts) :: r => fun cls d σ H => ∃ b, exmCs K cls cs = some b ∧ (b = true → ∀ a, H a = none → ts a cls d { nx := fun σ' H' => D.nx (σ'.set i none) H', rt := D.rt, bk := fun σ' H' => D.bk (σ'.set i none) H', ct := fun σ' H' => D.ct (σ'.set i none) H' } (σ.set i (some (.ref a))) H) ∧
    (b = false → wCl K Wout D r cls d σ H)
inductive HdX (X : Cx) : List ExceptHandler → List Clause → Prop
  | nil : HdX X [] []
  | plain {t : Expr} {cs : List Value} {ts : Addr → Value → Option Addr → TS} {b₀ : Stmt} {suite : List Stmt} {pos' : Pos} {hds : List ExceptHandler} {l : List Clause} (T : TestOk X t cs)
      (hsu : ∀ (a : Addr) (oe : PySem.Obj) (cls : Value) (d : Option Addr) (pn : List (Addr × PySem.Obj)), Zc cls d oe → (∃ vs, oe.data = .fields vs) → PSs (X.suite a ((a, oe) :: pn)) (b₀ :: suite) (ts a cls d)) (r : HdX X hds l) :
      HdX X (.ExceptHandler (some t) none (b₀ :: suite) pos' :: hds) ((cs, none, ts) :: l)
  | named {t : Expr} {cs : List Value} {ts : Addr → Value → Option Addr → TS} {b₀ : Stmt} {suite : List Stmt} {n : Str} {i : Nat} {pos' : Pos} {hds : List ExceptHandler} {l : List Clause} (T : TestOk X t cs) (hi : X.N[i]? = some n) (hln : X.env.kindOf n = some .local)
      (hsu : ∀ (a : Addr) (oe : PySem.Obj) (cls : Value) (d : Option Addr) (pn : List (Addr × PySem.Obj)), Zc cls d oe → (∃ vs, oe.data = .fields vs) → PSs (X.suite a ((a, oe) :: pn)) (b₀ :: suite) (ts a cls d)) (r : HdX X hds l) :
      HdX X (.ExceptHandler (some t) (some n) (b₀ :: suite) pos' :: hds) ((cs, some i, ts) :: l)
/-- the exception at a has landed over t, a state of ours; a clause for it is looked for at s -/
structure Landed (X : Cx) (pins : List (Addr × PySem.Obj)) (B : Heap) (a : Addr) (cls : Value) (d : Option Addr) (σ : L2.St) (H : Hp) (t s : Shared) : Prop where
  inv : Inv X pins σ H t
  ground : ∀ b o, t.heap.get? b = some o → b ∉ frs X.stack → B.get? b = some o
  up : t.heap.UpToSlots s.heap
  fly : HandSPX.FlyingZ B X.stack a (Zc cls d) s.heap
  out : H a = none
  os : s.os = t.os
  bare : AllBare s.gens
namespace Landed
variable {X : Cx} {pins : List (Addr × PySem.Obj)} {B : Heap} {a : Addr} {cls : Value} {d : Option Addr} {σ : L2.St} {H : Hp} {t s : Shared} {h : Heap} {Wout : WX} {D : Ends}
theorem move (L : Landed X pins B a cls d σ H t s) (fly : HandSPX.FlyingZ B X.stack a (Zc cls d) h) (up : s.heap.UpToSlots h) : Landed X pins B a cls d σ H t { s with heap := h } := ⟨L.inv, L.ground, L.up.trans up, fly, L.out, L.os, L.bare⟩
theorem grow (L : Landed X pins B a cls d σ H t s) (k : ∀ b o, s.heap.get? b = some o → h.get? b = some o) : Landed X pins B a cls d σ H t { s with heap := h } := L.move (flyZ_keeps L.fly k) (.of_keeps k)
theorem ours (L : Landed X pins B a cls d σ H t s) : Inv X pins σ H s := L.inv.landed L.ground L.fly.1 L.up L.os L.bare
/-- the exception's object is no frame -/
theorem noFrame (L : Landed X pins B a cls d σ H t s) : a ∉ frs X.stack := fun z => by
  obtain ⟨oe, vs, there, _, fields⟩ := L.fly.there
  obtain ⟨_, o, there', no⟩ := L.fly.2.2.1.mem z
  exact no vs ((Option.some.inj (there'.symm.trans there)) ▸ fields)
/-- a suite may begin: the exception is pinned -/
theorem suite (L : Landed X pins B a cls d σ H t s) (hs : X.stack = X.env :: X.outer) (hf : X.env.frame = some X.env.locals) : ∃ oe, Zc cls d oe ∧ (∃ vs, oe.data = .fields vs) ∧ s.heap.get? a = some oe ∧ Inv (X.suite a ((a, oe) :: (X.pn ++ pins))) [] σ H s := by
  obtain ⟨oe, vs, there, z, fields⟩ := L.fly.there
  have off : ∀ e ∈ X.stack, e.frame ≠ some a := fun e he q => L.noFrame (List.mem_filterMap.mpr ⟨e, he, q⟩)
  refine ⟨oe, z, ⟨vs, fields⟩, there, L.ours.suite there fields L.out (fun q => off X.env (hs ▸ List.mem_cons_self ..) (q ▸ hf)) fun q => ?_⟩
  obtain ⟨e, he, q⟩ := List.mem_filterMap.mp q
  exact off e (hs ▸ List.mem_cons_of_mem _ he) q
/-- no clause is left: the exception flies on -/
theorem on (L : Landed X pins B a cls d σ H t s) (hs : X.stack = X.env :: X.outer) (hf : X.env.frame = some X.env.locals) (tk : Takes X Wout) (w : Wout cls d σ H) : wpAny (model X.prog X.w) X.A (handleBy (.ref a) X.env []) (SP X pins D) X.xe s := by
  obtain ⟨_, _, _, oe, vs, T, oT, ts, there, _, fields, trace, _⟩ := id L.fly
  have leave : wpAny (model X.prog X.w) X.A (setFlight (.ref a) X.env.frame) (fun _ s4 => wpAny (model X.prog X.w) X.A (throw (.ref a) : Sem Flow) (SP X pins D) X.xe s4) X.xe s := by
    rw [hf]
    exact HandSPX.setFlight_upZ L.fly fun h' held up => wpAny_throw (tk _ _ ⟨a, B, t, pins, σ, H, cls, d, rfl, L.inv, L.ground, L.up.trans up, .inr (.inr held), L.out, L.os, L.bare, w⟩)
  refine wpAny_handleBy_nil ?_
  unfold PySem.passOn
  refine wpAny_bind (wpAny_field there fields trace ?_)
  have noNone : ¬ ((Value.ref T == Value.none) = true) := by simp
  rw [if_neg noNone]
  first
    | exact wpAny_bind leave
    | exact wpAny_bind (wpAny_pure (wpAny_bind leave))
end Landed
section
variable {X : Cx} {body : List Stmt} {h₀ : ExceptHandler} {hds : List ExceptHandler} {l : List Clause} {pos : Pos} {tb : WX → TS} {Wout : WX} {pins : List (Addr × PySem.Obj)} {B : Heap} {a : Addr} {cls : Value} {d : Option Addr} {σ : L2.St} {H : Hp} {t : Shared} {D : Ends}
/-- the clauses, one after the other -/
theorem clauses (hs : X.stack = X.env :: X.outer) (hf : X.env.frame = some X.env.locals) (hN : X.N.Nodup) (tk : Takes X Wout) (hh : HdX X hds l) :
    ∀ s, Landed X pins B a cls d σ H t s → wCl X.K Wout D l cls d σ H → wpAny (model X.prog X.w) X.A (handleBy (.ref a) X.env hds) (SP X pins D) X.xe s := by
  induction hh with
  | nil => exact fun s L w => L.on hs hf tk w
  | @plain e cs ts b₀ su pos' hds l T hsu _ ih =>
    intro s L ⟨b, says, yes, no⟩
    obtain ⟨oe, z, _, there, J⟩ := L.suite hs hf
    refine wpAny_handleBy_cons (codeAny_handlers_test (test_ok T J (fun A R F t k r => wpAny_typeOf_ref (k _ _ there) (z.1 ▸ r)) says fun h' k => ?_)) nofun
    cases b with
    | false => exact ih _ (L.grow k) (no rfl)
    | true =>
      refine codeAny_handlers_suite (HandSPX.lands_againZ (hs ▸ (L.grow k).fly) fun h4 fly up => ?_)
      have L4 := (L.grow k).move (hs ▸ fly) up
      obtain ⟨oe, z, f, _, J⟩ := L4.suite hs hf
      exact wpAny_mono ((hsu a oe cls d _ z f).run [] _ σ H _ J (yes rfl a L.out)) (fun fl s' r => sp_carry (g := id) (fun _ _ I => I.unsuite L.inv.ok) (fun _ _ z => z) (fun _ _ z => z) (fun _ _ z => z) (fun _ _ z => z) r) fun _ _ z => z.elim
  | @named e cs ts b₀ su n i pos' hds l T hi hln hsu _ ih =>
    intro s L ⟨b, says, yes, no⟩
    obtain ⟨oe, z, _, there, J⟩ := L.suite hs hf
    refine wpAny_handleBy_cons (codeAny_handlers_test (test_ok T J (fun A R F t k r => wpAny_typeOf_ref (k _ _ there) (z.1 ▸ r)) says fun h' k => ?_)) nofun
    cases b with
    | false => exact ih _ (L.grow k) (no rfl)
    | true =>
      refine codeAny_handlers_suite_as (HandSPX.lands_againZ (hs ▸ (L.grow k).fly) fun h4 fly up => ?_)
      have L4 := (L.grow k).move (hs ▸ fly) up
      obtain ⟨oe, z, f, _, J⟩ := L4.suite hs hf
      refine store_ok (X := X.suite a ((a, oe) :: (X.pn ++ pins))) (v := .ref a) J hN hi (.inl hln) rfl (fun s5 J5 => ?_) (.inr hln)
      refine wpAny_mono ((hsu a oe cls d _ z f).run [] s5 _ H _ J5 (yes rfl a L.out)) (fun fl s6 r => ?_) fun _ _ z => z.elim
      -- the name goes, whatever way the suite ends
      have gone : ∀ {σ6 : L2.St} {H6 : Hp} {R : Shared → Prop}, Inv (X.suite a ((a, oe) :: (X.pn ++ pins))) [] σ6 H6 s6 → (∀ s7, Inv X pins (σ6.set i none) H6 s7 → R s7) → wpAny (model X.prog X.w) X.A (do bindName X.env n .none; unbindBehindTheSuite X.env n pos') (fun _ s7 => R s7) X.xe s6 := fun I6 r => gone_ok (I6.unsuite L.inv.ok) hN hi hln r
      match fl, r with
      | .ret u, ⟨v, σ6, H6, I6, rv, q⟩ => exact gone I6 fun s7 I7 => ⟨v, _, H6, I7, rv, q⟩
      | .next, ⟨σ6, H6, I6, q⟩ => exact gone I6 fun s7 I7 => ⟨_, H6, I7, q⟩
      | .brk, ⟨σ6, H6, I6, q⟩ => exact gone I6 fun s7 I7 => ⟨_, H6, I7, q⟩
      | .cont, ⟨σ6, H6, I6, q⟩ => exact gone I6 fun s7 I7 => ⟨_, H6, I7, q⟩
theorem ps_try_cl (hs : X.stack = X.env :: X.outer) (hf : X.env.frame = some X.env.locals) (hN : X.N.Nodup) (tk : Takes X Wout)
    (hb : ∀ (W : WX) (pn : List (Addr × PySem.Obj)) (xe : Value → Shared → Prop), Takes (X.tr pn xe) W → PassesOwn (model X.prog X.w) X.A X.env xe → PSs (X.tr pn xe) body (tb W))
    (hh : HdX X (h₀ :: hds) l) : PS X (.Try body (h₀ :: hds) [] [] pos) (fun D σ H => tb (wCl X.K Wout D l) D σ H) where
  run := fun pins s σ H D I h => by
    have back : ∀ {pn : List (Addr × PySem.Obj)} {xe : Value → Shared → Prop} {fl : Flow} {s' : Shared}, SP (X.tr (X.pn ++ pins) xe) pn D fl s' → SP X pins D fl s' := fun r => sp_carry (g := id) (fun _ _ J => J.ofTry I.ok) (fun _ _ z => z) (fun _ _ z => z) (fun _ _ z => z) (fun _ _ z => z) r
    refine wpAny_Try_except (wpAny_mono ((hb (wCl X.K Wout D l) (X.pn ++ pins) _ ?_ PassesOwn.looking).run [] s σ H D (I.toTry _) h) (fun fl s' r => ?_) fun _ _ r => r)
    · rintro u s' ⟨a, B, t, pins', σ', H', cls, d, rfl, J, ground, up, sky, out, os, bare, w⟩
      have fr : X.A.frames = some (X.env :: X.outer) := hs ▸ I.ok.frames
      refine Sky.land (B := B) (Z := Zc cls d) Zc.steady fr hf (by rw [← hs]; exact sky) fun h3 fly up3 => ?_
      exact clauses hs hf hN tk hh _ ⟨J.ofTry I.ok, ground, up.trans up3, hs ▸ fly, out, os, bare⟩ w
    · cases fl with
      | next => exact wpAny_execs_nil (back r)
      | ret u => exact back r
      | brk => exact back r
      | cont => exact back r
end
/-! the exception in hand -/
/-- what the class of an exception in hand must say, so that its fields are read and isinstance is asked rightly -/
structure XcF (K : PySem.W.Frag) (C : Addr) : Prop where
  ga : PySem.W.findIn K (.ref C) "__getattribute__" = some (some (.builtin "BaseException.__getattribute__"))
  gg : PySem.W.findIn K (.ref C) "__getattr__" = some none
  sb : PySem.W.subIn K (.ref C) (.type "BaseException") = some true
  hd : PySem.W.hasDictIn K C = true
  ha : PySem.W.findIn K (.ref C) "__class__" = some (some (.builtin "object.__class__"))
  hn : PySem.W.specialIn K (.builtin "object.__class__") "__get__" = some (some (.builtin "getset_descriptor.__get__"))
  ht : PySem.W.takesIn K (.builtin "object.__class__") = some true
  hm : PySem.W.mroIn K C (.type "object") = some true
theorem XcF.xf {K : PySem.W.Frag} {C : Addr} (h : XcF K C) : XfC K C := ⟨h.ga, h.gg, h.sb, h.hd⟩
/-- an exception that the context pins -/
def Pin (X : Cx) (a : Addr) (cls : Value) (d : Option Addr) : Prop := ∃ oe : PySem.Obj, (a, oe) ∈ X.pn ∧ Zc cls d oe ∧ ∃ vs, oe.data = .fields vs
section
variable {X : Cx} {a C : Addr} {cls : Value} {d : Option Addr}
theorem pe_xfP {e : Expr} {te : TE} {pos : Pos} {n : Str} (T : XfC X.K C) (hno : PySem.W.findIn X.K (.ref C) n = some none) (hp : Pin X a cls d) (he : PE X e te) (hb : attributeBase e n X.env (eval e X.env) = eval e X.env) : PE X (.Attribute e n pos) (tXf a cls d C n te) := by
  refine ⟨fun pins s σ H Q I h => attr_of hb (thn (he.run pins s σ H _ I h) fun u t ⟨x, H1, J, rx, ex, ec, dd, fs, v, ed, known, field, q⟩ => ?_)⟩
  obtain ⟨oe, pinned, z, vs, fields⟩ := hp
  subst ex ec ed
  cases rx
  have there := (J.pin (a, oe) (List.mem_append_left _ pinned)).1
  obtain ⟨m, dict, says⟩ : ObjOk X.prog X.w H1 t.heap dd (.xd fs) := J.hok dd _ known
  obtain ⟨od, od_there, look⟩ := lookIn_ns dict
  obtain ⟨u, at_u, ru⟩ := RelO.some_of (v := v) (o := m n) (field ▸ says n)
  have inst : PySem.W.InstAt t.heap a oe C (some od) := ⟨there, z.1, by simp [PySem.W.notCls, fields], z.2.symm ▸ od_there⟩
  exact HandSPX.exc_get J.kIn inst T.ga T.gg T.exC (PySem.W.findObj_own T.hdC hno rfl (by rw [look, at_u])) (handed_of ru) ⟨v, H1, J.tok _, ru, q⟩
/-- isinstance(e, c), e the exception in hand -/
def rIsP (K : PySem.W.Frag) (D a : Addr) (d : Option Addr) : List V → Hp → VK → Prop := fun xs H Q => (∃ dd fs, d = some dd ∧ H dd = some (.xd fs)) ∧ ∃ (c : V) (cv : Value) (b : Bool), xs = [.ref a, c] ∧ (∀ u, RelV c u → u = cv) ∧ PySem.W.kitOne K (.ref D) cv = some b ∧ Q (.bl b) H
theorem call_isP {D : Addr} (F : XcF X.K D) (hp : Pin X a (.ref D) d) : CallR X (.builtin "isinstance") (rIsP X.K D a d) := by
  intro pins s σ H xs us Q I r h
  obtain ⟨⟨dd, fs, hdd, hH⟩, c, cv, b, rfl, hcv, e, q⟩ := h
  cases r with
  | cons rx rr =>
    cases rr with
    | cons rt rr =>
      cases rr
      cases rx
      have ec := hcv _ rt
      subst ec hdd
      obtain ⟨oe, hm, hz, vs, hv⟩ := hp
      have hget := (I.pin (a, oe) (List.mem_append_left _ hm)).1
      have hx : ObjOk X.prog X.w H s.heap dd (.xd fs) := I.hok dd _ hH
      obtain ⟨mA, hns, hr⟩ := hx
      obtain ⟨od, ho, hl⟩ := lookIn_ns hns
      have J : PySem.W.InstAt s.heap a oe D (some od) := ⟨hget, hz.1, by unfold PySem.W.notCls; rw [hv] <;> rfl, by rw [hz.2]; exact ho⟩
      have hcl : (PySem.W.clsIn X.K D).isSome = true := by
        obtain ⟨cd, hc, _⟩ := PySem.W.any_some F.hd
        rw [hc]; rfl
      exact PySem.W.kia_one (PySem.W.kitx_exc hcl F.ga F.gg F.sb F.ha F.hn F.ht F.hm) I.kIn J e (fun z => nomatch z) fun tk => ⟨.bl b, H, I.kept (t' := tk) fun _ _ z => z, rfl, q⟩
end
/-! defs that are handed the exception -/
abbrev SpX : Type := Addr × PySem.Obj → Sp
structure FnX (P : Program) (w : World) (K : PySem.W.Frag) (mg : Str → Option Value) (base : Heap) (CX : CXT) (k : Nat) (f : Addr) (fd : FuncData) (ps : List Str) (sp : SpX) : Prop where
  len : ∀ p vs H Q E, sp p vs H Q E → vs.length = ps.length
  run : ∀ (A : Around) (outer : List PySem.Env) (s : Shared) (H : Hp) (args : Args) (us : List Value) (vs : List V) (Q : VK) (E : XK) (p : Addr × PySem.Obj), L2H.RoomH k A → A.guards = some [] → L2H.PinOk outer H s p → Env0 P w K mg base A outer s H → BindsTo s fd args (ps.zip us) → Vals vs us → sp p vs H Q E →
    codeAny (model P w) A (.call (.ref f) args) (CR CX outer P w H s Q E) s
theorem fn_ofX {CX : CXT} {P : Program} {w : World} {K : PySem.W.Frag} {mg : Str → Option Value} {base : Heap} {k : Nat} {f : Addr} {name qual : Str} {params : Arguments} {body : List Stmt} {scope : Scope} {dV kV doc pm cdv ct oc : Value} {an od : Option Addr}
    {osl : Array (Option Value)} {N ps : List Str} {sp : SpX} (lk : K.lookup f = some ⟨oc, od, .func (PySem.W.fnOf name qual params body scope dV kV doc pm an cdv ct), osl⟩) (hcd : PySem.W.codeIn K cdv qual = true) (S : FnScope N ps scope)
    (len : ∀ p vs H Q E, sp p vs H Q E → vs.length = ps.length)
    (hbody : ∀ (A : Around) (outer : List PySem.Env) (s : Shared) (H : Hp) (vs : List V) (Q : VK) (E : XK) (p : Addr × PySem.Obj), L2H.RoomH k (A.deeper (envOfC qual scope s.heap.objs.size f cdv)) → A.guards = some [] → sp p vs H Q E →
      ∃ t, PSs (L2H.cxH CX P w K mg base N qual scope f cdv A outer s H E p) body t ∧ t { nx := fun _ H' => Q .non H', rt := Q } (L2.start N vs) H) :
    FnX P w K mg base CX (k + 1) f (PySem.W.fnOf name qual params body scope dV kV doc pm an cdv ct) ps sp := by
  refine ⟨len, fun A outer s H args us vs Q E p room gu pin e0 b r given => ?_⟩
  obtain ⟨t, walk, q⟩ := hbody A outer s H vs Q E p (room.deeper _) gu given
  exact def_runs lk hcd S room.depth e0 b walk q fun _ x => L2H.inv_startH S pin e0 (len _ _ _ _ _ given) r x
section
variable {X : Cx} {CX : CXT} {k : Nat} {f : Addr} {fd : FuncData} {ps : List Str} {sp : SpX} {E : L2.St → XK} {x : Str} {q pos : Pos} {e : Expr} {es : List Expr} {t : TA} {pp : Addr × PySem.Obj}
theorem run_fnX {pins : List (Addr × PySem.Obj)} {σ : L2.St} {H : Hp} {s : Shared} {Q : VK} {us : List Value} {vs : List V} (F : FnX X.prog X.w X.K X.mg X.base CX k f fd ps sp) (hr : L2H.RoomH k X.A) (hgu : X.A.guards = some []) (hp : pp ∈ X.pn) (hb : Binds X.K fd ps []) (hx : PassesAt CX X σ (E σ))
    (I : Inv X pins σ H s) (r : Vals vs us) (h : sp pp vs H Q (E σ)) : wpAny (model X.prog X.w) X.A (call (.ref f) us) (EP X pins σ Q) X.xe s := by
  have hl : us.length = ps.length := by rw [← r.length]; exact F.len _ _ _ _ _ h
  have b := hb s us I.kIn (by rw [List.append_nil]; exact hl)
  rw [List.append_nil] at b
  have P1 := I.pin pp (List.mem_append_left _ hp)
  refine wpAny_call (codeAny_mono (F.run X.A X.stack s H ⟨us, []⟩ us vs Q (E σ) pp hr hgu ⟨P1.1, P1.2.1, fun hm => (List.mem_cons.mp (I.stkSub pp.1 hm)).elim P1.2.2.1 P1.2.2.2.1, P1.2.2.2.2⟩ I.env0 b r h) fun r s' hq => ?_)
  cases r with
  | error e => exact hx pins H s e s' I hq
  | ok fl =>
    cases fl with
    | ret u => exact I.after hq
    | next => exact False.elim hq
    | brk => exact False.elim hq
    | cont => exact False.elim hq
theorem pe_callX (F : FnX X.prog X.w X.K X.mg X.base CX k f fd ps sp) (hr : L2H.RoomH k X.A) (hgu : X.A.guards = some []) (hp : pp ∈ X.pn) (hg : Gl X x) (hm : X.mg x = some (.ref f)) (hk : PySem.W.keepIn X.K (.ref f) = true) (hb : Binds X.K fd ps []) (hx : ∀ σ, PassesAt CX X σ (E σ))
    (ha : PA X (e :: es) t) (hdb : (x == ("__debug__" : Str)) = false) (he : starEach (e :: es) X.env = (false, eval e X.env) :: starEach es X.env) (hpl : (backTo pos (starEach es X.env)).any (·.1) = false) :
    PE X (.Call (.Name x q) (e :: es) [] pos) (tCallS (sp pp) E t) := by
  refine ⟨fun pins s σ H Q I h => wpAny_Call_Name_kw (ld_glob I hg hm ?_ hdb)⟩
  refine PySem.W.callWith_K (h₀ := X.base) I.ok.mod.kin hk (thn (ha.run pos pins s σ H _ I h) fun us s1 ⟨vs, H1, I1, r, q⟩ => ⟨I1.kIn, run_fnX F hr hgu hp hb (hx σ) I1 r q⟩) he hpl
end
end Fc

end
section
set_option autoImplicit false
set_option maxHeartbeats 1000000
/-! exceptions in hand: fields, isinstance, clauses -/
namespace Fc
open PySem PySem.Spec L2
theorem lk_ndR {f : Str} {v : V} : ∀ {l : List (Str × V)}, (l.map (·.1)).Nodup → (f, v) ∈ l → l.lookup f = some v
  | [], _, h => nomatch h
  | (g, w) :: l, nd, h => by
    rw [List.map_cons, List.nodup_cons] at nd
    rw [List.lookup_cons]
    rcases List.mem_cons.mp h with e | e
    · cases e
      simp
    · have : f ≠ g := fun z => nd.1 (z ▸ List.mem_map.mpr ⟨_, e, rfl⟩)
      have hb : (f == g) = false := by simpa using this
      rw [hb]
      exact lk_ndR nd.2 e
theorem zip_lkR {ks : List Str} {vs : List V} (nd : ks.Nodup) (hl : vs.length = ks.length) {k : Nat} {f : Str} {v : V} (h1 : ks[k]? = some f) (h2 : vs[k]? = some v) : ((ks.zip vs).reverse).lookup f = some v := by
  refine lk_ndR ?_ (List.mem_reverse.mpr (List.mem_of_getElem? (i := k) ?_))
  · rw [List.map_reverse, (List.reverse_perm _).nodup_iff, List.map_fst_zip (by omega)]
    exact nd
  · rw [List.getElem?_zip_eq_some]
    exact ⟨h1, h2⟩
theorem mem_lk {c k : Nat} : ∀ {l : List (Nat × Nat)}, l.lookup c = some k → (c, k) ∈ l
  | [], h => nomatch h
  | (a, b) :: l, h => by
    rw [List.lookup_cons] at h
    split at h
    · rename_i q
      have q := eq_of_beq q
      cases h
      rw [q]
      exact List.mem_cons_self
    · exact List.mem_cons_of_mem _ (mem_lk h)
theorem mem_lkX {c : Nat} {k : List Str} : ∀ {l : List (Nat × List Str)}, l.lookup c = some k → (c, k) ∈ l
  | [], h => nomatch h
  | (a, b) :: l, h => by
    rw [List.lookup_cons] at h
    split at h
    · rename_i q
      have q := eq_of_beq q
      cases h
      rw [q]
      exact List.mem_cons_self
    · exact List.mem_cons_of_mem _ (mem_lkX h)
theorem xcOf_some {o : Option (Option D)} {c : Nat} {fs : List D} (h : xcOf o = some (c, fs)) : ∃ z : Int, o = some (some (.dil false [.non, .int z] fs)) ∧ c = z.toNat := by
  unfold xcOf at h
  split at h
  · cases h
    exact ⟨_, rfl, rfl⟩
  · cases h
variable [CtI] [XsI]
variable {X : Cx} {Wx : WX} {pos : Pos}
theorem dil_no {W : Wd} {H : Hp} {v : V} {z : Int} {fs : List D} (h : Rep W H v (.dil false [.non, .int z] fs)) : False := by
  generalize hd : D.dil false [.non, .int z] fs = d at h
  cases h <;> first | (cases hd; done) | skip
  all_goals
    rename_i kvs _ _ _ _
    injection hd with h1 h2 h3
    cases kvs with
    | nil => cases h2
    | cons p r =>
      rw [List.map_cons] at h2
      injection h2 with h2 _
      obtain ⟨k, _⟩ := p
      cases k <;> cases h2
theorem xc_at {W : Wd} {H : Hp} {r : Env} {σ : L2.St} (en : EnvR W H r σ) {i c : Nat} {fs : List D} (h : xcOf r[i]? = some (c, fs)) : ∃ a cls dd, XsI.xs = some (i, a, cls, dd) ∧ σ[i]? = some (some (.ref a)) ∧ ExR W H cls dd c fs := by
  obtain ⟨z, e1, e2⟩ := xcOf_some h
  obtain ⟨v, h1, h2 | ⟨a, cls, dd, c', fs', q1, q2, q3, q4⟩⟩ := en.2 i _ e1
  · exact (dil_no h2).elim
  · unfold xcD at q2
    injection q2 with _ q5 q6
    injection q5 with _ q7
    injection q7 with q7 _
    injection q7 with q7
    subst q6 q3 q7
    have : c = c' := by omega
    subst this
    exact ⟨a, cls, dd, q1, h1, q4⟩
theorem s_xfl {i : Nat} {x f : Str} {tb : List (Nat × Nat)} {p : Pos} (hN : X.N[i]? = some x) (hv : Vis X.env.scope x) (hd : (x == ("__debug__" : Str)) = false) (hcd : (x == ("__classdict__" : Str)) = false) (hp : ∀ p, XsI.xs = some p → Pin X p.2.1 p.2.2.1 p.2.2.2)
    (hf : ∀ q ∈ tb, CtI.kn q.1 → XcF X.K (CtI.ct.adr q.1) ∧ PySem.W.findIn X.K (.ref (CtI.ct.adr q.1)) f = some none ∧ (CtI.ct.flds q.1)[q.2]? = some f ∧ (CtI.ct.flds q.1).Nodup) (hb : attributeBase (.Name x p) f X.env (eval (.Name x p) X.env) = eval (.Name x p) X.env) :
    PE X (.Attribute (.Name x p) f pos) (Rd Wx fun r S => evXf i tb r S) := by
  refine ⟨fun pins s σ H Q I h => ?_⟩
  obtain ⟨W, S, r, w, en, h⟩ := h
  dsimp only at h
  unfold evXf at h
  split at h
  · rename_i c fs hx
    split at h
    · rename_i d hd2
      obtain ⟨a, cls, dd, q1, q2, q3, kn, dx, vs, rfl, q4, q5, q6, q7⟩ := xc_at en hx
      obtain ⟨k, hk, hk2⟩ := Option.bind_eq_some_iff.mp hd2
      obtain ⟨T, hno, hfl, nd⟩ := hf (c, k) (mem_lk hk) kn
      obtain ⟨v, hv1, hv2⟩ := q6.get hk2
      have hct : W.c = CtI.ct := w.ct
      rw [hct] at q3 q5 q7
      have P := hp _ q1
      refine (pe_xfP (cls := cls) (d := some dx) (a := a) (te := tVar i) T.xf hno P (pe_var hN hv hd hcd) hb).run pins s σ H Q I ?_
      exact ⟨_, q2, rfl, q3, dx, _, v, rfl, q5, zip_lkR nd q7 hfl hv1, h.same w hv2⟩
    · exact h.elim
  · exact h.elim
theorem s_xis {i : Nat} {x z : Str} {cs : List Nat} {cv : Value} {p p1 p2 : Pos} (hN : X.N[i]? = some x) (hv : Vis X.env.scope x) (hd : (x == ("__debug__" : Str)) = false) (hcd : (x == ("__classdict__" : Str)) = false) (hp : ∀ p, XsI.xs = some p → Pin X p.2.1 p.2.2.1 p.2.2.2)
    (hF : ∀ k, CtI.kn k → XcF X.K (CtI.ct.adr k)) (hi : ∀ k, CtI.kn k → PySem.W.kitOne X.K (.ref (CtI.ct.adr k)) cv = some (cs.contains k)) (hg : Gl X "isinstance") (hm : X.mg "isinstance" = none) {cw : V} (hcw : ∀ u, RelV cw u → u = cv) (hz : PE X (.Name z p2) (tC cw))
    (hs : starEach [.Name x p1, .Name z p2] X.env = [(false, eval (.Name x p1) X.env), (false, eval (.Name z p2) X.env)]) :
    PE X (.Call (.Name "isinstance" p) [.Name x p1, .Name z p2] [] pos) (Rd Wx fun r S => evXis i cs r S) := by
  refine ⟨fun pins s σ H Q I h => ?_⟩
  obtain ⟨W, S, r, w, en, h⟩ := h
  dsimp only at h
  unfold evXis at h
  split at h
  · rename_i c fs hx
    obtain ⟨a, cls, dd, q1, q2, q3, kn, dx, vs, rfl, q4, q5, q6, q7⟩ := xc_at en hx
    rw [w.ct] at q3 q5
    have P := hp _ q1
    dsimp only at P
    subst q3
    have hs1 : starEach [.Name x p1, .Name z p2] X.env = (false, eval (.Name x p1) X.env) :: starEach [.Name z p2] X.env := hs
    refine (pe_callB (call_isP (hF c kn) P) hg hm (by decide +kernel) (pa_cons (pe_var hN hv hd hcd) (pa_cons hz pa_nil) hs1) (by decide) (by decide) hs1 rfl).run pins s σ H Q I ?_
    exact ⟨_, q2, ⟨dx, _, rfl, q5⟩, cw, cv, _, rfl, hcw, hi c kn, h.same w (.bl _)⟩
  · exact h.elim
/-! clauses -/
def evTryX (f : EvS) (cl : List (List Nat × Option Nat × EvS)) : EvS := fun r S => match f r S with
  | .ex c fs r1 S1 => pickX c fs r1 S1 cl
  | o => o
theorem tryX_skip {f : EvS} {i : Option Nat} {g : EvS} {cl : List (List Nat × Option Nat × EvS)} : evTryX f (cl ++ [([], i, g)]) = evTryX f cl := by
  have : ∀ c fs r S, pickX c fs r S (cl ++ [([], i, g)]) = pickX c fs r S cl := fun c fs r S => by
    induction cl with
    | nil => rfl
    | cons a l ih =>
      obtain ⟨cs, j, k⟩ := a
      rw [List.cons_append, pickX, pickX, ih]
  funext r S
  unfold evTryX
  cases f r S with
  | ex c fs r1 S1 => exact this c fs r1 S1
  | ok => rfl
  | bad => rfl
omit [XsI] in
theorem envR_put {W : Wd} {H : Hp} {r : Env} {σ : L2.St} {i c : Nat} {a : Addr} {cls : Value} {d : Option Addr} {fs : List D} (x0 : XsI) (hx : x0.xs = none) (en : @EnvR _ x0 W H r σ) (q : ExR W H cls d c fs) : @EnvR _ ⟨some (i, a, cls, d)⟩ W H (r.set i (some (xcD c fs))) (σ.set i (some (.ref a))) := by
  refine ⟨by rw [List.length_set, List.length_set]; exact en.1, fun j e hj => ?_⟩
  by_cases hij : i = j
  · subst hij
    by_cases hl : i < r.length
    · rw [List.getElem?_set_self hl] at hj
      cases hj
      exact ⟨_, List.getElem?_set_self (by rw [← en.1]; exact hl), .inr ⟨a, cls, d, c, fs, rfl, rfl, rfl, q⟩⟩
    · rw [List.getElem?_eq_none (by rw [List.length_set]; omega)] at hj; cases hj
  · rw [List.getElem?_set_ne hij] at hj
    rw [List.getElem?_set_ne hij]
    obtain ⟨v, h1, h2 | ⟨a', cls', dd', c', fs', h2, _⟩⟩ := en.2 j e hj
    · exact ⟨v, h1, .inl h2⟩
    · rw [hx] at h2; cases h2
omit [XsI] in
theorem envR_gone {W : Wd} {H : Hp} {r : Env} {σ : L2.St} {i : Nat} {a : Addr} {cls : Value} {d : Option Addr} (x0 : XsI) (en : @EnvR _ ⟨some (i, a, cls, d)⟩ W H r σ) : @EnvR _ x0 W H (r.set i none) (σ.set i none) := by
  refine ⟨by rw [List.length_set, List.length_set]; exact en.1, fun j e hj => ?_⟩
  by_cases hij : i = j
  · subst hij
    by_cases hl : i < r.length
    · rw [List.getElem?_set_self hl] at hj; cases hj
    · rw [List.getElem?_eq_none (by rw [List.length_set]; omega)] at hj; cases hj
  · rw [List.getElem?_set_ne hij] at hj
    rw [List.getElem?_set_ne hij]
    obtain ⟨v, h1, h2 | ⟨a', cls', dd', c', fs', h2, _⟩⟩ := (show _ ∧ _ from en).2 j e hj
    · exact ⟨v, h1, .inl h2⟩
    · injection h2 with h2
      injection h2 with h2 _
      exact absurd h2 hij
theorem wipeX_none (o : Out Fl) : wipeX none o = o := by
  cases o with
  | ok f S => cases f <;> rfl
  | ex => rfl
  | bad => rfl
inductive HdE (X : Cx) : List ExceptHandler → List (List Nat × Option Nat × EvS) → Prop
  | nil : HdE X [] []
  | plain {t : Expr} {cvs : List Value} {cs : List Nat} {g : EvS} {b₀ : Stmt} {suite : List Stmt} {p : Pos} {hds : List ExceptHandler} {cl : List (List Nat × Option Nat × EvS)} (T : TestOk X t cvs) (hm : ∀ k, CtI.kn k → exmCs X.K (.ref (CtI.ct.adr k)) cvs = some (cs.contains k))
      (hsu : ∀ (a : Addr) (pn : List (Addr × PySem.Obj)), PSs (X.suite a pn) (b₀ :: suite) (RdS noX g)) (r : HdE X hds cl) : HdE X (.ExceptHandler (some t) none (b₀ :: suite) p :: hds) ((cs, none, g) :: cl)
  | named {t : Expr} {cvs : List Value} {cs : List Nat} {g : EvS} {b₀ : Stmt} {suite : List Stmt} {p : Pos} {n : Str} {i : Nat} {hds : List ExceptHandler} {cl : List (List Nat × Option Nat × EvS)} (T : TestOk X t cvs) (hm : ∀ k, CtI.kn k → exmCs X.K (.ref (CtI.ct.adr k)) cvs = some (cs.contains k))
      (hi : X.N[i]? = some n) (hln : X.env.kindOf n = some .local)
      (hsu : ∀ (a : Addr) (cls : Value) (d : Option Addr) (pn : List (Addr × PySem.Obj)), Pin (X.suite a pn) a cls d → PSs (X.suite a pn) (b₀ :: suite) (@RdS _ ⟨some (i, a, cls, d)⟩ noX g)) (r : HdE X hds cl) : HdE X (.ExceptHandler (some t) (some n) (b₀ :: suite) p :: hds) ((cs, some i, g) :: cl)
theorem postS_named {W : Wd} {H : Hp} {D : Ends} {i : Nat} {a : Addr} {cls : Value} {d : Option Addr} {o : Out Fl} (h : PostS W H Wx (wipeX (some i) o.noex) D) :
    @PostS _ ⟨some (i, a, cls, d)⟩ W H noX o { nx := fun σ' H' => D.nx (σ'.set i none) H', rt := D.rt, bk := fun σ' H' => D.bk (σ'.set i none) H', ct := fun σ' H' => D.ct (σ'.set i none) H' } := by
  cases o with
  | bad => exact h
  | ex c fs r S => exact h.elim
  | ok f S =>
    cases f with
    | nx r => exact fun σ' H' W' e w en => h _ H' W' e w (envR_gone _ en)
    | bk r => exact fun σ' H' W' e w en => h _ H' W' e w (envR_gone _ en)
    | ct r => exact fun σ' H' W' e w en => h _ H' W' e w (envR_gone _ en)
    | rt v => exact fun v' H' W' e w rr => h v' H' W' e w rr
theorem hdE_ok (hx : XsI.xs = none) {hds : List ExceptHandler} {cl : List (List Nat × Option Nat × EvS)} (h : HdE X hds cl) : ∃ L, HdX X hds L ∧ ∀ (W : Wd) (H : Hp) (S : Store) (r : Env) (σ : L2.St) (D : Ends) (cls : Value) (d : Option Addr) (c : Nat) (fs : List Fc.D), Wok W H S → EnvR W H r σ → ExR W H cls d c fs → PostS W H Wx (pickX c fs r S cl) D → wCl X.K Wx D L cls d σ H := by
  induction h with
  | nil => exact ⟨[], .nil, fun W H S r σ D cls d c fs w en q h => h cls d σ H W (.refl _ _) w en q⟩
  | @plain t cvs cs g b₀ suite p hds cl T hm hsu r ih =>
    obtain ⟨L, h1, h2⟩ := ih
    refine ⟨(cvs, none, fun _ _ _ => RdS noX g) :: L, .plain T (fun a oe cls d pn _ _ => hsu a _) h1, fun W H S r σ D cls d c fs w en q h => ?_⟩
    have hcl : cls = .ref (CtI.ct.adr c) := by rw [q.1, w.ct]
    rw [pickX] at h
    refine ⟨cs.contains c, by rw [hcl]; exact hm c q.2.1, fun hb a _ => ?_, fun hb => ?_⟩
    · rw [if_pos hb, wipeX_none] at h
      exact ⟨W, S, r, w, en, PostS.noex h⟩
    · rw [if_neg (by rw [hb]; exact Bool.false_ne_true)] at h
      exact h2 W H S r σ D cls d c fs w en q h
  | @named t cvs cs g b₀ suite p n i hds cl T hm hi hln hsu r ih =>
    obtain ⟨L, h1, h2⟩ := ih
    refine ⟨(cvs, some i, fun a cls d => @RdS _ ⟨some (i, a, cls, d)⟩ noX g) :: L, .named T hi hln (fun a oe cls d pn hz hd => hsu a cls d _ ⟨oe, List.mem_cons_self, hz, hd⟩) h1, fun W H S r σ D cls d c fs w en q h => ?_⟩
    have hcl : cls = .ref (CtI.ct.adr c) := by rw [q.1, w.ct]
    rw [pickX] at h
    refine ⟨cs.contains c, by rw [hcl]; exact hm c q.2.1, fun hb a _ => ?_, fun hb => ?_⟩
    · rw [if_pos hb] at h
      exact ⟨W, S, _, w, envR_put _ hx en q, postS_named h⟩
    · rw [if_neg (by rw [hb]; exact Bool.false_ne_true)] at h
      exact h2 W H S r σ D cls d c fs w en q h
theorem st_tryX [KX X] {body : List Stmt} {h₀ : ExceptHandler} {hds : List ExceptHandler} {f : EvS} {cl : List (List Nat × Option Nat × EvS)} (hx : XsI.xs = none) (hs : X.stack = X.env :: X.outer) (hf : X.env.frame = some X.env.locals) (hN : X.N.Nodup) (tk : Takes X Wx)
    (hb : ∀ (Wx : WX) (pn : List (Addr × PySem.Obj)) (xe : Value → Shared → Prop), Takes (X.tr pn xe) Wx → PassesOwn (model X.prog X.w) X.A X.env xe → PSs (X.tr pn xe) body (RdS Wx f)) (hh : HdE X (h₀ :: hds) cl) :
    PS X (.Try body (h₀ :: hds) [] [] pos) (RdS Wx (evTryX f cl)) := by
  obtain ⟨L, h1, h2⟩ := hdE_ok (Wx := Wx) hx hh
  refine PS_imp (ps_try_cl (tb := fun Wx => RdS Wx f) hs hf hN tk hb h1) fun D σ H h => ?_
  obtain ⟨W, S, r, w, en, h⟩ := h
  refine ⟨W, S, r, w, en, ?_⟩
  unfold evTryX at h
  cases e1 : f r S with
  | bad => rw [e1] at h; exact h.elim
  | ok o S1 =>
    rw [e1] at h
    cases o <;> exact h
  | ex c' fs r1 S1 =>
    rw [e1] at h
    intro cls d σ' H' W' x1 w1 en1 q1
    exact h2 W' H' S1 r1 σ' D cls d c' fs w1 en1 q1 (PostS.ext x1 h)
end Fc

end
section
set_option autoImplicit false
set_option maxHeartbeats 1000000
/-! the text against the syntax -/
namespace Fc
open PySem PySem.Spec L2
structure Gc where
  T : List (Nat × Fd)
  blt : List Str
  glb : List (Str × D)
  cls : List (Str × Nat × Nat × Bool)
  exm : List (Str × List Nat)
  ins : List (Str × Nat × List Str)
  /-- fields of exceptions; classes for isinstance of an exception -/
  xfs : List (Nat × List Str)
  xis : List (Str × List Nat)
structure Ck where
  N : List Str
  sc : Scope
  fnb : Str → Bool
  calm : Bool
  loop : Bool
  top : Bool
  x : Option Nat
def nst : Expr → Bool
  | .Starred .. => false
  | _ => true
def nsl : Expr → Bool
  | .Slice .. => false
  | _ => true
def nse : Expr → Bool
  | .Set .. => false
  | _ => true
def nif : Expr → Bool
  | .IfExp .. => false
  | _ => true
def nif' : List Expr → Bool
  | [] => true
  | e :: es => nif e && nif' es
/-- not one of the comprehensions -/
def nco : Expr → Bool
  | .ListComp .. => false
  | .SetComp .. => false
  | .DictComp .. => false
  | _ => true
/-- o.m is not super's -/
def nca : Expr → Bool
  | .Call .. => false
  | _ => true
def plainT : Expr → Bool
  | .UnaryOp .Not _ _ => false
  | .BoolOp _ _ _ => false
  | .IfExp _ _ _ _ => false
  | .Compare _ _ _ _ => false
  | _ => true
def isM1 : Option Expr → Bool
  | some (.UnaryOp .USub (.Constant (.int 1) _ _) _) => true
  | _ => false
def dbg (x : Str) : Bool := (x == ("__debug__" : Str))
def Ck.gl (c : Ck) (x : Str) : Bool := decide (c.sc.names.lookup x = some .globalImplicit) && !dbg x
def Ck.vis (c : Ck) (x : Str) : Bool := (decide (c.sc.names.lookup x = some .local) || decide (c.sc.names.lookup x = some .cell) || decide (c.sc.names.lookup x = some .free)) && !dbg x && !(x == ("__classdict__" : Str))
def Ck.loc (c : Ck) (x : Str) : Bool := decide (c.sc.names.lookup x = some .local) || (decide (c.sc.names.lookup x = some .cell) && c.fnb x)
def Ck.lcl (c : Ck) (x : Str) : Bool := decide (c.sc.names.lookup x = some .local)
def Ck.blk (c : Ck) (scope : Scope) : Ck := { c with sc := relS scope c.sc, fnb := fun x => scope.names.lookup x == some .cell, loop := false, top := false }
def conD : Const → D → Bool
  | .int i, .int j => decide (i = j)
  | .str x, .str y => decide (x = y)
  | .bool a, .bl b => a == b
  | .none, .non => true
  | _, _ => false
def Bi.nm : Bi → Str
  | .len => "len" | .abs => "abs" | .divmod => "divmod" | .all => "all" | .sum => "sum" | .max => "max" | .min => "min" | .tuple => "tuple" | .list => "list" | .repr => "repr" | .sorted => "sorted" | .dict => "dict" | .int => "int" | .any => "any" | .strc => "str" | .boolc => "bool"
def Bi.val : Bi → Value
  | .len => .builtin "len" | .abs => .builtin "abs" | .divmod => .builtin "divmod" | .all => .builtin "all" | .sum => .builtin "sum" | .max => .builtin "max" | .min => .builtin "min" | .tuple => .type "tuple" | .list => .type "list" | .repr => .builtin "repr" | .sorted => .builtin "sorted" | .dict => .type "dict" | .int => .type "int" | .any => .builtin "any" | .strc => .type "str" | .boolc => .type "bool"
def Bi.calm : Bi → Bool
  | .all => true | .sum => true | .max => true | .min => true | .sorted => true | .dict => true | .any => true | _ => false
def Kd.src : Kd → Str
  | .non => "NoneType" | .bool => "bool" | .int => "int" | .str => "str" | .tup => "tuple" | .lst => "list" | .dic => "dict"
def ownP (N : List Str) (own : List Nat) : List (Str × Nat) := own.filterMap fun i => N[i]?.map fun x => (x, i)
def blkB (N : List Str) (sc scope : Scope) (own : List Nat) : Bool :=
  decide (scope.kind = .function) && scope.names.all (fun y => decide (scope.names.lookup y.1 = some y.2)) && (ownP N own).all (fun p => decide (N[p.2]? = some p.1)) &&
  scope.names.all (fun y => !decide (y.2 = .free) || decide (sc.names.lookup y.1 = some .cell) || decide (sc.names.lookup y.1 = some .free)) &&
  scope.names.all (fun y => !(decide (y.2 = .local) || decide (y.2 = .cell)) || decide (y.1 ∈ (ownP N own).map (·.1)) || decide (y.1 ∉ N)) && decide ((ownP N own).map (·.2) = own)
def Es.len : Es → Nat
  | .nil => 0
  | .cons _ r => r.len + 1
def Tgs.len : Tgs → Nat
  | .nil => 0
  | .cons _ r => r.len + 1
mutual
def Tg.ns : Tg → List Nat
  | .nm i => [i]
  | .tup ts => ts.ns
  | .sub _ _ => []
def Tgs.ns : Tgs → List Nat
  | .nil => []
  | .cons t r => t.ns ++ r.ns
end
def nstk : List Keyword → Bool
  | [] => true
  | ⟨nm, _, _⟩ :: r => nm.isSome && nstk r
def kwn : List Keyword → List Str
  | [] => []
  | ⟨some x, _, _⟩ :: r => x :: kwn r
  | ⟨none, _, _⟩ :: r => kwn r
section
variable (g : Gc)
def Gc.b (g : Gc) (x : Str) : Bool := g.blt.contains x
mutual
def okE (c : Ck) : E → Expr → Bool
  | .any, _ => true
  | .var i, .Name x _ => decide (c.N[i]? = some x) && c.vis x && !decide (c.x = some i)
  | .cst d, .Constant k _ _ => conD k d
  | .glb x d, .Name y _ => decide (x = y) && c.gl x && g.glb.any (fun p => decide (p.1 = x) && D.beq p.2 d)
  | .bin op a b, .BinOp ea op' eb _ => decide (op = op') && okE c a ea && okE c b eb
  | .neg a, .UnaryOp op ea _ => decide (op = .USub) && okE c a ea
  | .cmp op a b, .Compare ea ops es _ => match ops, es with
    | [op'], [eb] => decide (op = op') && okE c a ea && okE c b eb && nse eb
    | _, _ => false
  | .cmp2 o1 o2 a b d, .Compare ea ops es _ => match ops, es with
    | [p1, p2], [eb, ed] => decide (o1 = p1) && decide (o2 = p2) && okE c a ea && okE c b eb && okE c d ed && nse ed
    | _, _ => false
  | .andL es, .BoolOp op xs _ => decide (op = .And) && okEs c es xs && nif' xs && !xs.isEmpty
  | .orL es, .BoolOp op xs _ => decide (op = .Or) && okEs c es xs && nif' xs && !xs.isEmpty
  | .not_ a, .UnaryOp op ea _ => decide (op = .Not) && okE c a ea && nif ea
  | .ite d a b, .IfExp ed ea eb _ => okE c d ed && nif ed && okE c a ea && okE c b eb
  | .tup es, .Tuple xs _ _ => okEs c es xs && decide (es.len ≤ 16777216)
  | .lst es, .List xs _ => okEs c es xs && decide (es.len ≤ 16777216)
  | .dic0 _, .Dict ks vs _ => ks.isEmpty && vs.isEmpty
  | .dic1 k v, .Dict ks vs _ => match ks, vs with
    | [some ek], [ev] => okE c k ek && okE c v ev
    | _, _ => false
  | .idx a i, .Subscript ea ei _ => okE c a ea && okE c i ei && nsl ei
  | .slc a lo hi, .Subscript ea (.Slice l h st _) _ => okE c a ea && okO c lo l && okO c hi h && st.isNone
  | .rev a, .Subscript ea (.Slice l h st _) _ => okE c a ea && l.isNone && h.isNone && isM1 st
  | .revl a, .Subscript ea (.Slice l h st _) _ => okE c a ea && l.isNone && h.isNone && isM1 st
  | .new a, e => okE c a e && plainT e
  | .call f es, .Call (.Name x _) xs kws _ => c.calm && kws.isEmpty && okEs c es xs && c.gl x && (match g.T.lookup f with
    | some fd => decide (fd.nm = x) && decide (fd.kd = .glob)
    | none => false)
  | .callk f p es ks, .Call (.Name x _) xs kws _ => c.calm && okEs c es xs && okKs c ks kws && c.gl x && nstk kws && (match g.T.lookup f with
    | some fd => decide (fd.nm = x) && decide ((xs.length, kwn kws, p) ∈ fd.kws) && decide (fd.kd = .glob)
    | none => false)
  | .bi b es, .Call (.Name x _) xs kws _ => kws.isEmpty && okEs c es xs && !xs.isEmpty && decide (b.nm = x) && c.gl x && g.b x && (c.calm || !b.calm)
  | .isi T a, .Call (.Name x _) xs kws _ => match xs with
    | [ea, .Name y _] => kws.isEmpty && decide (x = "isinstance") && okE c a ea && nst ea && c.gl x && g.b x && c.gl y && g.b y && decide (T.src = y) && !decide (T = .non)
    | _ => false
  | .isO cc a, .Call (.Name x _) xs kws _ => match xs with
    | [ea, .Name y _] => kws.isEmpty && decide (x = "isinstance") && okE c a ea && nst ea && c.gl x && g.b x && c.gl y && g.ins.any (fun q => decide (q.1 = y) && decide (q.2.1 = cc))
    | _ => false
  | .eqO cc f a b, .Compare ea ops es _ => match ops, es with
    | [op'], [eb] => decide (op' = .Eq) && c.calm && okE c a ea && okE c b eb && nse eb && (match g.T.lookup f with
      | some fd => decide (fd.nm = "__eq__") && decide (fd.np = 2) && decide ((2, [], [0, 1]) ∈ fd.kws) && g.ins.any (fun q => decide (q.2.1 = cc) && decide (fd.kd = .meth q.1))
      | none => false)
    | _, _ => false
  | .sset a, .Call (.Name x _) xs kws _ => match xs with
    | [.Call (.Name y _) [ea] [] _] => kws.isEmpty && decide (x = "sorted") && decide (y = "set") && okE c a ea && nst ea && c.gl x && g.b x && c.gl y && g.b y && c.calm
    | _ => false
  | .app a e, .Call (.Attribute ea m p1) xs kws pos => match xs with
    | [eb] => kws.isEmpty && decide (m = "append") && okE c a ea && okE c e eb && nst eb && nca ea && (p1.endLine == pos.line)
    | _ => false
  | .ext a e, .Call (.Attribute ea m p1) xs kws pos => match xs with
    | [eb] => kws.isEmpty && decide (m = "extend") && okE c a ea && okE c e eb && nst eb && nca ea && (p1.endLine == pos.line)
    | _ => false
  | .get2 a k x, .Call (.Attribute ea m p1) xs kws pos => match xs with
    | [eb, ec] => kws.isEmpty && decide (m = "get") && okE c a ea && okE c k eb && okE c x ec && nst eb && nst ec && nca ea && (p1.endLine == pos.line)
    | _ => false
  | .join a e, .Call (.Attribute ea m p1) xs kws pos => match xs with
    | [eb] => kws.isEmpty && decide (m = "join") && okE c a ea && okE c e eb && nst eb && nca ea && (p1.endLine == pos.line)
    | _ => false
  | .xfl i f tb, .Attribute (.Name y _) f' _ => decide (c.x = some i) && decide (c.N[i]? = some y) && c.vis y && decide (f = f') && tb.all fun p => match g.xfs.lookup p.1 with
    | some l => decide (l[p.2]? = some f)
    | none => false
  | .xcall f i es, .Call (.Name x _) xs kws _ => match xs with
    | .Name y _ :: args => kws.isEmpty && okEs c es args && c.gl x && decide (c.x = some i) && decide (c.N[i]? = some y) && c.vis y && (match g.T.lookup f with
      | some fd => decide (fd.nm = x) && decide (fd.kd = .exc)
      | none => false)
    | _ => false
  | .xis i z cs, .Call (.Name x _) xs kws _ => match xs with
    | [.Name y _, .Name z' _] => kws.isEmpty && decide (x = "isinstance") && c.gl x && g.b x && decide (c.x = some i) && decide (c.N[i]? = some y) && c.vis y && decide (z = z') && c.gl z && decide ((z, cs) ∈ g.xis)
    | _ => false
  | .upp a, .Call (.Attribute ea m p1) xs kws pos => xs.isEmpty && kws.isEmpty && decide (m = "upper") && okE c a ea && nca ea && (p1.endLine == pos.line)
  | .cnt a e, .Call (.Attribute ea m p1) xs kws pos => match xs with
    | [eb] => kws.isEmpty && decide (m = "count") && okE c a ea && okE c e eb && nst eb && nca ea && (p1.endLine == pos.line)
    | _ => false
  | .popi a e, .Call (.Attribute ea m p1) xs kws pos => match xs with
    | [eb] => kws.isEmpty && decide (m = "pop") && okE c a ea && okE c e eb && nst eb && nca ea && (p1.endLine == pos.line)
    | _ => false
  | .idxm _ a e, .Call (.Attribute ea m p1) xs kws pos => match xs with
    | [eb] => kws.isEmpty && decide (m = "index") && okE c a ea && okE c e eb && nst eb && nca ea && (p1.endLine == pos.line)
    | _ => false
  | .lenO cc f a, .Call (.Name x _) xs kws _ => match xs with
    | [ea] => kws.isEmpty && decide (x = "len") && c.calm && okE c a ea && nst ea && c.gl x && g.b x && (match g.T.lookup f with
      | some fd => decide (fd.nm = "__len__") && decide (fd.np = 1) && decide ((1, [], [0]) ∈ fd.kws) && g.ins.any (fun q => decide (q.2.1 = cc) && decide (fd.kd = .meth q.1))
      | none => false)
    | _ => false
  | .fld cc i f a, .Attribute ea f' _ => decide (f = f') && okE c a ea && nca ea && g.ins.any (fun q => decide (q.2.1 = cc) && decide (q.2.2[i]? = some f))
  | .meth cc m f p a es ks, .Call (.Attribute ea m' p1) xs kws pos => decide (m = m') && c.calm && okE c a ea && okEs c es xs && okKs c ks kws && nca ea && (p1.endLine == pos.line) && nstk kws && decide (xs.length + kws.length < 20) && (match g.T.lookup f with
    | some fd => decide (fd.nm = m) && decide ((xs.length + 1, kwn kws, p) ∈ fd.kws) && g.ins.any (fun q => decide (q.2.1 = cc) && decide (fd.kd = .meth q.1))
    | none => false)
  | .net cc i j f es ks, .Call (.Name x _) xs kws _ => c.calm && okEs c es xs && okKs c ks kws && c.gl x && nstk kws && (match g.T.lookup f with
    | some fd => decide (fd.nm = x) && fd.isNet && decide ((xs.length + 1, kwn kws, [0, i + 1, j + 1]) ∈ fd.kws) && g.ins.any (fun q => decide (q.1 = x) && decide (q.2.1 = cc) && decide (q.2.2 = netF))
    | none => false)
  | .rngc t a, .Call (.Name x _) xs kws _ => match xs with
    | [.Call (.Name y _) [ea] [] _] => kws.isEmpty && decide (x = (match t with | true => "tuple" | false => "list")) && decide (y = "range") && okE c a ea && nst ea && c.gl x && g.b x && c.gl y && g.b y && c.calm
    | _ => false
  | .comp elt t it ifs own, .ListComp eelt gens scope _ => match gens with
    | [⟨tg, iter, eifs, k⟩] => decide (k = 0) && c.calm && blkB c.N c.sc scope own && okI c it tg iter && nse iter && okTg (c.blk scope) t tg && (t.ns.all fun i => own.contains i) && okT (c.blk scope) ifs eifs && okE (c.blk scope) elt eelt
    | _ => false
  | .comp2 elt t it ifs t2 it2 ifs2 own own2, .ListComp eelt gens scope _ => match gens with
    | [⟨tg, iter, eifs, k⟩, ⟨tg2, iter2, eifs2, k2⟩] => decide (k = 0) && decide (k2 = 0) && c.calm && blkB c.N c.sc scope own && okI c it tg iter && nse iter && okTg (c.blk scope) t tg && (t.ns.all fun i => own.contains i) && okT (c.blk scope) ifs eifs && okI (c.blk scope) it2 tg2 iter2 && nse iter2 && okTg (c.blk scope) t2 tg2 && (t2.ns.all fun i => own2.contains i) && (own2.all fun i => own.contains i) && okT (c.blk scope) ifs2 eifs2 && okE (c.blk scope) elt eelt
    | _ => false
  | _, _ => false
def okEs (c : Ck) : Es → List Expr → Bool
  | .nil, [] => true
  | .cons a r, e :: es => nst e && okE c a e && okEs c r es
  | _, _ => false
def okKs (c : Ck) : Es → List Keyword → Bool
  | .nil, [] => true
  | .cons a r, ⟨_, e, _⟩ :: es => okE c a e && okKs c r es
  | _, _ => false
def okO (c : Ck) : Eo → Option Expr → Bool
  | .none, none => true
  | .some a, some e => okE c a e
  | _, _ => false
def okT (c : Ck) : Eo → List Expr → Bool
  | .none, [] => true
  | .some a, [e] => okE c a e && nif e
  | _, _ => false
def okTg (c : Ck) : Tg → Expr → Bool
  | .nm i, .Name x _ => decide (c.N[i]? = some x) && c.loc x
  | .tup ts, .Tuple es _ _ => c.calm && okTgs c ts es
  | .sub a i, .Subscript ea ei _ => okE c a ea && okE c i ei && nsl ei
  | _, _ => false
def okTgs (c : Ck) : Tgs → List Expr → Bool
  | .nil, [] => true
  | .cons t r, e :: es => nst e && okTg c t e && okTgs c r es
  | _, _ => false
def okI (c : Ck) : It → Expr → Expr → Bool
  | .seq a, _, e => okE c a e && nco e
  | .dk a, _, e => okE c a e && nco e
  | .chr a, _, e => okE c a e && nco e
  | .rng a, _, .Call (.Name x _) xs kws _ => match xs with
    | [ea] => kws.isEmpty && decide (x = "range") && okE c a ea && nst ea && c.gl x && g.b x
    | _ => false
  | .rng2 a b, _, .Call (.Name x _) xs kws _ => match xs with
    | [ea, eb] => kws.isEmpty && decide (x = "range") && okE c a ea && okE c b eb && nst ea && nst eb && c.gl x && g.b x
    | _ => false
  | .rng3 a b d, _, .Call (.Name x _) xs kws _ => match xs with
    | [ea, eb, ed] => kws.isEmpty && decide (x = "range") && okE c a ea && okE c b eb && okE c d ed && nst ea && nst eb && nst ed && c.gl x && g.b x
    | _ => false
  | .enum a, .Tuple _ _ _, .Call (.Name x _) xs kws _ => match xs with
    | [ea] => kws.isEmpty && decide (x = "enumerate") && okE c a ea && nst ea && c.gl x && g.b x
    | _ => false
  | _, _, _ => false
end
end
end Fc

end
section
set_option autoImplicit false
set_option maxHeartbeats 1000000
/-! what is matched keeps its meaning: expressions -/
namespace Fc
open PySem PySem.Spec L2
variable [CtI] [XsI]
/-- what a def that is handed the exception in hand promises -/
def spX (np : Nat) (g : List D → Store → Out RV) : SpX := fun p vs H Q E => ∃ W S cls d c fs us ds, vs = .ref p.1 :: us ∧ Zc cls d p.2 ∧ (∃ fv, p.2.data = .fields fv) ∧ Wok W H S ∧ ExR W H cls d c fs ∧ Reps W H us ds ∧ ds.length + 1 = np ∧ PostF W H (g (xcD c fs :: ds) S) Q E
def FnXAt (X : Cx) (fd : Fd) (k : Nat) (g : List D → Store → Out RV) : Prop := ∃ (a : Addr) (dt : FuncData), X.mg fd.nm = some (.ref a) ∧ PySem.W.keepIn X.K (.ref a) = true ∧ L2.Binds X.K dt fd.ps [] ∧ FnX X.prog X.w X.K X.mg X.base (CX X.prog X.w) k a dt fd.ps (spX fd.np g)
structure Sx (g : Gc) (n : Nat) (c : Ck) (Wx : WX) (X : Cx) : Prop where
  N : X.N = c.N
  sc : X.env.scope = c.sc
  fnb : X.fn = c.fnb
  nd : X.N.Nodup
  room : c.calm = true → Room (2 * n + 5) X.A
  rooh : L2H.RoomH (2 * n + 5) X.A
  un : X.A.units + 64 < cLine
  gu : X.A.guards = some []
  tk : Takes X Wx
  calm : c.calm = true → X.calm = true
  pass : c.loop = true → PassesOwn (model X.prog X.w) X.A X.env X.xe
  kx : X.K = CtI.K
  fns : ∀ f fd, g.T.lookup f = some fd → fd.kd = .glob → FnAt X fd (2 * n + 4) (sem g.T n f)
  ins : ∀ p ∈ g.ins, X.mg p.1 = some (.ref (CtI.ct.adr p.2.1)) ∧ CtI.ct.flds p.2.1 = p.2.2 ∧ p.2.2.Nodup ∧ Cls X.K (CtI.ct.adr p.2.1) ∧ (∀ f ∈ p.2.2, NoAttr X.K (CtI.ct.adr p.2.1) f) ∧ IsoC X.K (CtI.ct.adr p.2.1)
  mths : ∀ f fd, g.T.lookup f = some fd → ∀ p ∈ g.ins, fd.kd = .meth p.1 → ∃ a dt, Meth X.K (CtI.ct.adr p.2.1) fd.nm a ∧ fd.nm ∉ p.2.2 ∧ (∀ q ∈ fd.kws, KBd X.K dt fd.ps q) ∧ FnG X.prog X.w X.K X.mg X.base (2 * n + 4) a dt fd.ps (spG fd.np (sem g.T n f))
  nets : ∀ f fd, g.T.lookup f = some fd → fd.isNet = true → ∀ p ∈ g.ins, p.1 = fd.nm → p.2.2 = netF → ∃ a dt g1 g2, Mk X.K (CtI.ct.adr p.2.1) a ∧ (∀ q ∈ fd.kws, KB X.K dt netN q) ∧ FnG X.prog X.w X.K X.mg X.base (2 * n + 3) a dt netN (spN (CtI.ct.adr p.2.1) g1 g2) ∧ ∀ d1 d2 S, sem g.T n f [d1, d2] S = packN (netO g1 g2 d1 d2 S)
  blt : ∀ x, g.b x = true → X.mg x = none
  con : ∀ p ∈ g.glb, ∃ u v, X.mg p.1 = some u ∧ RelV v u ∧ ∀ W H, Rep W H v p.2
  mks : ∀ p ∈ g.cls, MkAt X p.1 p.2.1 p.2.2.1 p.2.2.2
  exm : ∀ q ∈ g.exm, ∃ cv, X.mg q.1 = some cv ∧ ∀ c, CtI.kn c → PySem.W.exmOne X.K (.ref (CtI.ct.adr c)) cv = some (q.2.contains c)
  fr : c.top = true → X.stack = X.env :: X.outer ∧ X.env.frame = some X.env.locals
  ex : c.x = XsI.xs.map (·.1)
  cx : c.calm = true → XsI.xs = none
  pin : ∀ p, XsI.xs = some p → Pin X p.2.1 p.2.2.1 p.2.2.2
  xcf : ∀ k, CtI.kn k → XcF X.K (CtI.ct.adr k)
  xfs : ∀ q ∈ g.xfs, CtI.ct.flds q.1 = q.2 ∧ q.2.Nodup ∧ ∀ f ∈ q.2, PySem.W.findIn X.K (.ref (CtI.ct.adr q.1)) f = some none
  xis : ∀ q ∈ g.xis, ∃ (cv : Value) (cw : V), (X.mg q.1 = some cv ∨ (X.mg q.1 = none ∧ bootBuiltins q.1 = some cv ∧ q.1 ≠ "__name__")) ∧ RelV cw cv ∧ (∀ u, RelV cw u → u = cv) ∧ (∀ k, CtI.kn k → PySem.W.kitOne X.K (.ref (CtI.ct.adr k)) cv = some (q.2.contains k))
  xfn : ∀ f fd, g.T.lookup f = some fd → fd.kd = .exc → FnXAt X fd (2 * n + 4) (sem g.T n f)
section
variable {X : Cx} [KX X] {Wx : WX} {p q pos : Pos} {es : List Expr} {G : List D → Store → Out RV} {as : Evs} {fd : Fd} {k : Nat}
/-- a def is called with the exception in hand -/
theorem s_xcall {i : Nat} {y : Str} (F : FnXAt X fd k G) (hG : ∀ ds S, ds.length ≠ fd.np → G ds S = .bad) (hr : L2H.RoomH k X.A) (hgu : X.A.guards = some []) (hg : Gl X fd.nm) (tk : Takes X Wx) (hN : X.N[i]? = some y) (hv : Vis X.env.scope y) (hd : (y == ("__debug__" : Str)) = false) (hcd : (y == ("__classdict__" : Str)) = false)
    (hx : XsI.xs.map (·.1) = some i) (hp : ∀ p, XsI.xs = some p → Pin X p.2.1 p.2.2.1 p.2.2.2) (ha : PA X es (RdA Wx as)) (hdb : (fd.nm == ("__debug__" : Str)) = false) (hpl : (backTo pos (starEach es X.env)).any (·.1) = false) :
    PE X (.Call (.Name fd.nm p) (.Name y q :: es) [] pos) (Rd Wx fun r S => match xcOf r[i]? with
      | some (c, fs) => (as r S).bind fun ds S1 => (G (xcD c fs :: ds) S1).env r
      | none => .bad) := by
  obtain ⟨f, dt, hm, hk, hb, F⟩ := F
  obtain ⟨⟨j, a, cls, d⟩, hxs, ej⟩ := Option.map_eq_some_iff.mp hx
  cases ej
  obtain ⟨oe, pinned, z, fields⟩ := hp _ hxs
  refine PE_imp (pe_callX (E := WE Wx) F hr hgu pinned hg hm hk hb (passAt tk) (pa_cons (pe_var hN hv hd hcd) ha rfl) hdb rfl hpl) fun σ H Q ⟨W, S, r, w, en, h⟩ => ?_
  dsimp only at h
  split at h
  · rename_i c fs hc
    obtain ⟨a', cls', d', q1, q2, q3⟩ := xc_at en hc
    cases hxs.symm.trans q1
    refine ⟨_, q2, W, S, r, w, en, (PostL.bind h).mono fun vs H1 ⟨W1, S1, ds, e1, w1, r1, h1⟩ => ⟨W1, S1, cls, d, c, fs, vs, ds, rfl, z, fields, w1, ExR.ext0 e1.e0 q3, r1, ?_, PostF.of h1⟩⟩
    apply Decidable.byContradiction
    intro hn
    rw [hG (xcD c fs :: ds) S1 hn] at h1
    exact h1
  · exact h.elim
end
variable {g : Gc} {n : Nat} {c : Ck} {Wx : WX} {X : Cx}
theorem Sx.nox (s : Sx g n c Wx X) {i : Nat} (h : (!decide (c.x = some i)) = true) : Nox i := fun p hp e => by
  rw [s.ex, hp] at h
  simp [e] at h
theorem gl_ok (s : Sx g n c Wx X) {x : Str} (h : c.gl x = true) : Gl X x ∧ (x == ("__debug__" : Str)) = false := by
  obtain ⟨h1, h2⟩ := Bool.and_eq_true_iff.mp h
  refine ⟨?_, by simpa [dbg] using h2⟩
  show X.env.scope.names.lookup x = _
  rw [s.sc]; exact of_decide_eq_true h1
theorem vis_ok (s : Sx g n c Wx X) {x : Str} (h : c.vis x = true) : Vis X.env.scope x ∧ (x == ("__debug__" : Str)) = false ∧ (x == ("__classdict__" : Str)) = false := by
  obtain ⟨h1, h3⟩ := Bool.and_eq_true_iff.mp h
  obtain ⟨h1, h2⟩ := Bool.and_eq_true_iff.mp h1
  refine ⟨?_, by simpa [dbg] using h2, by simpa using h3⟩
  unfold Vis
  rw [s.sc]
  rcases Bool.or_eq_true_iff.mp h1 with h1 | h1
  · rcases Bool.or_eq_true_iff.mp h1 with h1 | h1
    · exact .inl (of_decide_eq_true h1)
    · exact .inr (.inl (of_decide_eq_true h1))
  · exact .inr (.inr (of_decide_eq_true h1))
theorem loc_ok (s : Sx g n c Wx X) {x : Str} (h : c.loc x = true) : Loc X.env.scope x ∧ (X.fn x = true ∨ X.env.scope.names.lookup x = some .local) := by
  unfold L2.Loc
  rw [s.sc, s.fnb]
  rcases Bool.or_eq_true_iff.mp h with h | h
  · exact ⟨.inl (of_decide_eq_true h), .inr (of_decide_eq_true h)⟩
  · obtain ⟨h1, h2⟩ := Bool.and_eq_true_iff.mp h
    exact ⟨.inr (of_decide_eq_true h1), .inl h2⟩
theorem Sx.blk (s : Sx g n c Wx X) (hcalm : c.calm = true) (sh : Shared) (H : Hp) (scope : Scope) (cl : List (Str × Addr)) (C : Addr) (fp : List Addr) : Sx g n (c.blk scope) noX (X.blk sh H scope (compEnvC scope cl C X.env) fp) := by
  refine ⟨s.N, ?_, rfl, s.nd, s.room, s.rooh, s.un, s.gu, fun u s' x => ?_, s.calm, nofun, s.kx, s.fns, s.ins, s.mths, s.nets, s.blt, s.con, s.mks, s.exm, nofun, s.ex, s.cx, fun p hp => absurd hp (by rw [s.cx hcalm]; exact nofun), s.xcf, s.xfs, s.xis, s.xfn⟩
  · show relS scope X.env.scope = relS scope c.sc
    rw [s.sc]
  · obtain ⟨_, _, _, _, _, _, _, _, _, _, _, _, _, _, _, _, z⟩ := x
    exact z.elim
theorem star_cons {e : Expr} {es : List Expr} {env : PySem.Env} (h : nst e = true) : starEach (e :: es) env = (false, eval e env) :: starEach es env := by
  cases e <;> first | rfl | cases h
theorem star_one {e : Expr} {env : PySem.Env} (h : nst e = true) : starEach [e] env = [(false, eval e env)] := star_cons h
theorem asn_cons {e : Expr} {es : List Expr} {env : PySem.Env} (h : nst e = true) : assignEach (e :: es) env = (false, assign e env) :: assignEach es env := by
  cases e <;> first | rfl | cases h
theorem okEs_star (c : Ck) : ∀ (es : Es) (xs : List Expr), okEs g c es xs = true → ∀ env pos, (backTo pos (starEach xs env)).any (·.1) = false
  | .nil, [], _, env, pos => rfl
  | .nil, _ :: _, h, _, _ => by simp [okEs] at h
  | .cons a r, [], h, _, _ => by simp [okEs] at h
  | .cons a r, e :: es, h, env, pos => by
    simp only [okEs, Bool.and_eq_true] at h
    rw [star_cons h.1.1]
    have ih := okEs_star c r es h.2 env pos
    simpa [backTo] using ih
theorem okTgs_asn (c : Ck) : ∀ (ts : Tgs) (es : List Expr), okTgs g c ts es = true → ∀ env, (assignEach es env).length = ts.len ∧ (assignEach es env).findIdx? (·.1) = none
  | .nil, [], _, env => ⟨rfl, rfl⟩
  | .nil, _ :: _, h, _ => by simp [okTgs] at h
  | .cons a r, [], h, _ => by simp [okTgs] at h
  | .cons a r, e :: es, h, env => by
    simp only [okTgs, Bool.and_eq_true] at h
    rw [asn_cons h.1.1]
    obtain ⟨h1, h2⟩ := okTgs_asn c r es h.2 env
    refine ⟨by simp [h1, Tgs.len], ?_⟩
    rw [List.findIdx?_cons]
    simp [h2]
theorem fold_ok {e : Expr} {env : PySem.Env} (h : nse e = true) (x : Value) : foldedSetIterable e env x = pure x := by
  cases e <;> first | rfl | cases h
theorem mark_ok {op : CmpOp} {e : Expr} (h : nse e = true) : behindInMarks op e = false := by
  cases e <;> first | rfl | cases h
theorem plain_ok {e : Expr} (h : nsl e = true) : PlainIx e := by
  intro o i
  cases e <;> first | rfl | cases h
theorem base_ok {e : Expr} {m : Str} {env : PySem.Env} (h : nca e = true) : attributeBase e m env (eval e env) = eval e env := by
  cases e <;> first | rfl | cases h
theorem assign_ok {ea eb : Expr} {pos : Pos} {env : PySem.Env} (h : nsl eb = true) (v : Value) : assign (.Subscript ea eb pos) env v = (do
      let ov ← holding [v] (eval ea env)
      let iv ← holding [v, ov] (eval eb env)
      standAt pos
      holding [v, ov, iv] (setItem ov iv v)
      release [v, ov, iv] []) := by
  cases eb <;> first | rfl | cases h
theorem kw_ok {env : PySem.Env} {pos : Pos} : ∀ {kws : List Keyword}, nstk kws = true → (backToKw pos (keywordEach kws env)).all (·.1.isSome) = true ∧ (backToKw pos (keywordEach kws env)).filterMap (·.1) = kwn kws ∧ (backToKw pos (keywordEach kws env)).any (·.1.isNone) = false
  | [], _ => ⟨rfl, rfl, rfl⟩
  | ⟨none, _, _⟩ :: _, h => by simp [nstk] at h
  | ⟨some x, e, p⟩ :: r, h => by
    simp only [nstk, Option.isSome_some, Bool.true_and] at h
    obtain ⟨h1, h2, h3⟩ := kw_ok (env := env) (pos := pos) h
    exact ⟨by simpa [backToKw, keywordEach] using h1, by simpa [backToKw, keywordEach, kwn] using h2, by simpa [backToKw, keywordEach] using h3⟩
theorem okKs_len0 (c : Ck) : ∀ (ks : List Keyword) {env : PySem.Env} {pos : Pos}, (backToKw pos (keywordEach ks env)).length = ks.length
  | [], _, _ => rfl
  | ⟨nm, e, p⟩ :: r, env, pos => by
    have := okKs_len0 c r (env := env) (pos := pos)
    simpa [backToKw, keywordEach] using this
theorem few_ok {c : Ck} {es : Es} {xs : List Expr} {kws : List Keyword} {env : PySem.Env} {pos : Pos} (h : okEs g c es xs = true) (hk : nstk kws = true) (hl : xs.length + kws.length < 20) : methodCallForm (xs.length + kws.length) (backTo pos (starEach xs env)) (backToKw pos (keywordEach kws env)) = true := by
  unfold methodCallForm
  obtain ⟨k1, _, _⟩ := kw_ok (env := env) (pos := pos) hk
  have h1 := okEs_star c es xs h env pos
  rw [k1]
  have h2 : (backTo pos (starEach xs env)).all (fun x => !x.1) = true := by
    rw [List.all_eq_true]
    intro x hx
    cases e : x.1 with
    | false => rfl
    | true =>
      have : (backTo pos (starEach xs env)).any (·.1) = true := List.any_eq_true.mpr ⟨x, hx, e⟩
      rw [h1] at this
      cases this
  rw [h2]
  simp only [Bool.and_self, Bool.true_and, decide_eq_true_eq]
  split <;> omega
theorem Bi.boot (b : Bi) : bootBuiltins b.nm = some b.val := by cases b <;> decide +kernel
theorem Kd.boot {T : Kd} (h : T ≠ .non) : bootBuiltins T.src = some (.type T.nm) := by
  cases T
  case non => exact absurd rfl h
  all_goals decide +kernel
theorem PW.pt {e : Expr} {t : TT} (h : PW X e t) : PT X e t := ⟨fun pins s σ H Q I q => h.run _ pins s σ H Q I q⟩
theorem s_one {op : BoolOp} {ea : Expr} {a : Ev} {pos : Pos} (h : PE X ea (Rd Wx a)) : PE X (.BoolOp op [ea] pos) (Rd Wx a) := pe_one h
theorem s_bi {b : Bi} {x0 : Expr} {es : List Expr} {as : Evs} {p pos : Pos} (s : Sx g n c Wx X) (hc : (c.calm || !b.calm) = true) (hg : c.gl b.nm = true) (hb : g.b b.nm = true) (ha : PA X (x0 :: es) (RdA Wx as)) (he : starEach (x0 :: es) X.env = (false, eval x0 X.env) :: starEach es X.env) (hpl : (backTo pos (starEach es X.env)).any (·.1) = false) :
    PE X (.Call (.Name b.nm p) (x0 :: es) [] pos) (Rd Wx fun r S => (as r S).bind fun ds S1 => b.ev ds S1) := by
  haveI : KX X := ⟨s.kx⟩
  obtain ⟨h1, h2⟩ := gl_ok s hg
  have hm := s.blt _ hb
  have hboot := b.boot
  have hn : b.nm ≠ "__name__" := by cases b <;> decide
  have cc : b.calm = true → X.calm = true := fun h => s.calm (by rw [h] at hc; simpa using hc)
  cases b
  case len => exact s_callB (id := "len") c_len h1 hm hboot ha hn h2 he hpl
  case abs => exact s_callB (id := "abs") c_abs h1 hm hboot ha hn h2 he hpl
  case divmod => exact s_callB (id := "divmod") c_divmod h1 hm hboot ha hn h2 he hpl
  case all => exact s_callB (id := "all") (c_all (cc rfl)) h1 hm hboot ha hn h2 he hpl
  case sum => exact s_callB (id := "sum") (c_sum (cc rfl)) h1 hm hboot ha hn h2 he hpl
  case max => exact s_callB (id := "max") (c_max1 s.un (cc rfl)) h1 hm hboot ha hn h2 he hpl
  case min => exact s_callB (id := "min") (c_min1 s.un (cc rfl)) h1 hm hboot ha hn h2 he hpl
  case tuple => exact s_callT (id := "tuple") c_tuple h1 hm hboot ha hn h2 he hpl
  case list => exact s_callT (id := "list") c_list h1 hm hboot ha hn h2 he hpl
  case repr => exact s_callB (id := "repr") (c_repr s.gu s.un) h1 hm hboot ha hn h2 he hpl
  case sorted => exact s_callB (id := "sorted") (c_sortedA s.un (cc rfl)) h1 hm hboot ha hn h2 he hpl
  case dict => exact s_callT (id := "dict") (c_dict (cc rfl)) h1 hm hboot ha hn h2 he hpl
  case int => exact s_callT (id := "int") c_int h1 hm hboot ha hn h2 he hpl
  case any => exact s_callB (id := "any") (c_any (cc rfl)) h1 hm hboot ha hn h2 he hpl
  case strc => exact s_callT (id := "str") c_str h1 hm hboot ha hn h2 he hpl
  case boolc => exact s_callT (id := "bool") c_bool h1 hm hboot ha hn h2 he hpl
theorem sem_len (T : List (Nat × Fd)) (n f : Nat) {fd : Fd} (h : T.lookup f = some fd) (hk : fd.isNet = false) (ds : List D) (S : Store) (hl : ds.length ≠ fd.np) : sem T n f ds S = .bad := by
  cases n with
  | zero => rw [sem]
  | succ n => rw [sem_def T n f ds S h hk]; exact if_neg hl
theorem glob_net {fd : Fd} (h : fd.kd = .glob) : fd.isNet = false := by unfold Fd.isNet; rw [h]
theorem exc_net {fd : Fd} (h : fd.kd = .exc) : fd.isNet = false := by unfold Fd.isNet; rw [h]
theorem meth_net {fd : Fd} {x : Str} (h : fd.kd = .meth x) : fd.isNet = false := by unfold Fd.isNet; rw [h]
theorem blk_ok {N : List Str} {sc scope : Scope} {own : List Nat} (h : blkB N sc scope own = true) : BlkOk N sc scope (ownP N own) ∧ (ownP N own).map (·.2) = own := by
  unfold blkB at h
  simp only [Bool.and_eq_true, decide_eq_true_eq, List.all_eq_true, Bool.or_eq_true, Bool.not_eq_true'] at h
  obtain ⟨⟨⟨⟨⟨h1, h2⟩, h3⟩, h4⟩, h5⟩, h6⟩ := h
  refine ⟨⟨h1, h2, h3, fun y hy e => ?_, fun y hy e => ?_⟩, h6⟩
  · rcases h4 y hy with (h | h) | h
    · exact absurd e (of_decide_eq_false h)
    · exact .inl h
    · exact .inr h
  · rcases h5 y hy with (h | h) | h
    · rcases e with e | e
      · rw [e] at h; simp at h
      · rw [e] at h; simp at h
    · exact .inl h
    · exact .inr h
theorem asgs_len (G : Nat → List D → Store → Out RV) : ∀ (ts : Tgs) (xs : List D) (r : Env) (S : Store) (r' : Env) (S' : Store), asgs G ts xs r S = .ok r' S' → xs.length = ts.len
  | .nil, [], _, _, _, _, _ => rfl
  | .nil, _ :: _, _, _, _, _, h => by rw [asgs] at h; cases h; all_goals nofun
  | .cons _ _, [], _, _, _, _, h => by rw [asgs] at h; cases h; all_goals nofun
  | .cons t ts, x :: xs, r, S, r', S', h => by
    rw [asgs] at h
    cases e : asg G t x r S with
    | bad => rw [e] at h; cases h
    | ex => rw [e] at h; cases h
    | ok r1 S1 =>
      rw [e] at h
      have := asgs_len G ts xs r1 S1 r' S' h
      simp [Tgs.len, this]
theorem evEs_len (G : Nat → List D → Store → Out RV) : ∀ (es : Es) (r : Env) (S : Store) (ds : List D) (S' : Store), evEs G es r S = .ok ds S' → ds.length = es.len
  | .nil, r, S, ds, S', h => by rw [evEs] at h; cases h; rfl
  | .cons e es, r, S, ds, S', h => by
    rw [evEs] at h
    cases e1 : evE G e r S with
    | bad => rw [e1] at h; cases h
    | ex => rw [e1] at h; cases h
    | ok rv S1 =>
      rw [e1] at h
      replace h : ((evEs G es r S1).bind fun ds S2 => Out.ok (rv.toD :: ds) S2) = .ok ds S' := h
      cases e2 : evEs G es r S1 with
      | bad => rw [e2] at h; cases h
      | ex => rw [e2] at h; cases h
      | ok zs S2 =>
        rw [e2] at h
        cases h
        simp [Es.len, evEs_len G es r S1 zs _ e2]
theorem okEs_len (c : Ck) : ∀ (es : Es) (xs : List Expr), okEs g c es xs = true → xs.length = es.len
  | .nil, [], _ => rfl
  | .nil, _ :: _, h => by simp [okEs] at h
  | .cons a r, [], h => by simp [okEs] at h
  | .cons a r, e :: es, h => by
    simp only [okEs, Bool.and_eq_true] at h
    simp [Es.len, okEs_len c r es h.2]
theorem okKs_len (c : Ck) : ∀ (es : Es) (xs : List Keyword), okKs g c es xs = true → nstk xs = true → (kwn xs).length = es.len
  | .nil, [], _, _ => rfl
  | .nil, _ :: _, h, _ => by simp [okKs] at h
  | .cons a r, [], h, _ => by simp [okKs] at h
  | .cons a r, ⟨none, _, _⟩ :: es, h, h' => by simp [nstk] at h'
  | .cons a r, ⟨some x, e, p⟩ :: es, h, h' => by
    simp only [okKs, Bool.and_eq_true] at h
    simp only [nstk, Option.isSome_some, Bool.true_and] at h'
    simp [Es.len, kwn, okKs_len c r es h.2 h']
end Fc

end
section
set_option autoImplicit false
set_option maxHeartbeats 2000000
namespace Fc
open PySem PySem.Spec L2
section
variable (G : Nat → List D → Store → Out RV)
theorem e_var (i : Nat) : evE G (.var i) = fun r S => match r[i]? with | some (some d) => .ok (.val d) S | _ => .bad := by funext r S; first | (rw [evE]; done) | (rw [evE]; rfl)
theorem e_cst (d : D) : evE G (.cst d) = fun _ S => .ok (.val d) S := by funext r S; rw [evE]
theorem e_glb (x : Str) (d : D) : evE G (.glb x d) = fun _ S => .ok (.val d) S := by funext r S; rw [evE]
theorem e_bin (op : Operator) (a b : E) : evE G (.bin op a b) = op2 (evBin op) (evE G a) (evE G b) := by funext r S; rw [evE]
theorem e_sset (a : E) : evE G (.sset a) = fun r S => (evE G a r S).bindD fun d S1 => evSset [d] S1 := by funext r S; first | (rw [evE]; done) | (rw [evE]; rfl)
theorem e_neg (a : E) : evE G (.neg a) = fun r S => (evE G a r S).bindD fun d S1 => match d with | .int i => .ok (.val (.int (-i))) S1 | _ => .bad := by funext r S; first | (rw [evE]; done) | (rw [evE]; rfl)
theorem e_cmp (op : CmpOp) (a b : E) : evE G (.cmp op a b) = op2 (evCmp op) (evE G a) (evE G b) := by funext r S; rw [evE]
theorem e_cmp2 (o1 o2 : CmpOp) (a b c : E) : evE G (.cmp2 o1 o2 a b c) = ev2 o1 o2 (evE G a) (evE G b) (evE G c) := by funext r S; first | (rw [evE]; done) | (rw [evE]; rfl)
theorem e_and (es : Es) : evE G (.andL es) = evAnd G es := by funext r S; rw [evE]
theorem e_or (es : Es) : evE G (.orL es) = evOr G es := by funext r S; rw [evE]
theorem e_and1 (e : E) : evAnd G (.cons e .nil) = evE G e := by funext r S; rw [evAnd]
theorem e_and2 (e e2 : E) (es : Es) : evAnd G (.cons e (.cons e2 es)) = evAnd2 (evE G e) (evAnd G (.cons e2 es)) := by funext r S; first | (rw [evAnd]; done) | (rw [evAnd]; rfl)
theorem e_or1 (e : E) : evOr G (.cons e .nil) = evE G e := by funext r S; rw [evOr]
theorem e_or2 (e e2 : E) (es : Es) : evOr G (.cons e (.cons e2 es)) = evOr2 (evE G e) (evOr G (.cons e2 es)) := by funext r S; first | (rw [evOr]; done) | (rw [evOr]; rfl)
theorem e_not (a : E) : evE G (.not_ a) = evNot1 (evE G a) := by funext r S; first | (rw [evE]; done) | (rw [evE]; rfl)
theorem e_ite (c a b : E) : evE G (.ite c a b) = evIte (evE G c) (evE G a) (evE G b) := by funext r S; first | (rw [evE]; done) | (rw [evE]; rfl)
theorem e_tup (es : Es) : evE G (.tup es) = fun r S => (evEs G es r S).bind fun ds S1 => .ok (.val (.tup ds)) S1 := by funext r S; rw [evE]
theorem e_lst (es : Es) : evE G (.lst es) = fun r S => (evEs G es r S).bind fun ds S1 => .ok (.tl ds) S1 := by funext r S; rw [evE]
theorem e_dic0 (t : Bool) : evE G (.dic0 t) = fun _ S => .ok (.td t [] []) S := by funext r S; rw [evE]
theorem e_idx (a i : E) : evE G (.idx a i) = op2 evIx (evE G a) (evE G i) := by funext r S; rw [evE]
theorem e_slc (a : E) (lo hi : Eo) : evE G (.slc a lo hi) = sl2 (evE G a) (evO G lo) (evO G hi) := by funext r S; rw [evE]
theorem e_revl (a : E) : evE G (.revl a) = fun r S => (evE G a r S).bindD evRevL := by funext r S; rw [evE]
theorem e_rev (a : E) : evE G (.rev a) = fun r S => (evE G a r S).bindD evRev := by funext r S; rw [evE]
theorem e_new (a : E) : evE G (.new a) = fun r S => (evE G a r S).bind evNew := by funext r S; rw [evE]
theorem e_call (f : Nat) (es : Es) : evE G (.call f es) = fun r S => (evEs G es r S).bind fun ds S1 => (G f ds S1).env r := by funext r S; rw [evE]
theorem e_callk (f : Nat) (p : List Nat) (es ks : Es) : evE G (.callk f p es ks) = evCallk p (evEs G es) (evEs G ks) (G f) := by funext r S; first | (rw [evE]; done) | (rw [evE]; rfl)
theorem e_bi (b : Bi) (es : Es) : evE G (.bi b es) = fun r S => (evEs G es r S).bind fun ds S1 => b.ev ds S1 := by funext r S; rw [evE]
theorem e_any : evE G .any = fun _ _ => .bad := by funext r S; rw [evE]
theorem e_isO (c : Nat) (a : E) : evE G (.isO c a) = fun r S => (evE G a r S).bindD fun d S1 => evIsO c d S1 := by funext r S; rw [evE]
theorem e_eqO (c f : Nat) (a b : E) : evE G (.eqO c f a b) = op2 (evEqO c (G f)) (evE G a) (evE G b) := by funext r S; rw [evE]
theorem e_idxm (t : Bool) (a e : E) : evE G (.idxm t a e) = evIndex2 t (evE G a) (evE G e) := by funext r S; rw [evE]
theorem e_lenO (c f : Nat) (a : E) : evE G (.lenO c f a) = fun r S => (evE G a r S).bindD (evLenO c (G f)) := by funext r S; rw [evE]
theorem e_isi (T : Kd) (a : E) : evE G (.isi T a) = isi1 T (evE G a) := by funext r S; rw [evE]
theorem e_ext (a e : E) : evE G (.ext a e) = evExt2 (evE G a) (evE G e) := by funext r S; rw [evE]
theorem e_get2 (a k x : E) : evE G (.get2 a k x) = evGet2 (evE G a) (evE G k) (evE G x) := by funext r S; rw [evE]
theorem e_dic1 (k v : E) : evE G (.dic1 k v) = evDic1 (evE G k) (evE G v) := by funext r S; rw [evE]
theorem e_rngc (t : Bool) (a : E) : evE G (.rngc t a) = fun r S => (evE G a r S).bindD (evRng t) := by funext r S; rw [evE]
theorem e_join (a e : E) : evE G (.join a e) = evJoin2 (evE G a) (evE G e) := by funext r S; rw [evE]
theorem e_cnt (a e : E) : evE G (.cnt a e) = evCnt2 (evE G a) (evE G e) := by funext r S; rw [evE]
theorem e_popi (a e : E) : evE G (.popi a e) = evPop2 (evE G a) (evE G e) := by funext r S; rw [evE]
theorem e_fld (c i : Nat) (f : Str) (a : E) : evE G (.fld c i f a) = fun r S => (evE G a r S).bindD (evFld c i) := by funext r S; rw [evE]
theorem e_meth (c : Nat) (m : Str) (f : Nat) (p : List Nat) (a : E) (es ks : Es) : evE G (.meth c m f p a es ks) = evMeth c p (evE G a) (evEs G es) (evEs G ks) (G f) := by funext r S; rw [evE]
theorem e_net (c i j f : Nat) (es ks : Es) : evE G (.net c i j f es ks) = evNetG c i j (G f) (evEs G es) (evEs G ks) := by funext r S; rw [evE]
theorem e_app (a e : E) : evE G (.app a e) = evApp2 (evE G a) (evE G e) := by funext r S; rw [evE]
theorem e_comp (elt : E) (t : Tg) (it : It) (ifs : Eo) (own : List Nat) : evE G (.comp elt t it ifs own) = evComp (evI G it) (asg G t) (evT G ifs) (evE G elt) own := by
  funext r S; first | (rw [evE]; done) | (rw [evE]; rfl)
theorem e_comp2 (elt : E) (t : Tg) (it : It) (ifs : Eo) (t2 : Tg) (it2 : It) (ifs2 : Eo) (own own2 : List Nat) : evE G (.comp2 elt t it ifs t2 it2 ifs2 own own2) = evComp2 (evI G it) (asg G t) (evT G ifs) (evI G it2) (asg G t2) (evT G ifs2) (evE G elt) own own2 := by
  funext r S; first | (rw [evE]; done) | (rw [evE]; rfl)
theorem e_xfl (i : Nat) (f : Str) (tb : List (Nat × Nat)) : evE G (.xfl i f tb) = fun r S => evXf i tb r S := by funext r S; rw [evE]
theorem e_xis (i : Nat) (y : Str) (cs : List Nat) : evE G (.xis i y cs) = fun r S => evXis i cs r S := by funext r S; rw [evE]
theorem e_xcall (f i : Nat) (es : Es) : evE G (.xcall f i es) = fun r S => match xcOf r[i]? with
    | some (c, fs) => (evEs G es r S).bind fun ds S1 => (G f (xcD c fs :: ds) S1).env r
    | none => .bad := by funext r S; first | (rw [evE]; done) | (rw [evE]; rfl)
theorem e_upp (a : E) : evE G (.upp a) = fun r S => (evE G a r S).bindD evUpp := by funext r S; rw [evE]
theorem es_nil : evEs G .nil = fun _ S => .ok [] S := by funext r S; rw [evEs]
theorem es_cons (e : E) (es : Es) : evEs G (.cons e es) = evCons (evE G e) (evEs G es) := by funext r S; first | (rw [evEs]; done) | (rw [evEs]; rfl)
theorem o_none : evO G .none = none := by rw [evO]
theorem o_some (e : E) : evO G (.some e) = some (evE G e) := by rw [evO]
theorem t_none : evT G .none = fun _ S => .ok true S := by funext r S; rw [evT]
theorem t_some (e : E) : evT G (.some e) = fun r S => (evE G e r S).bindD fun d S1 => match d with | .bl b => .ok b S1 | _ => .bad := by funext r S; first | (rw [evT]; done) | (rw [evT]; rfl)
theorem g_nm (i : Nat) : asg G (.nm i) = fun d r S => .ok (r.set i (some d)) S := by funext d r S; rw [asg]
theorem g_tp (ts : Tgs) : asg G (.tup ts) = fun d r S => match d with | .tup xs => asgs G ts xs r S | .lst xs => asgs G ts xs r S | .pr xs => asgs G ts xs r S | _ => .bad := by
  funext d r S
  cases d <;> first | (rw [asg]; done) | (rw [asg]; all_goals nofun)
theorem g_sb (a i : E) : asg G (.sub a i) = fun d r S => (evE G a r S).noex.bindD fun o S1 => (evE G i r S1).noex.bindD fun k S2 => (evSet o k d S2).bind fun _ S3 => .ok r S3 := by funext d r S; rw [asg]
theorem gs_n : asgs G .nil = fun ds r S => match ds with | [] => .ok r S | _ => .bad := by
  funext ds r S
  cases ds with
  | nil => rw [asgs]
  | cons d ds => rw [asgs]; all_goals nofun
theorem gs_c (t : Tg) (ts : Tgs) : asgs G (.cons t ts) = asgCons (asg G t) (asgs G ts) := by
  funext ds r S
  cases ds with
  | nil => rw [asgs]; rfl; all_goals nofun
  | cons d ds => first | (rw [asgs]; done) | (rw [asgs]; rfl)
theorem i_seq (e : E) : evI G (.seq e) = fun r S => (evE G e r S).bindD fun d S1 => match seqF d with | some xs => .ok xs S1 | none => .bad := by funext r S; first | (rw [evI]; done) | (rw [evI]; rfl)
theorem i_dk (e : E) : evI G (.dk e) = fun r S => (evE G e r S).bindD fun d S1 => match keysF d with | some xs => .ok xs S1 | none => .bad := by funext r S; first | (rw [evI]; done) | (rw [evI]; rfl)
theorem i_chr (e : E) : evI G (.chr e) = fun r S => (evE G e r S).bindD fun d S1 => match chrs d with | some xs => .ok xs S1 | none => .bad := by funext r S; first | (rw [evI]; done) | (rw [evI]; rfl)
theorem i_rng (e : E) : evI G (.rng e) = fun r S => (evE G e r S).bindD fun d S1 => match d with
      | .int n => if n ≤ 16777216 ∧ -16777216 ≤ n then .ok ((List.range n.toNat).map fun (i : Nat) => D.int i) S1 else .bad
      | _ => .bad := by funext r S; first | (rw [evI]; done) | (rw [evI]; rfl)
theorem i_rng2 (a b : E) : evI G (.rng2 a b) = fun r S => (evE G a r S).bindD fun d S1 => (evE G b r S1).bindD fun e S2 => match rng3D d e (.int 1) with
    | some xs => .ok xs S2
    | none => .bad := by funext r S; first | (rw [evI]; done) | (rw [evI]; rfl)
theorem i_rng3 (a b k : E) : evI G (.rng3 a b k) = fun r S => (evE G a r S).bindD fun d S1 => (evE G b r S1).bindD fun e S2 => (evE G k r S2).bindD fun f S3 => match rng3D d e f with
    | some xs => .ok xs S3
    | none => .bad := by funext r S; first | (rw [evI]; done) | (rw [evI]; rfl)
theorem i_enum (e : E) : evI G (.enum e) = fun r S => (evE G e r S).bindD fun d S1 => match seqF d with | some xs => .ok (pairsE xs) S1 | none => .bad := by funext r S; first | (rw [evI]; done) | (rw [evI]; rfl)
end
end Fc

end
section
set_option autoImplicit false
set_option maxHeartbeats 2000000
namespace Fc
open PySem PySem.Spec L2
variable [CtI] [XsI]
variable {g : Gc} {n : Nat}
theorem isT_ok {e : Expr} {env : PySem.Env} (h : plainT e = true) : ∀ whole, isTrue e env whole = (do let v ← whole; standAt e.pos; holding [v] (truthy v)) := by
  intro whole
  cases e
  case UnaryOp op a p => cases op <;> first | rfl | cases h
  all_goals first | rfl | cases h
theorem both {X : Cx} {Wx : WX} {e : Expr} {a : Ev} (h : PE X e (Rd Wx a)) (hs : plainT e = true) : PE X e (Rd Wx a) ∧ (nif e = true → PT X e (Rt Wx a)) :=
  ⟨h, fun _ => pt_val h (isT_ok hs)⟩
theorem bi_and {a b : Bool} (h : (a && b) = true) : a = true ∧ b = true := Bool.and_eq_true_iff.mp h
theorem dt {p : Prop} [Decidable p] (h : decide p = true) : p := of_decide_eq_true h
theorem ntrue {b : Bool} (h : (!b) = true) : b = false := by cases b <;> first | rfl | cases h
theorem con_ok {X : Cx} [KX X] {k : Const} {d : D} {i : Nat} {p : Pos} {Wx : WX} (h : conD k d = true) : PE X (.Constant k i p) (Rd Wx fun _ S => .ok (.val d) S) := by
  unfold conD at h
  split at h
  · rw [dt h]; exact s_con pe_int fun _ _ => .int _
  · rw [dt h]; exact s_con pe_str fun _ _ => .str _
  · rw [eq_of_beq h]; exact s_con pe_bl fun _ _ => .bl _
  · exact s_con pe_non fun _ _ => .non
  · cases h
mutual
theorem mE : ∀ (a : E) {c : Ck} {X : Cx} {Wx : WX}, Sx g n c Wx X → ∀ {e : Expr}, okE g c a e = true → PE X e (Rd Wx (evE (sem g.T n) a)) ∧ (nif e = true → PT X e (Rt Wx (evE (sem g.T n) a)))
  | .var i, c, X, Wx, s, e, h => by
    haveI : KX X := ⟨s.kx⟩
    cases e
    case Name x p =>
      obtain ⟨h0, h3⟩ := bi_and (show ((decide (c.N[i]? = some x) && c.vis x) && !decide (c.x = some i)) = true from h)
      obtain ⟨h1, h2⟩ := bi_and h0
      obtain ⟨v1, v2, v3⟩ := vis_ok s h2
      rw [e_var]
      exact both (s_var (s.nox h3) (by rw [s.N]; exact dt h1) v1 v2 v3) rfl
    all_goals cases h
  | .cst d, c, X, Wx, s, e, h => by
    haveI : KX X := ⟨s.kx⟩
    cases e
    case Constant k j p =>
      rw [e_cst]
      exact both (con_ok h) rfl
    all_goals cases h
  | .glb x d, c, X, Wx, s, e, h => by
    haveI : KX X := ⟨s.kx⟩
    cases e
    case Name y p =>
      obtain ⟨h1, h2⟩ := bi_and (show ((decide (x = y) && c.gl x) && g.glb.any (fun p => decide (p.1 = x) && D.beq p.2 d)) = true from h)
      obtain ⟨h3, h4⟩ := bi_and h1
      have e1 := dt h3
      subst e1
      obtain ⟨q1, q2⟩ := gl_ok s h4
      obtain ⟨z, hz, hz2⟩ := List.any_eq_true.mp h2
      obtain ⟨hz3, hz4⟩ := bi_and hz2
      obtain ⟨u, v, hm, hr, hR⟩ := s.con z hz
      rw [dt hz3] at hm
      have e2 := D.beq_ok hz4
      rw [e_glb]
      exact both (s_con (pe_glob q1 hm hr q2) (by rw [← e2]; exact hR)) rfl
    all_goals cases h
  | .bin op a b, c, X, Wx, s, e, h => by
    haveI : KX X := ⟨s.kx⟩
    cases e
    case BinOp ea op' eb p =>
      obtain ⟨h1, h2⟩ := bi_and (show ((decide (op = op') && okE g c a ea) && okE g c b eb) = true from h)
      obtain ⟨h3, h4⟩ := bi_and h1
      have e1 := dt h3
      subst e1
      rw [e_bin]
      exact both (s_bin (mE a s h4).1 (mE b s h2).1) rfl
    all_goals cases h
  | .neg a, c, X, Wx, s, e, h => by
    haveI : KX X := ⟨s.kx⟩
    cases e
    case UnaryOp op ea p =>
      obtain ⟨h1, h2⟩ := bi_and (show (decide (op = .USub) && okE g c a ea) = true from h)
      have e1 := dt h1
      subst e1
      rw [e_neg]
      exact both (s_neg (mE a s h2).1) rfl
    all_goals cases h
  | .cmp op a b, c, X, Wx, s, e, h => by
    haveI : KX X := ⟨s.kx⟩
    cases e
    case Compare ea ops es p =>
      match ops, es, h with
      | [op'], [eb], h =>
        obtain ⟨h1, h2⟩ := bi_and (show (((decide (op = op') && okE g c a ea) && okE g c b eb) && nse eb) = true from h)
        obtain ⟨h3, h4⟩ := bi_and h1
        obtain ⟨h5, h6⟩ := bi_and h3
        have e1 := dt h5
        subst e1
        rw [e_cmp]
        exact ⟨s_cmp s.un (mE a s h6).1 (mE b s h4).1 (mark_ok h2), fun _ => t_cmp s.un (mE a s h6).1 (mE b s h4).1 (mark_ok h2)⟩
      | [], _, h => cases h
      | [_], [], h => cases h
      | [_], _ :: _ :: _, h => cases h
      | _ :: _ :: _, [], h => cases h
      | _ :: _ :: _, _ :: _, h => cases h
    all_goals cases h
  | .cmp2 o1 o2 a b d, c, X, Wx, s, e, h => by
    haveI : KX X := ⟨s.kx⟩
    cases e
    case Compare ea ops es p =>
      match ops, es, h with
      | [p1, p2], [eb, ed], h =>
        obtain ⟨h1, h2⟩ := bi_and (show (((((decide (o1 = p1) && decide (o2 = p2)) && okE g c a ea) && okE g c b eb) && okE g c d ed) && nse ed) = true from h)
        obtain ⟨h3, h4⟩ := bi_and h1
        obtain ⟨h5, h6⟩ := bi_and h3
        obtain ⟨h7, h8⟩ := bi_and h5
        obtain ⟨h9, h10⟩ := bi_and h7
        have e1 := dt h9
        have e2 := dt h10
        subst e1 e2
        rw [e_cmp2]
        exact ⟨s_cmp2 s.un (mE a s h8).1 (mE b s h6).1 (mE d s h4).1 (mark_ok (op := o2) h2), fun _ => t_cmp2 s.un (mE a s h8).1 (mE b s h6).1 (mE d s h4).1 (mark_ok (op := o2) h2)⟩
      | [], _, h => cases h
      | [_], _, h => cases h
      | _ :: _ :: _ :: _, _, h => cases h
      | [_, _], [], h => cases h
      | [_, _], [_], h => cases h
      | [_, _], _ :: _ :: _ :: _, h => cases h
    all_goals cases h
  | .andL es, c, X, Wx, s, e, h => by
    haveI : KX X := ⟨s.kx⟩
    cases e
    case BoolOp op xs p =>
      obtain ⟨h1, h2⟩ := bi_and (show (((decide (op = .And) && okEs g c es xs) && nif' xs) && !xs.isEmpty) = true from h)
      obtain ⟨h3, h4⟩ := bi_and h1
      obtain ⟨h5, h6⟩ := bi_and h3
      have e1 := dt h5
      subst e1
      rw [e_and]
      obtain ⟨q1, q2⟩ := mAnd es s (p := p) h6 h4 (fun z => by subst z; cases h2)
      exact ⟨q1, fun _ => PW.pt q2⟩
    all_goals cases h
  | .orL es, c, X, Wx, s, e, h => by
    haveI : KX X := ⟨s.kx⟩
    cases e
    case BoolOp op xs p =>
      obtain ⟨h1, h2⟩ := bi_and (show (((decide (op = .Or) && okEs g c es xs) && nif' xs) && !xs.isEmpty) = true from h)
      obtain ⟨h3, h4⟩ := bi_and h1
      obtain ⟨h5, h6⟩ := bi_and h3
      have e1 := dt h5
      subst e1
      rw [e_or]
      obtain ⟨q1, q2⟩ := mOr es s (p := p) h6 h4 (fun z => by subst z; cases h2)
      exact ⟨q1, fun _ => PW.pt q2⟩
    all_goals cases h
  | .not_ a, c, X, Wx, s, e, h => by
    haveI : KX X := ⟨s.kx⟩
    cases e
    case UnaryOp op ea p =>
      obtain ⟨h1, h2⟩ := bi_and (show ((decide (op = .Not) && okE g c a ea) && nif ea) = true from h)
      obtain ⟨h3, h4⟩ := bi_and h1
      have e1 := dt h3
      subst e1
      rw [e_not]
      exact ⟨s_not (mE a s h4).1, fun _ => t_not ((mE a s h4).2 h2)⟩
    all_goals cases h
  | .ite d a b, c, X, Wx, s, e, h => by
    haveI : KX X := ⟨s.kx⟩
    cases e
    case IfExp ed ea eb p =>
      obtain ⟨h1, h2⟩ := bi_and (show (((okE g c d ed && nif ed) && okE g c a ea) && okE g c b eb) = true from h)
      obtain ⟨h3, h4⟩ := bi_and h1
      obtain ⟨h5, h6⟩ := bi_and h3
      rw [e_ite]
      exact ⟨s_ite ((mE d s h5).2 h6) (mE a s h4).1 (mE b s h2).1, nofun⟩
    all_goals cases h
  | .tup es, c, X, Wx, s, e, h => by
    haveI : KX X := ⟨s.kx⟩
    cases e
    case Tuple xs k p =>
      obtain ⟨h1, h2⟩ := bi_and (show (okEs g c es xs && decide (es.len ≤ 16777216)) = true from h)
      rw [e_tup]
      exact both (s_tup (mEs es s h1) fun r S ds S' q => by rw [evEs_len _ _ _ _ _ _ q]; exact dt h2) rfl
    all_goals cases h
  | .lst es, c, X, Wx, s, e, h => by
    haveI : KX X := ⟨s.kx⟩
    cases e
    case List xs p =>
      obtain ⟨h1, h2⟩ := bi_and (show (okEs g c es xs && decide (es.len ≤ 16777216)) = true from h)
      rw [e_lst]
      exact both (s_lst (mEs es s h1) fun r S ds S' q => by rw [evEs_len _ _ _ _ _ _ q]; exact dt h2) rfl
    all_goals cases h
  | .dic0 t, c, X, Wx, s, e, h => by
    haveI : KX X := ⟨s.kx⟩
    cases e
    case Dict ks vs p =>
      obtain ⟨h1, h2⟩ := bi_and (show (ks.isEmpty && vs.isEmpty) = true from h)
      rw [List.isEmpty_iff] at h1 h2
      subst h1 h2
      rw [e_dic0]
      exact both s_dic0 rfl
    all_goals cases h
  | .idx a i, c, X, Wx, s, e, h => by
    haveI : KX X := ⟨s.kx⟩
    cases e
    case Subscript ea ei p =>
      obtain ⟨h1, h2⟩ := bi_and (show ((okE g c a ea && okE g c i ei) && nsl ei) = true from h)
      obtain ⟨h3, h4⟩ := bi_and h1
      rw [e_idx]
      exact both (s_idx s.un (mE a s h3).1 (mE i s h4).1 (plain_ok h2)) rfl
    all_goals cases h
  | .slc a lo hi, c, X, Wx, s, e, h => by
    haveI : KX X := ⟨s.kx⟩
    cases e
    case Subscript ea ei p =>
      cases ei
      case Slice l hh st p2 =>
        obtain ⟨h1, h2⟩ := bi_and (show (((okE g c a ea && okO g c lo l) && okO g c hi hh) && st.isNone) = true from h)
        obtain ⟨h3, h4⟩ := bi_and h1
        obtain ⟨h5, h6⟩ := bi_and h3
        cases st with
        | some _ => cases h2
        | none =>
          rw [e_slc]
          exact both (pe_sl (mE a s h5).1 (mO lo s h6) (mO hi s h4)) rfl
      all_goals cases h
    all_goals cases h
  | .rev a, c, X, Wx, s, e, h => by
    haveI : KX X := ⟨s.kx⟩
    cases e
    case Subscript ea ei p =>
      cases ei
      case Slice l hh st p2 =>
        obtain ⟨h1, h2⟩ := bi_and (show (((okE g c a ea && l.isNone) && hh.isNone) && isM1 st) = true from h)
        obtain ⟨h3, h4⟩ := bi_and h1
        obtain ⟨h5, h6⟩ := bi_and h3
        cases l with
        | some _ => cases h6
        | none =>
          cases hh with
          | some _ => cases h4
          | none =>
            rw [e_rev]
            unfold isM1 at h2
            split at h2
            · exact both (s_rev (mE a s h5).1) rfl
            · cases h2
      all_goals cases h
    all_goals cases h
  | .revl a, c, X, Wx, s, e, h => by
    haveI : KX X := ⟨s.kx⟩
    cases e
    case Subscript ea ei p =>
      cases ei
      case Slice l hh st p2 =>
        obtain ⟨h1, h2⟩ := bi_and (show (((okE g c a ea && l.isNone) && hh.isNone) && isM1 st) = true from h)
        obtain ⟨h3, h4⟩ := bi_and h1
        obtain ⟨h5, h6⟩ := bi_and h3
        cases l with
        | some _ => cases h6
        | none =>
          cases hh with
          | some _ => cases h4
          | none =>
            rw [e_revl]
            unfold isM1 at h2
            split at h2
            · exact both (s_revl (mE a s h5).1) rfl
            · cases h2
      all_goals cases h
    all_goals cases h
  | .new a, c, X, Wx, s, e, h => by
    obtain ⟨h1, h2⟩ := bi_and (show (okE g c a e && plainT e) = true from by unfold okE at h; exact h)
    haveI : KX X := ⟨s.kx⟩
    rw [e_new]
    exact both (s_new (mE a s h1).1) h2
  | .call f es, c, X, Wx, s, e, h => by
    haveI : KX X := ⟨s.kx⟩
    cases e
    case Call fn xs kws p =>
      cases fn
      case Name x p1 =>
        cases kws with
        | cons _ _ => simp [okE] at h
        | nil =>
        obtain ⟨h1, h2⟩ := bi_and (show ((((c.calm && ([] : List Keyword).isEmpty) && okEs g c es xs) && c.gl x) && (match g.T.lookup f with
            | some fd => decide (fd.nm = x) && decide (fd.kd = .glob)
            | none => false)) = true from h)
        obtain ⟨h3, h4⟩ := bi_and h1
        obtain ⟨h5, h6⟩ := bi_and h3
        obtain ⟨h7, _⟩ := bi_and h5
        obtain ⟨q1, q2⟩ := gl_ok s h4
        split at h2
        · rename_i fd hf
          obtain ⟨h2, hkd⟩ := bi_and h2
          have hkd := dt hkd
          have e1 := dt h2
          subst e1
          have F := s.fns f fd hf hkd
          rw [e_call]
          cases es with
          | nil =>
            cases xs with
            | cons _ _ => simp [okEs] at h6
            | nil =>
              rw [es_nil]
              exact both (s_call0 F (fun ds S hl => sem_len _ _ _ hf (glob_net hkd) ds S hl) ((s.room h7).mono (by omega)) s.gu q1 s.tk q2) rfl
          | cons a0 es0 =>
            cases xs with
            | nil => simp [okEs] at h6
            | cons x0 xs0 =>
              have h6' := h6
              simp only [okEs, Bool.and_eq_true] at h6'
              exact both (s_call F (fun ds S hl => sem_len _ _ _ hf (glob_net hkd) ds S hl) ((s.room h7).mono (by omega)) s.gu q1 s.tk (mEs (.cons a0 es0) s h6) q2 (star_cons h6'.1.1) (okEs_star c es0 xs0 h6'.2 _ _)) rfl
        · cases h2
      all_goals cases h
    all_goals cases h
  | .callk f pm es ks, c, X, Wx, s, e, h => by
    haveI : KX X := ⟨s.kx⟩
    cases e
    case Call fn xs kws p =>
      cases fn
      case Name x p1 =>
        obtain ⟨h1, h2⟩ := bi_and (show (((((c.calm && okEs g c es xs) && okKs g c ks kws) && c.gl x) && nstk kws) && (match g.T.lookup f with
            | some fd => decide (fd.nm = x) && decide ((xs.length, kwn kws, pm) ∈ fd.kws) && decide (fd.kd = .glob)
            | none => false)) = true from h)
        obtain ⟨h3, hk⟩ := bi_and h1
        obtain ⟨h3, h4⟩ := bi_and h3
        obtain ⟨h5, h6⟩ := bi_and h3
        obtain ⟨h7, h8⟩ := bi_and h5
        obtain ⟨q1, q2⟩ := gl_ok s h4
        obtain ⟨k1, k2, k3⟩ := kw_ok (env := X.env) (pos := p) hk
        split at h2
        · rename_i fd hf
          obtain ⟨h2, hkd⟩ := bi_and h2
          have hkd := dt hkd
          obtain ⟨h9, h10⟩ := bi_and h2
          have e1 := dt h9
          subst e1
          have hq := dt h10
          have F := s.fns f fd hf hkd
          have lk : RdA_len (evEs (sem g.T n) ks) (kwn kws).length := fun r S ds S' q => by rw [evEs_len _ _ _ _ _ _ q, okKs_len c ks kws h6 hk]
          rw [e_callk]
          cases es with
          | nil =>
            cases xs with
            | cons _ _ => simp [okEs] at h8
            | nil =>
              rw [es_nil]
              exact both (s_callk0 F (fun ds S hl => sem_len _ _ _ hf (glob_net hkd) ds S hl) ((s.room h7).mono (by omega)) s.gu q1 s.tk hq (mKs ks s h6) lk k1 k2 q2 k3) rfl
          | cons a0 es0 =>
            cases xs with
            | nil => simp [okEs] at h8
            | cons x0 xs0 =>
              have h8' := h8
              simp only [okEs, Bool.and_eq_true] at h8'
              have la : RdA_len (evEs (sem g.T n) (.cons a0 es0)) (x0 :: xs0).length := fun r S ds S' q => by rw [evEs_len _ _ _ _ _ _ q, okEs_len c _ _ h8]
              exact both (s_callk F (fun ds S hl => sem_len _ _ _ hf (glob_net hkd) ds S hl) ((s.room h7).mono (by omega)) s.gu q1 s.tk hq (mEs (.cons a0 es0) s h8) (mKs ks s h6) la lk k1 k2 q2 (star_cons h8'.1.1) (by rw [okEs_star c _ _ h8, k3]; rfl)) rfl
        · cases h2
      all_goals cases h
    all_goals cases h
  | .bi b es, c, X, Wx, s, e, h => by
    haveI : KX X := ⟨s.kx⟩
    cases e
    case Call fn xs kws p =>
      cases fn
      case Name x p1 =>
        obtain ⟨h1, h2⟩ := bi_and (show ((((((kws.isEmpty && okEs g c es xs) && !xs.isEmpty) && decide (b.nm = x)) && c.gl x) && g.b x) && (c.calm || !b.calm)) = true from h)
        obtain ⟨h3, h4⟩ := bi_and h1
        obtain ⟨h5, h6⟩ := bi_and h3
        obtain ⟨h7, h8⟩ := bi_and h5
        obtain ⟨h9, h10⟩ := bi_and h7
        obtain ⟨h11, h12⟩ := bi_and h9
        have e1 := dt h8
        subst e1
        rw [List.isEmpty_iff] at h11
        subst h11
        rw [e_bi]
        cases es with
        | nil =>
          cases xs with
          | cons _ _ => simp [okEs] at h12
          | nil => cases h10
        | cons a0 es0 =>
          cases xs with
          | nil => simp [okEs] at h12
          | cons x0 xs0 =>
            have h6' := h12
            simp only [okEs, Bool.and_eq_true] at h6'
            exact both (s_bi s h2 h6 h4 (mEs (.cons a0 es0) s h12) (star_cons h6'.1.1) (okEs_star c es0 xs0 h6'.2 _ _)) rfl
      all_goals cases h
    all_goals cases h
  | .sset a, c, X, Wx, s, e, h => by
    haveI : KX X := ⟨s.kx⟩
    cases e
    case Call fn xs kws p =>
      cases fn
      case Name x p1 =>
        simp only [okE] at h
        split at h
        · rename_i y p2 ea p3
          simp only [Bool.and_eq_true, decide_eq_true_eq] at h
          obtain ⟨⟨⟨⟨⟨⟨⟨⟨⟨h1, rfl⟩, rfl⟩, h4⟩, h5⟩, h6⟩, h7⟩, h8⟩, h9⟩, h10⟩ := h
          rw [List.isEmpty_iff] at h1
          subst h1
          rw [e_sset]
          exact both (s_sset (s.calm h10) (gl_ok s h6).1 (s.blt _ h7) (gl_ok s h8).1 (s.blt _ h9) (mE a s h4).1 (star_cons h5)) rfl
        · cases h
      all_goals cases h
    all_goals cases h
  | .isi T a, c, X, Wx, s, e, h => by
    haveI : KX X := ⟨s.kx⟩
    cases e
    case Call fn xs kws p =>
      cases fn
      case Name x p1 =>
        match xs, h with
        | [], h => cases h
        | [_], h => cases h
        | _ :: _ :: _ :: _, h => simp [okE] at h
        | [ea, en], h =>
          cases en
          case Name y p2 =>
            obtain ⟨h1, h2⟩ := bi_and (show (((((((((kws.isEmpty && decide (x = "isinstance")) && okE g c a ea) && nst ea) && c.gl x) && g.b x) && c.gl y) && g.b y) && decide (T.src = y)) && !decide (T = .non)) = true from h)
            obtain ⟨h3, h4⟩ := bi_and h1
            obtain ⟨h5, h6⟩ := bi_and h3
            obtain ⟨h7, h8⟩ := bi_and h5
            obtain ⟨h9, h10⟩ := bi_and h7
            obtain ⟨h11, h12⟩ := bi_and h9
            obtain ⟨h13, h14⟩ := bi_and h11
            obtain ⟨h15, h16⟩ := bi_and h13
            obtain ⟨h17, h18⟩ := bi_and h15
            have e1 := dt h18
            have e2 := dt h4
            subst e1 e2
            rw [List.isEmpty_iff] at h17
            subst h17
            have hT : T ≠ .non := by
              intro z
              subst z
              cases h2
            rw [e_isi]
            refine both (pe_isi (mE a s h16).1 (gl_ok s h12).1 (s.blt _ h10) (gl_ok s h8).1 (s.blt _ h6) (Kd.boot hT) (by cases T <;> decide) (gl_ok s h8).2 ?_) rfl
            rw [star_cons h14]; rfl
          all_goals cases h
      all_goals cases h
    all_goals cases h
  | .any, c, X, Wx, s, e, h => by
    rw [e_any]
    exact ⟨⟨fun pins s σ H Q I z => let ⟨_, _, _, _, _, z⟩ := z; False.elim z⟩, fun _ => ⟨fun pins s σ H Q I z => let ⟨_, _, _, _, _, z⟩ := z; False.elim z⟩⟩
  | .isO cc a, c, X, Wx, s, e, h => by
    haveI : KX X := ⟨s.kx⟩
    cases e
    case Call fn xs kws p =>
      cases fn
      case Name x p1 =>
        match xs, h with
        | [], h => cases h
        | [_], h => cases h
        | _ :: _ :: _ :: _, h => simp [okE] at h
        | [ea, en], h =>
          cases en
          case Name y p2 =>
            simp only [okE, Bool.and_eq_true, decide_eq_true_eq, List.any_eq_true] at h
            obtain ⟨⟨⟨⟨⟨⟨⟨h1, rfl⟩, h3⟩, h4⟩, h5⟩, h6⟩, h7⟩, qi, hqi, rfl, rfl⟩ := h
            rw [List.isEmpty_iff] at h1
            subst h1
            obtain ⟨i1, i2, i3, i4, i5, i6⟩ := s.ins qi hqi
            obtain ⟨q1, q2⟩ := gl_ok s h7
            rw [e_isO]
            refine both (pe_isO (mE a s h3).1 (gl_ok s h5).1 (s.blt _ h6) (pe_glob q1 i1 rfl q2) i4 i6 ?_) rfl
            rw [star_cons h4]; rfl
          all_goals cases h
      all_goals cases h
    all_goals cases h
  | .eqO cc f a b, c, X, Wx, s, e, h => by
    haveI : KX X := ⟨s.kx⟩
    cases e
    case Compare ea ops es p =>
      match ops, es, h with
      | [op'], [eb], h =>
        simp only [okE] at h
        obtain ⟨h1, h2⟩ := bi_and h
        simp only [Bool.and_eq_true, decide_eq_true_eq] at h1
        obtain ⟨⟨⟨⟨rfl, hcalm⟩, ha⟩, hb⟩, hn⟩ := h1
        split at h2
        · rename_i fd hf
          simp only [Bool.and_eq_true, decide_eq_true_eq, List.any_eq_true] at h2
          obtain ⟨⟨⟨hnm, hnp⟩, hq⟩, qi, hqi, hid, hkd⟩ := h2
          subst hid
          obtain ⟨i1, i2, i3, i4, i5, i6⟩ := s.ins qi hqi
          obtain ⟨ad, dt', hM, hnf, hkb, F⟩ := s.mths f fd hf qi hqi hkd
          rw [hnm] at hM
          have hu := s.un
          have O := o_eqO (Wx := Wx) hnp i4 hM F ((s.room hcalm).mono (by omega)) s.gu (by omega) (hkb _ hq)
          rw [e_eqO]
          exact ⟨PE_imp (pe_cmpR O (mE a s ha).1 (mE b s hb).1 (mark_ok hn)) (rd_op2 rS_ok), fun _ => PT_imp (pt_cmpR O (mE a s ha).1 (mE b s hb).1 (mark_ok hn)) fun σ H Q h => rd_op2 rS_ok σ H _ h⟩
        · cases h2
      | [], _, h => cases h
      | [_], [], h => cases h
      | [_], _ :: _ :: _, h => cases h
      | _ :: _ :: _, [], h => cases h
      | _ :: _ :: _, _ :: _, h => cases h
    all_goals cases h
  | .app a b, c, X, Wx, s, e, h => by
    haveI : KX X := ⟨s.kx⟩
    cases e
    case Call fn xs kws p =>
      cases fn
      case Attribute ea m p1 =>
        match xs, h with
        | [], h => cases h
        | _ :: _ :: _, h => simp [okE] at h
        | [eb], h =>
          obtain ⟨h1, h2⟩ := bi_and (show ((((((kws.isEmpty && decide (m = "append")) && okE g c a ea) && okE g c b eb) && nst eb) && nca ea) && (p1.endLine == p.line)) = true from h)
          obtain ⟨h3, h4⟩ := bi_and h1
          obtain ⟨h5, h6⟩ := bi_and h3
          obtain ⟨h7, h8⟩ := bi_and h5
          obtain ⟨h9, h10⟩ := bi_and h7
          obtain ⟨h11, h12⟩ := bi_and h9
          have e1 := dt h12
          subst e1
          rw [List.isEmpty_iff] at h11
          subst h11
          rw [e_app]
          exact both (s_app (mE a s h10).1 (mE b s h8).1 (base_ok h4) (star_one h6) h2) rfl
      all_goals cases h
    all_goals cases h
  | .ext a b, c, X, Wx, s, e, h => by
    haveI : KX X := ⟨s.kx⟩
    cases e
    case Call fn xs kws p =>
      cases fn
      case Attribute ea m p1 =>
        simp only [okE] at h
        split at h
        · rename_i eb
          simp only [Bool.and_eq_true, decide_eq_true_eq] at h
          obtain ⟨⟨⟨⟨⟨⟨h1, rfl⟩, h3⟩, h4⟩, h5⟩, h6⟩, h7⟩ := h
          rw [List.isEmpty_iff] at h1
          subst h1
          rw [e_ext]
          exact both (s_ext (mE a s h3).1 (mE b s h4).1 (base_ok h6) (star_one h5) h7) rfl
        · cases h
      all_goals cases h
    all_goals cases h
  | .join a b, c, X, Wx, s, e, h => by
    haveI : KX X := ⟨s.kx⟩
    cases e
    case Call fn xs kws p =>
      cases fn
      case Attribute ea m p1 =>
        simp only [okE] at h
        split at h
        · rename_i eb
          simp only [Bool.and_eq_true, decide_eq_true_eq] at h
          obtain ⟨⟨⟨⟨⟨⟨h1, rfl⟩, h3⟩, h4⟩, h5⟩, h6⟩, h7⟩ := h
          rw [List.isEmpty_iff] at h1
          subst h1
          rw [e_join]
          exact both (s_join (mE a s h3).1 (mE b s h4).1 (base_ok h6) (star_one h5) h7) rfl
        · cases h
      all_goals cases h
    all_goals cases h
  | .xfl i f tb, c, X, Wx, s, e, h => by
    haveI : KX X := ⟨s.kx⟩
    cases e
    case Attribute ea f' p =>
      cases ea
      case Name y p1 =>
        simp only [okE, Bool.and_eq_true, decide_eq_true_eq, List.all_eq_true] at h
        obtain ⟨⟨⟨⟨h1, h2⟩, h3⟩, rfl⟩, h5⟩ := h
        obtain ⟨v1, v2, v3⟩ := vis_ok s h3
        rw [e_xfl]
        refine both (s_xfl (by rw [s.N]; exact h2) v1 v2 v3 s.pin (fun q hq kn => ?_) rfl) rfl
        have h6 := h5 q hq
        split at h6
        · rename_i l hl
          obtain ⟨w1, w2, w3⟩ := s.xfs (q.1, l) (mem_lkX hl)
          have h7 := of_decide_eq_true h6
          exact ⟨s.xcf q.1 kn, w3 f (List.mem_of_getElem? h7), by rw [w1]; exact h7, by rw [w1]; exact w2⟩
        · cases h6
      all_goals cases h
    all_goals cases h
  | .xis i z cs, c, X, Wx, s, e, h => by
    haveI : KX X := ⟨s.kx⟩
    cases e
    case Call fn xs kws p =>
      cases fn
      case Name x p1 =>
        match xs, h with
        | [], h => simp [okE] at h
        | [_], h => simp [okE] at h
        | _ :: _ :: _ :: _, h => simp [okE] at h
        | [ea, en], h =>
          cases ea
          case Name y p2 =>
            cases en
            case Name z' p3 =>
              simp only [okE, Bool.and_eq_true, decide_eq_true_eq] at h
              obtain ⟨⟨⟨⟨⟨⟨⟨⟨⟨h1, rfl⟩, h3⟩, h4⟩, h5⟩, h6⟩, h7⟩, rfl⟩, h9⟩, h10⟩ := h
              rw [List.isEmpty_iff] at h1
              subst h1
              obtain ⟨v1, v2, v3⟩ := vis_ok s h7
              obtain ⟨cv, cw, hcv, hr, hu, hk⟩ := s.xis (z, cs) h10
              obtain ⟨q1, q2⟩ := gl_ok s h9
              rw [e_xis]
              have hz : PE X (.Name z p3) (tC cw) := by
                rcases hcv with hcv | ⟨w1, w2, w3⟩
                · exact pe_glob q1 hcv hr q2
                · exact pe_bltn q1 w1 w2 hr w3 q2
              exact both (s_xis (by rw [s.N]; exact h6) v1 v2 v3 s.pin s.xcf hk (gl_ok s h3).1 (s.blt _ h4) hu hz rfl) rfl
            all_goals simp [okE] at h
          all_goals simp [okE] at h
      all_goals cases h
    all_goals cases h
  | .xcall f i es, c, X, Wx, s, e, h => by
    haveI : KX X := ⟨s.kx⟩
    cases e
    case Call fn xs kws p =>
      cases fn
      case Name x p1 =>
        match xs, h with
        | [], h => simp [okE] at h
        | ey :: args, h =>
          cases ey
          case Name y p2 =>
            obtain ⟨h1, h2⟩ := bi_and (show ((((((kws.isEmpty && okEs g c es args) && c.gl x) && decide (c.x = some i)) && decide (c.N[i]? = some y)) && c.vis y) && (match g.T.lookup f with
              | some fd => decide (fd.nm = x) && decide (fd.kd = .exc)
              | none => false)) = true from h)
            obtain ⟨h3, h4⟩ := bi_and h1
            obtain ⟨h5, h6⟩ := bi_and h3
            obtain ⟨h7, h8⟩ := bi_and h5
            obtain ⟨h9, h10⟩ := bi_and h7
            obtain ⟨h11, h12⟩ := bi_and h9
            rw [List.isEmpty_iff] at h11
            subst h11
            split at h2
            · rename_i fd hf
              obtain ⟨e1, e2⟩ := bi_and h2
              obtain rfl := dt e1
              obtain ⟨v1, v2, v3⟩ := vis_ok s h4
              obtain ⟨q1, q2⟩ := gl_ok s h10
              rw [e_xcall]
              exact both (s_xcall (s.xfn f fd hf (dt e2)) (fun ds S hl => sem_len _ _ _ hf (exc_net (dt e2)) ds S hl) ⟨by have := s.rooh.dp; omega, by have := s.rooh.un; omega⟩ s.gu q1 s.tk (by rw [s.N]; exact dt h6) v1 v2 v3 (by rw [← s.ex]; exact dt h8) s.pin (mEs es s h12) q2 (okEs_star c es args h12 _ _)) rfl
            · cases h2
          all_goals cases h
      all_goals cases h
    all_goals cases h
  | .upp a, c, X, Wx, s, e, h => by
    haveI : KX X := ⟨s.kx⟩
    cases e
    case Call fn xs kws p =>
      cases fn
      case Attribute ea m p1 =>
        obtain ⟨h1, h2⟩ := bi_and (show (((((xs.isEmpty && kws.isEmpty) && decide (m = "upper")) && okE g c a ea) && nca ea) && (p1.endLine == p.line)) = true from by simpa only [okE] using h)
        obtain ⟨h3, h4⟩ := bi_and h1
        obtain ⟨h5, h6⟩ := bi_and h3
        obtain ⟨h7, h8⟩ := bi_and h5
        obtain ⟨h9, h10⟩ := bi_and h7
        rw [List.isEmpty_iff] at h9 h10
        obtain rfl := dt h8
        subst h9 h10
        rw [e_upp]
        exact both (s_upp (mE a s h6).1 (base_ok h4) h2) rfl
      all_goals cases h
    all_goals cases h
  | .cnt a b, c, X, Wx, s, e, h => by
    haveI : KX X := ⟨s.kx⟩
    cases e
    case Call fn xs kws p =>
      cases fn
      case Attribute ea m p1 =>
        simp only [okE] at h
        split at h
        · rename_i eb
          simp only [Bool.and_eq_true, decide_eq_true_eq] at h
          obtain ⟨⟨⟨⟨⟨⟨h1, rfl⟩, h3⟩, h4⟩, h5⟩, h6⟩, h7⟩ := h
          rw [List.isEmpty_iff] at h1
          subst h1
          rw [e_cnt]
          exact both (s_cnt s.un (mE a s h3).1 (mE b s h4).1 (base_ok h6) (star_one h5) h7) rfl
        · cases h
      all_goals cases h
    all_goals cases h
  | .popi a b, c, X, Wx, s, e, h => by
    haveI : KX X := ⟨s.kx⟩
    cases e
    case Call fn xs kws p =>
      cases fn
      case Attribute ea m p1 =>
        simp only [okE] at h
        split at h
        · rename_i eb
          simp only [Bool.and_eq_true, decide_eq_true_eq] at h
          obtain ⟨⟨⟨⟨⟨⟨h1, rfl⟩, h3⟩, h4⟩, h5⟩, h6⟩, h7⟩ := h
          rw [List.isEmpty_iff] at h1
          subst h1
          rw [e_popi]
          exact both (s_popi (mE a s h3).1 (mE b s h4).1 (base_ok h6) (star_one h5) h7) rfl
        · cases h
      all_goals cases h
    all_goals cases h
  | .idxm t a b, c, X, Wx, s, e, h => by
    haveI : KX X := ⟨s.kx⟩
    cases e
    case Call fn xs kws p =>
      cases fn
      case Attribute ea m p1 =>
        simp only [okE] at h
        split at h
        · rename_i eb
          simp only [Bool.and_eq_true, decide_eq_true_eq] at h
          obtain ⟨⟨⟨⟨⟨⟨h1, rfl⟩, h3⟩, h4⟩, h5⟩, h6⟩, h7⟩ := h
          rw [List.isEmpty_iff] at h1
          subst h1
          rw [e_idxm]
          have hu := s.un
          exact both (s_idxm s.un (mE a s h3).1 (mE b s h4).1 (base_ok h6) (star_one h5) h7) rfl
        · cases h
      all_goals cases h
    all_goals cases h
  | .lenO cc f a, c, X, Wx, s, e, h => by
    haveI : KX X := ⟨s.kx⟩
    cases e
    case Call fn xs kws p =>
      cases fn
      case Name x p1 =>
        simp only [okE] at h
        split at h
        · rename_i ea
          obtain ⟨h1, h2⟩ := bi_and h
          simp only [Bool.and_eq_true, decide_eq_true_eq] at h1
          obtain ⟨⟨⟨⟨⟨⟨h1, rfl⟩, hcalm⟩, h3⟩, h4⟩, h5⟩, h6⟩ := h1
          rw [List.isEmpty_iff] at h1
          subst h1
          split at h2
          · rename_i fd hf
            simp only [Bool.and_eq_true, decide_eq_true_eq, List.any_eq_true] at h2
            obtain ⟨⟨⟨hnm, hnp⟩, hq⟩, qi, hqi, hid, hkd⟩ := h2
            subst hid
            obtain ⟨ad, dt', hM, hnf, hkb, F⟩ := s.mths f fd hf qi hqi hkd
            rw [hnm] at hM
            rw [hnp] at F
            rw [e_lenO]
            exact both (s_lenO hM F ((s.room hcalm).mono (by omega)) s.gu (hkb _ hq) (gl_ok s h5).1 (s.blt _ h6) (mE a s h3).1 (star_one h4)) rfl
          · cases h2
        · cases h
      all_goals cases h
    all_goals cases h
  | .fld cc i fl a, c, X, Wx, s, e, h => by
    haveI : KX X := ⟨s.kx⟩
    cases e
    case Attribute ea f' p =>
      simp only [okE, Bool.and_eq_true, decide_eq_true_eq, List.any_eq_true] at h
      obtain ⟨⟨⟨rfl, h2⟩, h3⟩, q, hq, h4, h5⟩ := h
      obtain ⟨i1, i2, i3, i4, i5, i6⟩ := s.ins q hq
      subst h4
      rw [e_fld]
      refine both (s_fld (c := q.2.1) (i := i) (fl := fl) ?_ ?_ i4 (i5 _ (List.mem_of_getElem? h5)) (mE a s h2).1 (base_ok h3)) rfl
      · rw [i2]; exact h5
      · rw [i2]; exact i3
    all_goals cases h
  | .meth cc m f pm a es ks, c, X, Wx, s, e, h => by
    haveI : KX X := ⟨s.kx⟩
    cases e
    case Call fn xs kws p =>
      cases fn
      case Attribute ea m' p1 =>
        simp only [okE] at h
        obtain ⟨h1, h2⟩ := bi_and h
        simp only [Bool.and_eq_true, decide_eq_true_eq] at h1
        obtain ⟨⟨⟨⟨⟨⟨⟨⟨rfl, hcalm⟩, ha⟩, hes⟩, hks⟩, hnca⟩, hline⟩, hk⟩, hlen⟩ := h1
        obtain ⟨k1, k2, k3⟩ := kw_ok (env := X.env) (pos := p) hk
        split at h2
        · rename_i fd hf
          simp only [Bool.and_eq_true, decide_eq_true_eq, List.any_eq_true] at h2
          obtain ⟨⟨hnm, hq⟩, qi, hqi, hid, hkd⟩ := h2
          subst hid
          subst hnm
          obtain ⟨i1, i2, i3, i4, i5, i6⟩ := s.ins qi hqi
          obtain ⟨ad, dt', hM, hnf, hkb, F⟩ := s.mths f fd hf qi hqi hkd
          have lk : RdA_len (evEs (sem g.T n) ks) (kwn kws).length := fun r S ds S' q => by rw [evEs_len _ _ _ _ _ _ q, okKs_len c ks kws hks hk]
          have hG : ∀ ds S, ds.length ≠ fd.np → sem g.T n f ds S = .bad := fun ds S hl => sem_len _ _ _ hf (meth_net hkd) ds S hl
          have hnf' : fd.nm ∉ CtI.ct.flds qi.2.1 := by rw [i2]; exact hnf
          rw [e_meth]
          cases es with
          | nil =>
            cases xs with
            | cons _ _ => simp [okEs] at hes
            | nil =>
              rw [es_nil]
              refine both (PE_imp (pe_methKG0 (E := WE Wx) (mE a s ha).1 i4 hM F ((s.room hcalm).mono (by omega)) s.gu (hkb _ hq) (passAt s.tk) (mKs ks s hks) (fun _ _ _ h => rdA_len lk h) k1 k2 k3 (base_ok hnca) (few_ok (g := g) (c := c) (es := .nil) rfl hk hlen) hline) fun σ H Q h => ?_) rfl
              have h' := rd_meth (as := fun _ S => .ok [] S) rfl hnf' hG h
              obtain ⟨W, S, r, w, en, h'⟩ := h'
              refine ⟨W, S, r, w, en, h'.mono fun x H1 ⟨a', dx, fs, q1, q2, q3, q4⟩ => ⟨a', dx, fs, q1, q2, q3, ?_⟩⟩
              obtain ⟨W', S', r', w', en', q4⟩ := q4
              exact q4 [] H1 W' (.refl _ _) w' .nil
          | cons a0 es0 =>
            cases xs with
            | nil => simp [okEs] at hes
            | cons x0 xs0 =>
              have hes' := hes
              simp only [okEs, Bool.and_eq_true] at hes'
              have la : RdA_len (evEs (sem g.T n) (.cons a0 es0)) (x0 :: xs0).length := fun r S ds S' q => by rw [evEs_len _ _ _ _ _ _ q, okEs_len c _ _ hes]
              exact both (PE_imp (pe_methKG (E := WE Wx) (mE a s ha).1 i4 hM F ((s.room hcalm).mono (by omega)) s.gu (hkb _ hq) (passAt s.tk) (mEs (.cons a0 es0) s hes) (mKs ks s hks) (fun _ _ _ h => rdA_len la h) (fun _ _ _ h => rdA_len lk h) k1 k2 (star_cons hes'.1.1) (by rw [okEs_star c _ _ hes, k3]; rfl) (base_ok hnca) (few_ok (c := c) hes hk hlen) hline) fun σ H Q h => rd_meth rfl hnf' hG h) rfl
        · cases h2
      all_goals cases h
    all_goals cases h
  | .net cc i j f es ks, c, X, Wx, s, e, h => by
    haveI : KX X := ⟨s.kx⟩
    cases e
    case Call fn xs kws p =>
      cases fn
      case Name x p1 =>
        simp only [okE] at h
        obtain ⟨h1, h2⟩ := bi_and h
        simp only [Bool.and_eq_true] at h1
        obtain ⟨⟨⟨⟨hcalm, hes⟩, hks⟩, hgl⟩, hk⟩ := h1
        obtain ⟨q1, q2⟩ := gl_ok s hgl
        obtain ⟨k1, k2, k3⟩ := kw_ok (env := X.env) (pos := p) hk
        split at h2
        · rename_i fd hf
          simp only [Bool.and_eq_true, decide_eq_true_eq, List.any_eq_true] at h2
          obtain ⟨⟨⟨hnm, hnet⟩, hq⟩, qi, hqi, ⟨hqn, hid⟩, hfl⟩ := h2
          subst hid
          subst hnm
          obtain ⟨i1, i2, i3, i4, i5, i6⟩ := s.ins qi hqi
          obtain ⟨ad, dt', g1, g2, hM, hkb, F, hsem⟩ := s.nets f fd hf hnet qi hqi hqn hfl
          have lk : RdA_len (evEs (sem g.T n) ks) (kwn kws).length := fun r S ds S' q => by rw [evEs_len _ _ _ _ _ _ q, okKs_len c ks kws hks hk]
          rw [hqn] at i1
          rw [e_net, netG_eq hsem]
          cases es with
          | nil =>
            cases xs with
            | cons _ _ => simp [okEs] at hes
            | nil =>
              rw [es_nil]
              refine both (PE_imp (pe_makeKG0 (E := WE Wx) hM F ((s.room hcalm).mono (by omega)) s.gu q1 i1 (hkb _ hq) (passAt s.tk) (mKs ks s hks) (fun _ _ _ h => rdA_len lk h) k1 k2 q2 k3) fun σ H Q h => ?_) rfl
              have h' := rd_net (as := fun _ S => .ok [] S) rfl (i2.trans hfl) h
              obtain ⟨W, S, r, w, en, h'⟩ := h'
              exact h' [] H W (.refl _ _) w .nil
          | cons a0 es0 =>
            cases xs with
            | nil => simp [okEs] at hes
            | cons x0 xs0 =>
              have hes' := hes
              simp only [okEs, Bool.and_eq_true] at hes'
              have la : RdA_len (evEs (sem g.T n) (.cons a0 es0)) (x0 :: xs0).length := fun r S ds S' q => by rw [evEs_len _ _ _ _ _ _ q, okEs_len c _ _ hes]
              exact both (PE_imp (pe_makeKG (E := WE Wx) hM F ((s.room hcalm).mono (by omega)) s.gu q1 i1 (hkb _ hq) (passAt s.tk) (mEs (.cons a0 es0) s hes) (mKs ks s hks) (fun _ _ _ h => rdA_len la h) (fun _ _ _ h => rdA_len lk h) k1 k2 q2 (star_cons hes'.1.1) (by rw [okEs_star c _ _ hes, k3]; rfl)) fun σ H Q h => rd_net rfl (i2.trans hfl) h) rfl
        · cases h2
      all_goals cases h
    all_goals cases h
  | .get2 a b d, c, X, Wx, s, e, h => by
    haveI : KX X := ⟨s.kx⟩
    cases e
    case Call fn xs kws p =>
      cases fn
      case Attribute ea m p1 =>
        simp only [okE] at h
        split at h
        · rename_i eb ec
          simp only [Bool.and_eq_true, decide_eq_true_eq] at h
          obtain ⟨⟨⟨⟨⟨⟨⟨⟨h1, rfl⟩, h3⟩, h4⟩, h5⟩, h6⟩, h7⟩, h8⟩, h9⟩ := h
          rw [List.isEmpty_iff] at h1
          subst h1
          rw [e_get2]
          refine both (s_get2 s.un (mE a s h3).1 (mE b s h4).1 (mE d s h5).1 ⟨base_ok h8, ?_, h9, ?_⟩) rfl
          · rw [star_cons h6, star_one h7]; rfl
          · rw [star_cons h6, star_one h7]; rfl
        · cases h
      all_goals cases h
    all_goals cases h
  | .dic1 a b, c, X, Wx, s, e, h => by
    haveI : KX X := ⟨s.kx⟩
    cases e
    case Dict ks vs p =>
      simp only [okE] at h
      split at h
      · rename_i ek ev
        simp only [Bool.and_eq_true] at h
        rw [e_dic1]
        exact both (s_dic1 (mE a s h.1).1 (mE b s h.2).1) rfl
      · cases h
    all_goals cases h
  | .rngc t a, c, X, Wx, s, e, h => by
    haveI : KX X := ⟨s.kx⟩
    cases e
    case Call fn xs kws p =>
      cases fn
      case Name x p1 =>
        simp only [okE] at h
        split at h
        · rename_i y p2 ea p3
          simp only [Bool.and_eq_true, decide_eq_true_eq] at h
          obtain ⟨⟨⟨⟨⟨⟨⟨⟨⟨h1, rfl⟩, rfl⟩, h4⟩, h5⟩, h6⟩, h7⟩, h8⟩, h9⟩, h10⟩ := h
          rw [List.isEmpty_iff] at h1
          subst h1
          rw [e_rngc]
          cases t with
          | true => exact both (s_rngT (s.calm h10) (gl_ok s h6).1 (s.blt _ h7) (gl_ok s h8).1 (s.blt _ h9) (mE a s h4).1 (star_cons h5)) rfl
          | false => exact both (s_rngL (s.calm h10) (gl_ok s h6).1 (s.blt _ h7) (gl_ok s h8).1 (s.blt _ h9) (mE a s h4).1 (star_cons h5)) rfl
        · cases h
      all_goals cases h
    all_goals cases h
  | .comp elt t it ifs own, c, X, Wx, s, e, h => by
    haveI : KX X := ⟨s.kx⟩
    cases e
    case ListComp eelt gens scope p =>
      match gens, h with
      | [], h => cases h
      | _ :: _ :: _, h => simp [okE] at h
      | [⟨tg, iter, eifs, k⟩], h =>
          obtain ⟨h1, h2⟩ := bi_and (show ((((((((decide (k = 0) && c.calm) && blkB c.N c.sc scope own) && okI g c it tg iter) && nse iter) && okTg g (c.blk scope) t tg) && (t.ns.all fun i => own.contains i)) && okT g (c.blk scope) ifs eifs) && okE g (c.blk scope) elt eelt) = true from h)
          obtain ⟨h3, h4⟩ := bi_and h1
          obtain ⟨h5, h6⟩ := bi_and h3
          obtain ⟨h7, h8⟩ := bi_and h5
          obtain ⟨h9, h10⟩ := bi_and h7
          obtain ⟨h11, h12⟩ := bi_and h9
          obtain ⟨h13, h14⟩ := bi_and h11
          obtain ⟨h15, h13⟩ := bi_and h13
          have e0 := dt h15
          subst e0
          obtain ⟨b1, b2⟩ := blk_ok h14
          rw [e_comp]
          have hc := s_comp (pos := p) (own := ownP c.N own) (s.calm h13) s.nd (mI it s h12) (by rw [s.N, s.sc]; exact b1) (ts := t.ns) (by
              intro i hi
              rw [b2]
              simpa using List.all_eq_true.mp h6 i hi)
            (fun sh H C cl fp => mTg t (s.blk h13 sh H scope cl C fp) h8) (fun sh H C cl fp => mT ifs (s.blk h13 sh H scope cl C fp) h4) (fun sh H C cl fp => (mE elt (s.blk h13 sh H scope cl C fp) h2).1) (fold_ok h10)
          rw [b2] at hc
          exact both hc rfl
    all_goals cases h
  | .comp2 elt t it ifs t2 it2 ifs2 own own2, c, X, Wx, s, e, h => by
    haveI : KX X := ⟨s.kx⟩
    cases e
    case ListComp eelt gens scope p =>
      match gens, h with
      | [], h => cases h
      | [_], h => simp [okE] at h
      | _ :: _ :: _ :: _, h => simp [okE] at h
      | [⟨tg, iter, eifs, k⟩, ⟨tg2, iter2, eifs2, k2⟩], h =>
          simp only [okE, Bool.and_eq_true, decide_eq_true_eq] at h
          obtain ⟨⟨⟨⟨⟨⟨⟨⟨⟨⟨⟨⟨⟨⟨⟨rfl, rfl⟩, h3⟩, h4⟩, h5⟩, h6⟩, h7⟩, h8⟩, h9⟩, h10⟩, h11⟩, h12⟩, h13⟩, h14⟩, h15⟩, h16⟩ := h
          obtain ⟨b1, b2⟩ := blk_ok h4
          rw [e_comp2]
          have hc := s_comp2 (pos := p) (own := ownP c.N own) (own2 := own2) (s.calm h3) s.nd (mI it s h5) (by rw [s.N, s.sc]; exact b1) (by
              intro i hi
              rw [b2]
              simpa using List.all_eq_true.mp h14 i hi) (ts := t.ns) (ts2 := t2.ns) (by
              intro i hi
              rw [b2]
              simpa using List.all_eq_true.mp h8 i hi) (by
              intro i hi
              simpa using List.all_eq_true.mp h13 i hi)
            (fun sh H C cl fp => mTg t (s.blk h3 sh H scope cl C fp) h7) (fun sh H C cl fp => mT ifs (s.blk h3 sh H scope cl C fp) h9) (fun sh H C cl fp => mI it2 (s.blk h3 sh H scope cl C fp) h10) (fun sh H C cl fp => mTg t2 (s.blk h3 sh H scope cl C fp) h12) (fun sh H C cl fp => mT ifs2 (s.blk h3 sh H scope cl C fp) h15) (fun sh H C cl fp => (mE elt (s.blk h3 sh H scope cl C fp) h16).1) (fold_ok h6) (fun env => fold_ok h11)
          rw [b2] at hc
          exact both hc rfl
    all_goals cases h
theorem mEs : ∀ (es : Es) {c : Ck} {X : Cx} {Wx : WX}, Sx g n c Wx X → ∀ {xs : List Expr}, okEs g c es xs = true → PA X xs (RdA Wx (evEs (sem g.T n) es))
  | .nil, c, X, Wx, s, [], h => by
    haveI : KX X := ⟨s.kx⟩
    rw [es_nil]; exact s_nil
  | .nil, c, X, Wx, s, _ :: _, h => by simp [okEs] at h
  | .cons a r, c, X, Wx, s, [], h => by simp [okEs] at h
  | .cons a r, c, X, Wx, s, e :: es, h => by
    haveI : KX X := ⟨s.kx⟩
    obtain ⟨h1, h2⟩ := bi_and (show ((nst e && okE g c a e) && okEs g c r es) = true from h)
    obtain ⟨h3, h4⟩ := bi_and h1
    rw [es_cons]
    exact s_cons (mE a s h4).1 (mEs r s h2) (star_cons h3)
theorem mKs : ∀ (es : Es) {c : Ck} {X : Cx} {Wx : WX}, Sx g n c Wx X → ∀ {xs : List Keyword}, okKs g c es xs = true → PK X xs (RdA Wx (evEs (sem g.T n) es))
  | .nil, c, X, Wx, s, [], h => by
    haveI : KX X := ⟨s.kx⟩
    rw [es_nil]; exact s_knil
  | .nil, c, X, Wx, s, _ :: _, h => by simp [okKs] at h
  | .cons a r, c, X, Wx, s, [], h => by simp [okKs] at h
  | .cons a r, c, X, Wx, s, ⟨nm, e, p⟩ :: es, h => by
    haveI : KX X := ⟨s.kx⟩
    obtain ⟨h1, h2⟩ := bi_and (show (okE g c a e && okKs g c r es) = true from h)
    rw [es_cons]
    exact s_kcons (mE a s h1).1 (mKs r s h2)
theorem mAnd : ∀ (es : Es) {c : Ck} {X : Cx} {Wx : WX}, Sx g n c Wx X → ∀ {xs : List Expr} {p : Pos}, okEs g c es xs = true → nif' xs = true → xs ≠ [] → PE X (.BoolOp .And xs p) (Rd Wx (evAnd (sem g.T n) es)) ∧ PW X (.BoolOp .And xs p) (Rt Wx (evAnd (sem g.T n) es))
  | .nil, c, X, Wx, s, [], p, h, _, hn => absurd rfl hn
  | .nil, c, X, Wx, s, _ :: _, p, h, _, _ => by simp [okEs] at h
  | .cons a r, c, X, Wx, s, [], p, h, _, _ => by simp [okEs] at h
  | .cons a .nil, c, X, Wx, s, [e], p, h, hi, _ => by
    obtain ⟨h1, h2⟩ := bi_and (show ((nst e && okE g c a e) && okEs g c .nil []) = true from h)
    obtain ⟨h3, h4⟩ := bi_and h1
    obtain ⟨i1, i2⟩ := bi_and (show (nif e && nif' []) = true from hi)
    rw [e_and1]
    exact ⟨s_one (mE a s h4).1, pw_and1 ((mE a s h4).2 i1)⟩
  | .cons a .nil, c, X, Wx, s, _ :: _ :: _, p, h, hi, _ => by simp [okEs] at h
  | .cons a (.cons b r), c, X, Wx, s, [_], p, h, hi, _ => by simp [okEs] at h
  | .cons a (.cons b r), c, X, Wx, s, e :: e2 :: es, p, h, hi, _ => by
    haveI : KX X := ⟨s.kx⟩
    obtain ⟨h1, h2⟩ := bi_and (show ((nst e && okE g c a e) && okEs g c (.cons b r) (e2 :: es)) = true from h)
    obtain ⟨h3, h4⟩ := bi_and h1
    obtain ⟨i1, i2⟩ := bi_and (show (nif e && nif' (e2 :: es)) = true from hi)
    obtain ⟨q1, q2⟩ := mAnd (.cons b r) s (p := p) h2 i2 (List.cons_ne_nil _ _)
    rw [e_and2]
    exact ⟨s_and (mE a s h4).1 q1, t_and ((mE a s h4).2 i1) q2⟩
theorem mOr : ∀ (es : Es) {c : Ck} {X : Cx} {Wx : WX}, Sx g n c Wx X → ∀ {xs : List Expr} {p : Pos}, okEs g c es xs = true → nif' xs = true → xs ≠ [] → PE X (.BoolOp .Or xs p) (Rd Wx (evOr (sem g.T n) es)) ∧ PW X (.BoolOp .Or xs p) (Rt Wx (evOr (sem g.T n) es))
  | .nil, c, X, Wx, s, [], p, h, _, hn => absurd rfl hn
  | .nil, c, X, Wx, s, _ :: _, p, h, _, _ => by simp [okEs] at h
  | .cons a r, c, X, Wx, s, [], p, h, _, _ => by simp [okEs] at h
  | .cons a .nil, c, X, Wx, s, [e], p, h, hi, _ => by
    obtain ⟨h1, h2⟩ := bi_and (show ((nst e && okE g c a e) && okEs g c .nil []) = true from h)
    obtain ⟨h3, h4⟩ := bi_and h1
    obtain ⟨i1, i2⟩ := bi_and (show (nif e && nif' []) = true from hi)
    rw [e_or1]
    exact ⟨s_one (mE a s h4).1, pw_or1 ((mE a s h4).2 i1)⟩
  | .cons a .nil, c, X, Wx, s, _ :: _ :: _, p, h, hi, _ => by simp [okEs] at h
  | .cons a (.cons b r), c, X, Wx, s, [_], p, h, hi, _ => by simp [okEs] at h
  | .cons a (.cons b r), c, X, Wx, s, e :: e2 :: es, p, h, hi, _ => by
    haveI : KX X := ⟨s.kx⟩
    obtain ⟨h1, h2⟩ := bi_and (show ((nst e && okE g c a e) && okEs g c (.cons b r) (e2 :: es)) = true from h)
    obtain ⟨h3, h4⟩ := bi_and h1
    obtain ⟨i1, i2⟩ := bi_and (show (nif e && nif' (e2 :: es)) = true from hi)
    obtain ⟨q1, q2⟩ := mOr (.cons b r) s (p := p) h2 i2 (List.cons_ne_nil _ _)
    rw [e_or2]
    exact ⟨s_or (mE a s h4).1 q1, t_or ((mE a s h4).2 i1) q2⟩
theorem mO : ∀ (o : Eo) {c : Ck} {X : Cx} {Wx : WX}, Sx g n c Wx X → ∀ {e : Option Expr}, okO g c o e = true → PO X e (rdP Wx (evO (sem g.T n) o))
  | .none, c, X, Wx, s, none, h => by rw [o_none]; exact po_none
  | .none, c, X, Wx, s, some _, h => by simp [okO] at h
  | .some a, c, X, Wx, s, none, h => by simp [okO] at h
  | .some a, c, X, Wx, s, some e, h => by
    rw [o_some]
    exact po_some (mE a s (show okE g c a e = true from h)).1
theorem mT : ∀ (o : Eo) {c : Ck} {X : Cx}, Sx g n c noX X → ∀ {es : List Expr}, okT g c o es = true → PTs X es (RdT (evT (sem g.T n) o))
  | .none, c, X, s, [], h => by rw [t_none]; exact ts_nil
  | .none, c, X, s, _ :: _, h => by simp [okT] at h
  | .some a, c, X, s, [], h => by simp [okT] at h
  | .some a, c, X, s, _ :: _ :: _, h => by simp [okT] at h
  | .some a, c, X, s, [e], h => by
    obtain ⟨h1, h2⟩ := bi_and (show (okE g c a e && nif e) = true from h)
    rw [t_some]
    exact ts_one ((mE a s h1).2 h2)
theorem mTg : ∀ (t : Tg) {c : Ck} {X : Cx} {Wx : WX}, Sx g n c Wx X → ∀ {e : Expr}, okTg g c t e = true → PG X e (RdG t.ns (asg (sem g.T n) t))
  | .nm i, c, X, Wx, s, e, h => by
    haveI : KX X := ⟨s.kx⟩
    cases e
    case Name x p =>
      obtain ⟨h1, h2⟩ := bi_and (show (decide (c.N[i]? = some x) && c.loc x) = true from h)
      obtain ⟨l1, l2⟩ := loc_ok s h2
      rw [g_nm]
      exact g_name s.nd (by rw [s.N]; exact dt h1) l1 l2
    all_goals cases h
  | .tup ts, c, X, Wx, s, e, h => by
    haveI : KX X := ⟨s.kx⟩
    cases e
    case Tuple es k p =>
      obtain ⟨h1, h2⟩ := bi_and (show (c.calm && okTgs g c ts es) = true from h)
      obtain ⟨q1, q2⟩ := okTgs_asn c ts es h2 X.env
      rw [g_tp]
      exact g_tup (s.calm h1) (mTgs ts s h2) (fun xs r S r' S' q => asgs_len _ ts xs r S r' S' q) q1 q2
    all_goals cases h
  | .sub a i, c, X, Wx, s, e, h => by
    haveI : KX X := ⟨s.kx⟩
    cases e
    case Subscript ea ei p =>
      obtain ⟨h1, h2⟩ := bi_and (show ((okE g c a ea && okE g c i ei) && nsl ei) = true from h)
      obtain ⟨h3, h4⟩ := bi_and h1
      rw [g_sb]
      exact g_sub s.un (mE a s h3).1 (mE i s h4).1 (assign_ok h2)
    all_goals cases h
theorem mTgs : ∀ (ts : Tgs) {c : Ck} {X : Cx} {Wx : WX}, Sx g n c Wx X → ∀ {es : List Expr}, okTgs g c ts es = true → PGs X es (RdGs ts.ns (asgs (sem g.T n) ts))
  | .nil, c, X, Wx, s, [], h => by
    haveI : KX X := ⟨s.kx⟩
    rw [gs_n]; exact gs_nil
  | .nil, c, X, Wx, s, _ :: _, h => by simp [okTgs] at h
  | .cons t r, c, X, Wx, s, [], h => by simp [okTgs] at h
  | .cons t r, c, X, Wx, s, e :: es, h => by
    haveI : KX X := ⟨s.kx⟩
    obtain ⟨h1, h2⟩ := bi_and (show ((nst e && okTg g c t e) && okTgs g c r es) = true from h)
    obtain ⟨h3, h4⟩ := bi_and h1
    rw [gs_c]
    exact gs_cons (mTg t s h4) (mTgs r s h2) (by rw [asn_cons h3]; rfl)
theorem mI : ∀ (it : It) {c : Ck} {X : Cx} {Wx : WX}, Sx g n c Wx X → ∀ {tg e : Expr}, okI g c it tg e = true → PI X tg e (RdI Wx (evI (sem g.T n) it))
  | .seq a, c, X, Wx, s, tg, e, h => by
    haveI : KX X := ⟨s.kx⟩
    obtain ⟨h1, h2⟩ := bi_and (show (okE g c a e && nco e) = true from by unfold okI at h; exact h)
    rw [i_seq]
    exact s_iseq (mE a s h1).1
  | .dk a, c, X, Wx, s, tg, e, h => by
    haveI : KX X := ⟨s.kx⟩
    obtain ⟨h1, h2⟩ := bi_and (show (okE g c a e && nco e) = true from by unfold okI at h; exact h)
    rw [i_dk]
    exact s_idk (mE a s h1).1
  | .chr a, c, X, Wx, s, tg, e, h => by
    haveI : KX X := ⟨s.kx⟩
    obtain ⟨h1, h2⟩ := bi_and (show (okE g c a e && nco e) = true from by unfold okI at h; exact h)
    rw [i_chr]
    exact s_ichr (mE a s h1).1
  | .rng a, c, X, Wx, s, tg, e, h => by
    haveI : KX X := ⟨s.kx⟩
    cases e
    case Call fn xs kws p =>
      cases fn
      case Name x p1 =>
        match xs, h with
        | [], h => simp [okI] at h
        | _ :: _ :: _, h => simp [okI] at h
        | [ea], h =>
          obtain ⟨h1, h2⟩ := bi_and (show (((((kws.isEmpty && decide (x = "range")) && okE g c a ea) && nst ea) && c.gl x) && g.b x) = true from by unfold okI at h; exact h)
          obtain ⟨h3, h4⟩ := bi_and h1
          obtain ⟨h5, h6⟩ := bi_and h3
          obtain ⟨h7, h8⟩ := bi_and h5
          obtain ⟨h9, h10⟩ := bi_and h7
          have e1 := dt h10
          subst e1
          rw [List.isEmpty_iff] at h9
          subst h9
          rw [i_rng]
          exact s_irng (gl_ok s h4).1 (s.blt _ h2) (mE a s h8).1 (star_one h6)
      all_goals simp [okI] at h
    all_goals simp [okI] at h
  | .rng2 a b, c, X, Wx, s, tg, e, h => by
    haveI : KX X := ⟨s.kx⟩
    cases e
    case Call fn xs kws p =>
      cases fn
      case Name x p1 =>
        simp only [okI] at h
        split at h
        · rename_i ea eb
          simp only [Bool.and_eq_true, decide_eq_true_eq] at h
          obtain ⟨⟨⟨⟨⟨⟨⟨h1, rfl⟩, h3⟩, h4⟩, h5⟩, h6⟩, h7⟩, h8⟩ := h
          rw [List.isEmpty_iff] at h1
          subst h1
          rw [i_rng2]
          exact s_irng2 (gl_ok s h7).1 (s.blt _ h8) (mE a s h3).1 (mE b s h4).1 (star_cons h5) (star_one h6) (by rw [star_one h6]; rfl)
        · cases h
      all_goals simp [okI] at h
    all_goals simp [okI] at h
  | .rng3 a b d, c, X, Wx, s, tg, e, h => by
    haveI : KX X := ⟨s.kx⟩
    cases e
    case Call fn xs kws p =>
      cases fn
      case Name x p1 =>
        simp only [okI] at h
        split at h
        · rename_i ea eb ed
          simp only [Bool.and_eq_true, decide_eq_true_eq] at h
          obtain ⟨⟨⟨⟨⟨⟨⟨⟨⟨h1, rfl⟩, h3⟩, h4⟩, h5⟩, h6⟩, h7⟩, h8⟩, h9⟩, h10⟩ := h
          rw [List.isEmpty_iff] at h1
          subst h1
          rw [i_rng3]
          exact s_irng3 (gl_ok s h9).1 (s.blt _ h10) (mE a s h3).1 (mE b s h4).1 (mE d s h5).1 (star_cons h6) (star_cons h7) (star_one h8) (by rw [star_cons h7, star_one h8]; rfl)
        · cases h
      all_goals simp [okI] at h
    all_goals simp [okI] at h
  | .enum a, c, X, Wx, s, tg, e, h => by
    haveI : KX X := ⟨s.kx⟩
    cases tg
    case Tuple elts kk tp =>
      cases e
      case Call fn xs kws p =>
        cases fn
        case Name x p1 =>
          match xs, h with
          | [], h => simp [okI] at h
          | _ :: _ :: _, h => simp [okI] at h
          | [ea], h =>
            obtain ⟨h1, h2⟩ := bi_and (show (((((kws.isEmpty && decide (x = "enumerate")) && okE g c a ea) && nst ea) && c.gl x) && g.b x) = true from by unfold okI at h; exact h)
            obtain ⟨h3, h4⟩ := bi_and h1
            obtain ⟨h5, h6⟩ := bi_and h3
            obtain ⟨h7, h8⟩ := bi_and h5
            obtain ⟨h9, h10⟩ := bi_and h7
            have e1 := dt h10
            subst e1
            rw [List.isEmpty_iff] at h9
            subst h9
            rw [i_enum]
            exact s_ienum (gl_ok s h4).1 (s.blt _ h2) (mE a s h8).1 (star_one h6)
        all_goals simp [okI] at h
      all_goals simp [okI] at h
    all_goals simp [okI] at h
end
end Fc

end
section
set_option autoImplicit false
set_option maxHeartbeats 4000000
/-! statements: the text against the syntax -/
namespace Fc
open PySem PySem.Spec L2
def bkK (sc : Scope) : ScopeKind := if sc.kind.isAnnotationScope then .function else sc.kind
def swB (sc : Scope) (value : Expr) (t : Str) (pos : Pos) : Bool := match value with
  | .ListComp _ _ s _ | .SetComp _ _ s _ | .DictComp _ _ _ s _ => bkK sc == .function && sc.names.lookup t == some .local && pos.line == value.pos.line && !(s.names.any fun (n, k) => n == t && (k == .local || k == .cell))
  | _ => false
theorem sw_ok {value : Expr} {t : Str} {pos : Pos} {line : Nat} {env : PySem.Env} : swapsWith value (some (.Name t pos)) line env = pure (swB env.scope value t pos) := by
  cases value <;> rfl
def isNm : Expr → Bool
  | .Name .. => true
  | _ => false
/-- the value does not go to the store at once -/
def swT (sc : Scope) (value : Expr) : Expr → Bool
  | .Name t pos => !swB sc value t pos
  | _ => true
theorem swT_ok {value tg : Expr} {line : Nat} {env : PySem.Env} (h : swT env.scope value tg = true) : swapsWithSole [tg] value line env = pure false := by
  show swapsWith value (some tg) line env = _
  cases tg
  case Name t pos =>
    rw [sw_ok]
    have : swB env.scope value t pos = false := by
      have h' : (!swB env.scope value t pos) = true := h
      simpa using h'
    rw [this]
  all_goals cases value <;> rfl
def isLc (sc : Scope) : Expr → Bool
  | .Name id _ => sc.names.lookup id == some .local
  | _ => false
def noneB (sc : Scope) : Expr → Expr → Bool
  | .Tuple ts _ _, .Tuple vs _ _ => !(ts.length == 2 || ts.length == 3) || vs.length != ts.length || ts.any (fun t => !isLc sc t) || vs.all (foldedForSure 8)
  | .List .., .Tuple .. => false
  | _, _ => true
theorem fm_lt {env : PySem.Env} {line : Nat} : ∀ (ts : List Expr), ts.any (fun t => !isLc env.scope t) = true → (ts.filterMap fun
    | .Name id pos => if env.kindOf id == some .local && pos.line == line then some id else none
    | _ => none).length < ts.length
  | [], h => by cases h
  | t :: ts, h => by
    have le : ∀ (ts : List Expr), (ts.filterMap fun
      | .Name id pos => if env.kindOf id == some .local && pos.line == line then some id else none
      | _ => none).length ≤ ts.length := fun ts => List.length_filterMap_le _ _
    rw [List.any_cons] at h
    rw [List.filterMap_cons]
    cases t
    case Name id pos =>
      dsimp only
      by_cases hk : (env.kindOf id == some .local) = true
      · have h' := fm_lt (env := env) (line := line) ts (by
          have e : (!isLc env.scope (.Name id pos)) = false := by
            show (!(env.kindOf id == some .local)) = false
            rw [hk]; rfl
          rw [e, Bool.false_or] at h
          exact h)
        split
        · exact Nat.lt_succ_of_lt h'
        · exact Nat.succ_lt_succ h'
      · rw [if_neg (fun q => hk (Bool.and_eq_true_iff.mp q).1)]
        exact Nat.lt_succ_of_le (le ts)
    all_goals exact Nat.lt_succ_of_le (le ts)
theorem none_ok {tg ea : Expr} {env : PySem.Env} (h : noneB env.scope tg ea = true) : swappedStores [tg] ea env = pure none := by
  cases ea
  case Tuple vs k2 p2 =>
    cases tg
    case Tuple ts k p =>
      replace h : (!(ts.length == 2 || ts.length == 3) || vs.length != ts.length || ts.any (fun t => !isLc env.scope t) || vs.all (foldedForSure 8)) = true := h
      unfold swappedStores
      dsimp only
      rcases Bool.or_eq_true_iff.mp h with h | hD
      rotate_left
      · split
        · rfl
        · split
          · rfl
          · split
            · rfl
            · first | (rw [if_pos hD]; rfl) | rw [if_pos hD] | simp [hD]
      by_cases h1 : (!(ts.length == 2 || ts.length == 3) || vs.length != ts.length || env.blockKind != .function) = true
      · simp only [h1, if_true]
      · have h1' : (!(ts.length == 2 || ts.length == 3) || vs.length != ts.length) = false := by
          cases hh : (!(ts.length == 2 || ts.length == 3) || vs.length != ts.length) with
          | false => rfl
          | true => rw [hh] at h1; simp at h1
        rw [h1'] at h
        have hany : ts.any (fun t => !isLc env.scope t) = true := by simpa using h
        rw [Bool.not_eq_true] at h1
        rw [h1]
        simp only [Bool.false_eq_true, if_false, pure_bind]
        have hlt := fm_lt (env := env) (line := (ts.head?.map (·.pos.line)).getD 0) ts hany
        split
        · rfl
        · rw [if_pos]
          rw [Bool.or_eq_true]
          refine .inl ?_
          rw [bne_iff_ne]
          exact Nat.ne_of_lt hlt
    case List ts p => cases h
    all_goals rfl
  all_goals (cases tg <;> rfl)
def namesOf (sc : Scope) (ts : List Expr) : List Str := ts.filterMap fun
    | .Name id pos => if sc.names.lookup id == some .local && pos.line == (ts.head?.map (·.pos.line)).getD 0 then some id else none
    | _ => none
def parB (sc : Scope) (ts vs : List Expr) (names : List Str) : Bool :=
  (ts.length == 2 || ts.length == 3) && (vs.length == ts.length) && (bkK sc == .function) && !(vs.any fun | .Starred .. => true | _ => false) && decide (namesOf sc ts = names) && (names.length == ts.length) && (names.eraseDups.length == names.length) &&
  !(vs.all (foldedForSure 8)) && !(vs.all (constantsAlone 8))
theorem par_ok {ts vs : List Expr} {k k2 : Nat} {p p2 : Pos} {env : PySem.Env} {names : List Str} (h : parB env.scope ts vs names = true) : swappedStores [.Tuple ts k p] (.Tuple vs k2 p2) env = pure (some names) := by
  unfold parB at h
  simp only [Bool.and_eq_true, Bool.not_eq_true', decide_eq_true_eq] at h
  obtain ⟨⟨⟨⟨⟨⟨⟨⟨h1, h2⟩, h3⟩, h4⟩, h5⟩, h6⟩, h7⟩, h8⟩, h9⟩ := h
  unfold swappedStores
  dsimp only
  have e1 : (!(ts.length == 2 || ts.length == 3) || vs.length != ts.length || env.blockKind != .function) = false := by
    have q : env.blockKind = .function := eq_of_beq h3
    rw [h1, q]
    simpa using h2
  rw [e1]
  simp only [Bool.false_eq_true, if_false, pure_bind]
  subst h5
  have e6 : ((namesOf env.scope ts).length != ts.length || (namesOf env.scope ts).eraseDups.length != (namesOf env.scope ts).length) = false := by
    simpa using And.intro (by simpa using h6) (by simpa using h7)
  refine (if_neg (fun z => Bool.false_ne_true (h4.symm.trans z))).trans ?_
  refine (if_neg (fun z => Bool.false_ne_true (e6.symm.trans z))).trans ?_
  refine (if_neg (fun z => Bool.false_ne_true (h8.symm.trans z))).trans ?_
  refine (if_neg (fun z => Bool.false_ne_true (h9.symm.trans z))).trans ?_
  rfl
def Ck.suite (c : Ck) (x : Option Nat) : Ck := { c with calm := false, loop := false, top := false, x := x }
def tstX (g : Gc) (c : Ck) (cs : List Nat) : Expr → Bool
  | .Name x _ => c.gl x && decide ((x, cs) ∈ g.exm)
  | .Tuple [.Name x _, .Name y _] _ _ => c.gl x && c.gl y && (g.exm.any fun p => decide (p.1 = x) && g.exm.any fun q => decide (q.1 = y) && decide (cs = p.2 ++ q.2))
  | .Tuple [.Name x _, .Name y _, .Name z _] _ _ => c.gl x && c.gl y && c.gl z && (g.exm.any fun p => decide (p.1 = x) && g.exm.any fun q => decide (q.1 = y) && g.exm.any fun r => decide (r.1 = z) && decide (cs = p.2 ++ q.2 ++ r.2))
  | _ => false
def nmX (c : Ck) : Option Nat → Option Str → Bool
  | none, none => true
  | some i, some n => decide (c.N[i]? = some n) && c.lcl n
  | _, _ => false
mutual
def okS (g : Gc) (c : Ck) : St → Stmt → Bool
  | .asg t e, .Assign ts ee pos => match ts with
    | [tg] => okTg g c t tg && okE g c e ee && swT c.sc ee tg && noneB c.sc tg ee && nst tg
    | _ => false
  | .asg2 t1 t2 e, .Assign ts ee pos => match ts with
    | [x1, x2] => okTg g c t1 x1 && okTg g c t2 x2 && okE g c e ee && nst x1 && nst x2
    | _ => false
  | .par is es, .Assign ts ee pos => match ts with
    | [.Tuple xs _ _] => match ee with
      | .Tuple vs _ _ => c.calm && okEs g c es vs && (is.length == xs.length) && decide ((is.filterMap fun i => c.N[i]?) = namesOf c.sc xs) && parB c.sc xs vs (namesOf c.sc xs) && is.eraseDups.length == is.length
      | _ => false
    | _ => false
  | .asgC i elt t it ifs own m, .Assign ts ee pos => match ts with
    | [.Name y py] => okE g c (.comp elt t it ifs own) ee && decide (c.N[i]? = some y) && c.lcl y && swB c.sc ee y py
    | _ => false
  | .aug i op e, .AugAssign (.Name x _) op' ee _ => !decide (c.x = some i) && decide (c.N[i]? = some x) && c.loc x && decide (op = op') && okE g c e ee
  | .ret e, .Return (some ee) _ => okE g c e ee
  | .retN, .Return none _ => true
  | .ifs e a b, .If ee s1 s2 _ => okE g c e ee && nif ee && okSs g c a s1 && okSs g c b s2
  | .whl e b _, .While ee body orelse _ => c.loop && orelse.isEmpty && okE g c e ee && nif ee && okSs g c b body
  | .fors t it b _, .For tg iter body orelse _ => c.loop && c.calm && orelse.isEmpty && okTg g c t tg && okI g c it tg iter && nse iter && okSs g c b body
  | .expr e, .Expr ee _ => okE g c e ee && nco ee
  | .rais cid k m es, .Raise (some (.Call (.Name x _) xs kws _)) cause _ => cause.isNone && kws.isEmpty && c.calm && c.gl x && okEs g c es xs && !xs.isEmpty && decide ((x, cid, k, m) ∈ g.cls)
  | .try1 b cs h, .Try body hs orelse fin _ => match hs with
    | [.ExceptHandler (some (.Name x _)) none suite _] => c.top && orelse.isEmpty && fin.isEmpty && !suite.isEmpty && c.gl x && okSs g c b body && okSs g (c.suite none) h suite && decide ((x, cs) ∈ g.exm) && decide (c.x = none)
    | _ => false
  | .tryX b cs1 i1 h1 cs2 i2 h2 cs3 i3 h3, .Try body hs orelse fin _ => c.top && orelse.isEmpty && fin.isEmpty && decide (c.x = none) && okSs g c b body && (match hs with
    | [.ExceptHandler (some t1) n1 (b1 :: s1) _] => tstX g c cs1 t1 && nmX c i1 n1 && okSs g (c.suite i1) h1 (b1 :: s1) && cs2.isEmpty && cs3.isEmpty
    | [.ExceptHandler (some t1) n1 (b1 :: s1) _, .ExceptHandler (some t2) n2 (b2 :: s2) _] => tstX g c cs1 t1 && nmX c i1 n1 && okSs g (c.suite i1) h1 (b1 :: s1) && tstX g c cs2 t2 && nmX c i2 n2 && okSs g (c.suite i2) h2 (b2 :: s2) && cs3.isEmpty
    | [.ExceptHandler (some t1) n1 (b1 :: s1) _, .ExceptHandler (some t2) n2 (b2 :: s2) _, .ExceptHandler (some t3) n3 (b3 :: s3) _] => tstX g c cs1 t1 && nmX c i1 n1 && okSs g (c.suite i1) h1 (b1 :: s1) && tstX g c cs2 t2 && nmX c i2 n2 && okSs g (c.suite i2) h2 (b2 :: s2) && tstX g c cs3 t3 && nmX c i3 n3 && okSs g (c.suite i3) h3 (b3 :: s3)
    | _ => false)
  | .any, _ => true
  | .pass, .Pass _ => true
  | .pass, .Expr (.Constant (.str _) _ _) _ => true
  | .brk, .Break _ => true
  | .cnt, .Continue _ => true
  | _, _ => false
def okSs (g : Gc) (c : Ck) : Sts → List Stmt → Bool
  | .nil, [] => true
  | .cons s r, st :: rest => okS g c s st && okSs g c r rest
  | .frz i r, sts => !decide (c.x = some i) && okSs g c r sts
  | _, _ => false
end
section
variable (G : Nat → List D → Store → Out RV)
theorem v_asg (t : Tg) (e : E) : evS G (.asg t e) = fun r S => ((evE G e r S).env r).bindD fun d S1 => (asg G t d r S1).noex.bind fun r1 S2 => .ok (.nx r1) S2 := by funext r S; rw [evS]
theorem v_par (is : List Nat) (es : Es) : evS G (.par is es) = fun r S => ((evEs G es r S).env r).bind fun ds S1 => if ds.length = is.length then .ok (.nx (setAll is ds r)) S1 else .bad := by funext r S; rw [evS]
theorem v_asg2 (t1 t2 : Tg) (e : E) : evS G (.asg2 t1 t2 e) = fun r S => ((evE G e r S).env r).bindD fun d S1 => (asg G t1 d r S1).noex.bind fun r1 S2 => (asg G t2 d r1 S2).noex.bind fun r2 S3 => .ok (.nx r2) S3 := by funext r S; rw [evS]
theorem v_asgC (i : Nat) (elt : E) (t : Tg) (it : It) (ifs : Eo) (own : List Nat) (m : Bool) : evS G (.asgC i elt t it ifs own m) = fun r S => ((evComp (evI G it) (asg G t) (evT G ifs) (evE G elt) own r S).env r).bind fun rv S1 => match m with
      | true => (evNew rv S1).bindD fun d S2 => .ok (.nx (r.set i (some d))) S2
      | false => .ok (.nx (r.set i (some rv.toD))) S1 := by funext r S; first | (rw [evS, e_comp]; done) | (rw [evS, e_comp]; rfl)
theorem v_aug (i : Nat) (op : Operator) (e : E) : evS G (.aug i op e) = fun r S => match r[i]? with
      | some (some x) => ((evE G e r S).env r).bindD fun y S1 => (evAug op x y S1).bindD fun z S2 => .ok (.nx (r.set i (some z))) S2
      | _ => .bad := by funext r S; first | (rw [evS]; done) | (rw [evS]; rfl)
theorem v_ret (e : E) : evS G (.ret e) = fun r S => ((evE G e r S).env r).bind fun v S1 => .ok (.rt v) S1 := by funext r S; rw [evS]
theorem v_retN : evS G .retN = fun _ S => .ok (.rt (.val .non)) S := by funext r S; rw [evS]
theorem v_ifs (e : E) (a b : Sts) : evS G (.ifs e a b) = fun r S => ((evE G e r S).env r).bindD fun d S1 => match d with
    | .bl true => evSs G a r S1
    | .bl false => evSs G b r S1
    | _ => .bad := by funext r S; first | (rw [evS]; done) | (rw [evS]; rfl)
theorem v_whl (e : E) (b : Sts) (kill : List Nat) : evS G (.whl e b kill) = fun r S => whileL S kill (fun r S => (evE G e r S).env r) (evSs G b) r S := by funext r S; rw [evS]
theorem v_for (t : Tg) (it : It) (b : Sts) (kill : List Nat) : evS G (.fors t it b kill) = evFor (evI G it) (asg G t) (evSs G b) kill := by funext r S; first | (rw [evS]; done) | (rw [evS]; rfl)
theorem v_expr (e : E) : evS G (.expr e) = fun r S => ((evE G e r S).env r).bind fun _ S1 => .ok (.nx r) S1 := by funext r S; rw [evS]
theorem v_rais (c k : Nat) (m : Bool) (es : Es) : evS G (.rais c k m es) = fun r S => (((fun r S => (evEs G es r S).bind fun ds S1 => if chk k m ds then .ok ds S1 else .bad : Evs) r S).env r).bind fun ds S1 => .ex c ds r S1 := by funext r S; rw [evS]
theorem v_try (b : Sts) (cs : List Nat) (h : Sts) : evS G (.try1 b cs h) = evTry (evSs G b) cs (evSs G h) := by funext r S; first | (rw [evS]; done) | (rw [evS]; rfl)
theorem v_tryX (b : Sts) (cs1 : List Nat) (i1 : Option Nat) (h1 : Sts) (cs2 : List Nat) (i2 : Option Nat) (h2 : Sts) (cs3 : List Nat) (i3 : Option Nat) (h3 : Sts) : evS G (.tryX b cs1 i1 h1 cs2 i2 h2 cs3 i3 h3) = evTryX (evSs G b) [(cs1, i1, evSs G h1), (cs2, i2, evSs G h2), (cs3, i3, evSs G h3)] := by funext r S; first | (rw [evS]; done) | (rw [evS]; rfl)
theorem v_any : evS G .any = fun _ _ => .bad := by funext r S; rw [evS]
theorem v_pass : evS G .pass = fun r S => .ok (.nx r) S := by funext r S; rw [evS]
theorem v_brk : evS G .brk = fun r S => .ok (.bk r) S := by funext r S; rw [evS]
theorem v_cnt : evS G .cnt = fun r S => .ok (.ct r) S := by funext r S; rw [evS]
theorem vs_nil : evSs G .nil = fun r S => .ok (.nx r) S := by funext r S; rw [evSs]
theorem vs_cons (s : St) (ss : Sts) : evSs G (.cons s ss) = evSeq (evS G s) (evSs G ss) := by funext r S; first | (rw [evSs]; done) | (rw [evSs]; rfl)
theorem vs_frz (i : Nat) (ss : Sts) : evSs G (.frz i ss) = evFrz i (evSs G ss) := by funext r S; first | (rw [evSs]; done) | (rw [evSs]; rfl)
end
end Fc

end
section
set_option autoImplicit false
set_option maxHeartbeats 4000000
/-! what is matched keeps its meaning: statements, defs -/
namespace Fc
open PySem PySem.Spec L2
variable [CtI] [XsI]
variable {g : Gc} {n : Nat}
theorem nco_ok {e : Expr} {line : Nat} {env : PySem.Env} (h : nco e = true) : swapsWith e none line env = pure false := by
  cases e <;> first | rfl | cases h
theorem Sx.noxs {c : Ck} {Wx : WX} {X : Cx} (s : Sx g n c Wx X) (hx : c.x = none) : XsI.xs = none := by
  have := s.ex
  rw [hx] at this
  cases e : XsI.xs with
  | none => rfl
  | some p => rw [e] at this; cases this
theorem Sx.suite {c : Ck} {Wx : WX} {X : Cx} (s : Sx g n c Wx X) (hx : c.x = none) (a : Addr) (pn : List (Addr × PySem.Obj)) : Sx g n (c.suite none) noX (X.suite a pn) := by
  have hn := s.noxs hx
  refine ⟨s.N, s.sc, s.fnb, s.nd, nofun, ⟨s.rooh.dp, s.rooh.un⟩, s.un, s.gu, fun u s' x => ?_, nofun, nofun, s.kx, s.fns, s.ins, s.mths, s.nets, s.blt, s.con, s.mks, s.exm, nofun, (by rw [hn]; rfl), nofun, fun p hp => absurd hp (by rw [hn]; exact nofun), s.xcf, s.xfs, s.xis, s.xfn⟩
  obtain ⟨_, _, _, _, _, _, _, _, _, _, _, _, _, _, _, _, z⟩ := x
  exact z.elim
theorem Sx.tr {c : Ck} {Wx Wy : WX} {X : Cx} (s : Sx g n c Wx X) (hx : c.x = none) (pn : List (Addr × PySem.Obj)) (xe : Value → Shared → Prop) (tk : Takes (X.tr pn xe) Wy) (pa : PassesOwn (model X.prog X.w) X.A X.env xe) : Sx g n c Wy (X.tr pn xe) :=
  ⟨s.N, s.sc, s.fnb, s.nd, s.room, s.rooh, s.un, s.gu, tk, s.calm, fun _ => pa, s.kx, s.fns, s.ins, s.mths, s.nets, s.blt, s.con, s.mks, s.exm, s.fr, s.ex, s.cx, fun p hp => absurd hp (by rw [s.noxs hx]; exact nofun), s.xcf, s.xfs, s.xis, s.xfn⟩
theorem Sx.suiteX {c : Ck} {Wx : WX} {X : Cx} (s : Sx g n c Wx X) (hx : c.x = none) {i : Nat} {a : Addr} {cls : Value} {d : Option Addr} {pn : List (Addr × PySem.Obj)} (hp : Pin (X.suite a pn) a cls d) : @Sx _ ⟨some (i, a, cls, d)⟩ g n (c.suite (some i)) noX (X.suite a pn) := by
  refine @Sx.mk _ ⟨some (i, a, cls, d)⟩ _ _ _ _ _ s.N s.sc s.fnb s.nd nofun ⟨s.rooh.dp, s.rooh.un⟩ s.un s.gu (fun u s' x => ?_) nofun nofun s.kx s.fns s.ins s.mths s.nets s.blt s.con s.mks s.exm nofun rfl nofun (fun p e => ?_) s.xcf s.xfs s.xis s.xfn
  · obtain ⟨_, _, _, _, _, _, _, _, _, _, _, _, _, _, _, _, z⟩ := x
    exact z.elim
  · cases e
    exact hp
theorem lcl_kind {c : Ck} {Wx : WX} {X : Cx} (s : Sx g n c Wx X) {x : Str} (h : c.lcl x = true) : X.env.kindOf x = some .local := by
  show X.env.scope.names.lookup x = _
  rw [s.sc]
  exact of_decide_eq_true h
theorem tstX_ok {c : Ck} {Wx : WX} {X : Cx} (s : Sx g n c Wx X) {cs : List Nat} {t : Expr} (h : tstX g c cs t = true) : ∃ cvs, TestOk X t cvs ∧ ∀ k, CtI.kn k → exmCs X.K (.ref (CtI.ct.adr k)) cvs = some (cs.contains k) := by
  have nm : ∀ {x : Str} {l : List Nat}, c.gl x = true → (x, l) ∈ g.exm → ∃ cv, Names X x cv ∧ ∀ k, CtI.kn k → PySem.W.exmOne X.K (.ref (CtI.ct.adr k)) cv = some (l.contains k) := fun {x l} hg hm => by
    obtain ⟨q1, q2⟩ := gl_ok s hg
    obtain ⟨cv, hcv, hex⟩ := s.exm (x, l) hm
    exact ⟨cv, ⟨q1, q2, .inl hcv⟩, hex⟩
  unfold tstX at h
  split at h
  · obtain ⟨h1, h2⟩ := Bool.and_eq_true_iff.mp h
    obtain ⟨cv, e1, e2⟩ := nm h1 (of_decide_eq_true h2)
    exact ⟨[cv], .one e1, e2⟩
  · simp only [Bool.and_eq_true, List.any_eq_true, decide_eq_true_eq] at h
    obtain ⟨⟨h1, h2⟩, p, hp, rfl, q, hq, rfl, rfl⟩ := h
    obtain ⟨c1, e1, f1⟩ := nm h1 hp
    obtain ⟨c2, e2, f2⟩ := nm h2 hq
    refine ⟨[c1, c2], .two e1 e2, fun k hk => ?_⟩
    show PySem.W.exmAny _ _ [c1, c2] = _
    simp only [PySem.W.exmAny, f1 k hk, f2 k hk, Bool.or_false, List.contains_eq_mem, List.mem_append, Bool.decide_or]
  · simp only [Bool.and_eq_true, List.any_eq_true, decide_eq_true_eq] at h
    obtain ⟨⟨⟨h1, h2⟩, h3⟩, p, hp, rfl, q, hq, rfl, r, hr, rfl, rfl⟩ := h
    obtain ⟨c1, e1, f1⟩ := nm h1 hp
    obtain ⟨c2, e2, f2⟩ := nm h2 hq
    obtain ⟨c3, e3, f3⟩ := nm h3 hr
    refine ⟨[c1, c2, c3], .three e1 e2 e3, fun k hk => ?_⟩
    show PySem.W.exmAny _ _ [c1, c2, c3] = _
    simp only [PySem.W.exmAny, f1 k hk, f2 k hk, f3 k hk, Bool.or_false, List.contains_eq_mem, List.mem_append, Bool.decide_or, Bool.or_assoc]
  · cases h
theorem par2 {c : Ck} {X : Cx} {Wx : WX} (s : Sx g n c Wx X) {x y z : Str} {i j : Nat} {px py pt : Pos} {kt : Nat} (hn : namesOf c.sc [.Name x px, .Name y py] = [x, y]) : c.sc.names.lookup x = some .local ∧ c.sc.names.lookup y = some .local := by
  unfold namesOf at hn
  rw [List.filterMap_cons, List.filterMap_cons] at hn
  dsimp only at hn
  split at hn
  · split at hn
    · cases hn
    · cases hn
  · rename_i h1
    split at hn
    · cases hn
    · rename_i h2
      split at h1
      · rename_i q1
        split at h2
        · rename_i q2
          exact ⟨eq_of_beq (Bool.and_eq_true_iff.mp q1).1, eq_of_beq (Bool.and_eq_true_iff.mp q2).1⟩
        · cases h2
      · cases h1
theorem names_all {sc : Scope} {line : Nat} : ∀ {ts : List Expr}, (ts.filterMap fun
    | .Name id pos => if sc.names.lookup id == some .local && pos.line == line then some id else none
    | _ => none).length = ts.length → ∃ xs : List (Str × Pos), ts = xs.map (fun p => .Name p.1 p.2) ∧ (ts.filterMap fun
    | .Name id pos => if sc.names.lookup id == some .local && pos.line == line then some id else none
    | _ => none) = xs.map (·.1) ∧ ∀ p ∈ xs, sc.names.lookup p.1 = some .local
  | [], _ => ⟨[], rfl, rfl, nofun⟩
  | t :: ts, h => by
    have le : ∀ (ts : List Expr), (ts.filterMap fun
      | .Name id pos => if sc.names.lookup id == some .local && pos.line == line then some id else none
      | _ => none).length ≤ ts.length := fun ts => List.length_filterMap_le _ _
    rw [List.filterMap_cons] at h
    cases t
    case Name id pos =>
      dsimp only at h
      split at h
      · have := le ts
        rw [h] at this
        simp at this
        omega
      · rename_i b hb
        obtain ⟨xs, h1, h2, h3⟩ := names_all (sc := sc) (line := line) (ts := ts) (by simpa using h)
        split at hb
        · rename_i hq
          cases hb
          refine ⟨(id, pos) :: xs, by rw [h1]; rfl, ?_, fun p hp => ?_⟩
          · rw [List.filterMap_cons]
            dsimp only
            rw [if_pos hq]
            dsimp only
            rw [h2]
            rfl
          · rcases List.mem_cons.mp hp with rfl | hp
            · exact eq_of_beq (Bool.and_eq_true_iff.mp hq).1
            · exact h3 p hp
        · cases hb
    all_goals
      have := le ts
      rw [h] at this
      simp at this
      omega
theorem fm2 {N : List Str} {is : List Nat} {x y : Str} (hl : is.length = 2) (h : (is.filterMap fun i => N[i]?) = [x, y]) : ∃ i j, is = [i, j] ∧ N[i]? = some x ∧ N[j]? = some y := by
  match is, hl with
  | [i, j], _ =>
    refine ⟨i, j, rfl, ?_⟩
    rw [List.filterMap_cons, List.filterMap_cons, List.filterMap_nil] at h
    cases e1 : N[i]? with
    | none =>
      rw [e1] at h
      cases e2 : N[j]? with
      | none => rw [e2] at h; cases h
      | some v => rw [e2] at h; cases h
    | some u =>
      rw [e1] at h
      cases e2 : N[j]? with
      | none => rw [e2] at h; cases h
      | some v => rw [e2] at h; cases h; exact ⟨rfl, rfl⟩
theorem fm3 {N : List Str} {is : List Nat} {x y z : Str} (hl : is.length = 3) (h : (is.filterMap fun i => N[i]?) = [x, y, z]) : ∃ i j l, is = [i, j, l] ∧ N[i]? = some x ∧ N[j]? = some y ∧ N[l]? = some z := by
  match is, hl with
  | [i, j, l], _ =>
    refine ⟨i, j, l, rfl, ?_⟩
    rw [List.filterMap_cons, List.filterMap_cons, List.filterMap_cons, List.filterMap_nil] at h
    cases e1 : N[i]? <;> cases e2 : N[j]? <;> cases e3 : N[l]? <;> rw [e1, e2, e3] at h <;> first | cases h; exact ⟨rfl, rfl, rfl⟩ | cases h
theorem dup2 {i j : Nat} (h : ([i, j].eraseDups.length == [i, j].length) = true) : i ≠ j := by
  intro e
  subst e
  simp [List.eraseDups_cons] at h
theorem dup3 {i j l : Nat} (h : ([i, j, l].eraseDups.length == [i, j, l].length) = true) : i ≠ j ∧ i ≠ l ∧ j ≠ l := by
  refine ⟨?_, ?_, ?_⟩
  · intro e
    subst e
    have := beq_iff_eq.mp h
    have le : ([l].eraseDups).length ≤ 1 := by simp [List.eraseDups_cons]
    simp [List.eraseDups_cons] at this
    by_cases hl : l = i <;> simp [hl, List.eraseDups_cons] at this
  · intro e
    subst e
    have := beq_iff_eq.mp h
    simp [List.eraseDups_cons] at this
    by_cases hl : j = i <;> simp [hl, List.eraseDups_cons] at this
  · intro e
    subst e
    have := beq_iff_eq.mp h
    simp [List.eraseDups_cons] at this
    by_cases hl : j = i <;> simp [hl, List.eraseDups_cons] at this
end Fc

end
section
set_option autoImplicit false
set_option maxHeartbeats 4000000
namespace Fc
open PySem PySem.Spec L2
variable [CtI]
variable {g : Gc} {n : Nat}
theorem mPar [XsI] {c : Ck} {X : Cx} {Wx : WX} (s : Sx g n c Wx X) {is : List Nat} {es : Es} {xs vs : List Expr} {k k2 : Nat} {p p2 pos : Pos}
    (h : (c.calm && okEs g c es vs && (is.length == xs.length) && decide ((is.filterMap fun i => c.N[i]?) = namesOf c.sc xs) && parB c.sc xs vs (namesOf c.sc xs) && is.eraseDups.length == is.length) = true) :
    PS X (.Assign [.Tuple xs k p] (.Tuple vs k2 p2) pos) (RdS Wx (evS (sem g.T n) (.par is es))) := by
  haveI : KX X := ⟨s.kx⟩
  obtain ⟨h1, h2⟩ := bi_and h
  obtain ⟨h3, h4⟩ := bi_and h1
  obtain ⟨h5, h6⟩ := bi_and h3
  obtain ⟨h7, h8⟩ := bi_and h5
  obtain ⟨h9, h10⟩ := bi_and h7
  have hl : is.length = xs.length := beq_iff_eq.mp h8
  have hf := dt h6
  have hpar : parB X.env.scope xs vs (namesOf c.sc xs) = true := by rw [s.sc]; exact h4
  have hw := par_ok (k := k) (k2 := k2) (p := p) (p2 := p2) hpar
  unfold parB at h4
  simp only [Bool.and_eq_true, Bool.not_eq_true', decide_eq_true_eq] at h4
  obtain ⟨⟨⟨⟨⟨⟨⟨⟨q1, q2⟩, q3⟩, q4⟩, q5⟩, q6⟩, q7⟩, q8⟩, q9⟩ := h4
  obtain ⟨ns, e1, e2, e3⟩ := names_all (sc := c.sc) (line := (xs.head?.map (fun (e : Expr) => e.pos.line)).getD 0) (ts := xs) (beq_iff_eq.mp q6)
  have e2' : namesOf c.sc xs = ns.map (·.1) := e2
  rw [e2'] at hf hw
  have hvl : vs.length = xs.length := beq_iff_eq.mp q2
  have hnl : ns.length = xs.length := by rw [e1]; simp
  have A := mEs es s h10
  rw [v_par]
  rcases Bool.or_eq_true_iff.mp q1 with q1 | q1
  · have hx : xs.length = 2 := beq_iff_eq.mp q1
    obtain ⟨x, px, y, py, rfl⟩ : ∃ x px y py, ns = [(x, px), (y, py)] := by
      match ns, hnl.trans hx with
      | [(x, px), (y, py)], _ => exact ⟨x, px, y, py, rfl⟩
    obtain ⟨ea, eb, rfl⟩ : ∃ ea eb, vs = [ea, eb] := by
      match vs, hvl.trans hx with
      | [ea, eb], _ => exact ⟨ea, eb, rfl⟩
    · obtain ⟨i, j, rfl, n1, n2⟩ := fm2 (hl.trans hx) hf
      subst e1
      exact st_par2 (s.calm h9) s.nd (by rw [s.N]; exact n1) (by rw [s.N]; exact n2) (dup2 h2) (by rw [s.sc]; exact e3 (x, px) (by simp)) (by rw [s.sc]; exact e3 (y, py) (by simp)) A hw rfl
  · have hx : xs.length = 3 := beq_iff_eq.mp q1
    obtain ⟨x, px, y, py, z, pz, rfl⟩ : ∃ x px y py z pz, ns = [(x, px), (y, py), (z, pz)] := by
      match ns, hnl.trans hx with
      | [(x, px), (y, py), (z, pz)], _ => exact ⟨x, px, y, py, z, pz, rfl⟩
    obtain ⟨ea, eb, ec, rfl⟩ : ∃ ea eb ec, vs = [ea, eb, ec] := by
      match vs, hvl.trans hx with
      | [ea, eb, ec], _ => exact ⟨ea, eb, ec, rfl⟩
    · obtain ⟨i, j, l, rfl, n1, n2, n3⟩ := fm3 (hl.trans hx) hf
      subst e1
      obtain ⟨d1, d2, d3⟩ := dup3 h2
      exact st_par3 (s.calm h9) s.nd (by rw [s.N]; exact n1) (by rw [s.N]; exact n2) (by rw [s.N]; exact n3) d1 d2 d3 (by rw [s.sc]; exact e3 (x, px) (by simp)) (by rw [s.sc]; exact e3 (y, py) (by simp)) (by rw [s.sc]; exact e3 (z, pz) (by simp)) A hw rfl
theorem mAsgC [XsI] {c : Ck} {X : Cx} {Wx : WX} (s : Sx g n c Wx X) {i : Nat} {elt : E} {t : Tg} {it : It} {ifs : Eo} {own : List Nat} (m : Bool) {ee : Expr} {y : Str} {py pos : Pos} (h5 : okE g c (.comp elt t it ifs own) ee = true) (hy : X.N[i]? = some y) (hyl : X.env.scope.names.lookup y = some .local)
    (hsw : ∀ line, swapsWith ee (some (.Name y py)) line X.env = pure true) : PS X (.Assign [.Name y py] ee pos) (RdS Wx (evS (sem g.T n) (.asgC i elt t it ifs own m))) := by
  haveI : KX X := ⟨s.kx⟩
  cases ee
  case ListComp eelt gens scope p =>
    match gens, h5 with
    | [], h5 => simp [okE] at h5
    | _ :: _ :: _, h5 => simp [okE] at h5
    | [⟨tg, iter, eifs, k⟩], h5 =>
      obtain ⟨h1, h2⟩ := bi_and (show ((((((((decide (k = 0) && c.calm) && blkB c.N c.sc scope own) && okI g c it tg iter) && nse iter) && okTg g (c.blk scope) t tg) && (t.ns.all fun i => own.contains i)) && okT g (c.blk scope) ifs eifs) && okE g (c.blk scope) elt eelt) = true from by unfold okE at h5; exact h5)
      obtain ⟨h3, h4⟩ := bi_and h1
      obtain ⟨h5, h6⟩ := bi_and h3
      obtain ⟨h7, h8⟩ := bi_and h5
      obtain ⟨h9, h10⟩ := bi_and h7
      obtain ⟨h11, h12⟩ := bi_and h9
      obtain ⟨h13, h14⟩ := bi_and h11
      obtain ⟨h15, h13⟩ := bi_and h13
      have e0 := dt h15
      subst e0
      obtain ⟨b1, b2⟩ := blk_ok h14
      have hc := st_setC (pos := p) (own := ownP c.N own) (s.calm h13) s.nd hy hyl (hsw pos.line) (mI it s h12) (by rw [s.N, s.sc]; exact b1) (ts := t.ns) (by
          intro i hi
          rw [b2]
          simpa using List.all_eq_true.mp h6 i hi)
        (fun sh H C cl fp => mTg t (s.blk h13 sh H scope cl C fp) h8) (fun sh H C cl fp => mT ifs (s.blk h13 sh H scope cl C fp) h4) (fun sh H C cl fp => (mE elt (s.blk h13 sh H scope cl C fp) h2).1) (fold_ok h10) m
      rw [b2] at hc
      rw [v_asgC]
      exact hc
  all_goals simp [okE] at h5
mutual
theorem mS : ∀ (st : St) [XsI] {c : Ck} {X : Cx} {Wx : WX}, Sx g n c Wx X → ∀ {e : Stmt}, okS g c st e = true → PS X e (RdS Wx (evS (sem g.T n) st))
  | .asg t a, x0, c, X, Wx, s, e, h => by
    haveI : KX X := ⟨s.kx⟩
    cases e
    case Assign ts ee pos =>
      match ts, h with
      | [], h => simp [okS] at h
      | _ :: _ :: _, h => simp [okS] at h
      | [tg], h =>
        obtain ⟨h1, h2⟩ := bi_and (show ((((okTg g c t tg && okE g c a ee) && swT c.sc ee tg) && noneB c.sc tg ee) && nst tg) = true from by unfold okS at h; exact h)
        obtain ⟨h3, h4⟩ := bi_and h1
        obtain ⟨h5, h6⟩ := bi_and h3
        obtain ⟨h7, h8⟩ := bi_and h5
        rw [v_asg]
        exact st_asg (mE a s h8).1 (mTg t s h7) (swT_ok (by rw [s.sc]; exact h6)) (none_ok (by rw [s.sc]; exact h4)) (by rw [asn_cons h2]; rfl)
    all_goals simp [okS] at h
  | .asg2 t1 t2 a, x0, c, X, Wx, s, e, h => by
    haveI : KX X := ⟨s.kx⟩
    cases e
    case Assign ts ee pos =>
      match ts, h with
      | [], h => simp [okS] at h
      | [_], h => simp [okS] at h
      | _ :: _ :: _ :: _, h => simp [okS] at h
      | [x1, x2], h =>
        obtain ⟨h1, h2⟩ := bi_and (show ((((okTg g c t1 x1 && okTg g c t2 x2) && okE g c a ee) && nst x1) && nst x2) = true from by unfold okS at h; exact h)
        obtain ⟨h3, h4⟩ := bi_and h1
        obtain ⟨h5, h6⟩ := bi_and h3
        obtain ⟨h7, h8⟩ := bi_and h5
        rw [v_asg2]
        exact st_asg2 (mE a s h6).1 (mTg t1 s h7) (mTg t2 s h8) (by rw [asn_cons h4, asn_cons h2]; rfl)
    all_goals simp [okS] at h
  | .par is es, x0, c, X, Wx, s, e, h => by
    cases e
    case Assign ts ee pos =>
      match ts, h with
      | [], h => simp [okS] at h
      | _ :: _ :: _, h => simp [okS] at h
      | [tg], h =>
        cases tg
        case Tuple xs k p =>
          cases ee
          case Tuple vs k2 p2 =>
            exact mPar s (by unfold okS at h; exact h)
          all_goals simp [okS] at h
        all_goals simp [okS] at h
    all_goals simp [okS] at h
  | .asgC i elt t it ifs own m, x0, c, X, Wx, s, e, h => by
    haveI : KX X := ⟨s.kx⟩
    cases e
    case Assign ts ee pos =>
      match ts, h with
      | [], h => simp [okS] at h
      | _ :: _ :: _, h => simp [okS] at h
      | [tg], h =>
        cases tg
        case Name y py =>
          obtain ⟨h1, h2⟩ := bi_and (show (((okE g c (.comp elt t it ifs own) ee && decide (c.N[i]? = some y)) && c.lcl y) && swB c.sc ee y py) = true from by unfold okS at h; exact h)
          obtain ⟨h3, h4⟩ := bi_and h1
          obtain ⟨h5, h6⟩ := bi_and h3
          have hy : X.N[i]? = some y := by rw [s.N]; exact dt h6
          have hyl : X.env.scope.names.lookup y = some .local := by rw [s.sc]; exact dt h4
          have hsw : ∀ line, swapsWith ee (some (.Name y py)) line X.env = pure true := fun line => by rw [sw_ok, s.sc, h2]
          exact mAsgC s m h5 hy hyl hsw
        all_goals simp [okS] at h
    all_goals simp [okS] at h
  | .aug i op a, x0, c, X, Wx, s, e, h => by
    haveI : KX X := ⟨s.kx⟩
    cases e
    case AugAssign tg op' ee pos =>
      cases tg
      case Name x p =>
        obtain ⟨h1, h2⟩ := bi_and (show ((((!decide (c.x = some i) && decide (c.N[i]? = some x)) && c.loc x) && decide (op = op')) && okE g c a ee) = true from by unfold okS at h; exact h)
        obtain ⟨h3, h4⟩ := bi_and h1
        obtain ⟨h5, h6⟩ := bi_and h3
        obtain ⟨hx, h5⟩ := bi_and h5
        have e1 := dt h4
        subst e1
        obtain ⟨l1, l2⟩ := loc_ok s h6
        rw [v_aug]
        exact st_aug (s.nox hx) s.nd (by rw [s.N]; exact dt h5) l1 (mE a s h2).1 l2
      all_goals simp [okS] at h
    all_goals simp [okS] at h
  | .ret a, x0, c, X, Wx, s, e, h => by
    haveI : KX X := ⟨s.kx⟩
    cases e
    case Return v p =>
      cases v with
      | none => simp [okS] at h
      | some ee =>
        rw [v_ret]
        exact st_ret (mE a s (show okE g c a ee = true from by unfold okS at h; exact h)).1
    all_goals simp [okS] at h
  | .retN, x0, c, X, Wx, s, e, h => by
    haveI : KX X := ⟨s.kx⟩
    cases e
    case Return v p =>
      cases v with
      | none => rw [v_retN]; exact st_retN
      | some ee => simp [okS] at h
    all_goals simp [okS] at h
  | .ifs a x y, x0, c, X, Wx, s, e, h => by
    haveI : KX X := ⟨s.kx⟩
    cases e
    case If ee s1 s2 p =>
      obtain ⟨h1, h2⟩ := bi_and (show (((okE g c a ee && nif ee) && okSs g c x s1) && okSs g c y s2) = true from by unfold okS at h; exact h)
      obtain ⟨h3, h4⟩ := bi_and h1
      obtain ⟨h5, h6⟩ := bi_and h3
      rw [v_ifs]
      exact st_if ((mE a s h5).2 h6) (mSs x s h4) (mSs y s h2)
    all_goals simp [okS] at h
  | .whl a b kill, x0, c, X, Wx, s, e, h => by
    haveI : KX X := ⟨s.kx⟩
    cases e
    case While ee body orelse p =>
      obtain ⟨h1, h2⟩ := bi_and (show ((((c.loop && orelse.isEmpty) && okE g c a ee) && nif ee) && okSs g c b body) = true from by unfold okS at h; exact h)
      obtain ⟨h3, h4⟩ := bi_and h1
      obtain ⟨h5, h6⟩ := bi_and h3
      obtain ⟨h7, h8⟩ := bi_and h5
      rw [List.isEmpty_iff] at h8
      subst h8
      rw [v_whl]
      exact st_while (s.pass h7) ((mE a s h6).2 h4) (mSs b s h2)
    all_goals simp [okS] at h
  | .fors t it b kill, x0, c, X, Wx, s, e, h => by
    haveI : KX X := ⟨s.kx⟩
    cases e
    case For tg iter body orelse p =>
      obtain ⟨h1, h2⟩ := bi_and (show ((((((c.loop && c.calm) && orelse.isEmpty) && okTg g c t tg) && okI g c it tg iter) && nse iter) && okSs g c b body) = true from by unfold okS at h; exact h)
      obtain ⟨h3, h4⟩ := bi_and h1
      obtain ⟨h5, h6⟩ := bi_and h3
      obtain ⟨h7, h8⟩ := bi_and h5
      obtain ⟨h9, h10⟩ := bi_and h7
      obtain ⟨h11, h12⟩ := bi_and h9
      rw [List.isEmpty_iff] at h10
      subst h10
      rw [v_for]
      exact st_for (s.pass h11) (s.calm h12) (mI it s h6) (mTg t s h8) (mSs b s h2) (fold_ok h4)
    all_goals simp [okS] at h
  | .expr a, x0, c, X, Wx, s, e, h => by
    haveI : KX X := ⟨s.kx⟩
    cases e
    case Expr ee p =>
      obtain ⟨h1, h2⟩ := bi_and (show (okE g c a ee && nco ee) = true from by unfold okS at h; exact h)
      rw [v_expr]
      exact st_expr (mE a s h1).1 (nco_ok h2)
    all_goals simp [okS] at h
  | .rais cid k m es, x0, c, X, Wx, s, e, h => by
    haveI : KX X := ⟨s.kx⟩
    cases e
    case Raise ex cause p =>
      cases ex with
      | none => simp [okS] at h
      | some ee =>
        cases ee
        case Call fn xs kws p2 =>
          cases fn
          case Name x p1 =>
            obtain ⟨h1, h2⟩ := bi_and (show ((((((cause.isNone && kws.isEmpty) && c.calm) && c.gl x) && okEs g c es xs) && !xs.isEmpty) && decide ((x, cid, k, m) ∈ g.cls)) = true from by unfold okS at h; exact h)
            obtain ⟨h3, h4⟩ := bi_and h1
            obtain ⟨h5, h6⟩ := bi_and h3
            obtain ⟨h7, h8⟩ := bi_and h5
            obtain ⟨h9, h10⟩ := bi_and h7
            obtain ⟨h11, h12⟩ := bi_and h9
            rw [List.isEmpty_iff] at h12
            subst h12
            cases cause with
            | some _ => cases h11
            | none =>
              obtain ⟨q1, q2⟩ := gl_ok s h8
              have M := s.mks _ (dt h2)
              cases es with
              | nil =>
                cases xs with
                | nil => cases h4
                | cons _ _ => simp [okEs] at h6
              | cons a0 es0 =>
                cases xs with
                | nil => simp [okEs] at h6
                | cons x0 xs0 =>
                  have h6' := h6
                  simp only [okEs, Bool.and_eq_true] at h6'
                  rw [v_rais]
                  exact st_raise (s.calm h10) s.tk (s_mk M ((s.room h10).mono (by omega)) q1 (mEs (.cons a0 es0) s h6) q2 (star_cons h6'.1.1) (okEs_star c es0 xs0 h6'.2 _ _))
          all_goals simp [okS] at h
        all_goals simp [okS] at h
    all_goals simp [okS] at h
  | .try1 b cs hd, x0, c, X, Wx, s, e, h => by
    haveI : KX X := ⟨s.kx⟩
    cases e
    case Try body hs orelse fin p =>
      match hs, h with
      | [], h => simp [okS] at h
      | _ :: _ :: _, h => simp [okS] at h
      | [.ExceptHandler ty nm suite p3], h =>
        cases ty with
        | none => simp [okS] at h
        | some te =>
          cases te
          case Name x p4 =>
            cases nm with
            | some _ => simp [okS] at h
            | none =>
              obtain ⟨h5, h6⟩ := bi_and (show (((((((c.top && orelse.isEmpty) && fin.isEmpty) && !suite.isEmpty) && c.gl x) && okSs g c b body) && okSs g (c.suite none) hd suite) && decide ((x, cs) ∈ g.exm)) = true from by unfold okS at h; exact (bi_and h).1)
              have hcx : c.x = none := by
                have hh : ((((((((c.top && orelse.isEmpty) && fin.isEmpty) && !suite.isEmpty) && c.gl x) && okSs g c b body) && okSs g (c.suite none) hd suite) && decide ((x, cs) ∈ g.exm)) && decide (c.x = none)) = true := by unfold okS at h; exact h
                exact of_decide_eq_true (bi_and hh).2
              obtain ⟨h7, h8⟩ := bi_and h5
              obtain ⟨h9, h10⟩ := bi_and h7
              obtain ⟨h11, h12⟩ := bi_and h9
              obtain ⟨h13, h14⟩ := bi_and h11
              obtain ⟨h15, h16⟩ := bi_and h13
              obtain ⟨h17, h18⟩ := bi_and h15
              rw [List.isEmpty_iff] at h16 h18
              subst h16 h18
              obtain ⟨q1, q2⟩ := gl_ok s h12
              obtain ⟨cv, hcv, hex⟩ := s.exm (x, cs) (dt h6)
              cases suite with
              | nil => cases h14
              | cons b0 suite =>
                rw [v_try]
                exact st_try (cs := cs) (s.fr h17).1 (s.fr h17).2 ⟨q1, q2, .inl hcv⟩ s.tk (fun Wy pn xe tk pa => mSs b (s.tr hcx pn xe tk pa) h10) (fun a pn => mSs hd (s.suite hcx a pn) h8) hex
          all_goals simp [okS] at h
    all_goals simp [okS] at h
  | .tryX b cs1 i1 h1 cs2 i2 h2 cs3 i3 h3, x0, c, X, Wx, s, e, h => by
    haveI : KX X := ⟨s.kx⟩
    cases e
    case Try body hs orelse fin p =>
      have bd : c.x = none → okSs g c b body = true → ∀ (Wy : WX) (pn : List (Addr × PySem.Obj)) (xe : Value → Shared → Prop), Takes (X.tr pn xe) Wy → PassesOwn (model X.prog X.w) X.A X.env xe → PSs (X.tr pn xe) body (RdS Wy (evSs (sem g.T n) b)) := fun hx hb Wy pn xe tk pa => mSs b (s.tr hx pn xe tk pa) hb
      have one : c.x = none → ∀ {te : Expr} {nm : Option Str} {cs : List Nat} {i : Option Nat} {hd : Sts} {b0 : Stmt} {st : List Stmt} {p3 : Pos} {hds : List ExceptHandler} {cl : List (List Nat × Option Nat × EvS)}, tstX g c cs te = true → nmX c i nm = true →
          (∀ [XsI] {X' : Cx} {Wx' : WX}, Sx g n (c.suite i) Wx' X' → PSs X' (b0 :: st) (RdS Wx' (evSs (sem g.T n) hd))) → HdE X hds cl → HdE X (.ExceptHandler (some te) nm (b0 :: st) p3 :: hds) ((cs, i, evSs (sem g.T n) hd) :: cl) := by
        intro hx te nm cs i hd b0 st p3 hds cl ht hn hs' r
        obtain ⟨cvs, t1, t2⟩ := tstX_ok s ht
        cases i with
        | none =>
          cases nm with
          | none => exact .plain t1 t2 (fun a pn => hs' (s.suite hx a pn)) r
          | some _ => cases hn
        | some i =>
          cases nm with
          | none => cases hn
          | some nm =>
            obtain ⟨n1, n2⟩ := bi_and (show (decide (c.N[i]? = some nm) && c.lcl nm) = true from hn)
            exact .named t1 t2 (by rw [s.N]; exact of_decide_eq_true n1) (lcl_kind s n2) (fun a cls d pn hp => @hs' ⟨some (i, a, cls, d)⟩ _ _ (s.suiteX hx hp)) r
      rw [v_tryX]
      match hs, h with
      | [], h => simp [okS] at h
      | .ExceptHandler none _ _ _ :: _, h => simp [okS] at h
      | [.ExceptHandler (some t1) n1 [] _], h => simp [okS] at h
      | _ :: _ :: _ :: _ :: _, h => simp [okS] at h
      | [.ExceptHandler (some t1) n1 (b1 :: s1) z1], h =>
        have hh : ((((((c.top && orelse.isEmpty) && fin.isEmpty) && decide (c.x = none)) && okSs g c b body)) && (tstX g c cs1 t1 && nmX c i1 n1 && okSs g (c.suite i1) h1 (b1 :: s1) && cs2.isEmpty && cs3.isEmpty)) = true := by unfold okS at h; exact h
        simp only [Bool.and_eq_true, List.isEmpty_iff, decide_eq_true_eq] at hh
        obtain ⟨⟨⟨⟨⟨q0, rfl⟩, rfl⟩, hx⟩, hb⟩, ⟨⟨⟨k1, k2⟩, k3⟩, rfl⟩, rfl⟩ := hh
        have := st_tryX (pos := p) (s.noxs hx) (s.fr q0).1 (s.fr q0).2 s.nd s.tk (bd hx hb) (one hx (p3 := z1) k1 k2 (fun sx => mSs h1 sx k3) .nil)
        rw [← tryX_skip (i := i2) (g := evSs (sem g.T n) h2), ← tryX_skip (i := i3) (g := evSs (sem g.T n) h3)] at this
        exact this
      | [.ExceptHandler (some t1) n1 (b1 :: s1) z1, .ExceptHandler (some t2) n2 (b2 :: s2) z2], h =>
        have hh : ((((((c.top && orelse.isEmpty) && fin.isEmpty) && decide (c.x = none)) && okSs g c b body)) && (tstX g c cs1 t1 && nmX c i1 n1 && okSs g (c.suite i1) h1 (b1 :: s1) && tstX g c cs2 t2 && nmX c i2 n2 && okSs g (c.suite i2) h2 (b2 :: s2) && cs3.isEmpty)) = true := by unfold okS at h; exact h
        simp only [Bool.and_eq_true, List.isEmpty_iff, decide_eq_true_eq] at hh
        obtain ⟨⟨⟨⟨⟨q0, rfl⟩, rfl⟩, hx⟩, hb⟩, ⟨⟨⟨⟨⟨k1, k2⟩, k3⟩, k4⟩, k5⟩, k6⟩, rfl⟩ := hh
        have := st_tryX (pos := p) (s.noxs hx) (s.fr q0).1 (s.fr q0).2 s.nd s.tk (bd hx hb) (one hx (p3 := z1) k1 k2 (fun sx => mSs h1 sx k3) (one hx (p3 := z2) k4 k5 (fun sx => mSs h2 sx k6) .nil))
        rw [← tryX_skip (i := i3) (g := evSs (sem g.T n) h3)] at this
        exact this
      | [.ExceptHandler (some t1) n1 (b1 :: s1) _, .ExceptHandler (some t2) n2 (b2 :: s2) _, .ExceptHandler (some t3) n3 (b3 :: s3) _], h =>
        have hh : ((((((c.top && orelse.isEmpty) && fin.isEmpty) && decide (c.x = none)) && okSs g c b body)) && (tstX g c cs1 t1 && nmX c i1 n1 && okSs g (c.suite i1) h1 (b1 :: s1) && tstX g c cs2 t2 && nmX c i2 n2 && okSs g (c.suite i2) h2 (b2 :: s2) && tstX g c cs3 t3 && nmX c i3 n3 && okSs g (c.suite i3) h3 (b3 :: s3))) = true := by unfold okS at h; exact h
        simp only [Bool.and_eq_true, List.isEmpty_iff, decide_eq_true_eq] at hh
        obtain ⟨⟨⟨⟨⟨q0, rfl⟩, rfl⟩, hx⟩, hb⟩, ⟨⟨⟨⟨⟨⟨⟨k1, k2⟩, k3⟩, k4⟩, k5⟩, k6⟩, k7⟩, k8⟩, k9⟩ := hh
        exact st_tryX (pos := p) (s.noxs hx) (s.fr q0).1 (s.fr q0).2 s.nd s.tk (bd hx hb) (one hx k1 k2 (fun sx => mSs h1 sx k3) (one hx k4 k5 (fun sx => mSs h2 sx k6) (one hx k7 k8 (fun sx => mSs h3 sx k9) .nil)))
      | [.ExceptHandler (some t1) n1 [] _, _], h => simp [okS] at h
      | [.ExceptHandler (some t1) n1 (b1 :: s1) _, .ExceptHandler none _ _ _], h => simp [okS] at h
      | [.ExceptHandler (some t1) n1 (b1 :: s1) _, .ExceptHandler (some t2) n2 [] _], h => simp [okS] at h
      | [.ExceptHandler (some t1) n1 [] _, _, _], h => simp [okS] at h
      | [.ExceptHandler (some t1) n1 (b1 :: s1) _, .ExceptHandler none _ _ _, _], h => simp [okS] at h
      | [.ExceptHandler (some t1) n1 (b1 :: s1) _, .ExceptHandler (some t2) n2 [] _, _], h => simp [okS] at h
      | [.ExceptHandler (some t1) n1 (b1 :: s1) _, .ExceptHandler (some t2) n2 (b2 :: s2) _, .ExceptHandler none _ _ _], h => simp [okS] at h
      | [.ExceptHandler (some t1) n1 (b1 :: s1) _, .ExceptHandler (some t2) n2 (b2 :: s2) _, .ExceptHandler (some t3) n3 [] _], h => simp [okS] at h
    all_goals simp [okS] at h
  | .any, x0, c, X, Wx, s, e, h => by
    rw [v_any]
    exact ⟨fun pins s σ H D I z => let ⟨_, _, _, _, _, z⟩ := z; False.elim z⟩
  | .pass, x0, c, X, Wx, s, e, h => by
    haveI : KX X := ⟨s.kx⟩
    cases e
    case Pass p => rw [v_pass]; exact st_pass
    case Expr ee p =>
      unfold okS at h
      split at h <;> first | contradiction | skip
      all_goals first | (rename_i q; cases q; done) | skip
      all_goals (rw [v_pass]; rename_i q; cases q; exact st_doc)
    all_goals simp [okS] at h
  | .brk, x0, c, X, Wx, s, e, h => by
    haveI : KX X := ⟨s.kx⟩
    cases e
    case Break p => rw [v_brk]; exact st_break
    all_goals simp [okS] at h
  | .cnt, x0, c, X, Wx, s, e, h => by
    haveI : KX X := ⟨s.kx⟩
    cases e
    case Continue p => rw [v_cnt]; exact st_cont
    all_goals simp [okS] at h
theorem mSs : ∀ (ss : Sts) [XsI] {c : Ck} {X : Cx} {Wx : WX}, Sx g n c Wx X → ∀ {sts : List Stmt}, okSs g c ss sts = true → PSs X sts (RdS Wx (evSs (sem g.T n) ss))
  | .nil, x0, c, X, Wx, s, [], h => by
    haveI : KX X := ⟨s.kx⟩
    rw [vs_nil]; exact ss_nil
  | .nil, x0, c, X, Wx, s, _ :: _, h => by simp [okSs] at h
  | .cons a r, x0, c, X, Wx, s, [], h => by simp [okSs] at h
  | .cons a r, x0, c, X, Wx, s, st :: sts, h => by
    haveI : KX X := ⟨s.kx⟩
    obtain ⟨h1, h2⟩ := bi_and (show (okS g c a st && okSs g c r sts) = true from by unfold okSs at h; exact h)
    rw [vs_cons]
    exact ss_cons (mS a s h1) (mSs r s h2)
  | .frz i r, x0, c, X, Wx, s, sts, h => by
    haveI : KX X := ⟨s.kx⟩
    rw [vs_frz]
    obtain ⟨hx, h⟩ := bi_and (show (!decide (c.x = some i) && okSs g c r sts) = true from by unfold okSs at h; exact h)
    exact ss_frz (s.nox hx) (mSs r s h)
end
end Fc

end
section
set_option autoImplicit false
set_option maxHeartbeats 4000000
/-! defs -/
namespace Fc
open PySem PySem.Spec L2 PyProof.Rows
instance x00 : XsI := ⟨none⟩
variable [CtI]
def ckOf (N : List Str) (sc : Scope) : Ck := ⟨N, sc, fun _ => true, true, true, true, none⟩
/-- the check of a def that is handed the exception: nothing is raised or called there -/
def ckX (N : List Str) (sc : Scope) : Ck := ⟨N, sc, fun _ => true, false, false, false, some 0⟩
structure ModOk (g : Gc) (P : Program) (w : World) (K : PySem.W.Frag) (mg : Str → Option Value) (base : Heap) : Prop where
  kx : K = CtI.K
  blt : ∀ x, g.b x = true → mg x = none
  con : ∀ p ∈ g.glb, ∃ u v, mg p.1 = some u ∧ RelV v u ∧ ∀ W H, Rep W H v p.2
  mks : ∀ X : Cx, X.prog = P → X.w = w → X.K = K → X.mg = mg → X.base = base → ∀ p ∈ g.cls, MkAt X p.1 p.2.1 p.2.2.1 p.2.2.2
  exm : ∀ q ∈ g.exm, ∃ cv, mg q.1 = some cv ∧ ∀ c, CtI.kn c → PySem.W.exmOne K (.ref (CtI.ct.adr c)) cv = some (q.2.contains c)
  xcf : ∀ k, CtI.kn k → XcF K (CtI.ct.adr k)
  xfs : ∀ q ∈ g.xfs, CtI.ct.flds q.1 = q.2 ∧ q.2.Nodup ∧ ∀ f ∈ q.2, PySem.W.findIn K (.ref (CtI.ct.adr q.1)) f = some none
  xis : ∀ q ∈ g.xis, ∃ (cv : Value) (cw : V), (mg q.1 = some cv ∨ (mg q.1 = none ∧ bootBuiltins q.1 = some cv ∧ q.1 ≠ "__name__")) ∧ RelV cw cv ∧ (∀ u, RelV cw u → u = cv) ∧ (∀ k, CtI.kn k → PySem.W.kitOne K (.ref (CtI.ct.adr k)) cv = some (q.2.contains k))
  ins : ∀ p ∈ g.ins, mg p.1 = some (.ref (CtI.ct.adr p.2.1)) ∧ CtI.ct.flds p.2.1 = p.2.2 ∧ p.2.2.Nodup ∧ Cls K (CtI.ct.adr p.2.1) ∧ (∀ f ∈ p.2.2, NoAttr K (CtI.ct.adr p.2.1) f) ∧ IsoC K (CtI.ct.adr p.2.1)
  defs : ∀ (f : Nat) (fd : Fd), g.T.lookup f = some fd → fd.kd = .glob → ∃ (a : Addr) (dt : FuncData) (qual : Str) (params : Arguments) (body : List Stmt) (scope : Scope), FunD K fd.nm qual params body scope [] [] a dt ∧ mg fd.nm = some (.ref a) ∧ FnScope fd.N fd.ps scope ∧ fd.np ≤ fd.N.length ∧
    okSs g (ckOf fd.N scope) fd.body body = true ∧ L2.Binds K dt fd.ps [] ∧ ∀ q ∈ fd.kws, KB K dt fd.ps q
  mths : ∀ (f : Nat) (fd : Fd), g.T.lookup f = some fd → ∀ p ∈ g.ins, fd.kd = .meth p.1 → ∃ (a : Addr) (dt : FuncData) (qual : Str) (params : Arguments) (body : List Stmt) (scope : Scope) (dvs : List V), FunD K fd.nm qual params body scope dvs [] a dt ∧ Meth K (CtI.ct.adr p.2.1) fd.nm a ∧ fd.nm ∉ p.2.2 ∧ FnScope fd.N fd.ps scope ∧ fd.np ≤ fd.N.length ∧
    okSs g (ckOf fd.N scope) fd.body body = true ∧ ∀ q ∈ fd.kws, KBd K dt fd.ps q
  nets : ∀ (f : Nat) (fd : Fd) (f1 f2 : Nat), g.T.lookup f = some fd → fd.kd = .net f1 f2 → ∀ p ∈ g.ins, p.1 = fd.nm → p.2.2 = netF → ∃ (a : Addr) (dt : FuncData) (nm qual : Str) (params : Arguments) (body : List Stmt) (scope : Scope) (fd1 fd2 : Fd), FunD K nm qual params body scope [] [] a dt ∧ Mk K (CtI.ct.adr p.2.1) a ∧ FnScope netN netN scope ∧ okVis scope netN = true ∧ okNet body = true ∧
    scope.names.lookup ("read_trees" : Str) = some .globalImplicit ∧ scope.names.lookup ("read_spots" : Str) = some .globalImplicit ∧ g.T.lookup f1 = some fd1 ∧ fd1.kd = .glob ∧ fd1.nm = "read_trees" ∧ fd1.np = 1 ∧ g.T.lookup f2 = some fd2 ∧ fd2.kd = .glob ∧ fd2.nm = "read_spots" ∧ fd2.np = 2 ∧ ∀ q ∈ fd.kws, KB K dt netN q
  xfn : ∀ (f : Nat) (fd : Fd), g.T.lookup f = some fd → fd.kd = .exc → ∃ (a : Addr) (dt : FuncData) (qual : Str) (params : Arguments) (body : List Stmt) (scope : Scope), FunD K fd.nm qual params body scope [] [] a dt ∧ mg fd.nm = some (.ref a) ∧ FnScope fd.N fd.ps scope ∧ fd.np ≤ fd.N.length ∧
    okSs g (ckX fd.N scope) fd.body body = true ∧ L2.Binds K dt fd.ps []
theorem reps_start [XsI] {W : Wd} {H : Hp} {vs : List V} {ds : List D} {N : List Str} {np : Nat} (r : Reps W H vs ds) (hl : ds.length = np) (hn : np ≤ N.length) : EnvR W H (ds.map some ++ List.replicate (N.length - np) none) (L2.start N vs) := by
  have hv : vs.length = np := by rw [r.length]; exact hl
  unfold L2.start
  refine ⟨by simp [hl, hv], fun i d e => ?_⟩
  by_cases hi : i < ds.length
  · rw [List.getElem?_append_left (by simpa using hi), List.getElem?_map] at e
    cases e1 : ds[i]? with
    | none => rw [e1] at e; cases e
    | some d' =>
      rw [e1] at e
      cases e
      obtain ⟨v, h1, h2⟩ := r.get e1
      exact ⟨v, by rw [List.getElem?_append_left (by rw [List.length_map, r.length]; exact hi), List.getElem?_map, h1]; rfl, .inl h2⟩
  · rw [List.getElem?_append_right (by simpa using hi), List.getElem?_replicate] at e
    split at e <;> cases e
theorem fd_at {K : PySem.W.Frag} {x qual : Str} {params : Arguments} {body : List Stmt} {scope : Scope} {dvs : List V} {kws : List (Str × V)} {f : Addr} {fd : FuncData} (F : FunD K x qual params body scope dvs kws f fd) : ∃ oc od osl, K.lookup f = some ⟨oc, od, .func fd, osl⟩ := by
  obtain ⟨oc, od, dV, kV, doc, pm, an, cdv, ct, osl, e, lk, hcd, _, _⟩ := F.ex
  exact ⟨oc, od, osl, lk⟩
/-- all defs of the table do what sem says, at one depth -/
def All (g : Gc) (P : Program) (w : World) (K : PySem.W.Frag) (mg : Str → Option Value) (base : Heap) (n : Nat) : Prop :=
  (∀ f fd, g.T.lookup f = some fd → fd.kd = .glob → ∃ (a : Addr) (dt : FuncData), mg fd.nm = some (.ref a) ∧ PySem.W.keepIn K (.ref a) = true ∧ L2.Binds K dt fd.ps [] ∧ (∀ q ∈ fd.kws, KB K dt fd.ps q) ∧ FnG P w K mg base (2 * n + 4) a dt fd.ps (spG fd.np (sem g.T n f))) ∧
  (∀ f fd, g.T.lookup f = some fd → ∀ p ∈ g.ins, fd.kd = .meth p.1 → ∃ a dt, Meth K (CtI.ct.adr p.2.1) fd.nm a ∧ fd.nm ∉ p.2.2 ∧ (∀ q ∈ fd.kws, KBd K dt fd.ps q) ∧ FnG P w K mg base (2 * n + 4) a dt fd.ps (spG fd.np (sem g.T n f))) ∧
  (∀ f fd, g.T.lookup f = some fd → fd.isNet = true → ∀ p ∈ g.ins, p.1 = fd.nm → p.2.2 = netF → ∃ a dt g1 g2, Mk K (CtI.ct.adr p.2.1) a ∧ (∀ q ∈ fd.kws, KB K dt netN q) ∧ FnG P w K mg base (2 * n + 3) a dt netN (spN (CtI.ct.adr p.2.1) g1 g2) ∧ ∀ d1 d2 S, sem g.T n f [d1, d2] S = packN (netO g1 g2 d1 d2 S)) ∧
  (∀ f fd, g.T.lookup f = some fd → fd.kd = .exc → ∃ (a : Addr) (dt : FuncData), mg fd.nm = some (.ref a) ∧ PySem.W.keepIn K (.ref a) = true ∧ L2.Binds K dt fd.ps [] ∧ FnX P w K mg base (CX P w) (2 * n + 4) a dt fd.ps (spX fd.np (sem g.T n f)))
theorem zero_ok {g : Gc} {P : Program} {w : World} {K : PySem.W.Frag} {mg : Str → Option Value} {base : Heap} {k f np : Nat} {a : Addr} {dt : FuncData} {ps : List Str} : FnG P w K mg base k a dt ps (spG np (sem g.T 0 f)) := by
  refine ⟨fun vs H Q E h => ?_, fun A outer s H args us vs Q E hr hgu e0 hbi r h => ?_⟩
  · obtain ⟨W, S, ds, _, _, _, z⟩ := h
    rw [sem] at z
    exact z.elim
  · obtain ⟨W, S, ds, _, _, _, z⟩ := h
    rw [sem] at z
    exact z.elim
/-- how a body's run ends, told of its call -/
theorem post_body [XsI] {W : Wd} {H : Hp} {St : Store} {o : Out Fl} {Q : VK} {E : XK} (wk : Wok W H St) (h : PostF W H (match o with
      | .ok (.rt v) S1 => fin St v S1
      | .ok (.nx _) S1 => fin St (.val .non) S1
      | .ok _ _ => .bad
      | .ex c fs _ S1 => finX St c fs S1
      | .bad => .bad) Q E) : PostS W H (fun cls d _ H => E cls d H) o { nx := fun _ H' => Q .non H', rt := Q } := by
  cases o with
  | bad => exact h.elim
  | ex c fs r' S1 =>
    intro cls d σ' H' W' x1 w1 _ q1
    obtain ⟨W2, S2, e2, x2, w2, q2⟩ := finX_ok wk x1 w1 q1
    replace h : PostF W H (finX St c fs S1) Q E := h
    rw [e2] at h
    exact h cls d H' W2 x2 w2 q2
  | ok o S1 =>
    cases o with
    | nx r1 =>
      intro σ' H' W' x1 w1 _
      obtain ⟨W2, rv2, S2, e2, x2, w2, q2⟩ := fin_ok (v := .non) (rv := .val .non) wk x1 w1 .non
      replace h : PostF W H (fin St (.val .non) S1) Q E := h
      rw [e2] at h
      exact h .non H' W2 x2 w2 q2
    | rt rv =>
      intro v H' W' x1 w1 q1
      obtain ⟨W2, rv2, S2, e2, x2, w2, q2⟩ := fin_ok wk x1 w1 q1
      replace h : PostF W H (fin St rv S1) Q E := h
      rw [e2] at h
      exact h v H' W2 x2 w2 q2
    | bk r1 => exact h.elim
    | ct r1 => exact h.elim
theorem def_ok {g : Gc} {P : Program} {w : World} {K : PySem.W.Frag} {mg : Str → Option Value} {base : Heap} (M : ModOk g P w K mg base) {n : Nat} (AL : All g P w K mg base n) {f : Nat} {fd : Fd} (hf : g.T.lookup f = some fd) (hk : fd.isNet = false)
    {a : Addr} {dt : FuncData} {qual : Str} {params : Arguments} {body : List Stmt} {scope : Scope} {dvs : List V} (F : FunD K fd.nm qual params body scope dvs [] a dt) (S : FnScope fd.N fd.ps scope) (hnp : fd.np ≤ fd.N.length) (ok : okSs g (ckOf fd.N scope) fd.body body = true) :
    FnG P w K mg base (2 * (n + 1) + 4) a dt fd.ps (spG fd.np (sem g.T (n + 1) f)) := by
  show FnG P w K mg base ((2 * n + 5) + 1) a dt fd.ps (spG fd.np (sem g.T (n + 1) f))
  refine fn_ofG F S (fun vs H Q E h => ?_) fun cdv A outer s H vs Q E hr hgu h => ?_
  · obtain ⟨W, S, ds, _, r, hl, _⟩ := h
    rw [r.length, hl, Fd.ps, List.length_take]
    omega
  · let X := cxOf (CX P w) P w K mg base fd.N qual scope a cdv A outer s H E
    have tk : Takes X (fun cls d _ H => E cls d H) := takes_of rfl rfl rfl rfl
    have sx : Sx g n (ckOf fd.N scope) (fun cls d _ H => E cls d H) X := by
      refine ⟨rfl, rfl, rfl, S.nd, fun _ => hr, L2H.roomH_of hr, ?_, ?_, tk, fun _ => rfl, fun _ => passes_of rfl, M.kx, AL.1, M.ins, AL.2.1, AL.2.2.1, M.blt, M.con, M.mks X rfl rfl rfl rfl rfl, M.exm, fun _ => ⟨rfl, rfl⟩, rfl, fun _ => rfl, nofun, M.xcf, M.xfs, M.xis, AL.2.2.2⟩
      · have := hr.un
        show (A.deeper _).units + 64 < cLine
        omega
      · show (A.deeper _).guards = some []
        first
          | exact hgu
          | (show _ = _; simp [Around.deeper, Around.under, Code.guards, Code.isGuard, pushGuards, hgu])
    refine ⟨_, mSs fd.body sx ok, ?_⟩
    obtain ⟨W, St, ds, wk, r, hl, h⟩ := h
    refine ⟨W, St, _, wk, reps_start r hl hnp, ?_⟩
    rw [sem_def g.T n f ds St hf hk] at h
    replace h : PostF W H (if ds.length = fd.np then (match evSs (sem g.T n) fd.body (ds.map some ++ List.replicate (fd.N.length - fd.np) none) St with
      | .ok (.rt v) S1 => fin St v S1
      | .ok (.nx _) S1 => fin St (.val .non) S1
      | .ok _ _ => .bad
      | .ex c fs _ S1 => finX St c fs S1
      | .bad => .bad) else .bad) Q E := h
    rw [if_pos hl] at h
    exact post_body wk h
/-- the frame of a def that is handed the exception, as it begins -/
theorem reps_startX {W : Wd} {H : Hp} {a : Addr} {cls : Value} {dd : Option Addr} {c : Nat} {fs : List D} {vs : List V} {ds : List D} {N : List Str} {np : Nat} (x : ExR W H cls dd c fs) (r : Reps W H vs ds) (hl : ds.length + 1 = np) (hn : np ≤ N.length) :
    @EnvR _ ⟨some (0, a, cls, dd)⟩ W H ((xcD c fs :: ds).map some ++ List.replicate (N.length - np) none) (L2.start N (.ref a :: vs)) := by
  letI : XsI := ⟨some (0, a, cls, dd)⟩
  have len : (V.ref a :: vs).length = np := by rw [List.length_cons, r.length, hl]
  unfold L2.start
  refine ⟨by simp [hl, r.length], fun i d e => ?_⟩
  cases i with
  | zero =>
    cases e
    exact ⟨_, rfl, .inr ⟨a, cls, dd, c, fs, rfl, rfl, rfl, x⟩⟩
  | succ i =>
    rw [List.map_cons, List.cons_append, List.getElem?_cons_succ] at e
    rw [List.map_cons, List.cons_append, List.getElem?_cons_succ]
    by_cases hi : i < ds.length
    · rw [List.getElem?_append_left (by simpa using hi), List.getElem?_map] at e
      obtain ⟨d', h1, h2⟩ := Option.map_eq_some_iff.mp e
      cases h2
      obtain ⟨v, h3, h4⟩ := r.get h1
      exact ⟨v, by rw [List.getElem?_append_left (by rw [List.length_map, r.length]; exact hi), List.getElem?_map, h3] <;> rfl, .inl h4⟩
    · rw [List.getElem?_append_right (by simpa using hi), List.getElem?_replicate] at e
      split at e <;> cases e
theorem defX_ok {g : Gc} {P : Program} {w : World} {K : PySem.W.Frag} {mg : Str → Option Value} {base : Heap} (M : ModOk g P w K mg base) {n : Nat} (AL : All g P w K mg base n) {f : Nat} {fd : Fd} (hf : g.T.lookup f = some fd) (hk : fd.kd = .exc)
    {a : Addr} {dt : FuncData} {qual : Str} {params : Arguments} {body : List Stmt} {scope : Scope} (F : FunD K fd.nm qual params body scope [] [] a dt) (S : FnScope fd.N fd.ps scope) (hnp : fd.np ≤ fd.N.length) (ok : okSs g (ckX fd.N scope) fd.body body = true) :
    FnX P w K mg base (CX P w) (2 * (n + 1) + 4) a dt fd.ps (spX fd.np (sem g.T (n + 1) f)) := by
  show FnX P w K mg base (CX P w) ((2 * n + 5) + 1) a dt fd.ps (spX fd.np (sem g.T (n + 1) f))
  obtain ⟨_, _, _, _, _, _, _, cdv, _, _, rfl, lk, code, _, _⟩ := F.ex
  refine fn_ofX lk code S (fun p vs H Q E ⟨W, St, cls, d, c, fs, us, ds, e, _, _, _, _, r, hl, _⟩ => ?_) fun A outer s H vs Q E p hr hgu ⟨W, St, cls, d, c, fs, us, ds, e, z, fields, wk, x, r, hl, h⟩ => ?_
  · rw [e, List.length_cons, r.length, hl, Fd.ps, List.length_take]
    omega
  · subst e
    letI xi : XsI := ⟨some (0, p.1, cls, d)⟩
    let X := L2H.cxH (CX P w) P w K mg base fd.N qual scope a cdv A outer s H E p
    have tk : Takes X (fun cls d _ H => E cls d H) := takes_of rfl rfl rfl rfl
    have sx : @Sx _ ⟨some (0, p.1, cls, d)⟩ g n (ckX fd.N scope) (fun cls d _ H => E cls d H) X := by
      refine @Sx.mk _ ⟨some (0, p.1, cls, d)⟩ _ _ _ _ _ rfl rfl rfl S.nd nofun hr ?_ ?_ tk nofun nofun M.kx AL.1 M.ins AL.2.1 AL.2.2.1 M.blt M.con (M.mks X rfl rfl rfl rfl rfl) M.exm nofun rfl nofun (fun q e => ?_) M.xcf M.xfs M.xis AL.2.2.2
      · have := hr.un
        show (A.deeper _).units + 64 < cLine
        omega
      · show (A.deeper _).guards = some []
        first
          | exact hgu
          | (show _ = _; simp [Around.deeper, Around.under, Code.guards, Code.isGuard, pushGuards, hgu])
      · cases e
        exact ⟨p.2, List.mem_cons_self .., z, fields⟩
    refine ⟨_, @mSs _ _ _ fd.body ⟨some (0, p.1, cls, d)⟩ _ _ _ sx _ ok, W, St, _, wk, reps_startX x r hl hnp, ?_⟩
    rw [sem_def g.T n f (xcD c fs :: ds) St hf (exc_net hk)] at h
    replace h : PostF W H (if (xcD c fs :: ds).length = fd.np then (match evSs (sem g.T n) fd.body ((xcD c fs :: ds).map some ++ List.replicate (fd.N.length - fd.np) none) St with
      | .ok (.rt v) S1 => fin St v S1
      | .ok (.nx _) S1 => fin St (.val .non) S1
      | .ok _ _ => .bad
      | .ex c fs _ S1 => finX St c fs S1
      | .bad => .bad) else .bad) Q E := h
    rw [if_pos (show (xcD c fs :: ds).length = fd.np from hl)] at h
    exact @post_body _ ⟨some (0, p.1, cls, d)⟩ _ _ _ _ _ _ wk h
theorem zeroX_ok {g : Gc} {P : Program} {w : World} {K : PySem.W.Frag} {mg : Str → Option Value} {base : Heap} {k f np : Nat} {a : Addr} {dt : FuncData} {ps : List Str} : FnX P w K mg base (CX P w) k a dt ps (spX np (sem g.T 0 f)) :=
  ⟨fun p vs H Q E ⟨_, _, _, _, _, _, _, _, _, _, _, _, _, _, _, z⟩ => by rw [sem] at z; exact z.elim, fun _ _ _ _ _ _ _ _ _ _ _ _ _ _ _ _ ⟨_, _, _, _, _, _, _, _, _, _, _, _, _, _, _, z⟩ => by rw [sem] at z; exact z.elim⟩
theorem all_ok {g : Gc} {P : Program} {w : World} {K : PySem.W.Frag} {mg : Str → Option Value} {base : Heap} (M : ModOk g P w K mg base) : ∀ n, All g P w K mg base n
  | 0 => by
    refine ⟨fun f fd hf hk => ?_, fun f fd hf p hp hk => ?_, fun f fd hf hk p hp e1 e2 => ?_, fun f fd hf hk => let ⟨a, dt, _, _, _, _, F, hm, _, _, _, hb⟩ := M.xfn f fd hf hk; ⟨a, dt, hm, F.kp, hb, zeroX_ok⟩⟩
    · obtain ⟨a, dt, qual, params, body, scope, F, hm, S, hnp, _, hb, hk⟩ := M.defs f fd hf hk
      exact ⟨a, dt, hm, F.kp, hb, hk, zero_ok⟩
    · obtain ⟨a, dt, qual, params, body, scope, dvs, F, hm, hn, S, hnp, _, hk⟩ := M.mths f fd hf p hp hk
      exact ⟨a, dt, hm, hn, hk, zero_ok⟩
    · cases ek : fd.kd with
      | exc => unfold Fd.isNet at hk; rw [ek] at hk; cases hk
      | glob => unfold Fd.isNet at hk; rw [ek] at hk; cases hk
      | meth c => unfold Fd.isNet at hk; rw [ek] at hk; cases hk
      | net f1 f2 =>
        obtain ⟨a, dt, nm, qual, params, body, scope, fd1, fd2, F, hM, S, hv, hn, l1, l2, t1, kd1, n1, p1, t2, kd2, n2, p2, hkb⟩ := M.nets f fd f1 f2 hf ek p hp e1 e2
        refine ⟨a, dt, fun _ _ => .bad, fun _ _ => .bad, hM, hkb, ⟨fun vs H Q E h => ?_, fun A outer s H args us vs Q E hr hgu e0 hbi r h => ?_⟩, fun d1 d2 S => ?_⟩
        · obtain ⟨_, _, _, _, _, _, _, _, _, _, _, _, _, _, _, _, _, _, _, z⟩ := h
          exact z.elim
        · obtain ⟨_, _, _, _, _, _, _, _, _, _, _, _, _, _, _, _, _, _, _, z⟩ := h
          exact z.elim
        · rw [sem]
          rfl
  | n + 1 => by
    have AL := all_ok M n
    refine ⟨fun f fd hf hk => ?_, fun f fd hf p hp hk => ?_, fun f fd hf hk p hp e1 e2 => ?_, fun f fd hf hk => let ⟨a, dt, _, _, _, _, F, hm, S, hnp, ok, hb⟩ := M.xfn f fd hf hk; ⟨a, dt, hm, F.kp, hb, defX_ok M AL hf hk F S hnp ok⟩⟩
    · have hi := glob_net hk
      obtain ⟨a, dt, qual, params, body, scope, F, hm, S, hnp, ok, hb, hk⟩ := M.defs f fd hf hk
      exact ⟨a, dt, hm, F.kp, hb, hk, def_ok M AL hf hi F S hnp ok⟩
    · have hi := meth_net hk
      obtain ⟨a, dt, qual, params, body, scope, dvs, F, hm, hn, S, hnp, ok, hk⟩ := M.mths f fd hf p hp hk
      exact ⟨a, dt, hm, hn, hk, def_ok M AL hf hi F S hnp ok⟩
    · cases ek : fd.kd with
      | exc => unfold Fd.isNet at hk; rw [ek] at hk; cases hk
      | glob => unfold Fd.isNet at hk; rw [ek] at hk; cases hk
      | meth c => unfold Fd.isNet at hk; rw [ek] at hk; cases hk
      | net f1 f2 =>
        obtain ⟨a, dt, nm, qual, params, body, scope, fd1, fd2, F, hM, S, hv, hn, l1, l2, t1, kd1, n1, p1, t2, kd2, n2, p2, hkb⟩ := M.nets f fd f1 f2 hf ek p hp e1 e2
        obtain ⟨_, _, _, hcl, hno, _⟩ := M.ins p hp
        obtain ⟨a1, dt1, m1, k1, b1, _, G1⟩ := AL.1 f1 fd1 t1 kd1
        obtain ⟨a2, dt2, m2, k2, b2, _, G2⟩ := AL.1 f2 fd2 t2 kd2
        rw [n1] at m1
        rw [n2] at m2
        rw [p1] at G1
        rw [p2] at G2
        rw [e2] at hno
        refine ⟨a, dt, sem g.T n f1, sem g.T n f2, hM, hkb, ?_, fun d1 d2 S => sem_net g.T n f d1 d2 S hf ek⟩
        show FnG P w K mg base ((2 * n + 4) + 1) a dt netN _
        exact net_init F S hv hn hcl hno l1 m1 k1 b1 G1 l2 m2 k2 b2 G2
/-- one def, at any depth -/
theorem one_ok {g : Gc} {P : Program} {w : World} {K : PySem.W.Frag} {mg : Str → Option Value} {base : Heap} (M : ModOk g P w K mg base) (n : Nat) {f : Nat} {fd : Fd} (hf : g.T.lookup f = some fd) (hk : fd.isNet = false)
    {a : Addr} {dt : FuncData} {qual : Str} {params : Arguments} {body : List Stmt} {scope : Scope} {dvs : List V} (F : FunD K fd.nm qual params body scope dvs [] a dt) (S : FnScope fd.N fd.ps scope) (hnp : fd.np ≤ fd.N.length) (ok : okSs g (ckOf fd.N scope) fd.body body = true) :
    FnG P w K mg base (2 * n + 4) a dt fd.ps (spG fd.np (sem g.T n f)) := by
  cases n with
  | zero => exact zero_ok
  | succ n => exact def_ok M (all_ok M n) hf hk F S hnp ok
end Fc

end
section
set_option autoImplicit false
set_option maxHeartbeats 4000000
namespace Fc
open PySem PySem.Spec L2 PyProof.Rows He
/-! the heap's addresses that the module names, by rounds -/
def refsA (g : Addr → Option PySem.Obj) (a : Addr) : List Addr := match g a with
  | some o => refsD o
  | none => []
def addQ {α : Type} : List Addr → Nat → List Addr → (Nat → List Addr → α) → α
  | [], m, f, k => k m f
  | r :: rs, m, f, k => HandSHeadRun.frNat r fun r => match Nat.beq (Nat.land (Nat.shiftRight m r) 1) 1 with
    | true => addQ rs m f k
    | false => HandSHeadRun.frNat (Nat.lor m (Nat.shiftLeft 1 r)) fun m => addQ rs m (r :: f) k
def frontQ {α : Type} (g : Addr → Option PySem.Obj) : List Addr → Nat → List Addr → (Nat → List Addr → α) → α
  | [], m, f, k => k m f
  | a :: as, m, f, k => addQ (refsA g a) m f fun m f => frontQ g as m f k
def roundQ (g : Addr → Option PySem.Obj) : Nat → Nat → List Addr → List Addr → List Addr
  | 0, _, _, all => all
  | n + 1, m, f, all => frontQ g f m [] fun m f => roundQ g n m f (f.reverseAux all)
def asQ (g : Addr → Option PySem.Obj) (n : Nat) : List Addr := HandSHeadRun.frNat mainGlobals fun a => roundQ g n (Nat.shiftLeft 1 a) [a] [a]
end Fc

end
section
set_option autoImplicit false
set_option maxHeartbeats 4000000
/-! the head, the end -/
namespace Fc
open PySem PySem.Spec L2 PyProof.Rows He
/-! ### facts by Bools -/
def hookF (n : Nat) (fa : List Fa) (fn : List DefD) (fb : List (PySem.W.Frag → Bool)) : PySem.W.Hook where
  α := AlD × List Bool
  obs := fun s => (obsD fa fn (frG s.heap.get? (sysModules :: cStatics :: asQ s.heap.get? n)), fb.map fun f => f (frG s.heap.get? (sysModules :: cStatics :: asQ s.heap.get? n)))
  val := fun _ => (valD fn, fb.map fun _ => true)
  says := fun _ h => ∃ K : PySem.W.Frag, K.In h ∧ SaysD fa fn K ∧ fb.map (fun f => f K) = fb.map fun _ => true
  of := fun _ _ e => ⟨_, frG_in, congrArg Prod.fst e, congrArg Prod.snd e⟩
  keeps := fun _ _ _ ⟨K, hK, c⟩ k => ⟨K, PySem.W.Frag.In.keeps hK k, c⟩
def obsF (n : Nat) (fa : List Fa) (fn : List DefD) (fb : List (PySem.W.Frag → Bool)) (g : Addr → Option PySem.Obj) : AlD × List Bool := (obsD fa fn (frG g (sysModules :: cStatics :: asQ g n)), fb.map fun f => f (frG g (sysModules :: cStatics :: asQ g n)))
theorem run_join {S A B C : Type} {o : Option S} {a : S → A} {b : S → B} {c : S → C} {e : S → Bool} {va : A} {vb : B} {vc : C} (h0 : o.map (fun s => (a s, b s)) = some (va, vb)) (h1 : o.map (fun s => c s) = some vc) (h2 : o.map (fun s => e s) = some true) :
    o.map (fun s => (a s, b s, (c s, [e s]))) = some (va, vb, (vc, [true])) := by
  cases o with
  | none => cases h0
  | some s =>
    have e0 := Option.some.inj h0
    have e1 := Option.some.inj h1
    have e2 := Option.some.inj h2
    dsimp only at e0 e1 e2
    injection e0 with e3 e4
    subst e3 e4 e1
    show some (a s, b s, (c s, [e s])) = _
    rw [e2]
theorem obsF_eq {n : Nat} {fa : List Fa} {fn : List DefD} {fb : List (PySem.W.Frag → Bool)} {g : Addr → Option PySem.Obj} {s : Shared} (h : ∀ a, g a = s.heap.get? a) : obsF n fa fn fb g = (hookF n fa fn fb).obs s := by
  have e : g = s.heap.get? := funext h
  rw [e] <;> rfl
theorem fb_at {K : PySem.W.Frag} {fb : List (PySem.W.Frag → Bool)} (h : fb.map (fun f => f K) = fb.map fun _ => true) {i : Nat} {f : PySem.W.Frag → Bool} (e : fb[i]? = some f) : f K = true := by
  have h1 : (fb.map (fun f => f K))[i]? = (fb.map fun _ => true)[i]? := by rw [h]
  rw [List.getElem?_map, List.getElem?_map, e] at h1
  exact Option.some.inj h1
def clsB (K : PySem.W.Frag) (C : Addr) : Bool := match K.lookup C with
  | some ⟨.type "type", _, .cls cd, sl⟩ => (match cd.mro, sl.toList with
    | .ref C' :: bm, [_, _, _, _, some (.builtin n), _] => C' == C && n == "ValueError.__new__" && !cd.hasDel && cd.hasDict && PySem.HandSPX.refsVE bm
    | _, _ => false)
  | _ => false
def oexB (x : Str) (K : PySem.W.Frag) : Bool := clsB K (ga K x) && eqO (PySem.W.findIn K (.ref (ga K x)) "__setattr__") (some (some (.builtin "object.__setattr__"))) && decide (PySem.W.subIn K (.ref (ga K x)) (.type "BaseException") = some true) &&
  decide (PySem.W.typeIn K (.ref (ga K x)) = some (.type "type")) && PySem.W.keepIn K (.ref (ga K x)) &&
  eqO (PySem.W.findIn K (.ref (ga K x)) "__init__") (some (some (.ref (ma K (ga K x) "__init__")))) && decide (PySem.W.typeIn K (.ref (ma K (ga K x) "__init__")) = some (.type "function"))
def noatB (x : Str) (fl : List Str) (K : PySem.W.Frag) : Bool := fl.all fun f => eqO (PySem.W.findIn K (.ref (ga K x)) f) (some none)
def baseB (x : Str) (K : PySem.W.Frag) : Bool := decide (PySem.W.specialIn K (.ref (ga K x)) "__getattribute__" = some (some (.builtin "type.__getattribute__"))) && decide (PySem.W.typeIn K (.ref (ga K x)) = some (.type "type")) && PySem.W.readsIn K (ga K x) (.type "type") &&
  (match PySem.W.findCls K (.ref (ga K x)) (.type "type") "__init__" with
  | some (.val (.builtin n)) => n == "ValueError.__init__"
  | _ => false)
def kds : List Kd := [.non, .bool, .int, .str, .tup, .lst, .dic]
/-- what isinstance asks of a class -/
def isoB (x : Str) (K : PySem.W.Frag) : Bool := eqO (PySem.W.findIn K (.ref (ga K x)) "__class__") (some (some (.builtin "object.__class__"))) && decide (PySem.W.specialIn K (.builtin "object.__class__") "__get__" = some (some (.builtin "getset_descriptor.__get__"))) &&
  decide (PySem.W.takesIn K (.builtin "object.__class__") = some true) && decide (PySem.W.mroIn K (ga K x) (.type "object") = some true) && kds.all fun k => decide (PySem.W.kitOne K (.type k.nm) (.ref (ga K x)) = some false)
theorem iso_okB {K : PySem.W.Frag} {x : Str} (h : isoB x K = true) : IsoC K (ga K x) := by
  unfold isoB at h
  simp only [Bool.and_eq_true, decide_eq_true_eq, List.all_eq_true] at h
  obtain ⟨⟨⟨⟨h1, h2⟩, h3⟩, h4⟩, h5⟩ := h
  exact ⟨eqO_ok h1, h2, h3, h4, fun k => h5 k (by cases k <;> decide)⟩
theorem oex_ok {K : PySem.W.Frag} {x : Str} (h : oexB x K = true) : OexC K (ga K x) ∧ PySem.W.findIn K (.ref (ga K x)) "__init__" = some (some (.ref (ma K (ga K x) "__init__"))) ∧ PySem.W.typeIn K (.ref (ma K (ga K x) "__init__")) = some (.type "function") := by
  unfold oexB at h
  simp only [Bool.and_eq_true, decide_eq_true_eq] at h
  obtain ⟨⟨⟨⟨⟨⟨h1, h2⟩, h3⟩, h4⟩, h5⟩, h6⟩, h7⟩ := h
  refine ⟨⟨?_, eqO_ok h2, h3, h4, h5⟩, eqO_ok h6, h7⟩
  unfold clsB at h1
  split at h1
  · rename_i dd cd sl ho
    split at h1
    · rename_i C' bm k0 k1 k2 k3 n k5 hm hs
      simp only [Bool.and_eq_true, beq_iff_eq, Bool.not_eq_true'] at h1
      obtain ⟨⟨⟨⟨rfl, rfl⟩, hdel⟩, hdict⟩, hve⟩ := h1
      obtain ⟨nm, bs, mro, ns, qn, hd, sn, sub, ab, col, del⟩ := cd
      dsimp only at hm hdel hdict
      subst hm hdel hdict
      have hsl : sl = #[k0, k1, k2, k3, some (.builtin "ValueError.__new__"), k5] := by
        obtain ⟨l⟩ := sl
        simp only at hs
        rw [hs]
      subst hsl
      exact ⟨nm, qn, ns, bs, bm, sn, sub, ab, col, dd, k0, k1, k2, k3, k5, ho, hve⟩
    · cases h1
  · cases h1
theorem base_okB {K : PySem.W.Frag} {x : Str} (h : baseB x K = true) : BaseF K (ga K x) := by
  unfold baseB at h
  simp only [Bool.and_eq_true, decide_eq_true_eq] at h
  obtain ⟨⟨⟨h1, h2⟩, h3⟩, h4⟩ := h
  refine ⟨h1, h2, h3, ?_⟩
  split at h4
  · rename_i n e
    rw [e, eq_of_beq h4]
  · cases h4
theorem noat_okB {K : PySem.W.Frag} {x : Str} {fl : List Str} (h : noatB x fl K = true) : ∀ f ∈ fl, PySem.W.findIn K (.ref (ga K x)) f = some none := fun f hf => eqO_ok (List.all_eq_true.mp h f hf)
/-- how keywords bind, by a computation -/
theorem kb_of {K : PySem.W.Frag} {x qual : Str} {params : Arguments} {body : List Stmt} {scope : Scope} {f : Addr} {fd : FuncData} {ps : List Str} {n : Nat} {ks : List Str} {pm : List Nat} (F : FunD K x qual params body scope [] [] f fd)
    (h : ∀ (kV doc pmv : Value) (an : Option Addr) (cdv ct : Value) (us ws : List Value), us.length = n → ws.length = ks.length → bindArgs (PySem.W.fnOf x qual params body scope .none kV doc pmv an cdv ct) ⟨us, ks.zip ws⟩ = pure (ps.zip (permV pm (us ++ ws)))) : KB K fd ps (n, ks, pm) := by
  obtain ⟨oc, od, dV, kV, doc, pmv, an, cdv, ct, osl, rfl, lk, hcd, hD, hK⟩ := F.ex
  rcases hD with ⟨_, rfl⟩ | ⟨e, _⟩
  · exact fun s us ws _ h1 h2 => .of_eq (h kV doc pmv an cdv ct us ws h1 h2)
  · exact absurd rfl e
/-! ### the law's call -/
variable [CtI]
omit [CtI] in
section
variable {P : Program} {w : World} {K : PySem.W.Frag} {a : Addr} {L : PySem.Obj} {xs : List V} {h : Heap}
/-- what is known ahead of the law: the script, where the module's written part lacks it, and nothing else -/
def scrH (K : PySem.W.Frag) (a : Addr) (L : PySem.Obj) (xs : List V) : Hp := fun b => if b = a ∧ K.lookup b = none then some (.frz L (.lst xs)) else none
theorem scrH_inv {b : Addr} {u : HO} (q : scrH K a L xs b = some u) : b = a ∧ K.lookup a = none ∧ u = .frz L (.lst xs) := by
  unfold scrH at q
  split at q <;> rename_i z
  · obtain ⟨rfl, z⟩ := z
    exact ⟨rfl, z, (Option.some.inj q).symm⟩
  · exact nomatch q
/-- an address of another object, or of the written part, is not known -/
theorem scrH_off {b : Addr} (z : b = a → K.lookup a = none → False) : scrH K a L xs b = none := if_neg fun (y : b = a ∧ K.lookup b = none) => z y.1 (y.1 ▸ y.2)
theorem scrH_frag (k : K.In h) : K.In (hidT h (scrH K a L xs)) := fun b o e => hidT_get (k b o e) (scrH_off fun z y => by rw [← z, e] at y; exact nomatch y)
theorem scrH_ns (ha : h.get? a = some L) (hL : ∀ es ep, L.data ≠ .dict es ep) {b : Addr} {m : Str → Option Value} (n : h.Ns b m) : (hidT h (scrH K a L xs)).Ns b m := by
  obtain ⟨o, es, ep, e, d, r⟩ := n
  refine ⟨o, es, ep, hidT_get e (scrH_off fun z _ => ?_), d, r⟩
  rw [z, ha] at e
  cases e
  exact hL es ep d
theorem scrH_ok (hx : ObjOk P w (scrH K a L xs) h a (.lst xs)) (ha : h.get? a = some L) : HOk P w (scrH K a L xs) h := fun b u q => by
  obtain ⟨rfl, _, rfl⟩ := scrH_inv q
  exact ⟨ha, hx⟩
theorem scrH_only : L2.Only (scrH K a L xs) := fun b => by
  cases q : scrH K a L xs b with
  | none => exact .inl rfl
  | some u => exact .inr (by rw [(scrH_inv q).2.2]; exact ⟨_, _, rfl⟩)
/-- nothing that stood there is changed when the law has ended -/
theorem scrH_end {h' : Heap} {H' : Hp} (un : Un [] [] (scrH K a L xs) H' h h') (ha : h.get? a = some L) (ok : HOk P w H' h') : OldK h h' := .of_keep fun b o e => by
  cases q : scrH K a L xs b with
  | none => exact un.keep b o e q (List.not_mem_nil) (List.not_mem_nil)
  | some u =>
    obtain ⟨rfl, _, rfl⟩ := scrH_inv q
    exact (ha.symm.trans e) ▸ (ok b _ (un.frzs b L _ q)).1
end
omit [CtI] in
theorem law_callG {P : Program} {w : World} {K : PySem.W.Frag} {mg mb : Str → Option Value} {k : Nat} {fa a : Addr} {fd : FuncData} {x : Str} {sp : Sp} {s : Shared} {vs : List Value} {ns : List Int}
    (frag : K.In s.heap) (nsG : s.heap.Ns mainGlobals mg) (nsB : s.heap.Ns builtinsNs mb) (boot : ∀ y : Str, y ≠ "__name__" → mb y = bootBuiltins y) (lim : s.heap.NoLimit) (bare : s.gens = #[])
    (ha : s.heap.get? a = some { cls := .type "list", data := .seq vs.toArray }) (whole : IntsAre vs ns) (few : ns.length ≤ sizeLine) (room : Room k callerA)
    (F : ∀ base : Heap, K.In base → base.Ns mainGlobals mg → FnG P w K mg base k fa fd [x] sp) (bind : ∀ (s : Shared) (u : Value), BindsTo s fd ⟨[u], []⟩ [(x, u)])
    (hsp : ∀ H : Hp, L2.Only H → SqL K H a (ns.map V.int) → sp [.ref a] H (fun v _ => v = .bl true) fun _ _ _ => False) :
    codeAny (model P w) callerA (.call (.ref fa) ⟨[.ref a], []⟩) (fun r t => r = .ok (.ret (.bool true)) ∧ OldK s.heap t.heap ∧ t.os = s.os ∧ AllBare t.gens) s := by
  have vals := vals_ints whole
  have hd : ∀ es ep, (Data.seq vs.toArray 0) ≠ .dict es ep := fun _ _ => nofun
  have len : (ns.map V.int).length ≤ sizeLine := by rw [List.length_map]; exact few
  have ns0 : ∀ {b : Addr} {m : Str → Option Value}, s.heap.Ns b m → (hidT s.heap (scrH K a _ (ns.map V.int))).Ns b m := scrH_ns ha hd
  have known : SqL K (scrH K a { cls := .type "list", data := .seq vs.toArray } (ns.map V.int)) a (ns.map V.int) := by
    cases look : K.lookup a with
    | none => exact .inl (.inr ⟨_, if_pos ⟨rfl, look⟩⟩)
    | some o =>
      cases (ha.symm.trans (frag a o look))
      exact .inr ⟨_, vs.toArray, 0, look, rfl, rfl, rfl, by rw [List.size_toArray, ← vals.length]; exact len, vals⟩
  have ok := scrH_ok (P := P) (w := w) (K := K) (xs := ns.map V.int) ⟨len, vs, 0, vals, ha⟩ ha
  obtain ⟨mc, l1, l2⟩ := lim
  have env : Env0 P w K mg (hidT s.heap (scrH K a _ (ns.map V.int))) callerA [] s _ :=
    { frames := rfl, mod := ⟨scrH_frag frag, ns0 nsG, ⟨mb, ns0 nsB, boot⟩, mc, ns0 l1, l2⟩, bs := fun _ _ => of_hidT, bsz := by rw [hidT_size]; exact Nat.le_refl _, funs := trivial, frf := nofun, hok := ok, bare := .of_eq bare }
  refine codeAny_mono ((F _ (scrH_frag frag) (ns0 nsG)).run callerA [] s _ _ [.ref a] [.ref a] _ _ room rfl env (bind s (.ref a)) (.cons rfl .nil) (hsp _ scrH_only known)) fun r t z => ?_
  match r, z with
  | .error _, ⟨_, _, _, _, _, _, _, _, _, _, _, _, z⟩ => exact z.elim
  | .ok (.ret u), ⟨v, H', os, b', un, ok', rv, ev⟩ =>
    have ev : v = .bl true := ev
    subst ev
    cases (show u = Value.bool true from rv)
    exact ⟨rfl, scrH_end un ha ok', os, b'⟩
omit [CtI] in
/-- what is to be told of a law's def at the heap behind the head: the written part, the function object, what it promises -/
inductive Told (P : Program) (w : World) (mg : Str → Option Value) (n k : Nat) (x : Str) (fa : Addr) (h : Heap) : Prop
  | mk (K : PySem.W.Frag) (fd : FuncData) (sp : Sp) (frag : K.In h) (binds : ∀ (s : Shared) (u : Value), BindsTo s fd ⟨[u], []⟩ [(x, u)])
      (starts : ∀ (H : Hp) (a : Addr) (ns : List Int), ns.length ≤ n → L2.Only H → SqL K H a (ns.map V.int) → sp [.ref a] H (fun v _ => v = .bl true) fun _ _ _ => False)
      (keeps : ∀ base : Heap, K.In base → base.Ns mainGlobals mg → FnG P w K mg base k fa fd [x] sp)
omit [CtI] in
theorem walk_ofG {l : PySem.W.OpenLaw} {n k : Nat} {q : Program} {loose : List Str} {XP : (Str → Option Value) → Heap → Prop} {YP : World → Heap → Prop} {d : DefRec} {x : Str} (most : l.most = some n) (small : n ≤ sizeLine) (plain : d.params.defaults = []) (room : Room k callerA)
    (F : ∀ (w : World) (mg : Str → Option Value) (fa : Addr) (h : Heap), YP w h → h.Ns mainGlobals mg → mg d.name = some (.ref fa) → Told l.prog w mg n k x fa h) : PySem.W.WalkO q loose XP YP l.row.toRowW d [] (fun f vs => PySem.call f vs) :=
  Att.attach_call most plain fun w _ s mg _ fa _ _ _ _ a vs ns G Y _ _ _ name obj whole len bare => by
    obtain ⟨K, fd, sp, frag, binds, starts, keeps⟩ := F w mg fa _ Y G.T.g name
    exact law_callG frag G.T.g G.T.b G.T.builtins G.T.nolimit bare obj whole (Nat.le_trans len small) room keeps binds fun H only known => starts H a ns len only known
/-- the script as it is told -/
theorem spG_start {K : PySem.W.Frag} (hK : K = CtI.K) {g : List D → Store → Out RV} {H : Hp} {a : Addr} {ns : List Int} {n : Nat} (hl : ns.length ≤ n) (hn : n ≤ 16777216) (hO : L2.Only H) (hS : SqL K H a (ns.map V.int)) (hg : g [.scr ns] [] = .ok (.val (.bl true)) []) : spG 1 g [.ref a] H (fun v _ => v = .bl true) fun _ _ _ => False := by
  have fin : ∀ W : Wd, Wok W H [] → Rep W H (.ref a) (.scr ns) → spG 1 g [.ref a] H (fun v _ => v = .bl true) fun _ _ _ => False := fun W w r => by
    refine ⟨W, [], [.scr ns], w, .one r, rfl, ?_⟩
    rw [hg]
    intro v H' W' _ _ q
    cases q
    rfl
  have hz : ns.length ≤ 16777216 := Nat.le_trans hl hn
  rcases hS with r | r
  · refine fin ⟨fun b => b = a, [], CtI.ct, fun _ => False⟩ ⟨rfl, nofun, List.nodup_nil, nofun, fun b hb => ?_, nofun, rfl⟩ (.scr (.inl ⟨rfl, r⟩) hz)
    have e : b = a := hb
    subst e
    rcases r with r | ⟨o, r⟩
    · rw [r]; exact nofun
    · rw [r]; exact nofun
  · refine fin ⟨fun b => False, [], CtI.ct, fun _ => False⟩ ⟨rfl, nofun, List.nodup_nil, nofun, nofun, nofun, rfl⟩ (.scr (.inr fun H' => ?_) hz)
    rw [← hK]
    exact .inr r
end Fc

end
section
set_option autoImplicit false
set_option maxHeartbeats 4000000
/-! the module's facts by tables -/
namespace Fc
open PySem PySem.Spec L2 PyProof.Rows He
def scB (N ps : List Str) (sc : Scope) : Bool := decide (sc.kind = .function) && !sc.isCoroutine && !sc.isGenerator && decide (N.Nodup) && decide (N.take ps.length = ps) && ps.all (fun x => decide (sc.names.lookup x = some .local) || decide (sc.names.lookup x = some .cell)) && sc.names.all (fun y => !decide (y.2 = .free))
theorem scB_ok {N ps : List Str} {sc : Scope} (h : scB N ps sc = true) : FnScope N ps sc := by
  unfold scB at h
  simp only [Bool.and_eq_true, decide_eq_true_eq, Bool.not_eq_true', List.all_eq_true, Bool.or_eq_true, decide_eq_false_iff_not] at h
  obtain ⟨⟨⟨⟨⟨⟨h1, h2⟩, h3⟩, h4⟩, h5⟩, h6⟩, h7⟩ := h
  exact ⟨h1, h2, h3, h4, h5, h6, h7⟩
def smB (K : PySem.W.Frag) : Bool := match K.lookup sysModules with
  | some o => decide (o.cls = .type "dict")
  | none => false
theorem smB_ok {K : PySem.W.Frag} (h : smB K = true) : ∃ o, K.lookup sysModules = some o ∧ o.cls = .type "dict" := by
  unfold smB at h
  split at h
  · rename_i o e
    exact ⟨o, e, of_decide_eq_true h⟩
  · cases h
structure Ent where
  id : Nat
  fd : Fd
  dd : DefD
def dflN : List Dv → Bool
  | [] => true
  | [.non] => true
  | _ => false
def Ent.okB (g : Gc) (e : Ent) : Bool := scB e.fd.N e.fd.ps e.dd.scope && decide (e.fd.np ≤ e.fd.N.length) && okSs g (ckOf e.fd.N e.dd.scope) e.fd.body e.dd.body && decide (e.dd.name = e.fd.nm) && e.dd.kwd.isEmpty
def Ent.okX (g : Gc) (e : Ent) : Bool := scB e.fd.N e.fd.ps e.dd.scope && decide (e.fd.np ≤ e.fd.N.length) && okSs g (ckX e.fd.N e.dd.scope) e.fd.body e.dd.body && decide (e.dd.name = e.fd.nm) && e.dd.kwd.isEmpty
def rdB (g : Gc) (f np : Nat) (x : Str) : Bool := match g.T.lookup f with
  | some fd => decide (fd.kd = .glob) && decide (fd.nm = x) && decide (fd.np = np)
  | none => false
def Ent.ok (g : Gc) (e : Ent) : Bool := match e.fd.kd with
  | .exc => e.okX g && decide (e.dd.at_ = (e.fd.nm, none)) && e.dd.dfl.isEmpty
  | .glob => e.okB g && decide (e.dd.at_ = (e.fd.nm, none)) && e.dd.dfl.isEmpty
  | .meth c => e.okB g && decide (e.dd.at_ = (c, some e.fd.nm)) && dflN e.dd.dfl && g.ins.all (fun p => !decide (p.1 = c) || decide (e.fd.nm ∉ p.2.2))
  | .net f1 f2 => scB netN netN e.dd.scope && okVis e.dd.scope netN && okNet e.dd.body && decide (e.dd.scope.names.lookup ("read_trees" : Str) = some .globalImplicit) && decide (e.dd.scope.names.lookup ("read_spots" : Str) = some .globalImplicit) && decide (e.dd.at_ = (e.fd.nm, some ("__init__" : Str))) && e.dd.dfl.isEmpty && e.dd.kwd.isEmpty && rdB g f1 1 "read_trees" && rdB g f2 2 "read_spots"
/-- how a def's arguments bind -/
def Ent.bdG (e : Ent) : Prop := (∀ (kV doc pm : Value) (an : Option Addr) (cdv ct : Value) (us : List Value), us.length = e.fd.ps.length → bindArgs (PySem.W.fnOf e.dd.name e.dd.qual e.dd.params e.dd.body e.dd.scope .none kV doc pm an cdv ct) ⟨us, []⟩ = pure (e.fd.ps.zip us)) ∧
  ∀ q ∈ e.fd.kws, ∀ (kV doc pm : Value) (an : Option Addr) (cdv ct : Value) (us ws : List Value), us.length = q.1 → ws.length = q.2.1.length → bindArgs (PySem.W.fnOf e.dd.name e.dd.qual e.dd.params e.dd.body e.dd.scope .none kV doc pm an cdv ct) ⟨us, q.2.1.zip ws⟩ = pure (e.fd.ps.zip (permV q.2.2 (us ++ ws)))
def Ent.bdM (e : Ent) : Prop := ∀ q ∈ e.fd.kws, ∀ (kV doc pm : Value) (an : Option Addr) (cdv ct : Value) (us ws : List Value), us.length = q.1 → ws.length = q.2.1.length → bindArgs (PySem.W.fnOf e.dd.name e.dd.qual e.dd.params e.dd.body e.dd.scope .none kV doc pm an cdv ct) ⟨us, q.2.1.zip ws⟩ = pure (e.fd.ps.zip (permV q.2.2 (us ++ ws ++ [Value.none])))
def Ent.bdD (e : Ent) : Prop := ∀ q ∈ e.fd.kws, ∀ (T : Addr) (kV doc pm : Value) (an : Option Addr) (cdv ct : Value) (us ws : List Value), us.length = q.1 → ws.length = q.2.1.length → ∃ k, bindArgs (PySem.W.fnOf e.dd.name e.dd.qual e.dd.params e.dd.body e.dd.scope (.ref T) kV doc pm an cdv ct) ⟨us, q.2.1.zip ws⟩ = seqItems? (.ref T) >>= k ∧ k (some #[Value.none]) = pure (e.fd.ps.zip (permV q.2.2 (us ++ ws ++ [Value.none])))
def Ent.bdN (e : Ent) : Prop := ∀ q ∈ e.fd.kws, ∀ (kV doc pm : Value) (an : Option Addr) (cdv ct : Value) (us ws : List Value), us.length = q.1 → ws.length = q.2.1.length → bindArgs (PySem.W.fnOf e.dd.name e.dd.qual e.dd.params e.dd.body e.dd.scope .none kV doc pm an cdv ct) ⟨us, q.2.1.zip ws⟩ = pure (netN.zip (permV q.2.2 (us ++ ws)))
def Ent.bd (e : Ent) : Prop := match e.fd.kd with
  | .exc => e.bdG
  | .glob => e.bdG
  | .meth _ => (match e.dd.dfl with
    | [] => e.bdM
    | _ => e.bdD)
  | .net _ _ => e.bdN
def Ent.fa (e : Ent) : List Fa := match e.fd.kd with
  | .exc => [.glo e.fd.nm]
  | .glob => [.glo e.fd.nm]
  | .meth c => [.meth c e.fd.nm]
  | .net _ _ => [.mkr e.fd.nm]
def insFa (p : Str × Nat × List Str) : List Fa := .glo p.1 :: .cls p.1 :: p.2.2.map (.noat p.1)
/-- an exception's class: its name, its number, its base, its fields, whether its text writes them, its __init__ -/
structure Xc where
  nm : Str
  id : Nat
  base : Str
  fl : List Str
  m : Bool
  dd : DefD
def Xc.ok (x : Xc) : Bool := scB ("self" :: x.fl) ("self" :: x.fl) x.dd.scope && okVis x.dd.scope ("self" :: x.fl) && decide (x.dd.scope.names.lookup x.base = some .globalImplicit) && !(x.base == ("__debug__" : Str)) && !x.fl.isEmpty && decide (x.fl.length ≤ 100) && okInit x.base ("self" :: x.fl) x.m x.dd.body && decide (x.dd.at_ = (x.nm, some ("__init__" : Str))) && x.dd.dfl.isEmpty && x.dd.kwd.isEmpty
def Xc.bd (x : Xc) : Prop := ∀ (kV doc pm : Value) (an : Option Addr) (cdv ct : Value) (us : List Value), us.length = (("self" : Str) :: x.fl).length → bindArgs (PySem.W.fnOf x.dd.name x.dd.qual x.dd.params x.dd.body x.dd.scope .none kV doc pm an cdv ct) ⟨us, []⟩ = pure ((("self" : Str) :: x.fl).zip us)
/-- what is asked of the module's heap besides the defs -/
def Xc.fb (x : Xc) (K : PySem.W.Frag) : Bool := oexB x.nm K && noatB x.nm x.fl K && baseB x.base K && (Fa.glo x.nm).ok K && (Fa.glo x.base).ok K
structure Md where
  ents : List Ent
  xcs : List Xc
  g : Gc
def Md.fa (m : Md) : List Fa := m.ents.flatMap Ent.fa ++ m.g.blt.map .free ++ m.g.ins.flatMap insFa
def glbB (K : PySem.W.Frag) (p : Str × D) : Bool := match p.2 with
  | .int i => (Fa.int p.1 i).ok K
  | .str z => (Fa.str p.1 z).ok K
  | _ => false
def Md.ct (m : Md) (K : PySem.W.Frag) : Ct := ⟨fun c => match m.xcs.find? (fun x => x.id == c) with
  | some x => ga K x.nm
  | none => (match m.g.ins.find? (fun p => p.2.1 == c) with
    | some p => ga K p.1
    | none => 0), fun c => match m.xcs.find? (fun x => x.id == c) with
  | some x => x.fl
  | none => (match m.g.ins.find? (fun p => p.2.1 == c) with
    | some p => p.2.2
    | none => [])⟩
/-- the classes of instances are apart -/
def Md.insB (m : Md) : Bool := m.g.ins.all fun p => (m.xcs.find? (fun x => x.id == p.2.1)).isNone && decide (m.g.ins.find? (fun q => q.2.1 == p.2.1) = some p) && decide p.2.2.Nodup
def exB (m : Md) (K : PySem.W.Frag) (q : Str × List Nat) : Bool := (Fa.glo q.1).ok K && m.xcs.all fun x => decide (PySem.W.exmOne K (.ref ((m.ct K).adr x.id)) (.ref (ga K q.1)) = some (q.2.contains x.id))
def xcfB (K : PySem.W.Frag) (C : Addr) : Bool := eqO (PySem.W.findIn K (.ref C) "__getattribute__") (some (some (.builtin "BaseException.__getattribute__"))) && eqO (PySem.W.findIn K (.ref C) "__getattr__") (some none) && decide (PySem.W.subIn K (.ref C) (.type "BaseException") = some true) && PySem.W.hasDictIn K C &&
  eqO (PySem.W.findIn K (.ref C) "__class__") (some (some (.builtin "object.__class__"))) && decide (PySem.W.specialIn K (.builtin "object.__class__") "__get__" = some (some (.builtin "getset_descriptor.__get__"))) && decide (PySem.W.takesIn K (.builtin "object.__class__") = some true) && decide (PySem.W.mroIn K C (.type "object") = some true)
theorem xcfB_ok {K : PySem.W.Frag} {C : Addr} (h : xcfB K C = true) : XcF K C := by
  unfold xcfB at h
  simp only [Bool.and_eq_true, decide_eq_true_eq] at h
  obtain ⟨⟨⟨⟨⟨⟨⟨h1, h2⟩, h3⟩, h4⟩, h5⟩, h6⟩, h7⟩, h8⟩ := h
  exact ⟨eqO_ok h1, eqO_ok h2, h3, h4, eqO_ok h5, h6, h7, h8⟩
/-- the fields of an exception's class are not the class's own -/
def xfsB (m : Md) (K : PySem.W.Frag) (q : Nat × List Str) : Bool := decide ((m.ct K).flds q.1 = q.2) && decide q.2.Nodup && q.2.all fun f => eqO (PySem.W.findIn K (.ref ((m.ct K).adr q.1)) f) (some none)
/-- isinstance of an exception, asked for a class of the module or a built-in one -/
def xisB (m : Md) (K : PySem.W.Frag) (q : Str × List Nat) : Bool := ((Fa.glo q.1).ok K && m.xcs.all fun x => decide (PySem.W.kitOne K (.ref ((m.ct K).adr x.id)) (.ref (ga K q.1)) = some (q.2.contains x.id))) ||
  match bootBuiltins q.1 with
  | some (.type T) => (Fa.free q.1).ok K && !decide (q.1 = "__name__") && m.xcs.all fun x => decide (PySem.W.kitOne K (.ref ((m.ct K).adr x.id)) (.type T) = some (q.2.contains x.id))
  | _ => false
def Md.fb (m : Md) (K : PySem.W.Frag) : Bool := m.xcs.all (fun x => x.fb K) && m.g.glb.all (glbB K) && m.g.exm.all (exB m K) && m.g.ins.all (fun p => isoB p.1 K) && m.xcs.all (fun x => xcfB K ((m.ct K).adr x.id)) && m.g.xfs.all (xfsB m K) && m.g.xis.all (xisB m K) && smB K
def Md.fn (m : Md) : List DefD := m.ents.map (·.dd) ++ m.xcs.map (·.dd)
/-- the classes of g are those of the table -/
def Md.clsB (m : Md) : Bool := m.g.cls.all fun p => (m.xcs.find? (fun x => x.id == p.2.1)).any fun x => decide (x.nm = p.1) && decide (x.fl.length = p.2.2.1) && (x.m == p.2.2.2)
def Md.tB (m : Md) : Bool := decide (m.g.T.map (·.1) = m.ents.map (·.id)) && decide (m.g.T.length = m.ents.length)
structure Md.Ok (m : Md) : Prop where
  T : m.g.T = m.ents.map fun e => (e.id, e.fd)
  ok : ∀ e ∈ m.ents, e.ok m.g = true
  bd : ∀ e ∈ m.ents, e.bd
  xok : ∀ x ∈ m.xcs, x.ok = true
  xbd : ∀ x ∈ m.xcs, x.bd
  cls : m.clsB = true
  ins : m.insB = true
@[reducible] def ctI (m : Md) (K : PySem.W.Frag) (hb : smB K = true) : CtI := ⟨m.ct K, K, fun c => ∃ x ∈ m.xcs, x.id = c, smB_ok hb⟩
theorem lookup_mem {α : Type} {f : Nat} {b : α} : ∀ {l : List (Nat × α)}, l.lookup f = some b → (f, b) ∈ l
  | [], h => by cases h
  | (a, c) :: r, h => by
    rw [List.lookup_cons] at h
    cases e : (f == a) with
    | true =>
      rw [e] at h
      cases h
      rw [beq_iff_eq.mp e]
      exact List.mem_cons_self
    | false =>
      rw [e] at h
      exact List.mem_cons_of_mem _ (lookup_mem h)
theorem says_def {fa : List Fa} {fn : List DefD} {K : PySem.W.Frag} (c : SaysD fa fn K) {d : DefD} (h : d ∈ fn) : ∃ fd, FunD K d.name d.qual d.params d.body d.scope (d.dvs K) (d.kws K) (fAd K d.at_) fd := by
  obtain ⟨i, hi⟩ := List.getElem?_of_mem h
  exact c.def_ i hi
theorem says_fact {fa : List Fa} {fn : List DefD} {K : PySem.W.Frag} (c : SaysD fa fn K) {f : Fa} (h : f ∈ fa) : f.ok K = true := by
  obtain ⟨i, hi⟩ := List.getElem?_of_mem h
  exact c.fact i hi
theorem binds_of {K : PySem.W.Frag} {x qual : Str} {params : Arguments} {body : List Stmt} {scope : Scope} {kws : List (Str × V)} {f : Addr} {fd : FuncData} {ps : List Str} (F : FunD K x qual params body scope [] kws f fd)
    (h : ∀ (kV doc pm : Value) (an : Option Addr) (cdv ct : Value) (us : List Value), us.length = ps.length → bindArgs (PySem.W.fnOf x qual params body scope .none kV doc pm an cdv ct) ⟨us, []⟩ = pure (ps.zip us)) : L2.Binds K fd ps [] := F.bindsN h
theorem Xc.made [CtI] {m : Md} {P : Program} {w : World} {K : PySem.W.Frag} {mg : Str → Option Value} {base : Heap} {h : Heap} (O : m.Ok) (KX : K.In h) (G : h.Ns mainGlobals mg) {fa : List Fa} (c : SaysD fa m.fn K) {x : Xc} (hx : x ∈ m.xcs) (hb : x.fb K = true) :
    mg x.nm = some (.ref (ga K x.nm)) ∧ x.fl.length ≤ 100 ∧ OexC K (ga K x.nm) ∧ ∃ (fI : Addr) (fd : FuncData), PySem.W.findIn K (.ref (ga K x.nm)) "__init__" = some (some (.ref fI)) ∧
      PySem.W.typeIn K (.ref fI) = some (.type "function") ∧ L2.Binds K fd ("self" :: x.fl) [] ∧ FnOk P w K mg base (CX P w) 1 fI fd ("self" :: x.fl) (spI (ga K x.nm) x.fl x.m) := by
  have xo := O.xok x hx
  unfold Xc.ok at xo
  unfold Xc.fb at hb
  simp only [Bool.and_eq_true, decide_eq_true_eq, Bool.not_eq_true'] at xo hb
  obtain ⟨⟨⟨⟨⟨⟨⟨⟨⟨o1, o2⟩, o3⟩, o4⟩, o5⟩, o6⟩, o7⟩, o8⟩, o9⟩, o10⟩ := xo
  obtain ⟨⟨⟨⟨b1, b2⟩, b3⟩, b4⟩, b5⟩ := hb
  obtain ⟨T, iC, tI⟩ := oex_ok b1
  obtain ⟨fd, F⟩ := says_def c (d := x.dd) (List.mem_append_right _ (List.mem_map_of_mem hx))
  have e1 : x.dd.dvs K = [] := by unfold DefD.dvs; rw [List.isEmpty_iff.mp o9]; rfl
  have e2 : x.dd.kws K = [] := by unfold DefD.kws; rw [List.isEmpty_iff.mp o10]; rfl
  have e3 : fAd K x.dd.at_ = ma K (ga K x.nm) "__init__" := by rw [o8]; rfl
  rw [e1, e2, e3] at F
  exact ⟨glo_ok KX G b4, o6, T, _, fd, iC, tI, binds_of F (O.xbd x hx), init_ok F (scB_ok o1) o2 o3 o4 (glo_ok KX G b5) (base_okB b3) T (noat_okB b2) (fun z => by rw [z] at o5; cases o5) o6 o7⟩
theorem find_id {α : Type} {p : α → Bool} {l : List α} {x : α} (h : l.find? p = some x) : x ∈ l ∧ p x = true := ⟨List.mem_of_find?_eq_some h, List.find?_some h⟩
theorem fb_sm {m : Md} {K : PySem.W.Frag} (h : m.fb K = true) : smB K = true := (Bool.and_eq_true_iff.mp h).2
theorem Md.Ok.insAt {m : Md} (O : m.Ok) (K : PySem.W.Frag) {p : Str × Nat × List Str} (hp : p ∈ m.g.ins) : (m.ct K).adr p.2.1 = ga K p.1 ∧ (m.ct K).flds p.2.1 = p.2.2 ∧ p.2.2.Nodup := by
  have h := List.all_eq_true.mp (show m.g.ins.all _ = true from O.ins) p hp
  simp only [Bool.and_eq_true, decide_eq_true_eq, Option.isNone_iff_eq_none] at h
  obtain ⟨⟨h1, h2⟩, h3⟩ := h
  refine ⟨?_, ?_, h3⟩
  · show (match m.xcs.find? (fun x => x.id == p.2.1) with | some x => ga K x.nm | none => (match m.g.ins.find? (fun q : Str × Nat × List Str => q.2.1 == p.2.1) with | some p => ga K p.1 | none => 0)) = _
    rw [h1, h2]
  · show (match m.xcs.find? (fun x => x.id == p.2.1) with | some x => x.fl | none => (match m.g.ins.find? (fun q : Str × Nat × List Str => q.2.1 == p.2.1) with | some p => p.2.2 | none => [])) = _
    rw [h1, h2]
theorem Md.insF {m : Md} {K : PySem.W.Frag} (c : SaysD m.fa m.fn K) {p : Str × Nat × List Str} (hp : p ∈ m.g.ins) {f : Fa} (hf : f ∈ insFa p) : f.ok K = true := says_fact c (List.mem_append_right _ (List.mem_flatMap.mpr ⟨p, hp, hf⟩))
theorem Md.entF {m : Md} {K : PySem.W.Frag} (c : SaysD m.fa m.fn K) {e : Ent} (he : e ∈ m.ents) {f : Fa} (hf : f ∈ e.fa) : f.ok K = true := says_fact c (List.mem_append_left _ (List.mem_append_left _ (List.mem_flatMap.mpr ⟨e, he, hf⟩)))
theorem Ent.fund {m : Md} {K : PySem.W.Frag} (c : SaysD m.fa m.fn K) {e : Ent} (he : e ∈ m.ents) (hk : e.dd.kwd.isEmpty = true) : ∃ dt, FunD K e.dd.name e.dd.qual e.dd.params e.dd.body e.dd.scope (e.dd.dvs K) [] (fAd K e.dd.at_) dt := by
  obtain ⟨dt, F⟩ := says_def c (d := e.dd) (List.mem_append_left _ (List.mem_map_of_mem he))
  have e2 : e.dd.kws K = [] := by unfold DefD.kws; rw [List.isEmpty_iff.mp hk]; rfl
  rw [e2] at F
  exact ⟨dt, F⟩
theorem Ent.okB_at {g : Gc} {e : Ent} (h : e.okB g = true) : FnScope e.fd.N e.fd.ps e.dd.scope ∧ e.fd.np ≤ e.fd.N.length ∧ okSs g (ckOf e.fd.N e.dd.scope) e.fd.body e.dd.body = true ∧ e.dd.name = e.fd.nm ∧ e.dd.kwd.isEmpty = true := by
  unfold Ent.okB at h
  simp only [Bool.and_eq_true, decide_eq_true_eq] at h
  obtain ⟨⟨⟨⟨o1, o2⟩, o3⟩, o4⟩, o5⟩ := h
  exact ⟨scB_ok o1, o2, o3, o4, o5⟩
theorem Md.Ok.globAt {m : Md} {K : PySem.W.Frag} (O : m.Ok) (c : SaysD m.fa m.fn K) {e : Ent} (he : e ∈ m.ents) (hk : e.fd.kd = .glob) :
    ∃ dt, FunD K e.dd.name e.dd.qual e.dd.params e.dd.body e.dd.scope [] [] (ga K e.fd.nm) dt ∧ FnScope e.fd.N e.fd.ps e.dd.scope ∧ e.fd.np ≤ e.fd.N.length ∧ okSs m.g (ckOf e.fd.N e.dd.scope) e.fd.body e.dd.body = true ∧ e.dd.name = e.fd.nm ∧ e.bdG ∧ (Fa.glo e.fd.nm).ok K = true := by
  have eo := O.ok e he
  have hb := O.bd e he
  unfold Ent.ok at eo
  unfold Ent.bd at hb
  rw [hk] at eo hb
  simp only [Bool.and_eq_true, decide_eq_true_eq] at eo
  obtain ⟨⟨o1, o2⟩, o3⟩ := eo
  obtain ⟨q1, q2, q3, q4, q5⟩ := Ent.okB_at o1
  obtain ⟨dt, F⟩ := Ent.fund c he q5
  have e1 : e.dd.dvs K = [] := by unfold DefD.dvs; rw [List.isEmpty_iff.mp o3]; rfl
  have e3 : fAd K e.dd.at_ = ga K e.fd.nm := by rw [o2]; rfl
  rw [e1, e3] at F
  exact ⟨dt, F, q1, q2, q3, q4, hb, Md.entF c he (by unfold Ent.fa; rw [hk]; exact List.mem_cons_self)⟩
theorem Md.Ok.excAt {m : Md} {K : PySem.W.Frag} (O : m.Ok) (c : SaysD m.fa m.fn K) {e : Ent} (he : e ∈ m.ents) (hk : e.fd.kd = .exc) :
    ∃ dt, FunD K e.dd.name e.dd.qual e.dd.params e.dd.body e.dd.scope [] [] (ga K e.fd.nm) dt ∧ FnScope e.fd.N e.fd.ps e.dd.scope ∧ e.fd.np ≤ e.fd.N.length ∧ okSs m.g (ckX e.fd.N e.dd.scope) e.fd.body e.dd.body = true ∧ e.dd.name = e.fd.nm ∧ e.bdG ∧ (Fa.glo e.fd.nm).ok K = true := by
  have eo := O.ok e he
  have hb := O.bd e he
  unfold Ent.ok at eo
  unfold Ent.bd at hb
  rw [hk] at eo hb
  simp only [Ent.okX, Bool.and_eq_true, decide_eq_true_eq] at eo
  obtain ⟨⟨⟨⟨⟨⟨w1, w2⟩, w3⟩, w4⟩, w5⟩, o2⟩, o3⟩ := eo
  obtain ⟨dt, F⟩ := Ent.fund c he w5
  have e1 : e.dd.dvs K = [] := by unfold DefD.dvs; rw [List.isEmpty_iff.mp o3] <;> rfl
  have e3 : fAd K e.dd.at_ = ga K e.fd.nm := by rw [o2] <;> rfl
  rw [e1, e3] at F
  exact ⟨dt, F, scB_ok w1, w2, w3, w4, hb, Md.entF c he (by unfold Ent.fa; rw [hk]; exact List.mem_cons_self)⟩
theorem kbd_none {K : PySem.W.Frag} {x qual : Str} {params : Arguments} {body : List Stmt} {scope : Scope} {f : Addr} {fd : FuncData} {ps : List Str} {n : Nat} {ks : List Str} {pm : List Nat} (F : FunD K x qual params body scope [] [] f fd)
    (h : ∀ (kV doc pmv : Value) (an : Option Addr) (cdv ct : Value) (us ws : List Value), us.length = n → ws.length = ks.length → bindArgs (PySem.W.fnOf x qual params body scope .none kV doc pmv an cdv ct) ⟨us, ks.zip ws⟩ = pure (ps.zip (permV pm (us ++ ws ++ [Value.none])))) : KBd K fd ps (n, ks, pm) := by
  obtain ⟨oc, od, dV, kV, doc, pmv, an, cdv, ct, osl, rfl, lk, hcd, hD, hK⟩ := F.ex
  rcases hD with ⟨_, rfl⟩ | ⟨e, _⟩
  · exact fun s us ws _ h1 h2 => .of_eq (h kV doc pmv an cdv ct us ws h1 h2)
  · exact absurd rfl e
theorem kbd_one {K : PySem.W.Frag} {x qual : Str} {params : Arguments} {body : List Stmt} {scope : Scope} {f : Addr} {fd : FuncData} {ps : List Str} {n : Nat} {ks : List Str} {pm : List Nat} (F : FunD K x qual params body scope [V.non] [] f fd)
    (h : ∀ (T : Addr) (kV doc pmv : Value) (an : Option Addr) (cdv ct : Value) (us ws : List Value), us.length = n → ws.length = ks.length → ∃ k, bindArgs (PySem.W.fnOf x qual params body scope (.ref T) kV doc pmv an cdv ct) ⟨us, ks.zip ws⟩ = seqItems? (.ref T) >>= k ∧ k (some #[Value.none]) = pure (ps.zip (permV pm (us ++ ws ++ [Value.none])))) : KBd K fd ps (n, ks, pm) := by
  obtain ⟨oc, od, dV, kV, doc, pmv, an, cdv, ct, osl, rfl, lk, hcd, hD, hK⟩ := F.ex
  rcases hD with ⟨e, _⟩ | ⟨_, T, o, its, m, rfl, lT, oT, rT⟩
  · cases e
  · have hi : its = [Value.none] := by
      cases rT with
      | cons r1 r2 =>
        cases r2
        rw [show _ = Value.none from r1]
    subst hi
    intro s us ws X h1 h2
    obtain ⟨k, e1, e2⟩ := h T kV doc pmv an cdv ct us ws h1 h2
    refine BindsTo.of_looks fun M => ?_
    rw [e1]
    exact looks_items X lT oT (.of_pure e2)
theorem Md.Ok.methAt {m : Md} {K : PySem.W.Frag} (O : m.Ok) (c : SaysD m.fa m.fn K) {e : Ent} (he : e ∈ m.ents) {p : Str × Nat × List Str} (hp : p ∈ m.g.ins) (hk : e.fd.kd = .meth p.1) :
    ∃ dt dvs, FunD K e.dd.name e.dd.qual e.dd.params e.dd.body e.dd.scope dvs [] (ma K (ga K p.1) e.fd.nm) dt ∧ FnScope e.fd.N e.fd.ps e.dd.scope ∧ e.fd.np ≤ e.fd.N.length ∧ okSs m.g (ckOf e.fd.N e.dd.scope) e.fd.body e.dd.body = true ∧ e.dd.name = e.fd.nm ∧ (∀ q ∈ e.fd.kws, KBd K dt e.fd.ps q) ∧ (Fa.meth p.1 e.fd.nm).ok K = true ∧ e.fd.nm ∉ p.2.2 := by
  have eo := O.ok e he
  have hb := O.bd e he
  unfold Ent.ok at eo
  unfold Ent.bd at hb
  rw [hk] at eo hb
  simp only [Bool.and_eq_true, decide_eq_true_eq, List.all_eq_true, Bool.or_eq_true, Bool.not_eq_true', decide_eq_false_iff_not] at eo
  obtain ⟨⟨⟨o1, o2⟩, o3⟩, o4⟩ := eo
  obtain ⟨q1, q2, q3, q4, q5⟩ := Ent.okB_at o1
  obtain ⟨dt, F⟩ := Ent.fund c he q5
  have e3 : fAd K e.dd.at_ = ma K (ga K p.1) e.fd.nm := by rw [o2]; rfl
  rw [e3] at F
  have hn : e.fd.nm ∉ p.2.2 := by
    rcases o4 p hp with z | z
    · exact absurd rfl z
    · exact z
  refine ⟨dt, _, F, q1, q2, q3, q4, fun q hq => ?_, Md.entF c he (by unfold Ent.fa; rw [hk]; exact List.mem_cons_self), hn⟩
  obtain ⟨n, ks, pm⟩ := q
  cases ed : e.dd.dfl with
  | nil =>
    rw [ed] at hb
    have e1 : e.dd.dvs K = [] := by unfold DefD.dvs; rw [ed]; rfl
    rw [e1] at F
    have hb : e.bdM := hb
    exact kbd_none F (hb (n, ks, pm) hq)
  | cons d ds =>
    rw [ed] at hb o3
    have hb : e.bdD := hb
    have e1 : e.dd.dvs K = [V.non] := by
      unfold DefD.dvs
      rw [ed]
      unfold dflN at o3
      split at o3
      · rename_i z; cases z
      · rename_i z; cases z; rfl
      · cases o3
    rw [e1] at F
    exact kbd_one F (hb (n, ks, pm) hq)
theorem rdB_at {g : Gc} {f np : Nat} {x : Str} (h : rdB g f np x = true) : ∃ fd, g.T.lookup f = some fd ∧ fd.kd = .glob ∧ fd.nm = x ∧ fd.np = np := by
  unfold rdB at h
  split at h
  · rename_i fd e
    simp only [Bool.and_eq_true, decide_eq_true_eq] at h
    exact ⟨fd, e, h.1.1, h.1.2, h.2⟩
  · cases h
theorem Md.modOk {m : Md} {P : Program} {w : World} {K : PySem.W.Frag} {mg : Str → Option Value} {base : Heap} {h : Heap} (O : m.Ok) (KX : K.In h) (G : h.Ns mainGlobals mg) (c : SaysD m.fa m.fn K) (hb : m.fb K = true) :
    @ModOk (ctI m K (fb_sm hb)) m.g P w K mg base := by
  letI := ctI m K (fb_sm hb)
  unfold Md.fb at hb
  simp only [Bool.and_eq_true, List.all_eq_true] at hb
  obtain ⟨⟨⟨⟨⟨⟨⟨b1, b2⟩, b3⟩, b6⟩, b7⟩, b8⟩, b9⟩, b4⟩ := hb
  refine ⟨rfl, fun x hx => ?_, fun p hp => ?_, fun X e1 e2 e3 e4 e5 p hp => ?_, fun q hq => ?_, fun k hk => ?_, fun q hq => ?_, fun q hq => ?_, fun p hp => ?_, fun f fd hf hkd => ?_, fun f fd hf p hp hkd => ?_, fun f fd f1 f2 hf hkd p hp hnm hfl => ?_, fun f fd hf hkd => ?_⟩
  · have hx' : x ∈ m.g.blt := by simpa [Gc.b] using hx
    exact free_ok KX G (says_fact c (f := .free x) (List.mem_append_left _ (List.mem_append_right _ (List.mem_map_of_mem hx'))))
  · have hg := b2 p hp
    obtain ⟨x, d⟩ := p
    unfold glbB at hg
    dsimp only at hg
    split at hg
    · obtain ⟨t, e⟩ := int_ok KX G hg
      exact ⟨_, .int _, e, ⟨t, rfl⟩, fun W H => .int _⟩
    · obtain ⟨t, e⟩ := str_ok KX G hg
      exact ⟨_, .str _, e, ⟨t, rfl⟩, fun W H => .str _⟩
    · cases hg
  · have hc := List.all_eq_true.mp (show m.g.cls.all _ = true from O.cls) p hp
    cases e : m.xcs.find? (fun x => x.id == p.2.1) with
    | none => rw [e] at hc; cases hc
    | some x =>
      rw [e] at hc
      simp only [Option.any_some, Bool.and_eq_true, decide_eq_true_eq, beq_iff_eq] at hc
      obtain ⟨⟨h1, h2⟩, h3⟩ := hc
      have a1 : CtI.ct.adr p.2.1 = ga K x.nm := by show (match m.xcs.find? (fun x => x.id == p.2.1) with | some x => ga K x.nm | none => _) = _; rw [e]
      have a2 : CtI.ct.flds p.2.1 = x.fl := by show (match m.xcs.find? (fun x => x.id == p.2.1) with | some x => x.fl | none => _) = _; rw [e]
      obtain ⟨q1, q2, q3, fI, fd, q4, q5, q6, q7⟩   := Xc.made (P := P) (w := w) (base := base) O KX G c (find_id e).1 (b1 x (find_id e).1)
      subst e1 e2 e3 e4 e5
      unfold MkAt
      rw [a1, a2, ← h1, ← h3]
      exact ⟨q1, ⟨x, (find_id e).1, by simpa using (find_id e).2⟩, h2, by omega, q3, fI, fd, q4, q5, q6, q7⟩
  · have he := b3 q hq
    unfold exB at he
    obtain ⟨h1, h2⟩ := Bool.and_eq_true_iff.mp he
    exact ⟨_, glo_ok KX G h1, fun c ⟨x, hx, e⟩ => by subst e; exact of_decide_eq_true (List.all_eq_true.mp h2 x hx)⟩
  · obtain ⟨x, hx, rfl⟩ := hk
    exact xcfB_ok (b7 x hx)
  · have hq := b8 q hq
    unfold xfsB at hq
    simp only [Bool.and_eq_true, decide_eq_true_eq, List.all_eq_true] at hq
    exact ⟨hq.1.1, hq.1.2, fun f hf => eqO_ok (hq.2 f hf)⟩
  · have hq := b9 q hq
    unfold xisB at hq
    rcases Bool.or_eq_true_iff.mp hq with hq | hq
    · obtain ⟨h1, h2⟩ := Bool.and_eq_true_iff.mp hq
      exact ⟨.ref (ga K q.1), .ref (ga K q.1), .inl (glo_ok KX G h1), rfl, fun u hu => hu, fun c ⟨x, hx, e⟩ => by subst e; exact of_decide_eq_true (List.all_eq_true.mp h2 x hx)⟩
    · split at hq
      · rename_i T hT
        simp only [Bool.and_eq_true, Bool.not_eq_true', decide_eq_false_iff_not, List.all_eq_true, decide_eq_true_eq] at hq
        obtain ⟨⟨h1, h2⟩, h3⟩ := hq
        exact ⟨.type T, .ty T, .inr ⟨free_ok KX G h1, hT, h2⟩, rfl, fun u hu => hu, fun c ⟨x, hx, e⟩ => by subst e; exact h3 x hx⟩
      · cases hq
  · obtain ⟨i1, i2, i3⟩ := O.insAt K hp
    have i1' : CtI.ct.adr p.2.1 = ga K p.1 := i1
    rw [i1']
    exact ⟨glo_ok KX G (Md.insF c hp List.mem_cons_self), i2, i3, cls_ok (Md.insF c hp (List.mem_cons_of_mem _ List.mem_cons_self)), fun f hf => noat_ok (Md.insF c hp (List.mem_cons_of_mem _ (List.mem_cons_of_mem _ (List.mem_map_of_mem hf)))), iso_okB (b6 p hp)⟩
  · rw [O.T] at hf
    obtain ⟨e, he, hee⟩ := List.mem_map.mp (lookup_mem hf)
    have h2 : e.fd = fd := congrArg Prod.snd hee
    subst h2
    obtain ⟨dt, F, S, o2, o3, o4, hbd, hg⟩ := O.globAt c he hkd
    refine ⟨ga K e.fd.nm, dt, e.dd.qual, e.dd.params, e.dd.body, e.dd.scope, (by have F' := F; rw [o4] at F'; exact F'), glo_ok KX G hg, S, o2, o3, binds_of F hbd.1, fun q hq => ?_⟩
    obtain ⟨n, ks, pm⟩ := q
    exact kb_of F (hbd.2 (n, ks, pm) hq)
  · rw [O.T] at hf
    obtain ⟨e, he, hee⟩ := List.mem_map.mp (lookup_mem hf)
    have h2 : e.fd = fd := congrArg Prod.snd hee
    subst h2
    obtain ⟨dt, dvs, F, S, o2, o3, o4, hkb, hm, hn⟩ := O.methAt c he hp hkd
    have i1 : CtI.ct.adr p.2.1 = ga K p.1 := (O.insAt K hp).1
    rw [i1]
    exact ⟨_, dt, e.dd.qual, e.dd.params, e.dd.body, e.dd.scope, dvs, (by have F' := F; rw [o4] at F'; exact F'), meth_ok hm, hn, S, o2, o3, hkb⟩
  · rw [O.T] at hf
    obtain ⟨e, he, hee⟩ := List.mem_map.mp (lookup_mem hf)
    have h2 : e.fd = fd := congrArg Prod.snd hee
    subst h2
    have eo := O.ok e he
    have hbd := O.bd e he
    unfold Ent.ok at eo
    unfold Ent.bd at hbd
    rw [hkd] at eo hbd
    have hbd : e.bdN := hbd
    simp only [Bool.and_eq_true, decide_eq_true_eq] at eo
    obtain ⟨⟨⟨⟨⟨⟨⟨⟨⟨o1, o2⟩, o3⟩, o4⟩, o5⟩, o6⟩, o7⟩, o8⟩, o9⟩, o10⟩ := eo
    obtain ⟨dt, F⟩ := Ent.fund c he o8
    have e1 : e.dd.dvs K = [] := by unfold DefD.dvs; rw [List.isEmpty_iff.mp o7]; rfl
    have e3 : fAd K e.dd.at_ = ma K (ga K e.fd.nm) "__init__" := by rw [o6]; rfl
    rw [e1, e3] at F
    have i1 : CtI.ct.adr p.2.1 = ga K p.1 := (O.insAt K hp).1
    rw [i1, hnm]
    obtain ⟨fd1, t1, t2, t3, t4⟩ := rdB_at o9
    obtain ⟨fd2, u1, u2, u3, u4⟩ := rdB_at o10
    refine ⟨_, dt, e.dd.name, e.dd.qual, e.dd.params, e.dd.body, e.dd.scope, fd1, fd2, F, mkr_ok (Md.entF c he (by unfold Ent.fa; rw [hkd]; exact List.mem_cons_self)), scB_ok o1, o2, o3, o4, o5, t1, t2, t3, t4, u1, u2, u3, u4, fun q hq => ?_⟩
    obtain ⟨n, ks, pm⟩ := q
    exact kb_of F (hbd (n, ks, pm) hq)
  · rw [O.T] at hf
    obtain ⟨e, he, hee⟩ := List.mem_map.mp (lookup_mem hf)
    have h2 : e.fd = fd := congrArg Prod.snd hee
    subst h2
    obtain ⟨dt, F, S, o2, o3, o4, hbd, hg⟩ := O.excAt c he hkd
    exact ⟨ga K e.fd.nm, dt, e.dd.qual, e.dd.params, e.dd.body, e.dd.scope, (by have F' := F; rw [o4] at F'; exact F'), glo_ok KX G hg, S, o2, o3, binds_of F hbd.1⟩
/-- the law's def: what the walk asks -/
theorem Md.law {m : Md} {P : Program} {w : World} {K : PySem.W.Frag} {mg : Str → Option Value} {h : Heap} {fa : Addr} {n f : Nat} {fd : Fd} {x : Str} (O : m.Ok) (KX : K.In h) (G : h.Ns mainGlobals mg) (c : SaysD m.fa m.fn K) (hb : m.fb K = true)
    (hf : m.g.T.lookup f = some fd) (hkd : fd.kd = .glob) (hp : fd.ps = [x]) (h1 : fd.np = 1) (hm : mg fd.nm = some (.ref fa)) (sem_ok : ∀ ns : List Int, ns.length ≤ 63 → sem m.g.T n f [.scr ns] [] = .ok (.val (.bl true)) []) :
    Told P w mg 63 (2 * n + 4) x fa h := by
  letI := ctI m K (fb_sm hb)
  have hf' := hf
  rw [O.T] at hf
  obtain ⟨e, he, hee⟩ := List.mem_map.mp (lookup_mem hf)
  have h2 : e.fd = fd := congrArg Prod.snd hee
  subst h2
  obtain ⟨dt, F, S, o2, o3, o4, hbd, hg⟩ := O.globAt c he hkd
  have hg' := glo_ok KX G hg
  rw [hm] at hg'
  cases hg'
  have hb1 := hbd.1
  rw [hp] at hb1
  refine ⟨K, dt, spG 1 (sem m.g.T n f), KX, fun s u => F.bindsA (ps := [x]) hb1 s [u] rfl, fun H a ns hl hO hS => spG_start rfl hl (by decide) hO hS (sem_ok ns hl), fun base KB GB => ?_⟩
  have R := one_ok (Md.modOk (P := P) (w := w) (base := base) O KX G c hb) n hf' (glob_net hkd) (by have F' := F; rw [o4] at F'; exact F') S o2 o3
  rw [hp, h1] at R
  exact R
end Fc

end
section
set_option autoImplicit false
set_option maxHeartbeats 4000000
namespace Fc.K01
open PySem PySem.Spec L2 PyProof.Rows He
def top (i : Nat) : Stmt := PySem.Challenge.pw_farchange_k01_trees_of_any_value.main.body.getD i (.Pass ⟨0, 0, 0, 0⟩)
def clsStm (s : Stmt) (i : Nat) : Stmt := match s with
  | .ClassDef _ _ _ b _ _ _ _ _ _ _ => b.getD i (.Pass ⟨0, 0, 0, 0⟩)
  | _ => .Pass ⟨0, 0, 0, 0⟩
def f_is_within_0 : Fd := ⟨"is_within", ["value", "low", "high"], 3, [], b_is_within_0, .glob⟩
def d_is_within_0 : DefD := ⟨("is_within", none), "is_within", "is_within", defArgs (top 6), defBody (top 6), defScope (top 6), [], []⟩
theorem bd_is_within_0 : Ent.bd ⟨0, f_is_within_0, d_is_within_0⟩ := ⟨fun kV doc pm an cdv ct us h => match us, h with | [_, _, _], _ => rfl, nofun⟩
def f_is_corridor_1 : Fd := ⟨"is_corridor", ["value", "index"], 2, [], b_is_corridor_1, .glob⟩
def d_is_corridor_1 : DefD := ⟨("is_corridor", none), "is_corridor", "is_corridor", defArgs (top 7), defBody (top 7), defScope (top 7), [], []⟩
theorem bd_is_corridor_1 : Ent.bd ⟨1, f_is_corridor_1, d_is_corridor_1⟩ := ⟨fun kV doc pm an cdv ct us h => match us, h with | [_, _], _ => rfl, nofun⟩
def f_check_corridors_2 : Fd := ⟨"check_corridors", ["value", "position", "corridor"], 1, [], b_check_corridors_2, .glob⟩
def d_check_corridors_2 : DefD := ⟨("check_corridors", none), "check_corridors", "check_corridors", defArgs (top 8), defBody (top 8), defScope (top 8), [], []⟩
theorem bd_check_corridors_2 : Ent.bd ⟨2, f_check_corridors_2, d_check_corridors_2⟩ := ⟨fun kV doc pm an cdv ct us h => match us, h with | [_], _ => rfl, nofun⟩
def f_is_tree_3 : Fd := ⟨"is_tree", ["value"], 1, [(0, ["value"], [0])], b_is_tree_3, .glob⟩
def d_is_tree_3 : DefD := ⟨("is_tree", none), "is_tree", "is_tree", defArgs (top 9), defBody (top 9), defScope (top 9), [], []⟩
theorem bd_is_tree_3 : Ent.bd ⟨3, f_is_tree_3, d_is_tree_3⟩ := ⟨fun kV doc pm an cdv ct us h => match us, h with | [_], _ => rfl, List.forall_mem_cons.mpr ⟨fun kV doc pm an cdv ct us ws h1 h2 => match us, ws, h1, h2 with | [], [_], _, _ => rfl, nofun⟩⟩
def f_Lcell_4 : Fd := ⟨"_law_cell", ["_law_script", "_law_k", "_law_state", "_law_cell_here"], 2, [], b_Lcell_4, .glob⟩
def d_Lcell_4 : DefD := ⟨("_law_cell", none), "_law_cell", "_law_cell", defArgs (top 11), defBody (top 11), defScope (top 11), [], []⟩
theorem bd_Lcell_4 : Ent.bd ⟨4, f_Lcell_4, d_Lcell_4⟩ := ⟨fun kV doc pm an cdv ct us h => match us, h with | [_, _], _ => rfl, nofun⟩
def f_Lpool_5 : Fd := ⟨"_law_pool", ["_law_cell_here", "_law_digits"], 1, [], b_Lpool_5, .glob⟩
def d_Lpool_5 : DefD := ⟨("_law_pool", none), "_law_pool", "_law_pool", defArgs (top 12), defBody (top 12), defScope (top 12), [], []⟩
theorem bd_Lpool_5 : Ent.bd ⟨5, f_Lpool_5, d_Lpool_5⟩ := ⟨fun kV doc pm an cdv ct us h => match us, h with | [_], _ => rfl, nofun⟩
def f_Ldraw_6 : Fd := ⟨"_law_draw", ["_law_pool_here", "_law_upto", "_law_state", "_law_digit"], 2, [], b_Ldraw_6, .glob⟩
def d_Ldraw_6 : DefD := ⟨("_law_draw", none), "_law_draw", "_law_draw", defArgs (top 13), defBody (top 13), defScope (top 13), [], []⟩
theorem bd_Ldraw_6 : Ent.bd ⟨6, f_Ldraw_6, d_Ldraw_6⟩ := ⟨fun kV doc pm an cdv ct us h => match us, h with | [_, _], _ => rfl, nofun⟩
def f_Ltree_7 : Fd := ⟨"_law_tree", ["_law_pool_here", "_law_most", "_law_size", "_law_shape", "_law_upto", "_law_found", "_law_k"], 2, [], b_Ltree_7, .glob⟩
def d_Ltree_7 : DefD := ⟨("_law_tree", none), "_law_tree", "_law_tree", defArgs (top 14), defBody (top 14), defScope (top 14), [], []⟩
theorem bd_Ltree_7 : Ent.bd ⟨7, f_Ltree_7, d_Ltree_7⟩ := ⟨fun kV doc pm an cdv ct us h => match us, h with | [_, _], _ => rfl, nofun⟩
def f_Lis_tree_8 : Fd := ⟨"_law_is_tree", ["_law_what", "_law_k", "_law_pair", "_law_one"], 1, [], b_Lis_tree_8, .glob⟩
def d_Lis_tree_8 : DefD := ⟨("_law_is_tree", none), "_law_is_tree", "_law_is_tree", defArgs (top 15), defBody (top 15), defScope (top 15), [], []⟩
theorem bd_Lis_tree_8 : Ent.bd ⟨8, f_Lis_tree_8, d_Lis_tree_8⟩ := ⟨fun kV doc pm an cdv ct us h => match us, h with | [_], _ => rfl, nofun⟩
def f_Ltold_9 : Fd := ⟨"_law_told", ["_law_what", "_law_due", "_law_kept"], 1, [], b_Ltold_9, .glob⟩
def d_Ltold_9 : DefD := ⟨("_law_told", none), "_law_told", "_law_told", defArgs (top 16), defBody (top 16), defScope (top 16), [], []⟩
theorem bd_Ltold_9 : Ent.bd ⟨9, f_Ltold_9, d_Ltold_9⟩ := ⟨fun kV doc pm an cdv ct us h => match us, h with | [_], _ => rfl, nofun⟩
def f_Lodd_pair_10 : Fd := ⟨"_law_odd_pair", ["_law_pool_here", "_law_k", "_law_some"], 2, [], b_Lodd_pair_10, .glob⟩
def d_Lodd_pair_10 : DefD := ⟨("_law_odd_pair", none), "_law_odd_pair", "_law_odd_pair", defArgs (top 17), defBody (top 17), defScope (top 17), [], []⟩
theorem bd_Lodd_pair_10 : Ent.bd ⟨10, f_Lodd_pair_10, d_Lodd_pair_10⟩ := ⟨fun kV doc pm an cdv ct us h => match us, h with | [_, _], _ => rfl, nofun⟩
def f_Lbent_11 : Fd := ⟨"_law_bent", ["_law_pool_here", "_law_tree_here", "_law_mode", "_law_at", "_law_pair"], 2, [], b_Lbent_11, .glob⟩
def d_Lbent_11 : DefD := ⟨("_law_bent", none), "_law_bent", "_law_bent", defArgs (top 18), defBody (top 18), defScope (top 18), [], []⟩
theorem bd_Lbent_11 : Ent.bd ⟨11, f_Lbent_11, d_Lbent_11⟩ := ⟨fun kV doc pm an cdv ct us h => match us, h with | [_, _], _ => rfl, nofun⟩
def f_Lby_hand_12 : Fd := ⟨"_law_by_hand", ["_law_path", "_law_k", "_law_some", "_law_what"], 0, [], b_Lby_hand_12, .glob⟩
def d_Lby_hand_12 : DefD := ⟨("_law_by_hand", none), "_law_by_hand", "_law_by_hand", defArgs (top 19), defBody (top 19), defScope (top 19), [], []⟩
theorem bd_Lby_hand_12 : Ent.bd ⟨12, f_Lby_hand_12, d_Lby_hand_12⟩ := ⟨fun kV doc pm an cdv ct us h => match us, h with | [], _ => rfl, nofun⟩
def f_law_13 : Fd := ⟨"law", ["_law_script", "_law_k", "_law_pool_here", "_law_turn", "_law_tree_here"], 1, [], b_law_13, .glob⟩
def d_law_13 : DefD := ⟨("law", none), "law", "law", defArgs (top 20), defBody (top 20), defScope (top 20), [], []⟩
theorem bd_law_13 : Ent.bd ⟨13, f_law_13, d_law_13⟩ := ⟨fun kV doc pm an cdv ct us h => match us, h with | [_], _ => rfl, nofun⟩
def ents : List Ent := [⟨0, f_is_within_0, d_is_within_0⟩, ⟨1, f_is_corridor_1, d_is_corridor_1⟩, ⟨2, f_check_corridors_2, d_check_corridors_2⟩, ⟨3, f_is_tree_3, d_is_tree_3⟩, ⟨4, f_Lcell_4, d_Lcell_4⟩, ⟨5, f_Lpool_5, d_Lpool_5⟩, ⟨6, f_Ldraw_6, d_Ldraw_6⟩, ⟨7, f_Ltree_7, d_Ltree_7⟩, ⟨8, f_Lis_tree_8, d_Lis_tree_8⟩, ⟨9, f_Ltold_9, d_Ltold_9⟩, ⟨10, f_Lodd_pair_10, d_Lodd_pair_10⟩, ⟨11, f_Lbent_11, d_Lbent_11⟩, ⟨12, f_Lby_hand_12, d_Lby_hand_12⟩, ⟨13, f_law_13, d_law_13⟩]
abbrev T : List (Nat × Fd) := [(0, f_is_within_0), (1, f_is_corridor_1), (2, f_check_corridors_2), (3, f_is_tree_3), (4, f_Lcell_4), (5, f_Lpool_5), (6, f_Ldraw_6), (7, f_Ltree_7), (8, f_Lis_tree_8), (9, f_Ltold_9), (10, f_Lodd_pair_10), (11, f_Lbent_11), (12, f_Lby_hand_12), (13, f_law_13)]
def x_InvalidCorridors : Xc := ⟨"InvalidCorridors", 3, "InputError", ["position"], true, ⟨("InvalidCorridors", some "__init__"), "__init__", "InvalidCorridors.__init__", defArgs (clsStm (top 2) 0), defBody (clsStm (top 2) 0), defScope (clsStm (top 2) 0), [], []⟩⟩
theorem xbd_InvalidCorridors : x_InvalidCorridors.bd := fun kV doc pm an cdv ct us h => match us, h with | [_, _], _ => rfl
def xcs : List Xc := [x_InvalidCorridors]
def g : Gc := ⟨T, ["abs", "all", "bool", "divmod", "enumerate", "int", "isinstance", "len", "list", "max", "min", "range", "repr", "tuple"], [("MAX_HALLS", .int 12), ("MAX_LENGTH", .int 1000000)], [("InvalidCorridors", 3, 1, true)], [("InvalidCorridors", [3])], [], [], []⟩
def md : Md := ⟨ents, xcs, g⟩
theorem ents_ok : (ents.all fun e => e.ok g) = true := by decide +kernel
theorem xcs_ok : (xcs.all fun x => x.ok) = true := by decide +kernel
theorem md_ok : md.Ok := ⟨rfl, List.all_eq_true.mp ents_ok, List.forall_mem_cons.mpr ⟨bd_is_within_0, List.forall_mem_cons.mpr ⟨bd_is_corridor_1, List.forall_mem_cons.mpr ⟨bd_check_corridors_2, List.forall_mem_cons.mpr ⟨bd_is_tree_3, List.forall_mem_cons.mpr ⟨bd_Lcell_4, List.forall_mem_cons.mpr ⟨bd_Lpool_5, List.forall_mem_cons.mpr ⟨bd_Ldraw_6, List.forall_mem_cons.mpr ⟨bd_Ltree_7, List.forall_mem_cons.mpr ⟨bd_Lis_tree_8, List.forall_mem_cons.mpr ⟨bd_Ltold_9, List.forall_mem_cons.mpr ⟨bd_Lodd_pair_10, List.forall_mem_cons.mpr ⟨bd_Lbent_11, List.forall_mem_cons.mpr ⟨bd_Lby_hand_12, List.forall_mem_cons.mpr ⟨bd_law_13, nofun⟩⟩⟩⟩⟩⟩⟩⟩⟩⟩⟩⟩⟩⟩, List.all_eq_true.mp xcs_ok, List.forall_mem_cons.mpr ⟨xbd_InvalidCorridors, nofun⟩, by decide +kernel, by decide +kernel⟩
theorem has_is_within_0 : HasD T 0 3 3 b_is_within_0 := ⟨f_is_within_0, rfl, rfl, rfl, rfl, rfl⟩
instance : C_is_within_0 T where
  own_is_within_0 := has_is_within_0
theorem has_is_corridor_1 : HasD T 1 2 2 b_is_corridor_1 := ⟨f_is_corridor_1, rfl, rfl, rfl, rfl, rfl⟩
instance : C_is_corridor_1 T where
  own_is_corridor_1 := has_is_corridor_1
theorem has_check_corridors_2 : HasD T 2 3 1 b_check_corridors_2 := ⟨f_check_corridors_2, rfl, rfl, rfl, rfl, rfl⟩
instance : C_check_corridors_2 T where
  own_check_corridors_2 := has_check_corridors_2
theorem has_is_tree_3 : HasD T 3 1 1 b_is_tree_3 := ⟨f_is_tree_3, rfl, rfl, rfl, rfl, rfl⟩
instance : C_is_tree_3 T where
  own_is_tree_3 := has_is_tree_3
theorem has_Lcell_4 : HasD T 4 4 2 b_Lcell_4 := ⟨f_Lcell_4, rfl, rfl, rfl, rfl, rfl⟩
instance : C_Lcell_4 T where
  own_Lcell_4 := has_Lcell_4
theorem has_Lpool_5 : HasD T 5 2 1 b_Lpool_5 := ⟨f_Lpool_5, rfl, rfl, rfl, rfl, rfl⟩
instance : C_Lpool_5 T where
  own_Lpool_5 := has_Lpool_5
theorem has_Ldraw_6 : HasD T 6 4 2 b_Ldraw_6 := ⟨f_Ldraw_6, rfl, rfl, rfl, rfl, rfl⟩
instance : C_Ldraw_6 T where
  own_Ldraw_6 := has_Ldraw_6
theorem has_Ltree_7 : HasD T 7 7 2 b_Ltree_7 := ⟨f_Ltree_7, rfl, rfl, rfl, rfl, rfl⟩
instance : C_Ltree_7 T where
  own_Ltree_7 := has_Ltree_7
theorem has_Lis_tree_8 : HasD T 8 4 1 b_Lis_tree_8 := ⟨f_Lis_tree_8, rfl, rfl, rfl, rfl, rfl⟩
instance : C_Lis_tree_8 T where
  own_Lis_tree_8 := has_Lis_tree_8
theorem has_Ltold_9 : HasD T 9 3 1 b_Ltold_9 := ⟨f_Ltold_9, rfl, rfl, rfl, rfl, rfl⟩
instance : C_Ltold_9 T where
  own_Ltold_9 := has_Ltold_9
theorem has_Lodd_pair_10 : HasD T 10 3 2 b_Lodd_pair_10 := ⟨f_Lodd_pair_10, rfl, rfl, rfl, rfl, rfl⟩
instance : C_Lodd_pair_10 T where
  own_Lodd_pair_10 := has_Lodd_pair_10
theorem has_Lbent_11 : HasD T 11 5 2 b_Lbent_11 := ⟨f_Lbent_11, rfl, rfl, rfl, rfl, rfl⟩
instance : C_Lbent_11 T where
  own_Lbent_11 := has_Lbent_11
theorem has_Lby_hand_12 : HasD T 12 4 0 b_Lby_hand_12 := ⟨f_Lby_hand_12, rfl, rfl, rfl, rfl, rfl⟩
instance : C_Lby_hand_12 T where
  own_Lby_hand_12 := has_Lby_hand_12
theorem has_law_13 : HasD T 13 5 1 b_law_13 := ⟨f_law_13, rfl, rfl, rfl, rfl, rfl⟩
instance : C_law_13 T where
  own_law_13 := has_law_13
abbrev R : PySem.W.OpenRow := PySem.W.OpenLaw.row PySem.Challenge.rw_farchange_k01_trees_of_any_value
abbrev hk : PySem.W.Hook := hookF 5 md.fa md.fn [md.fb]
def ob (s : PySem.W.SharedT) : AlD × List Bool := obsF 5 md.fa md.fn [md.fb] (HandSHeadRun.getT s)
theorem ob_eq (s : PySem.W.SharedT) : ob s = hk.obs s.abs := obsF_eq (HandSHeadRun.getT_eq s)
def nm0 : List Str := ["InputError", "InvalidCorridors", "MAX_HALLS", "MAX_LENGTH", "is_within", "is_corridor", "check_corridors", "is_tree", "_law_cell", "_law_pool", "_law_draw", "_law_tree", "_law_is_tree", "_law_told", "_law_odd_pair", "_law_bent", "_law_by_hand"]
def names : List Str := nm0
def Kf (s : PySem.W.SharedT) : PySem.W.Frag := frG (HandSHeadRun.getT s) (sysModules :: cStatics :: asQ (HandSHeadRun.getT s) 5)
theorem run0 (w : World) (os : OsState) : (HandSHeadRun.endF (HandSHeadRun.stepQ (HandSHeadRun.denQ HandSHeadRun.tabQ) R.prog w) 4600 R.prog w os).map (fun s => (HandSHeadRun.looksF R.prog (PySem.W.boot_heap w.params) s.abs, HandSHeadRun.seenQ (PySem.W.view R.prog [20]) names (importedModules R.prog.main.body) (fun s => PySem.W.xlAt (PySem.W.view R.prog [20]) [] s && PySem.W.recOk R.toRowW.records s) s.abs)) = some (true, PySem.W.openGood (PySem.W.view R.prog [20]) names) := by
  kernel_rfl
theorem run1 (w : World) (os : OsState) : (HandSHeadRun.endF (HandSHeadRun.stepQ (HandSHeadRun.denQ HandSHeadRun.tabQ) R.prog w) 4600 R.prog w os).map (fun s => obsD md.fa md.fn (Kf s)) = some (valD md.fn) := by
  kernel_rfl
theorem run2 (w : World) (os : OsState) : (HandSHeadRun.endF (HandSHeadRun.stepQ (HandSHeadRun.denQ HandSHeadRun.tabQ) R.prog w) 4600 R.prog w os).map (fun s => md.fb (Kf s)) = some true := by
  kernel_rfl
theorem run (w : World) : HandSHeadRun.RunEq R (PySem.W.view R.prog [20]) hk ob 4600 names w := by
  intro os
  exact run_join (run0 w os) (run1 w os) (run2 w os)
end Fc.K01

end
section
set_option autoImplicit false
set_option maxHeartbeats 4000000
/-! the laws' draws -/
namespace Fc
open PySem
variable {T : List (Nat × Fd)}
/-- a pool of draws -/
def Pl (o : Obj) : Prop := ∃ a b c : Int, o = .lst [.int a, .int b, .int c] ∧ 0 ≤ a ∧ a < 2147483353 ∧ 0 ≤ b
theorem pool_ok [C_Lpool_5 T] {m : Nat} (hm : 1 ≤ m) (i : Int) (S : Store) : ∃ xs, Pl (.lst xs) ∧ sem T m 5 [.int i] S = .ok (.tl xs) S := by
  obtain ⟨n, rfl, hn⟩ := succ_of hm
  rw [sem_eq C_Lpool_5.own_Lpool_5 n _ _ rfl]
  unfold b_Lpool_5
  have h1 : 0 ≤ i % 2147483353 := Int.emod_nonneg _ (by decide)
  have h2 : i % 2147483353 < 2147483353 := Int.emod_lt_of_pos _ (by decide)
  by_cases h : i < 0
  · refine ⟨[.int (i % 2147483353), .int (-i), .int 0], ⟨_, _, _, rfl, h1, h2, by omega⟩, ?_⟩
    simp [h]
  · by_cases h' : i ≥ 1000000000000000000
    · refine ⟨[.int (i % 2147483353), .int i, .int 0], ⟨_, _, _, rfl, h1, h2, by omega⟩, ?_⟩
      simp [h, h']
    · refine ⟨[.int (i % 2147483353), .int 0, .int 0], ⟨_, _, _, rfl, h1, h2, by omega⟩, ?_⟩
      simp [h, h']
theorem atI3 (a b c : D) (k : Nat) : L2.atI [a, b, c] (k : Int) = [a, b, c][k]? := atI_cast _ k
theorem draw_ok [C_Ldraw_6 T] {m : Nat} (hm : 1 ≤ m) {l : Nat} {o : Obj} {S : Store} (hS : S[l]? = some o) (ho : Pl o) {u : Int} (hu : 1 ≤ u) (hu2 : u < 1073741824) :
    ∃ (r : Int) (o' : Obj), Pl o' ∧ 0 ≤ r ∧ r < u ∧ sem T m 6 [.ref l, .int u] S = .ok (.val (.int r)) (S.set l o') := by
  obtain ⟨n, rfl, hn⟩ := succ_of hm
  obtain ⟨a, b, c, rfl, h1, h2, h3⟩ := ho
  have hl : l < S.length := (List.getElem?_eq_some_iff.mp hS).1
  rw [sem_eq C_Ldraw_6.own_Ldraw_6 n _ _ rfl]
  unfold b_Ldraw_6
  have e1 := yat_ref hS 2
  have e2 : evSet (.ref l) (.int 2) (.int (c + 1)) S = .ok () (S.set l (.lst [.int a, .int b, .int (c + 1)])) := yset_ref hS 2 (by simp) _
  have hS2 : (S.set l (.lst [.int a, .int b, .int (c + 1)]))[l]? = some (.lst [.int a, .int b, .int (c + 1)]) := List.getElem?_set_self hl
  have e3 := yat_ref hS2 0
  have e4 := yat_ref hS2 2
  generalize hz : (a * (a % 42013 + 29009) + 70019 * (c + 1) + 11) % 2147483353 = z
  have z1 : 0 ≤ z := by rw [← hz]; exact Int.emod_nonneg _ (by decide)
  have z2 : z < 2147483353 := by rw [← hz]; exact Int.emod_lt_of_pos _ (by decide)
  have e5 : evSet (.ref l) (.int 0) (.int z) (S.set l (.lst [.int a, .int b, .int (c + 1)])) = .ok () (S.set l (.lst [.int z, .int b, .int (c + 1)])) := by
    have := yset_ref hS2 0 (by simp) (.int z)
    rw [List.set_set] at this
    exact this
  have hS3 : (S.set l (.lst [.int z, .int b, .int (c + 1)]))[l]? = some (.lst [.int z, .int b, .int (c + 1)]) := List.getElem?_set_self hl
  have e6 := yat_ref hS3 1
  have e7 := yat_ref hS3 0
  have s1 : small64 a := by unfold small64; omega
  have s2 : small64 70019 := by unfold small64; omega
  simp at e1 e3 e4 e6 e7
  by_cases hb : 0 < b
  · have e8 : evSet (.ref l) (.int 1) (.int (b / u)) (S.set l (.lst [.int z, .int b, .int (c + 1)])) = .ok () (S.set l (.lst [.int z, .int (b / u), .int (c + 1)])) := by
      have := yset_ref hS3 1 (by simp) (.int (b / u))
      rw [List.set_set] at this
      exact this
    refine ⟨b % u, .lst [.int z, .int (b / u), .int (c + 1)], ⟨_, _, _, rfl, z1, z2, Int.ediv_nonneg h3 (by omega)⟩, Int.emod_nonneg _ (by omega), Int.emod_lt_of_pos _ (by omega), ?_⟩
    simp [e1, e2, e3, e4, s1, s2, hz, e5, e6, e7, hb, e8, show 0 < u by omega, hu2]
    exact fin_same (by simp) rfl
  · refine ⟨z / 64 % u, .lst [.int z, .int b, .int (c + 1)], ⟨_, _, _, rfl, z1, z2, h3⟩, Int.emod_nonneg _ (by omega), Int.emod_lt_of_pos _ (by omega), ?_⟩
    simp [e1, e2, e3, e4, s1, s2, hz, e5, e6, e7, hb, show 0 < u by omega, hu2]
    exact fin_same (by simp) rfl
theorem cell_ok [C_Lcell_4 T] {m : Nat} (hm : 1 ≤ m) (ns : List Int) (k : Int) (h0 : 0 ≤ k) (hk : k < 1000) (S : Store) : ∃ i : Int, sem T m 4 [.scr ns, .int k] S = .ok (.val (.int i)) S := by
  obtain ⟨n, rfl, hn⟩ := succ_of hm
  rw [sem_eq C_Lcell_4.own_Lcell_4 n _ _ rfl]
  unfold b_Lcell_4
  by_cases h : k < ns.length
  · have hl : k.toNat < ns.length := by omega
    refine ⟨ns[k.toNat], ?_⟩
    have e : L2.atI (ns.map D.int) k = some (.int ns[k.toNat]) := by rw [atI_ix _ h0]; simp [hl]
    simp [h, e]
  · have s1 : small64 k := by unfold small64; omega
    have s2 : small64 17 := by unfold small64; omega
    have s3 : small64 60013 := by unfold small64; omega
    have s4 : small64 43019 := by unfold small64; omega
    have key : ∀ (is : List Int) (st : Int), ∃ st' x, forL S [3] (forF (sem T n) (.nm 3) (.cons (.asg (.nm 2) (.bin .Mod (.bin .Add (.bin .Mult (.var 2) (.cst (.int 43019))) (.var 3)) (.cst (.int 2147483353)))) .nil)) (is.map D.int) [some (.scr ns), some (.int k), some (.int st), none] S = .ok (.nx [some (.scr ns), some (.int k), some (.int st'), x]) S := by
      intro is
      induction is with
      | nil => intro st; exact ⟨st, none, by simp [forL]⟩
      | cons i is ih =>
        intro st
        obtain ⟨st', x, h⟩ := ih ((st * 43019 + i) % 2147483353)
        refine ⟨st', x, ?_⟩
        rw [List.map_cons, forL]
        simp [forF, s4, wipeE, h]
    generalize hz : 60013 * (k * k + 17 * k + 19) % 2147483353 = z
    obtain ⟨st', x, hk⟩ := key (cut ns none (some 3)) z
    refine ⟨st', ?_⟩
    have ec : cut (ns.map D.int) none (some 3) = (cut ns none (some 3)).map D.int := by
      unfold cut; simp
    simp [h, s1, s2, s3, ec, hz, hk]
/-! data without references -/
mutual
def D.pu : D → Bool
  | .tup xs => D.pus xs | .lst xs => D.pus xs | .dic _ _ vs => D.pus vs | .dil .. => false | .pr _ => false
  | .ob _ _ => false | .ref _ => false | .scr _ => false
  | _ => true
def D.pus : List D → Bool
  | [] => true | d :: r => d.pu && D.pus r
end
mutual
theorem pu_blw (k : Nat) : ∀ {d : D}, d.pu = true → d.blw k = true
  | .non, _ => by simp [D.blw]
  | .bl _, _ => by simp [D.blw]
  | .int _, _ => by simp [D.blw]
  | .str _, _ => by simp [D.blw]
  | .tup xs, h => by
    rw [D.blw]
    rw [D.pu] at h
    exact pus_blws k h
  | .lst xs, h => by
    rw [D.blw]
    rw [D.pu] at h
    exact pus_blws k h
  | .dil .., h => by simp [D.pu] at h
  | .pr _, h => by simp [D.pu] at h
  | .dic t ks xs, h => by
    rw [D.blw]
    rw [D.pu] at h
    exact pus_blws k h
  | .ob _ _, h => by simp [D.pu] at h
  | .ref _, h => by simp [D.pu] at h
  | .scr _, h => by simp [D.pu] at h
theorem pus_blws (k : Nat) : ∀ {ds : List D}, D.pus ds = true → D.blws k ds = true
  | [], _ => by rw [D.blws]
  | d :: r, h => by
    rw [D.pus] at h
    obtain ⟨h1, h2⟩ := Bool.and_eq_true_iff.mp h
    rw [D.blws, pu_blw k h1, pus_blws k h2]
    rfl
end
theorem pus_all {ds : List D} : D.pus ds = true ↔ ∀ d ∈ ds, d.pu = true := by
  induction ds with
  | nil => simp [D.pus]
  | cons d r ih => simp [D.pus, ih]
theorem pl_blw {o : Obj} (h : Pl o) (k : Nat) : o.blw k = true := by
  obtain ⟨a, b, c, rfl, _⟩ := h
  simp [Obj.blw, D.blws, D.blw]
/-- the store with one of its objects changed, and with more behind -/
theorem oldOk_set {S0 X : Store} {l : Nat} {o : Obj} (ho : o.blw S0.length = true) : OldOk S0 (S0.set l o ++ X) := by
  intro i ob hi e
  rw [List.getElem?_append_left (by simpa using hi)] at e
  by_cases h : l = i
  · subst h
    rw [List.getElem?_set_self hi] at e
    cases e
    exact .inr ho
  · rw [List.getElem?_set_ne h] at e
    exact .inl e
theorem oldOk_app {S0 X : Store} : OldOk S0 (S0 ++ X) := by
  intro i ob hi e
  rw [List.getElem?_append_left hi] at e
  exact .inl e
theorem fin_cut {S0 S : Store} {rv : RV} (hr : rv.noref = true) (hb : rv.toD.blw S0.length = true) (ho : OldOk S0 S) : fin S0 rv S = .ok rv (S.take S0.length) := by
  unfold fin
  split
  · rename_i h
    rw [List.take_of_length_le h.1]
  · cases rv with
    | val d =>
      cases d <;> first | (cases hr; done) | (simp only; rw [if_pos ⟨hb, ho⟩])
    | tl xs => simp only; rw [if_pos ⟨hb, ho⟩]
    | td t xs ys => simp only; rw [if_pos ⟨hb, ho⟩]
theorem fin_set_cut {S0 X : Store} {l : Nat} {o : Obj} {rv : RV} (hr : rv.noref = true) (hb : rv.toD.pu = true) (ho : o.blw S0.length = true) : fin S0 rv (S0.set l o ++ X) = .ok rv (S0.set l o) := by
  rw [fin_cut hr (pu_blw _ hb) (oldOk_set ho), List.take_left' (by simp)]
theorem fin_app_cut {S0 X : Store} {rv : RV} (hr : rv.noref = true) (hb : rv.toD.pu = true) : fin S0 rv (S0 ++ X) = .ok rv S0 := by
  rw [fin_cut hr (pu_blw _ hb) oldOk_app, List.take_left' rfl]
theorem pu_noref {d : D} (h : d.pu = true) : (RV.val d).noref = true := by
  cases d <;> first | rfl | simp [D.pu] at h
/-! trees -/
abbrev Tr : Type := List (Nat × Nat)
def prD (p : Nat × Nat) : D := .tup [.int p.1, .int p.2]
def trD (t : Tr) : D := .tup (t.map prD)
structure TrOk (t : Tr) : Prop where
  len : t.length ≤ 11
  at_ : ∀ (k : Nat) (p : Nat × Nat), t[k]? = some p → p.1 ≤ k ∧ 1 ≤ p.2 ∧ p.2 ≤ 1000000
theorem TrOk.nil : TrOk [] := ⟨by decide, fun k p h => by simp at h⟩
theorem TrOk.snoc {t : Tr} (h : TrOk t) {a b : Nat} (hl : t.length ≤ 10) (ha : a ≤ t.length) (h1 : 1 ≤ b) (h2 : b ≤ 1000000) : TrOk (t ++ [(a, b)]) := by
  refine ⟨by simp; omega, fun k p e => ?_⟩
  by_cases hk : k < t.length
  · rw [List.getElem?_append_left hk] at e
    exact h.at_ k p e
  · rw [List.getElem?_append_right (by omega)] at e
    cases q : k - t.length with
    | zero =>
      rw [q] at e
      have e' : (a, b) = p := by simpa using e
      subst e'
      exact ⟨by show a ≤ k; omega, h1, h2⟩
    | succ n => rw [q] at e; simp at e
@[simp] theorem prD_pu (p : Nat × Nat) : (prD p).pu = true := by simp [prD, D.pu, D.pus]
@[simp] theorem trD_pu (t : Tr) : (trD t).pu = true := by
  rw [trD, D.pu, pus_all]
  intro d hd
  obtain ⟨p, _, rfl⟩ := List.mem_map.mp hd
  exact prD_pu p
theorem tree_ok [C_Ltree_7 T] {m : Nat} (hm : 2 ≤ m) {l : Nat} {o : Obj} {S : Store} (hS : S[l]? = some o) (ho : Pl o) {u : Int} (hu : 1 ≤ u) (hu2 : u ≤ 12) :
    ∃ (t : Tr) (o' : Obj), TrOk t ∧ (t.length : Int) < u ∧ Pl o' ∧ sem T m 7 [.ref l, .int u] S = .ok (.val (trD t)) (S.set l o') := by
  obtain ⟨n, rfl, hn⟩ := succ_of hm
  have hl : l < S.length := (List.getElem?_eq_some_iff.mp hS).1
  rw [sem_eq C_Ltree_7.own_Ltree_7 n _ _ rfl]
  unfold b_Ltree_7
  obtain ⟨r1, o1, p1, a1, b1, e1⟩ := draw_ok (T := T) hn hS ho hu (by omega)
  obtain ⟨r2, o2, p2, a2, b2, e2⟩ := draw_ok (T := T) hn (S := S.set l o1) (List.getElem?_set_self hl) p1 (u := 3) (by decide) (by decide)
  obtain ⟨r3, o3, p3, a3, b3, e3⟩ := draw_ok (T := T) hn (S := S.set l o2) (List.getElem?_set_self hl) p2 (u := 3) (by decide) (by decide)
  rw [List.set_set] at e2 e3
  have hup : ∃ up : Int, 1 ≤ up ∧ up ≤ 1000000 ∧ L2.atI [D.int 1, .int 9, .int 1000000] r3 = some (.int up) := by
    have : r3 = 0 ∨ r3 = 1 ∨ r3 = 2 := by omega
    rcases this with rfl | rfl | rfl
    · exact ⟨1, by decide, by decide, by simp⟩
    · exact ⟨9, by decide, by decide, by simp⟩
    · exact ⟨1000000, by decide, by decide, by simp⟩
  obtain ⟨up, u1, u2, eu⟩ := hup
  simp [e1, e2, e3, eu, setAll, show (1 : Int) + r1 - 1 = r1 by omega, show r1 ≤ 16777216 by omega, show -16777216 ≤ r1 by omega]
  generalize hF : forL _ _ _ _ _ _ = F
  have key : ∃ (t : Tr) (x : Obj) (y : Option D), TrOk t ∧ t.length = r1.toNat ∧ Pl x ∧ F = .ok (.nx [some (.ref l), some (.int u), some (.int (1 + r1)), some (.int r2), some (.int up), some (.ref S.length), y]) (S.set l x ++ [.lst (t.map prD)]) := by
    rw [← hF]
    refine forL_ind (P := fun F => ∃ (t : Tr) (x : Obj) (y : Option D), TrOk t ∧ t.length = r1.toNat ∧ Pl x ∧ F = .ok (.nx [some (.ref l), some (.int u), some (.int (1 + r1)), some (.int r2), some (.int up), some (.ref S.length), y]) (S.set l x ++ [.lst (t.map prD)]))
      (fun ds r S' => ∃ (t : Tr) (x : Obj), ds = (List.range' t.length (r1.toNat - t.length)).map (fun (i : Nat) => D.int i) ∧ t.length ≤ r1.toNat ∧ TrOk t ∧ Pl x ∧ r = [some (.ref l), some (.int u), some (.int (1 + r1)), some (.int r2), some (.int up), some (.ref S.length), none] ∧ S' = S.set l x ++ [.lst (t.map prD)]) ?_ ?_ _ _ _ ?_
    · rintro r S' ⟨t, x, h1, h2, h3, h4, rfl, rfl⟩
      have : r1.toNat - t.length = 0 := by
        have := congrArg List.length h1
        simpa using this.symm
      exact ⟨t, x, none, h3, by omega, h4, rfl⟩
    · rintro d ds r S' ⟨t, x, h1, h2, h3, h4, rfl, rfl⟩
      left
      obtain ⟨k, hk⟩ : ∃ k, r1.toNat - t.length = k + 1 := by
        cases e : r1.toNat - t.length with
        | zero => rw [e] at h1; simp at h1
        | succ k => exact ⟨k, rfl⟩
      rw [hk, List.range'_succ, List.map_cons] at h1
      obtain ⟨rfl, rfl⟩ := List.cons.inj h1
      have hl2 : l < (S.set l x ++ [Obj.lst (t.map prD)]).length := by simp; omega
      have g1 : (S.set l x ++ [Obj.lst (t.map prD)])[l]? = some x := by
        rw [List.getElem?_append_left (by simpa using hl), List.getElem?_set_self hl]
      have se : ∀ y z : Obj, (S.set l y ++ [Obj.lst (t.map prD)]).set l z = S.set l z ++ [Obj.lst (t.map prD)] := fun y z => by
        rw [List.set_append_left _ _ (by simpa using hl), List.set_set]
      obtain ⟨q1, x1, y1, z1, w1, v1⟩ := draw_ok (T := T) hn g1 h4 (u := (t.length : Int) + 1) (by omega) (by omega)
      rw [se] at v1
      have g2 : (S.set l x1 ++ [Obj.lst (t.map prD)])[l]? = some x1 := by
        rw [List.getElem?_append_left (by simpa using hl), List.getElem?_set_self hl]
      obtain ⟨q2, x2, y2, z2, w2, v2⟩ := draw_ok (T := T) hn g2 y1 (u := up) u1 (by omega)
      rw [se] at v2
      have g3 : ∀ z : Obj, (S.set l z ++ [Obj.lst (t.map prD)])[S.length]? = some (Obj.lst (t.map prD)) := fun z => by
        rw [List.getElem?_append_right (by simp)]
        simp
      have he : ∃ a : Nat, a ≤ t.length ∧ L2.atI [D.int 0, .int t.length, .int q1] r2 = some (.int a) := by
        have : r2 = 0 ∨ r2 = 1 ∨ r2 = 2 := by omega
        rcases this with rfl | rfl | rfl
        · exact ⟨0, by omega, by simp⟩
        · exact ⟨t.length, by omega, by simp⟩
        · exact ⟨q1.toNat, by omega, by simp; omega⟩
      obtain ⟨a, ha, ea⟩ := he
      refine ⟨[some (.ref l), some (.int u), some (.int (1 + r1)), some (.int r2), some (.int up), some (.ref S.length), some (.int t.length)], S.set l x2 ++ [.lst ((t ++ [(a, 1 + q2.toNat)]).map prD)], .inl ?_, t ++ [(a, 1 + q2.toNat)], x2, ?_, ?_, h3.snoc (by omega) ha (by omega) (by omega), y2, ?_, ?_⟩
      · simp only [forF, ya_nm, Out.noex_ok, Out.bind_ok, List.set_cons_succ, List.set_cons_zero]
        simp [seqM_ref (g3 x), v1, v2, ea]
        rw [yapp_ref (g3 x2) (by simp; omega)]
        have : (1 : Int) + q2 = ((1 + q2.toNat : Nat) : Int) := by omega
        simp [prD, List.set_append_right, this]
      · have : r1.toNat - (t ++ [(a, 1 + q2.toNat)]).length = k := by simp; omega
        rw [this]; simp
      · simp; omega
      · simp [wipeE]
      · rw [gcS_same (by simp)]
    · exact ⟨[], o3, by rw [List.range_eq_range']; simp, by simp, .nil, p3, rfl, rfl⟩
  obtain ⟨t, x, y, h1, h2, h3, rfl⟩ := key
  refine ⟨t, h1, by omega, x, h3, ?_⟩
  have g3 : (S.set l x ++ [Obj.lst (t.map prD)])[S.length]? = some (Obj.lst (t.map prD)) := by
    rw [List.getElem?_append_right (by simp)]
    simp
  simp [ytuple_ref g3]
  exact fin_set_cut rfl (trD_pu t) (pl_blw h3 _)
end Fc

end
section
set_option autoImplicit false
set_option maxHeartbeats 4000000
/-! trees: what is a station -/
namespace Fc
open PySem
/-- no reference, no object: a value of a known kind -/
def D.kn : D → Bool
  | .ob _ _ => false | .ref _ => false | .scr _ => false | .dil .. => false | .pr _ => false | _ => true
def D.k0 : D → Kd
  | .non => .non | .bl _ => .bool | .int _ => .int | .str _ => .str | .tup _ => .tup | .lst _ => .lst | .dic .. => .dic | _ => .non
theorem kd_kn {d : D} {S : Store} (h : d.kn = true) : d.kd S = some d.k0 := by
  cases d <;> first | rfl | cases h
theorem isi_kn {T : Kd} {d : D} {S : Store} (h : d.kn = true) (hT : T ≠ .non) : evIsi T d S = .ok (.val (.bl (d.k0.isa T))) S := by
  unfold evIsi
  rw [if_neg hT, kd_kn h]
/-- an int, not a bool, from lo to hi -/
def isW (lo hi : Int) : D → Bool
  | .int i => decide (lo ≤ i) && decide (i ≤ hi)
  | _ => false
variable {T : List (Nat × Fd)}
theorem is_within_ok [C_is_within_0 T] {m : Nat} (hm : 1 ≤ m) (v : D) (lo hi : Int) (S : Store) (hv : v.kn = true) :
    sem T m 0 [v, .int lo, .int hi] S = .ok (.val (.bl (isW lo hi v))) S := by
  obtain ⟨n, rfl, hn⟩ := succ_of hm
  rw [sem_eq C_is_within_0.own_is_within_0 n _ _ rfl]
  unfold b_is_within_0
  cases v <;> first | (exact absurd hv Bool.false_ne_true) | simp [evIsi, D.kd, Kd.isa, evCmp, evLeT, evLe, isW]
  case int i =>
    by_cases h : lo ≤ i <;> simp [h]
theorem pu_kn {d : D} (h : d.pu = true) : d.kn = true := by
  cases d <;> first | rfl | simp [D.pu] at h
/-- a corridor at the place k -/
def isC (k : Int) : D → Bool
  | .tup [a, b] => isW 0 k a && isW 1 1000000 b
  | _ => false
theorem is_corridor_ok [C_is_corridor_1 T] {m : Nat} (hm : 2 ≤ m) (v : D) (k : Int) (S : Store) (hv : v.pu = true) :
    sem T m 1 [v, .int k] S = .ok (.val (.bl (isC k v))) S := by
  obtain ⟨n, rfl, hn⟩ := succ_of hm
  rw [sem_eq C_is_corridor_1.own_is_corridor_1 n _ _ rfl]
  unfold b_is_corridor_1
  cases v
  case tup xs =>
    rcases xs with _ | ⟨a, _ | ⟨b, _ | ⟨c, xs⟩⟩⟩
    · simp [evIsi, D.kd, Kd.isa, isC]
    · simp [evIsi, D.kd, Kd.isa, isC]
    · simp [D.pu, D.pus] at hv
      simp [evIsi, D.kd, Kd.isa, isC, is_within_ok hn _ _ _ _ (pu_kn hv.1), is_within_ok hn _ _ _ _ (pu_kn hv.2)]
      cases isW 0 k a <;> simp
    · have : ¬ ((xs.length : Int) + 1 + 1 + 1 = 2) := by omega
      simp [evIsi, D.kd, Kd.isa, isC, this]
  all_goals first | (simp [D.pu] at hv; done) | simp [evIsi, D.kd, Kd.isa, isC]
def isT : D → Bool
  | .tup xs => decide (xs.length < 12) && (badAt isC 0 xs).isNone
  | _ => false
/-- what check_corridors gives -/
def ckT (v : D) (S : Store) : Out RV := match v with
  | .tup xs => if xs.length < 12 then (match badAt isC 0 xs with
    | none => .ok (.val .non) S
    | some j => .ex 3 [.int j] [] S) else .ex 3 [.non] [] S
  | _ => .ex 3 [.non] [] S
theorem nat_log {j : Nat} (h : j ≤ 1000) : j.log2 < 1920 := by
  have : j.log2 ≤ j := Nat.log2_le_self j
  omega
theorem check_corridors_ok [C_check_corridors_2 T] {m : Nat} (hm : 3 ≤ m) (v : D) (S : Store) (hv : v.pu = true) : sem T m 2 [v] S = ckT v S := by
  obtain ⟨n, rfl, hn⟩ := succ_of hm
  rw [sem_eq C_check_corridors_2.own_check_corridors_2 n _ _ rfl]
  unfold b_check_corridors_2
  cases v
  case tup xs =>
    by_cases hl : xs.length < 12
    · have hl' : ¬ (12 : Int) ≤ (xs.length : Int) := by omega
      simp [evIsi, D.kd, Kd.isa, hl', ckT, hl]
      rw [D.pu] at hv
      have hp := pus_all.mp hv
      generalize hF : forF (sem T n) _ _ = F
      have step : ∀ (i : Nat) (x : D), xs[i]? = some x → F (.pr [.int (i : Int), x]) [some (.tup xs), none, none] S = if isC (i : Int) x then .ok (.nx [some (.tup xs), some (.int (i : Int)), some x]) S else .ex 3 [.int (i : Int)] [some (.tup xs), some (.int (i : Int)), some x] S := by
        intro i x hx
        have hi : i < xs.length := (List.getElem?_eq_some_iff.mp hx).1
        have e := is_corridor_ok (T := T) hn x (i : Int) S (hp x (List.mem_of_getElem? hx))
        have hlg := nat_log (j := i) (by omega)
        rw [← hF]
        by_cases h : isC (i : Nat) x = true
        · simp [forF, e, h]
        · simp [forF, e, h, chk, D.fmt, hlg]
      rcases forL_enum (S0 := S) (kill := [1, 2]) isC (fun i x => .ex 3 [.int i] [some (.tup xs), some (.int i), some x] S) (fun i x => [some (.tup xs), some (.int i), some x]) (Nat.le_refl _) xs (fun i x hx => ⟨step i x hx, by simp [wipeE], rfl⟩) with ⟨i, x, h1, h2, h3, h4⟩ | ⟨h1, h2⟩
      · rw [h4, h1]; simp
      · rw [h2, h1]; simp
    · have hl' : (12 : Int) ≤ (xs.length : Int) := by omega
      simp [evIsi, D.kd, Kd.isa, hl', ckT, hl, chk, D.fmt]
  all_goals first | (simp [D.pu] at hv; done) | simp [evIsi, D.kd, Kd.isa, ckT, chk, D.fmt]
theorem is_tree_ok [C_is_tree_3 T] {m : Nat} (hm : 4 ≤ m) (v : D) (S : Store) (hv : v.pu = true) : sem T m 3 [v] S = .ok (.val (.bl (isT v))) S := by
  obtain ⟨n, rfl, hn⟩ := succ_of hm
  rw [sem_eq C_is_tree_3.own_is_tree_3 n _ _ rfl]
  unfold b_is_tree_3
  simp [check_corridors_ok (T := T) hn v S hv]
  unfold ckT isT
  cases v
  case tup xs =>
    dsimp only
    by_cases h : xs.length < 12
    · rw [if_pos h]
      cases e : badAt isC 0 xs <;> simp [h]
    · rw [if_neg h]
      simp [h]
  all_goals simp
end Fc

end
section
set_option autoImplicit false
set_option maxHeartbeats 4000000
/-! how long a repr is -/
namespace Fc
open PySem
structure Rp (k w : Nat) (d : D) : Prop where
  ok : d.rok = true
  sh : d.rp.showable = true
  dp : d.rp.depth ≤ k
  ln : d.rp.shown.length ≤ w
theorem Rp.mono {k w k' w' : Nat} {d : D} (h : Rp k w d) (h1 : k ≤ k') (h2 : w ≤ w') : Rp k' w' d := ⟨h.ok, h.sh, Nat.le_trans h.dp h1, Nat.le_trans h.ln h2⟩
theorem Rp.rpr {k w : Nat} {d : D} (h : Rp k w d) (h1 : k ≤ 60) (h2 : w ≤ 16777216) : rprOk d = true := by
  unfold rprOk
  rw [h.ok, h.sh, decide_eq_true (Nat.le_trans h.dp h1), decide_eq_true (Nat.le_trans h.ln h2)]
  rfl
theorem Rp.int {i : Int} (h : i.natAbs < 10 ^ 40) : Rp 0 41 (.int i) := by
  refine ⟨by simp [D.rok], ?_, by simp [D.rp, PyData.depth], ?_⟩
  · simp only [D.rp, PyData.showable, decide_eq_true_eq]
    by_cases h0 : i.natAbs = 0
    · rw [h0]; decide
    · rw [Nat.log2_lt h0]
      exact Nat.lt_trans h (by decide)
  · simp only [D.rp, PyData.shown]
    rw [PySem.ofString_length]
    exact int_text_length_le10 (by decide) h
theorem Rp.nat {i : Nat} (h : i < 10 ^ 40) : Rp 0 41 (.int i) := Rp.int (by simpa using h)
theorem Rp.non : Rp 0 4 .non := ⟨by simp [D.rok], by simp [D.rp, PyData.showable], by simp [D.rp, PyData.depth], by simp only [D.rp, PyData.shown]; decide⟩
theorem Rp.bl (b : Bool) : Rp 0 5 (.bl b) := ⟨by simp [D.rok], by simp [D.rp, PyData.showable], by simp [D.rp, PyData.depth], by simp only [D.rp, PyData.shown]; cases b <;> decide⟩
theorem rps_map (ds : List D) : D.rps ds = ds.map D.rp := by
  induction ds with
  | nil => rfl
  | cons d r ih => simp [D.rps, ih]
theorem roks_all {ds : List D} : D.roks ds = true ↔ ∀ d ∈ ds, d.rok = true := by
  induction ds with
  | nil => simp [D.roks]
  | cons d r ih => simp [D.roks, ih]
theorem showableAll_iff {xs : List PyData} : PyData.showableAll xs = true ↔ ∀ d ∈ xs, d.showable = true := by
  induction xs with
  | nil => simp [PyData.showableAll]
  | cons d r ih => simp [PyData.showableAll, ih]
theorem depthAll_le {xs : List PyData} {k : Nat} (h : ∀ d ∈ xs, d.depth ≤ k) : PyData.depthAll xs ≤ k := by
  induction xs with
  | nil => simp [PyData.depthAll]
  | cons d r ih =>
    simp only [PyData.depthAll]
    have h1 := h d (by simp)
    have h2 := ih fun x hx => h x (by simp [hx])
    omega
theorem shownAll_map (xs : List PyData) : PyData.shownAll xs = xs.map PyData.shown := by
  induction xs with
  | nil => rfl
  | cons d r ih => simp [PyData.shownAll, ih]
theorem piled_le {ts : List Str} {w : Nat} (h : ∀ t ∈ ts, t.length ≤ w) : piled ts ≤ ts.length * (w + 2) := by
  induction ts with
  | nil => simp [piled]
  | cons t r ih =>
    have h1 := h t (by simp)
    have h2 := ih fun x hx => h x (by simp [hx])
    rw [piled_cons, List.length_cons, Nat.add_mul]
    omega
theorem textFrom0 (ts : List Str) : (textFrom 0 "[" ts).length ≤ 1 + piled ts := by
  cases ts with
  | nil => show (("[" : String) : Str).length ≤ _; decide
  | cons t r =>
    show (textFrom 1 (("[" : Str) ++ ("" : String) ++ t) r).length ≤ _
    rw [textFrom_length_pos r 1 _ (by decide), strLen_append, strLen_append, piled_cons]
    have : (("[" : String) : Str).length = 1 := by decide
    have : (("" : String) : Str).length = 0 := by decide
    omega
theorem join_le (ts : List Str) : (Str.join ", " ts).length ≤ piled ts := by
  by_cases h : ts = []
  · subst h; simp [Str.join, piled]; rfl
  · have := join_length_add ts h
    omega
theorem shown_tuple_le (xs : List PyData) : (PyData.tuple xs).shown.length ≤ piled (xs.map PyData.shown) + 3 := by
  simp only [PyData.shown]
  unfold tupleText
  rw [strLen_append, strLen_append, shownAll_map]
  have := join_le (xs.map PyData.shown)
  have h1 : (("(" : String) : Str).length = 1 := by decide
  have h2 : (((if (xs.map PyData.shown).length == 1 then ",)" else ")" : String)) : Str).length ≤ 2 := by split <;> decide
  omega
theorem shown_list_le (xs : List PyData) : (PyData.list xs).shown.length ≤ piled (xs.map PyData.shown) + 2 := by
  simp only [PyData.shown]
  unfold listText
  rw [strLen_append, shownAll_map]
  have := textFrom0 (xs.map PyData.shown)
  have h1 : (("]" : String) : Str).length = 1 := by decide
  omega
theorem Rp.tup {k w : Nat} {ds : List D} (h : ∀ d ∈ ds, Rp k w d) : Rp (k + 1) (ds.length * (w + 2) + 3) (.tup ds) := by
  refine ⟨?_, ?_, ?_, ?_⟩
  · rw [D.rok]; exact roks_all.mpr fun d hd => (h d hd).ok
  · rw [D.rp, PyData.showable, rps_map, showableAll_iff]
    intro x hx
    obtain ⟨d, hd, rfl⟩ := List.mem_map.mp hx
    exact (h d hd).sh
  · rw [D.rp, PyData.depth, rps_map]
    have := depthAll_le (xs := ds.map D.rp) (k := k) fun x hx => by
      obtain ⟨d, hd, rfl⟩ := List.mem_map.mp hx
      exact (h d hd).dp
    omega
  · rw [D.rp, rps_map]
    refine Nat.le_trans (shown_tuple_le _) ?_
    have := piled_le (ts := (ds.map D.rp).map PyData.shown) (w := w) fun t ht => by
      obtain ⟨x, hx, rfl⟩ := List.mem_map.mp ht
      obtain ⟨d, hd, rfl⟩ := List.mem_map.mp hx
      exact (h d hd).ln
    simp at this ⊢
    omega
theorem Rp.lst {k w : Nat} {ds : List D} (h : ∀ d ∈ ds, Rp k w d) : Rp (k + 1) (ds.length * (w + 2) + 3) (.lst ds) := by
  refine ⟨?_, ?_, ?_, ?_⟩
  · rw [D.rok]; exact roks_all.mpr fun d hd => (h d hd).ok
  · rw [D.rp, PyData.showable, rps_map, showableAll_iff]
    intro x hx
    obtain ⟨d, hd, rfl⟩ := List.mem_map.mp hx
    exact (h d hd).sh
  · rw [D.rp, PyData.depth, rps_map]
    have := depthAll_le (xs := ds.map D.rp) (k := k) fun x hx => by
      obtain ⟨d, hd, rfl⟩ := List.mem_map.mp hx
      exact (h d hd).dp
    omega
  · rw [D.rp, rps_map]
    refine Nat.le_trans (shown_list_le _) ?_
    have := piled_le (ts := (ds.map D.rp).map PyData.shown) (w := w) fun t ht => by
      obtain ⟨x, hx, rfl⟩ := List.mem_map.mp ht
      obtain ⟨d, hd, rfl⟩ := List.mem_map.mp hx
      exact (h d hd).ln
    simp at this ⊢
    omega
theorem Rp.dic0 (t : Bool) : Rp 1 3 (.dic t [] []) := ⟨by simp [D.rok, kOk, D.roks], by simp [D.rp, D.rps, PyData.showable, PyData.showableKv], by simp [D.rp, D.rps, PyData.depth, PyData.depthKv], by simp only [D.rp, D.rps, List.zip_nil_left, PyData.shown, PyData.shownKv]; decide⟩
theorem reprChar_le {q c : Nat} (h : c < 256) : (Builtin.Str.reprChar q c).length ≤ 6 := by
  unfold Builtin.Str.reprChar
  dsimp only
  have hd : (Nat.toDigits 16 c).length ≤ 4 := by
    revert h c
    decide
  split
  · simp
  split
  · simp
  split
  · simp
  split
  · simp
  split
  · simp
  · simp; omega
theorem foldl_len {q : Nat} : ∀ (l : List Nat) (acc : Array Nat), (∀ c ∈ l, c < 256) → (l.foldl (fun out c => out ++ (Builtin.Str.reprChar q c).toArray) acc).size ≤ acc.size + 6 * l.length
  | [], acc, _ => by simp
  | c :: r, acc, h => by
    rw [List.foldl_cons]
    have h1 := foldl_len (q := q) r (acc ++ (Builtin.Str.reprChar q c).toArray) fun d hd => h d (by simp [hd])
    have h2 := reprChar_le (q := q) (h c (by simp))
    simp at h1 ⊢
    omega
theorem Rp.str {x : Str} (h : ∀ c ∈ x.cps.toList, c < 256) : Rp 0 (6 * x.length + 2) (.str x) := by
  refine ⟨by simp [D.rok], by simp [D.rp, PyData.showable], by simp [D.rp, PyData.depth], ?_⟩
  simp only [D.rp, PyData.shown]
  unfold reprText
  show (Array.push _ _).size ≤ _
  rw [Array.size_push, ← Array.foldl_toList]
  have := foldl_len (q := reprQuote x) x.cps.toList #[reprQuote x] h
  have e : x.cps.toList.length = x.length := by simp [Str.length]
  have e2 : (#[reprQuote x] : Array Nat).size = 1 := rfl
  rw [e, e2] at this
  omega
/-! by weights -/
mutual
def D.wt : D → Nat
  | .int _ => 41 | .str x => 6 * x.length + 2
  | .tup xs => D.wts xs + 3 | .lst xs => D.wts xs + 3
  | _ => 5
def D.wts : List D → Nat
  | [] => 0 | d :: r => d.wt + 2 + D.wts r
end
mutual
def D.dep : D → Nat
  | .tup xs => D.deps xs + 1 | .lst xs => D.deps xs + 1 | .dic .. => 1
  | _ => 0
def D.deps : List D → Nat
  | [] => 0 | d :: r => max d.dep (D.deps r)
end
/-- a text of low signs -/
def asc (x : Str) : Bool := x.cps.toList.all fun c => decide (c < 256)
mutual
/-- small ints, plain texts, no dict but the empty one -/
def D.tame : D → Bool
  | .int i => decide (i.natAbs < 10000000000000000000000000000000000000000) | .str x => asc x
  | .tup xs => D.tames xs | .lst xs => D.tames xs
  | .non => true | .bl _ => true
  | .dil .. => false
  | .pr _ => false
  | .dic _ ks vs => ks.isEmpty && vs.isEmpty
  | .ob _ _ => false | .ref _ => false | .scr _ => false
def D.tames : List D → Bool
  | [] => true | d :: r => d.tame && D.tames r
end
theorem wts_sum (ds : List D) : D.wts ds = (ds.map fun d => d.wt + 2).sum := by
  induction ds with
  | nil => simp [D.wts]
  | cons d r ih => simp [D.wts, ih]
theorem tames_all {ds : List D} : D.tames ds = true ↔ ∀ d ∈ ds, d.tame = true := by
  induction ds with
  | nil => simp [D.tames]
  | cons d r ih => simp [D.tames, ih]
mutual
theorem tame_rp : ∀ {d : D}, d.tame = true → Rp d.dep d.wt d
  | .non, _ => by rw [D.dep, D.wt]; exact Rp.non.mono (by decide) (by decide); all_goals nofun
  | .bl b, _ => by rw [D.dep, D.wt]; exact Rp.bl b; all_goals nofun
  | .int i, h => by
    rw [D.tame] at h
    rw [D.dep, D.wt]
    exact Rp.int (of_decide_eq_true h)
    all_goals nofun
  | .str x, h => by
    rw [D.tame] at h
    rw [D.dep, D.wt]
    exact Rp.str fun c hc => of_decide_eq_true (List.all_eq_true.mp h c hc)
    all_goals nofun
  | .dil .., h => by simp [D.tame] at h
  | .pr _, h => by simp [D.tame] at h
  | .dic t ks vs, h => by
    simp [D.tame] at h
    obtain ⟨rfl, rfl⟩ := h
    rw [D.dep, D.wt]
    exact (Rp.dic0 t).mono (by decide) (by decide)
    all_goals nofun
  | .tup xs, h => by
    rw [D.tame] at h
    obtain ⟨h1, h2, h3, h4⟩ := tames_rp h
    rw [D.dep, D.wt]
    refine ⟨by rw [D.rok]; exact h1, by rw [D.rp, PyData.showable]; exact h2, by rw [D.rp, PyData.depth]; omega, ?_⟩
    rw [D.rp, rps_map]
    have := shown_tuple_le (xs.map D.rp)
    rw [rps_map] at h4
    omega
  | .lst xs, h => by
    rw [D.tame] at h
    obtain ⟨h1, h2, h3, h4⟩ := tames_rp h
    rw [D.dep, D.wt]
    refine ⟨by rw [D.rok]; exact h1, by rw [D.rp, PyData.showable]; exact h2, by rw [D.rp, PyData.depth]; omega, ?_⟩
    rw [D.rp, rps_map]
    have := shown_list_le (xs.map D.rp)
    rw [rps_map] at h4
    omega
  | .ob _ _, h => by simp [D.tame] at h
  | .ref _, h => by simp [D.tame] at h
  | .scr _, h => by simp [D.tame] at h
theorem tames_rp : ∀ {ds : List D}, D.tames ds = true → D.roks ds = true ∧ PyData.showableAll (D.rps ds) = true ∧ PyData.depthAll (D.rps ds) ≤ D.deps ds ∧ piled ((D.rps ds).map PyData.shown) ≤ D.wts ds
  | [], _ => by simp [D.roks, D.rps, PyData.showableAll, PyData.depthAll, piled]
  | d :: r, h => by
    rw [D.tames] at h
    obtain ⟨h1, h2⟩ := Bool.and_eq_true_iff.mp h
    have a := tame_rp h1
    obtain ⟨b1, b2, b3, b4⟩ := tames_rp h2
    rw [D.roks, D.rps, PyData.showableAll, PyData.depthAll, D.deps, D.wts, List.map_cons, piled_cons, a.ok, a.sh, b1, b2]
    have := a.dp
    have := a.ln
    exact ⟨rfl, rfl, by omega, by omega⟩
end
theorem tame_rpr {d : D} (h : d.tame = true) (h1 : d.dep ≤ 60) (h2 : d.wt ≤ 16777216) : rprOk d = true := (tame_rp h).rpr h1 h2
end Fc

end
section
set_option autoImplicit false
set_option maxHeartbeats 4000000
namespace Fc
open PySem
variable {T : List (Nat × Fd)}
def isI : D → Bool
  | .int _ => true
  | _ => false
theorem isI_ev {n : Nat} {d : D} {S : Store} (r : Env) (h : d.kn = true) (hr : r[3]? = some (some d)) : evE (sem T n) (.andL (.cons (.isi .int (.var 3)) (.cons (.not_ (.isi .bool (.var 3))) .nil))) r S = .ok (.val (.bl (isI d))) S := by
  cases d <;> first | (exact absurd h Bool.false_ne_true) | simp [hr, evIsi, D.kd, Kd.isa, isI]
theorem Lis_tree_ok [C_Lis_tree_8 T] {m : Nat} (hm : 1 ≤ m) (v : D) (S : Store) (hv : v.pu = true) : sem T m 8 [v] S = .ok (.val (.bl (isT v))) S := by
  obtain ⟨n, rfl, hn⟩ := succ_of hm
  rw [sem_eq C_Lis_tree_8.own_Lis_tree_8 n _ _ rfl]
  unfold b_Lis_tree_8
  cases v
  case tup xs =>
    by_cases hl : xs.length < 12
    · have hl' : ¬ (11 : Int) < (xs.length : Int) := by omega
      simp [evIsi, D.kd, Kd.isa, hl', isT, hl]
      rw [D.pu] at hv
      have hp := pus_all.mp hv
      generalize hF : forF (sem T n) _ _ = F
      have step : ∀ (i : Nat) (x : D), xs[i]? = some x → F (.pr [.int (i : Int), x]) [some (.tup xs), none, none, none] S = if isC (i : Int) x then .ok (.nx [some (.tup xs), some (.int (i : Int)), some x, none]) S else .ok (.rt (.val (.bl false))) S := by
        intro i x hx
        have px := hp x (List.mem_of_getElem? hx)
        rw [← hF]
        generalize (i : Int) = k
        unfold forF
        cases x
        case tup ys =>
          rcases ys with _ | ⟨a, _ | ⟨b, _ | ⟨c, ys⟩⟩⟩
          · simp [evIsi, D.kd, Kd.isa, isC]
          · simp [evIsi, D.kd, Kd.isa, isC]
          · simp [D.pu, D.pus] at px
            have ka := pu_kn px.1
            have kb := pu_kn px.2
            have ea := fun r hr => isI_ev (T := T) (n := n) (d := a) (S := S) r ka hr
            have eb := fun r hr => isI_ev (T := T) (n := n) (d := b) (S := S) r kb hr
            have e0 : compL (compF (sem T n) (.andL (.cons (.isi .int (.var 3)) (.cons (.not_ (.isi .bool (.var 3))) .nil))) (.nm 3) .none [some (.tup xs), some (.int k), some (.tup [a, b]), none]) [a, b] S = .ok ([isI a, isI b].map D.bl) S := by
              rw [compL_map (p := fun d => some (.bl (isI d)))]
              · rfl
              · intro d hd
                unfold compF
                simp only [ya_nm, Out.bind_ok, yt_none, List.set_cons_succ, List.set_cons_zero]
                simp at hd
                rcases hd with rfl | rfl
                · rw [ea _ (by simp)]; rfl
                · rw [eb _ (by simp)]; rfl
            simp [evIsi, D.kd, Kd.isa, wipeE, e0]
            rw [show (D.lst [D.bl (isI a), D.bl (isI b)]) = .lst ([isI a, isI b].map D.bl) from rfl, yall]
            cases a
            case int a =>
              cases b
              case int b =>
                simp [isI, isC, isW]
                by_cases h1 : 0 ≤ a <;> by_cases h2 : a ≤ k <;> by_cases h3 : 1 ≤ b <;> by_cases h4 : b ≤ 1000000 <;> simp [h1, h2, h3, h4]
              all_goals simp [isI, isC, isW]
            all_goals simp [isI, isC, isW]
          · have : ¬ ((ys.length : Int) + 1 + 1 + 1 = 2) := by omega
            simp [evIsi, D.kd, Kd.isa, isC, this]
        all_goals first | (simp [D.pu] at px; done) | simp [evIsi, D.kd, Kd.isa, isC]
      rcases forL_enum (S0 := S) (kill := [1, 2, 3]) isC (fun i x => .ok (.rt (.val (.bl false))) S) (fun i x => [some (.tup xs), some (.int i), some x, none]) (Nat.le_refl _) xs (fun i x hx => ⟨step i x hx, by simp [wipeE], rfl⟩) with ⟨i, x, h1, h2, h3, h4⟩ | ⟨h1, h2⟩
      · rw [h4, h1]; simp
      · rw [h2, h1]; simp
    · have hl' : (11 : Int) < (xs.length : Int) := by omega
      simp [evIsi, D.kd, Kd.isa, hl', isT, hl]
  all_goals first | (simp [D.pu] at hv; done) | simp [evIsi, D.kd, Kd.isa, isT]
theorem look_pu {d : D} (S : Store) (h : d.kn = true) : d.look S = d := by
  cases d <;> first | rfl | exact absurd h Bool.false_ne_true
theorem rpr_bl2 (b : Bool) : rprOk (.lst [.bl b, .bl b]) = true := (Rp.lst (k := 0) (w := 5) (ds := [.bl b, .bl b]) (by simp; exact Rp.bl b)).rpr (by decide) (by show 2 * 7 + 3 ≤ 16777216; decide)
theorem Ltold_ok [C_Ltold_9 T] {m : Nat} (hm : 5 ≤ m) (v : D) (S : Store) (hv : v.pu = true) (hr : rprOk v = true) : sem T m 9 [v] S = .ok (.val (.bl true)) S := by
  obtain ⟨n, rfl, hn⟩ := succ_of hm
  rw [sem_eq C_Ltold_9.own_Ltold_9 n _ _ rfl]
  unfold b_Ltold_9
  have e1 := Lis_tree_ok (T := T) (m := n) (by omega) v S hv
  have e2 := is_tree_ok (T := T) (m := n) (by omega) v S hv
  simp [e1, e2, look_pu S (pu_kn hv), hr, setAll, rpr_bl2]
/-- what is drawn is small -/
def Sml (d : D) : Prop := d.pu = true ∧ d.tame = true ∧ d.wt ≤ 400 ∧ d.dep ≤ 4
def smlB (d : D) : Bool := d.pu && d.tame && decide (d.wt ≤ 400) && decide (d.dep ≤ 4)
theorem smlB_ok {d : D} (h : smlB d = true) : Sml d := by
  simpa [smlB, Sml, and_assoc] using h
theorem Lodd_pair_ok [C_Lodd_pair_10 T] {m : Nat} (hm : 2 ≤ m) {l : Nat} {o : Obj} {S : Store} (hS : S[l]? = some o) (ho : Pl o) {k : Int} (h0 : 0 ≤ k) (h1 : k ≤ 100) :
    ∃ (d : D) (o' : Obj), Sml d ∧ Pl o' ∧ sem T m 10 [.ref l, .int k] S = .ok (.val d) (S.set l o') := by
  obtain ⟨n, rfl, hn⟩ := succ_of hm
  rw [sem_eq C_Lodd_pair_10.own_Lodd_pair_10 n _ _ rfl]
  unfold b_Lodd_pair_10
  obtain ⟨r1, o1, p1, a1, b1, e1⟩ := draw_ok (T := T) hn hS ho (u := 29) (by decide) (by decide)
  have hk : k.natAbs < 10000000000000000000000000000000000000000 := by omega
  have hk1 : (k + 1).natAbs < 10000000000000000000000000000000000000000 := by omega
  simp [e1]
  generalize hL : [D.non, _, _, _, _, _, _, _, _, _, _, _, _, _, _, _, _, _, _, _, _, _, _, _, _, _, _, _, _] = L
  have hlen : L.length = 29 := by rw [← hL]; rfl
  have hall : ∀ d ∈ L, Sml d := by
    rw [← hL]
    simp (decide := true) [Sml, D.pu, D.pus, D.tame, D.tames, D.wt, D.wts, D.dep, D.deps, hk, hk1]
  have hr : r1.toNat < L.length := by omega
  have ea : L2.atI L r1 = some L[r1.toNat] := by rw [atI_ix _ a1]; simp
  have hm := hall _ (List.getElem_mem hr)
  refine ⟨_, hm, o1, p1, ?_⟩
  rw [ea]
  simp
  exact fin_same (by simp) (pu_noref hm.1)
/-- small elements in a tuple -/
theorem sml_tup {xs : List D} (h : ∀ d ∈ xs, Sml d) (hl : xs.length ≤ 1000) : (D.tup xs).pu = true ∧ rprOk (.tup xs) = true := by
  refine ⟨by rw [D.pu]; exact pus_all.mpr fun d hd => (h d hd).1, ?_⟩
  refine (Rp.tup (k := 4) (w := 400) fun d hd => (tame_rp (h d hd).2.1).mono (h d hd).2.2.2 (h d hd).2.2.1).rpr (by decide) ?_
  have : xs.length * (400 + 2) ≤ 1000 * 402 := Nat.mul_le_mul hl (by decide)
  omega
theorem sml_lst {xs : List D} (h : ∀ d ∈ xs, Sml d) (hl : xs.length ≤ 1000) : (D.lst xs).pu = true ∧ rprOk (.lst xs) = true := by
  refine ⟨by rw [D.pu]; exact pus_all.mpr fun d hd => (h d hd).1, ?_⟩
  refine (Rp.lst (k := 4) (w := 400) fun d hd => (tame_rp (h d hd).2.1).mono (h d hd).2.2.2 (h d hd).2.2.1).rpr (by decide) ?_
  have : xs.length * (400 + 2) ≤ 1000 * 402 := Nat.mul_le_mul hl (by decide)
  omega
theorem sml_prD {t : Tr} (h : TrOk t) {p : Nat × Nat} (hp : p ∈ t) : Sml (prD p) := by
  obtain ⟨k, hk⟩ := List.getElem?_of_mem hp
  have := h.at_ k p hk
  have hl := (List.getElem?_eq_some_iff.mp hk).1
  have := h.len
  have h1 : (p.1 : Int).natAbs < 10000000000000000000000000000000000000000 := by omega
  have h2 : (p.2 : Int).natAbs < 10000000000000000000000000000000000000000 := by omega
  simp [Sml, prD, D.pu, D.pus, D.tame, D.tames, D.wt, D.wts, D.dep, D.deps, h1, h2]
  omega
theorem sml_tree {t : Tr} (h : TrOk t) : ∀ d ∈ t.map prD, Sml d := fun d hd => by
  obtain ⟨p, hp, rfl⟩ := List.mem_map.mp hd
  exact sml_prD h hp
theorem mem_cut {α : Type} {xs : List α} {lo hi : Option Int} {d : α} (h : d ∈ cut xs lo hi) : d ∈ xs := by
  unfold cut at h
  exact List.mem_of_mem_drop (List.mem_of_mem_take h)
theorem len_cut {α : Type} (xs : List α) (lo hi : Option Int) : (cut xs lo hi).length ≤ xs.length := cut_length xs lo hi
theorem Lbent_ok [C_Lbent_11 T] {m : Nat} (hm : 3 ≤ m) {l : Nat} {o : Obj} {S : Store} (hS : S[l]? = some o) (ho : Pl o) {t : Tr} (ht : TrOk t) :
    ∃ (d : D) (o' : Obj), d.pu = true ∧ rprOk d = true ∧ Pl o' ∧ (sem T m 11 [.ref l, trD t] S).bindD (fun d S => .ok d S) = .ok d (S.set l o') := by
  obtain ⟨n, rfl, hn⟩ := succ_of hm
  rw [sem_eq C_Lbent_11.own_Lbent_11 n _ _ rfl]
  unfold b_Lbent_11
  have hl : l < S.length := (List.getElem?_eq_some_iff.mp hS).1
  have hlen := ht.len
  obtain ⟨r1, o1, p1, a1, b1, e1⟩ := draw_ok (T := T) (m := n) (by omega) hS ho (u := 7) (by decide) (by decide)
  obtain ⟨r2, o2, p2, a2, b2, e2⟩ := draw_ok (T := T) (m := n) (by omega) (S := S.set l o1) (List.getElem?_set_self hl) p1 (u := (t.length : Int) + 1) (by omega) (by omega)
  obtain ⟨d3, o3, s3, p3, e3⟩ := Lodd_pair_ok (T := T) (m := n) hn (S := S.set l o2) (List.getElem?_set_self hl) p2 (k := r2) (by omega) (by omega)
  rw [List.set_set] at e2 e3
  simp [trD, e1, e2, e3, setAll]
  have L1 := fun lo hi => len_cut (t.map prD) lo hi
  simp only [List.length_map] at L1
  have st := sml_tree ht
  have done : ∀ (xs : List D), (∀ d ∈ xs, Sml d) → xs.length ≤ 1000 → ∃ d, d.pu = true ∧ rprOk d = true ∧ ∃ x, Pl x ∧ (endF S (.ok (.rt (.val (.tup xs))) (S.set l o3))).bindD (fun d S => Out.ok d S) = .ok d (S.set l x) := fun xs h1 h2 => by
    obtain ⟨q1, q2⟩ := sml_tup h1 h2
    refine ⟨_, q1, q2, o3, p3, ?_⟩
    rw [endF_rt, fin_same (by simp) rfl]
    rfl
  by_cases c1 : r1 < 3
  · have l1 := L1 none (some r2)
    have l2 := L1 (some (r2 + r1 / 2)) none
    simp [c1]
    rw [if_pos (by omega)]
    simp
    rw [if_pos (by omega)]
    simp
    apply done
    · intro d hd
      simp at hd
      rcases hd with hd | rfl | hd
      · exact st d (mem_cut hd)
      · exact s3
      · exact st d (mem_cut hd)
    · simp; omega
  by_cases c2 : r1 = 3
  · subst c2
    have l1 := L1 none (some r2)
    have l2 := L1 (some (r2 + 1)) none
    simp
    rw [if_pos (by omega)]
    simp
    apply done
    · intro d hd
      simp at hd
      rcases hd with hd | hd
      · exact st d (mem_cut hd)
      · exact st d (mem_cut hd)
    · simp; omega
  by_cases c3 : r1 = 4
  · subst c3
    obtain ⟨r4, o4, p4, a4, b4, e4⟩ := draw_ok (T := T) (m := n) (by omega) (S := S.set l o3) (List.getElem?_set_self hl) p3 (u := 4) (by decide) (by decide)
    rw [List.set_set] at e4
    simp [evRev, e4, show t.length + t.length ≤ 16777216 by omega, show t.length ≤ 1000 by omega]
    have h4 : r4 = 0 ∨ r4 = 1 ∨ r4 = 2 ∨ r4 = 3 := by omega
    have done' : ∀ d : D, d.pu = true → rprOk d = true → ∃ d', d'.pu = true ∧ rprOk d' = true ∧ ∃ x, Pl x ∧ (endF S (.ok (.rt (.val d)) (S.set l o4))).bindD (fun d S => Out.ok d S) = .ok d' (S.set l x) := fun d q1 q2 => by
      refine ⟨_, q1, q2, o4, p4, ?_⟩
      rw [endF_rt, fin_same (by simp) (pu_noref q1)]
      rfl
    rcases h4 with rfl | rfl | rfl | rfl
    · simp
      have q := sml_tup (xs := (t.map prD).reverse) (fun d hd => st d (by simpa using hd)) (by simp; omega)
      exact done' _ (by simpa using q.1) (by simpa using q.2)
    · simp
      have q := sml_lst (xs := t.map prD) st (by simp; omega)
      exact done' _ q.1 q.2
    · simp
      have q := sml_tup (xs := t.map prD ++ t.map prD) (fun d hd => st d (by simpa using hd)) (by simp; omega)
      exact done' _ q.1 q.2
    · simp
      exact done' _ (sml_tup (fun d hd => st d (by simpa using hd)) (by simp; omega)).1 (sml_tup (fun d hd => st d (by simpa using hd)) (by simp; omega)).2
  by_cases c4 : r1 = 5
  · subst c4
    simp
    refine ⟨_, ?_, ?_, o3, p3, by rw [fin_same (by simp) rfl]; rfl⟩
    · simp [D.pu, D.pus]
      exact pus_all.mpr fun d hd => (st d hd).1
    · refine (Rp.tup (k := 6) (w := 100000) ?_).rpr (by decide) (by show 1 * 100002 + 3 ≤ 16777216; decide)
      intro d hd
      simp at hd
      subst hd
      refine (Rp.tup (k := 4) (w := 400) fun d hd => (tame_rp (st d hd).2.1).mono (st d hd).2.2.2 (st d hd).2.2.1).mono (by decide) ?_
      have : (t.map prD).length * (400 + 2) ≤ 11 * 402 := Nat.mul_le_mul (by simpa using hlen) (by decide)
      omega
  · have l1 := L1 none (some r2)
    have l2 := L1 (some r2) (some (r2 + 1))
    have l3 := L1 (some r2) none
    simp [c1, c2, c3, c4]
    rw [if_pos (by omega)]
    simp
    rw [if_pos (by omega)]
    simp
    apply done
    · intro d hd
      simp at hd
      rcases hd with hd | hd | hd <;> exact st d (mem_cut hd)
    · simp; omega
def hand : List D :=
  let path := (List.range 12).map fun (k : Nat) => D.tup [.int k, .int 1]
  [.tup [], .tup (cut path none (some 11)), .tup path, .tup [.tup [.int 0, .int 1000000]], .tup [.tup [.int 0, .int 1000001]], .tup [.tup [.int 0, .int 0]], .tup [.tup [.int 1, .int 1]], .tup [.tup [.int 0, .bl true]],
    .tup [.tup [.bl false, .int 1]], .non, .bl true, .int 0, .int 1, .str "", .str "a", .lst [], .dic false [] [], .lst [.tup [.int 0, .int 1]], .tup [.tup [.int 0, .int 1], .non], .tup [.int 0, .int 1],
    .tup [.tup [.int 0, .int 1], .tup [.int 1, .int 1]], .tup [.tup [.int 0, .int 1], .tup [.int 2, .int 1]],
    .tup [.tup [.int 0, .int 1]], .tup [.tup [.int 0, .bl true]], .tup [.tup [.bl false, .int 1]], .tup [.tup [.int 0, .int 1]], .tup [.tup [.int 0, .int 1], .tup [.int 1, .int 1]], .tup [.tup [.int 0, .int 1], .tup [.bl true, .int 1]]]
theorem hand_ok : (hand.all fun d => d.pu && d.tame && decide (d.dep ≤ 60) && decide (d.wt ≤ 16777216)) = true := by decide +kernel
theorem fm_true (xs : List D) : xs.filterMap (fun _ => some (D.bl true)) = (List.replicate xs.length true).map D.bl := by
  induction xs with
  | nil => rfl
  | cons d r ih => simp [ih, List.replicate_succ]
theorem Lby_hand_ok [C_Lby_hand_12 T] {m : Nat} (hm : 6 ≤ m) (S : Store) : sem T m 12 [] S = .ok (.val (.bl true)) S := by
  obtain ⟨n, rfl, hn⟩ := succ_of hm
  rw [sem_eq C_Lby_hand_12.own_Lby_hand_12 n _ _ rfl]
  unfold b_Lby_hand_12
  have e0 : compL (compF (sem T n) (.tup (.cons (.var 1) (.cons (.cst (.int 1)) .nil))) (.nm 1) .none [none, none, none, none]) ((List.range 12).map fun (i : Nat) => D.int i) S = .ok ((List.range 12).map fun (k : Nat) => D.tup [.int k, .int 1]) S := by
    rw [compL_map (p := fun d => some (.tup [d, .int 1]))]
    · rw [List.filterMap_map]
      rfl
    · intro d hd
      simp [compF]
  simp [wipeE, e0]
  generalize hL : (D.tup [] :: _ : List D) = L
  have h2 : L = hand := by rw [← hL]; rfl
  rw [h2]
  rw [compL_map (p := fun d => some (.bl true))]
  · rw [fm_true]
    simp only [Out.bind_ok, Out.bindD_tl, yall]
    simp
  · intro d hd
    have := List.all_eq_true.mp hand_ok d hd
    simp only [Bool.and_eq_true, decide_eq_true_eq] at this
    simp [compF, Ltold_ok (T := T) hn d S this.1.1.1 (tame_rpr this.1.1.2 this.1.2 this.2)]
theorem law_k01 [C_law_13 T] (ns : List Int) (hl : ns.length ≤ 63) : sem T 20 13 [.scr ns] [] = .ok (.val (.bl true)) [] := by
  rw [sem_eq C_law_13.own_law_13 19 _ _ rfl]
  unfold b_law_13
  simp [Lby_hand_ok (T := T) (m := 19) (by decide)]
  generalize hN : max (2 : Int) (min (ns.length : Int) 6) = N
  have hN1 : N ≤ 6 := by omega
  have hN2 : 2 ≤ N := by omega
  simp [show N ≤ 16777216 by omega, show -16777216 ≤ N by omega]
  generalize hF : forL _ _ _ _ _ _ = F
  have key : F = .ok (.nx [some (.scr ns), none, none, none, none]) [] := by
    rw [← hF]
    refine forL_ind (P := fun F => F = .ok (.nx [some (.scr ns), none, none, none, none]) []) (fun ds r S => (∀ d ∈ ds, ∃ k : Int, d = .int k ∧ 0 ≤ k ∧ k < 1000) ∧ r = [some (.scr ns), none, none, none, none] ∧ S = []) ?_ ?_ _ _ _ ?_
    · rintro r S ⟨_, rfl, rfl⟩
      rfl
    · rintro d ds r S ⟨hd, rfl, rfl⟩
      left
      obtain ⟨k, rfl, k0, k1⟩ := hd d (by simp)
      obtain ⟨i, e1⟩ := cell_ok (T := T) (m := 19) (by decide) ns k k0 k1 []
      obtain ⟨xs, p1, e2⟩ := pool_ok (T := T) (m := 19) (by decide) i []
      have inner : ∃ o, Pl o ∧ forL [Obj.lst xs] [3, 4] (forF (sem T 19) (.nm 3) (.cons (.asg (.nm 4) (.call 7 (.cons (.var 2) (.cons (.cst (.int 12)) .nil)))) (.cons (.ifs (.orL (.cons (.not_ (.call 9 (.cons (.var 4) .nil))) (.cons (.not_ (.call 9 (.cons (.call 11 (.cons (.var 2) (.cons (.var 4) .nil))) .nil))) .nil))) (.cons (.ret (.cst (.bl false))) .nil) .nil) .nil)))
          ((List.range 12).map fun (i : Nat) => D.int i) [some (.scr ns), some (.int k), some (.ref 0), none, none] [Obj.lst xs] = .ok (.nx [some (.scr ns), some (.int k), some (.ref 0), none, none]) [o] := by
        refine forL_ind (P := fun F => ∃ o, Pl o ∧ F = .ok (.nx [some (.scr ns), some (.int k), some (.ref 0), none, none]) [o]) (fun ds r S => r = [some (.scr ns), some (.int k), some (.ref 0), none, none] ∧ ∃ o, Pl o ∧ S = [o]) ?_ ?_ _ _ _ ⟨rfl, _, p1, rfl⟩
        · rintro r S ⟨rfl, o, p, rfl⟩
          exact ⟨o, p, rfl⟩
        · rintro d ds r S ⟨rfl, o, p, rfl⟩
          left
          obtain ⟨t, o1, h1, _, h2, e3⟩ := tree_ok (T := T) (m := 19) (by decide) (S := [o]) (l := 0) rfl p (u := 12) (by decide) (by decide)
          have q := sml_tup (xs := t.map prD) (sml_tree h1) (by have := h1.len; simp; omega)
          have e4 := Ltold_ok (T := T) (m := 19) (by decide) (trD t) [o1] q.1 q.2
          obtain ⟨d', o2, h3, h4, h5, e5⟩ := Lbent_ok (T := T) (m := 19) (by decide) (S := [o1]) (l := 0) rfl h2 h1
          have e6 := Ltold_ok (T := T) (m := 19) (by decide) d' [o2] h3 h4
          refine ⟨[some (.scr ns), some (.int k), some (.ref 0), some d, some (trD t)], [o2], .inl ?_, by simp [wipeE], o2, h5, by rw [gcS_same (by simp)]⟩
          obtain ⟨rv, e7, rfl⟩ := of_bindD e5
          simp at e3 e7
          simp [forF, e3, e4, e7, bindD_rv, e6]
      obtain ⟨o, po, e3⟩ := inner
      refine ⟨[some (.scr ns), some (.int k), some (.ref 0), none, none], [o], .inl ?_, fun d hd' => hd d (by simp [hd']), by simp [wipeE], by rw [gcS_cut (by simp [wipeE, envB, D.blw]) oldOk_nil]; rfl⟩
      simp [forF, e1, e2, e3]
    · refine ⟨fun d hd => ?_, rfl, rfl⟩
      obtain ⟨i, hi, rfl⟩ := List.mem_map.mp hd
      have := List.mem_range.mp hi
      exact ⟨i, rfl, by omega, by omega⟩
  rw [key]
  simp
end Fc

end
set_option maxHeartbeats 4000000
open PySem PySem.W PySem.Calls PyProof.Rows
theorem PySem.Challenge.cw_farchange_k01_trees_of_any_value_holds : PySem.Challenge.rw_farchange_k01_trees_of_any_value.Holds := by
  w_on; o_law
  refine HandSHeadRun.head_any (r := (OpenLaw.row PySem.Challenge.rw_farchange_k01_trees_of_any_value)) (q := view (OpenLaw.row PySem.Challenge.rw_farchange_k01_trees_of_any_value).prog [20]) (H := Fc.K01.hk) (ob := Fc.K01.ob) (M := 4600) (loose := Fc.K01.names) (d := HandSHeadRun.topDef (OpenLaw.row PySem.Challenge.rw_farchange_k01_trees_of_any_value).prog 20) (kwd := []) Fc.K01.ob_eq
    (by kernel_rfl) (fun s => by kernel_rfl) Fc.K01.run (by kernel_rfl) (by kernel_rfl) (by kernel_rfl) (by rfl) (by first | assumption | decide +kernel) (by decide +kernel) ⟨rfl, rfl, rfl, rfl, rfl, by decide +kernel⟩ ?hw ?hc
  case hw => w_witness2
  case hc =>
    refine Fc.walk_ofG (l := PySem.Challenge.rw_farchange_k01_trees_of_any_value) (n := 63) (k := 2 * 20 + 4) (x := "_law_script") rfl (by decide) (by kernel_rfl) ⟨rfl, by decide, by decide⟩ ?F
    intro w mg fa h Y G hmg0
    obtain ⟨K, KX, c, hf⟩ := Y
    have hmg : mg ("law" : PySem.Str) = some (.ref fa) := by
      have e : (HandSHeadRun.topDef (OpenLaw.row PySem.Challenge.rw_farchange_k01_trees_of_any_value).prog 20).name = ("law" : PySem.Str) := by kernel_rfl
      rw [← e]
      exact hmg0
    exact Fc.Md.law (m := Fc.K01.md) (n := 20) (f := 13) (fd := Fc.K01.f_law_13) Fc.K01.md_ok KX G c (Fc.fb_at hf (i := 0) rfl) rfl rfl rfl rfl hmg fun ns hl => Fc.law_k01 (T := Fc.K01.T) ns hl

