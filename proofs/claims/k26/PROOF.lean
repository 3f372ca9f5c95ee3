import PyProof.Rows.All
import Wide.All
import OpenK.AllK
import Wide.FinOn
import HandS.ForMost
import HandS.Exc
import HandS.TryOnly
import HandS.ExcOwn
import HandS.WordsExc
import HandS.HeadHook1
import HandS.Lambda
import HandS.ExcInit
import KE.KDictKeyed
import KE.KDictLaw
import HandS.TupAny
import HandS.TupMul
import HandS.IsInst
import HandS.Deep
import KE.DataEq
import HandS.Defaults
import HandS.Style
import PyProof.ReprRoads
import PyProof.ReprText
import PyProof.StrLawsRepr
import PyProof.StrBlockL
import HandS.Small
import HandS.HeadHook2
import HandS.SortKw
import HandS.FStr
import HandS.Text
import KE.DatumOrd
import HandS.ExcIs
import KE.KExcIs
import HandS.ExcField
import HandS.SetFor
import HandS.Head0
import HandS.Head1
import HandS.Head2
import HandS.HeadEnd
import HandS.HeadHook4
import HandS.HeadWalk
import PyProof.ListStr
import HandS.Conv
import KE.KUnpackStar
import HandS.ExcValue
import KE.GoesZip
import KE.GoesMore
import KE.GoesEnum
import HandS.Zip
import KE.SortData
import KE.KDictSum
import HandS.More
import PyProof.Transfer
import KE.KDictCopyH
import HandS.SetKeys
import HandS.DictComp
import KE.KExcSuper
import KE.KSuper
import HandS.Star
import HandS.Property
import HandS.RaiseMore
import HandS.HeadHook3
import HandS.DictEq
import PyProof.Rows.EqNone
import KE.KStateDown
import HandS.Ends
import PySem.Challenge.RW_endlesskinds_k26_exceptions_made
set_option Elab.async false
set_option linter.all false
set_option maxRecDepth 100000
set_option maxHeartbeats 0
/-! R0: data as trees, computations with draws, what a value denotes, what a frame holds. -/
namespace Py
open PySem L2

/-! ### data -/
inductive D where
  | non
  | bl (b : Bool)
  | int (i : Int)
  | str (x : Str)
  | tup (xs : List D)
  | lst (xs : List D)
  | dct (kvs : List (D × D))
  | dcu (kvs : List (D × D))
  | obj (c : Str) (fs : List (Str × D))
  | fn (n : Str)
  | exc (c : Str) (fs : List (Str × D))
  | pen
  | scr (ns : List Int)
instance : Inhabited D := ⟨.non⟩

/-- an exception: its class by name, its fields -/
structure Exc where
  cls : Str
  fs : List (Str × D)

/-! ### computations: an end, an error, stuck, a draw -/
inductive M (α : Type) where
  | ret (a : α)
  | err (x : Exc)
  | stuck
  | draw (n : Nat) (k : Nat → M α)
namespace M
def bind {α β : Type} : M α → (α → M β) → M β
  | .ret a, f => f a
  | .err x, _ => .err x
  | .stuck, _ => .stuck
  | .draw n k, f => .draw n fun i => (k i).bind f
instance : Monad M where
  pure := .ret
  bind := bind
def wp {α : Type} : M α → (α → Prop) → (Exc → Prop) → Prop
  | .ret a, Q, _ => Q a
  | .err x, _, E => E x
  | .stuck, _, _ => False
  | .draw n k, Q, E => ∀ i, i < n → (k i).wp Q E
theorem bind_ret {α β : Type} (a : α) (f : α → M β) : (M.ret a).bind f = f a := rfl
theorem bind_stuck {α β : Type} (f : α → M β) : (M.stuck : M α).bind f = .stuck := rfl
theorem bind_err {α β : Type} (x : Exc) (f : α → M β) : (M.err x : M α).bind f = .err x := rfl
theorem bind_draw {α β : Type} (n : Nat) (k : Nat → M α) (f : α → M β) : (M.draw n k).bind f = .draw n fun i => (k i).bind f := rfl
theorem bind_assoc {α β γ : Type} (m : M α) (f : α → M β) (g : β → M γ) : (m.bind f).bind g = m.bind fun a => (f a).bind g := by
  induction m with
  | ret a => rfl
  | err x => rfl
  | stuck => rfl
  | draw n k ih => simp only [bind_draw]; congr 1; funext i; exact ih i
theorem wp_bind {α β : Type} {m : M α} {f : α → M β} {Q : β → Prop} {E : Exc → Prop} : (m.bind f).wp Q E ↔ m.wp (fun a => (f a).wp Q E) E := by
  induction m with
  | ret a => exact Iff.rfl
  | err x => exact Iff.rfl
  | stuck => exact Iff.rfl
  | draw n k ih =>
    simp only [bind_draw, wp]
    exact ⟨fun h i hi => (ih i).mp (h i hi), fun h i hi => (ih i).mpr (h i hi)⟩
theorem wp_mono {α : Type} {m : M α} {Q Q' : α → Prop} {E E' : Exc → Prop} (h : m.wp Q E) (hq : ∀ a, Q a → Q' a) (he : ∀ x, E x → E' x) : m.wp Q' E' := by
  induction m with
  | ret a => exact hq _ h
  | err x => exact he _ h
  | stuck => exact h
  | draw n k ih => exact fun i hi => ih i (h i hi)
theorem wp_ret {α : Type} {a : α} {Q : α → Prop} {E : Exc → Prop} : (M.ret a).wp Q E ↔ Q a := Iff.rfl
end M

/-! ### what a value denotes; O: addresses that it does not touch -/
/-- a pen: a list of three ints, the second one small -/
def PenAt (a : Addr) (h : Heap) : Prop := ∃ (i j k : Int) (t u v : Tok) (n : Nat), 0 ≤ j ∧ j < 4294967296 ∧ h.get? a = some { cls := .type "list", data := .seq #[.int i t, .int j u, .int k v] n }
def penO (a : Addr) : HO := .ext (PenAt a)
/-- the World that the texts' hashes come from -/
class Wd where
  w : World
  /-- the tables of code objects of the defs that make lambdas, the lambdas' names -/
  T : List (Addr × Str)
/-- an entry of a dict with any keys: the hash, the key (as told, as it is), the value -/
abbrev E3 : Type := Int × V × Value × Value
def duE (x : E3) : DictEntry := { key := x.2.2.1, hash := x.1, val := x.2.2.2 }
def duO (a : Addr) (xs : List E3) (ep : Nat) : HO := .ext fun h => ∃ o, h.get? a = some o ∧ o.ExactDict ∧ o.data = .dict (xs.map duE).toArray ep
mutual
/-- a key of tuples as data -/
def nkOf : D → Option NestedKey
  | .non => some .none
  | .int i => some (.num i)
  | .str x => some (.text x)
  | .tup ds => (nksOf ds).map .tup
  | _ => none
def nksOf : List D → Option (List NestedKey)
  | [] => some []
  | d :: r => (nkOf d).bind fun k => (nksOf r).map (k :: ·)
end
/-- a key that is a tuple (of ints, texts, None and tuples) -/
def tkOf : D → Option NestedKey
  | .tup ds => (nksOf ds).bind fun ks => if (NestedKey.tup ks).depth ≤ 8 then some (.tup ks) else none
  | _ => none
/-- an exception's object: its class, its dict -/
def XcAt (a C : Addr) (d : Option Addr) (h : Heap) : Prop := ∃ (o : Obj) (vs : Array Value), h.get? a = some o ∧ Zc (.ref C) d o ∧ o.data = .fields vs
/-- its dict -/
def XdAt (dx : Addr) (fvs : List (Str × V)) (h : Heap) : Prop := ∃ mA, h.Ns dx mA ∧ ∀ f, RelO (fvs.lookup f) (mA f)
def XdO (dx : Addr) (fvs : List (Str × V)) (o : HO) : Prop := o = .xd fvs ∨ ∃ ψ, o = .ext ψ ∧ ∀ h, ψ h → XdAt dx fvs h
variable [Wd]
def keyD : Key → D
  | .inl i => .int i
  | .inr x => .str x
/-- an entry's hash is its key's, and no later key is this one -/
def HK (hs : Int) (kd : D) (es : List (D × D)) : Prop := ∃ nk, tkOf kd = some nk ∧ hs = nk.hash Wd.w ∧ ∀ p ∈ es, tkOf p.1 ≠ some nk
mutual
inductive Den (K : PySem.W.Frag) (O : Addr → Prop) (H : Hp) : V → D → Prop
  | non : Den K O H .non .non
  | bl (b) : Den K O H (.bl b) (.bl b)
  | int (i) : Den K O H (.int i) (.int i)
  | str (x) : Den K O H (.str x) (.str x)
  | tup {a vs ds} : ¬ O a → H a = some (.tup vs) → Dens K O H vs ds → Den K O H (.ref a) (.tup ds)
  | tupK {a vs ds o its n} : K.lookup a = some o → o.cls = .type "tuple" → o.data = .seq its n → its.size ≤ sizeLine → Vals vs its.toList → Dens K O H vs ds → Den K O H (.ref a) (.tup ds)
  | lst {a vs ds} : ¬ O a → H a = some (.lst vs) → Dens K O H vs ds → Den K O H (.ref a) (.lst ds)
  | scr {a ns} : ¬ O a → Rd H a (.lst (ns.map V.int)) → Den K O H (.ref a) (.scr ns)
  | scrK {a ns o its n} : K.lookup a = some o → o.cls = .type "list" → o.dict = none → o.data = .seq its n → its.size ≤ sizeLine → Vals (ns.map V.int) its.toList → Den K O H (.ref a) (.scr ns)
  | dct {a kvs es} : ¬ O a → Rd H a (.dK kvs) → DenKV K O H kvs es → Den K O H (.ref a) (.dct es)
  | pen {a} : ¬ O a → H a = some (penO a) → Den K O H (.ref a) .pen
  | fn (x) : Den K O H (.ref (He.ga K x)) (.fn x)
  | obj {a c dx fvs fs} : ¬ O a → H a = some (.ins (He.ga K c) dx fvs) → DenFs K O H fvs fs → Den K O H (.ref a) (.obj c fs)
  | dcu {a xs ep es} : (a == sysModules) = false → ¬ O a → H a = some (duO a xs ep) → DenTK K O H xs es → Den K O H (.ref a) (.dcu es)
  | exc {a c φ} : ¬ O a → H a = some (.ext φ) → (∀ h, φ h → XcAt a (He.ga K c) none h) → Den K O H (.ref a) (.exc c [])
  | excF {a c φ dx o fvs pf fs} : ¬ O a → H a = some (.ext φ) → (∀ h, φ h → XcAt a (He.ga K c) (some dx) h) → ¬ O dx → H dx = some o → XdO dx fvs o → DenFs K O H fvs (pf :: fs) → Den K O H (.ref a) (.exc c (pf :: fs))
inductive Dens (K : PySem.W.Frag) (O : Addr → Prop) (H : Hp) : List V → List D → Prop
  | nil : Dens K O H [] []
  | cons {v d vs ds} : Den K O H v d → Dens K O H vs ds → Dens K O H (v :: vs) (d :: ds)
inductive DenKV (K : PySem.W.Frag) (O : Addr → Prop) (H : Hp) : List (Key × V) → List (D × D) → Prop
  | nil : DenKV K O H [] []
  | cons {k v d kvs es} : Den K O H v d → DenKV K O H kvs es → DenKV K O H ((k, v) :: kvs) ((keyD k, d) :: es)
/-- fields -/
inductive DenFs (K : PySem.W.Frag) (O : Addr → Prop) (H : Hp) : List (Str × V) → List (Str × D) → Prop
  | nil : DenFs K O H [] []
  | cons {n v d fs gs} : Den K O H v d → DenFs K O H fs gs → DenFs K O H ((n, v) :: fs) ((n, d) :: gs)
/-- entries with tuple keys -/
inductive DenTK (K : PySem.W.Frag) (O : Addr → Prop) (H : Hp) : List E3 → List (D × D) → Prop
  | nil : DenTK K O H [] []
  | cons {hs ku kv u v kd d xs es} : HK hs kd es → RelV kv ku → Den K O H kv kd → RelV v u → Den K O H v d → DenTK K O H xs es → DenTK K O H ((hs, kv, ku, u) :: xs) ((kd, d) :: es)
end

/-- a dict that has been frozen (for a walk over it) -/
def Fz (o : HO) (r : Option HO) : Prop := ∃ kvs ob, o = .dK kvs ∧ r = some (.frz ob (.dK kvs))
/-- a table of code objects that grew -/
def Tz (o : HO) (r : Option HO) : Prop := ∃ ps qs, o = .tbl ps ∧ r = some (.tbl qs)
def Ch (o : HO) (r : Option HO) : Prop := Fz o r ∨ Tz o r
def NT (o : HO) : Prop := ∀ ps, o ≠ .tbl ps
def Ext (O : Addr → Prop) (H H' : Hp) : Prop := ∀ a o, ¬ O a → H a = some o → H' a = some o ∨ Ch o (H' a)
def Grow (H H' : Hp) : Prop := ∀ a o, H a = some o → H' a = some o
theorem Grow.ext {O : Addr → Prop} {H H' : Hp} (g : Grow H H') : Ext O H H' := fun a o _ h => .inl (g a o h)
/-- new objects, frozen dicts (z: may there be such) off O, grown tables -/
structure Gr (z : Bool) (O : Addr → Prop) (H H' : Hp) : Prop where
  at_ : ∀ a o, H a = some o → H' a = some o ∨ (z = true ∧ ¬ O a ∧ Fz o (H' a)) ∨ Tz o (H' a)
  tab : LamX.Tabs Wd.T H → LamX.Tabs Wd.T H'
theorem Ch.then {o : HO} {H1 H2 : Hp} {a : Addr} (x : Ch o (H1 a)) (k : ∀ u, H1 a = some u → H2 a = some u ∨ Ch u (H2 a)) : Ch o (H2 a) := by
  rcases x with ⟨kvs, ob, e, h⟩ | ⟨ps, qs, e, h⟩
  · rcases k _ h with h2 | ⟨kvs2, ob2, e2, h2⟩ | ⟨ps, qs, e2, h2⟩
    · exact .inl ⟨kvs, ob, e, h2⟩
    · cases e2
    · cases e2
  · rcases k _ h with h2 | ⟨kvs2, ob2, e2, h2⟩ | ⟨_, rs, e2, h2⟩
    · exact .inr ⟨ps, qs, e, h2⟩
    · cases e2
    · exact .inr ⟨ps, rs, e, h2⟩
theorem Gr.refl (z : Bool) (O : Addr → Prop) (H : Hp) : Gr z O H H := ⟨fun _ _ h => .inl h, fun t => t⟩
theorem Grow.gr {z : Bool} {O : Addr → Prop} {H H' : Hp} (g : Grow H H') : Gr z O H H' := ⟨fun a o h => .inl (g a o h), fun t => t.ext g⟩
theorem Gr.ext {z : Bool} {O : Addr → Prop} {H H' : Hp} (g : Gr z O H H') : Ext O H H' := fun a o _ h => (g.at_ a o h).imp id fun q => q.imp (·.2.2) id
theorem Gr.trans {z : Bool} {O : Addr → Prop} {H H1 H2 : Hp} (a : Gr z O H H1) (b : Gr z O H1 H2) : Gr z O H H2 := ⟨fun x o h => by
  rcases a.at_ x o h with h1 | ⟨hz, hn, kvs, ob, e, h1⟩ | ⟨ps, qs, e, h1⟩
  · exact b.at_ x o h1
  · rcases b.at_ x _ h1 with h2 | ⟨_, _, _, _, e2, _⟩ | ⟨_, _, e2, _⟩
    · exact .inr (.inl ⟨hz, hn, kvs, ob, e, h2⟩)
    · cases e2
    · cases e2
  · rcases b.at_ x _ h1 with h2 | ⟨_, _, _, _, e2, _⟩ | ⟨_, rs, e2, h2⟩
    · exact .inr (.inr ⟨ps, qs, e, h2⟩)
    · cases e2
    · exact .inr (.inr ⟨ps, rs, e, h2⟩), fun t => b.tab (a.tab t)⟩
theorem Gr.less {z : Bool} {O O' : Addr → Prop} {H H' : Hp} (ho : ∀ a, O' a → O a) (g : Gr z O H H') : Gr z O' H H' := ⟨fun a o h => (g.at_ a o h).imp id fun q => q.imp (fun q => ⟨q.1, fun w => q.2.1 (ho a w), q.2.2⟩) id, g.tab⟩
/-- on O nothing changes but tables -/
theorem Gr.onT {z : Bool} {O : Addr → Prop} {H H' : Hp} {a : Addr} (g : Gr z O H H') (ha : O a) (o : HO) (h : H a = some o) (n : NT o) : H' a = some o := by
  rcases g.at_ a o h with e | q | ⟨ps, qs, e, _⟩
  · exact e
  · exact absurd ha q.2.1
  · exact absurd e (n ps)
theorem Gr.onO {z : Bool} {O : Addr → Prop} {H H' : Hp} {a : Addr} (g : Gr z O H H') (ha : O a) (o : HO) (h : H a = some o) (n : NT o := by intro _ zz; cases zz) : H' a = some o := by
  rcases g.at_ a o h with e | q | ⟨ps, qs, e, _⟩
  · exact e
  · exact absurd ha q.2.1
  · exact absurd e (n ps)
theorem Gr.there {z : Bool} {O : Addr → Prop} {H H' : Hp} {a : Addr} (g : Gr z O H H') (h : H a ≠ none) : H' a ≠ none := by
  cases q : H a with
  | none => exact absurd q h
  | some o =>
    rcases g.at_ a o q with e | ⟨_, _, _, _, _, e⟩ | ⟨_, _, _, e⟩ <;> (rw [e]; intro z; cases z)
theorem Gr.fresh {z : Bool} {O : Addr → Prop} {H H' : Hp} {a : Addr} (g : Gr z O H H') (h : H' a = none) : H a = none := by
  cases q : H a with
  | none => rfl
  | some o => exact absurd h (g.there (by rw [q]; intro z; cases z))
theorem Grow.refl (H : Hp) : Grow H H := fun _ _ h => h
theorem Grow.trans {H H1 H2 : Hp} (a : Grow H H1) (b : Grow H1 H2) : Grow H H2 := fun x o h => b x o (a x o h)
theorem Grow.new {H : Hp} {p : Addr} {o : HO} (h : H p = none) : Grow H (upd H p o) := fun a u e => by
  rw [upd_ne (ne_of_none e h)]; exact e
theorem Ext.refl (O : Addr → Prop) (H : Hp) : Ext O H H := fun _ _ _ h => .inl h
theorem Ext.trans {O : Addr → Prop} {H H1 H2 : Hp} (a : Ext O H H1) (b : Ext O H1 H2) : Ext O H H2 := fun x o n h => by
  rcases a x o n h with h1 | hf
  · exact b x o n h1
  · exact .inr (Ch.then hf fun u e => b x u n e)
theorem Ext.write {O : Addr → Prop} {H : Hp} {p : Addr} {o : HO} (h : O p) : Ext O H (upd H p o) := fun a u n e => by
  rw [upd_ne (fun z => n (by rw [z]; exact h))]; exact .inl e
theorem ch_rd {o u : HO} {H' : Hp} {a : Addr} (h : H' a = some o ∨ Ch o (H' a)) (r : o = u ∨ ∃ ob, o = .frz ob u) (n : NT u) : Rd H' a u := by
  rcases h with h | ⟨kvs, ob, e, h⟩ | ⟨ps, qs, e, h⟩
  · rcases r with r | ⟨ob, r⟩
    · subst r; exact .inl h
    · subst r; exact .inr ⟨ob, h⟩
  · rcases r with r | ⟨ob', r⟩
    · subst r; subst e; exact .inr ⟨ob, h⟩
    · subst r; cases e
  · rcases r with r | ⟨ob', r⟩
    · subst r; exact absurd e (n ps)
    · subst r; cases e
theorem rd_mono {H H' : Hp} {a : Addr} {u : HO} (k : ∀ o, H a = some o → H' a = some o ∨ Ch o (H' a)) (r : Rd H a u) (n : NT u := by intro _ zz; cases zz) : Rd H' a u := by
  rcases r with r | ⟨o, r⟩
  · exact ch_rd (k _ r) (.inl rfl) n
  · exact ch_rd (k _ r) (.inr ⟨o, rfl⟩) n
theorem Gr.rd {z : Bool} {O : Addr → Prop} {H H' : Hp} {a : Addr} {u : HO} (g : Gr z O H H') (r : Rd H a u) (n : NT u := by intro _ zz; cases zz) : Rd H' a u := rd_mono (fun o e => (g.at_ a o e).imp id fun q => q.imp (·.2.2) id) r n
/-- what is neither a dict nor a table stays -/
theorem ch_not {o : HO} {H' : Hp} {a : Addr} (h : H' a = some o ∨ Ch o (H' a)) (n : ∀ kvs, o ≠ .dK kvs) (m : NT o) : H' a = some o := by
  rcases h with h | ⟨_, _, e, _⟩ | ⟨_, _, e, _⟩
  · exact h
  · exact absurd e (n _)
  · exact absurd e (m _)
theorem ext_tup {H' : Hp} {a : Addr} {vs : List V} (h : H' a = some (.tup vs) ∨ Ch (.tup vs) (H' a)) : H' a = some (.tup vs) := ch_not h (fun _ z => by cases z) fun _ z => by cases z
theorem ext_lst {H' : Hp} {a : Addr} {vs : List V} (h : H' a = some (.lst vs) ∨ Ch (.lst vs) (H' a)) : H' a = some (.lst vs) := ch_not h (fun _ z => by cases z) fun _ z => by cases z
theorem ext_pen {H' : Hp} {a : Addr} (h : H' a = some (penO a) ∨ Ch (penO a) (H' a)) : H' a = some (penO a) := ch_not h (fun _ z => by cases z) fun _ z => by cases z
theorem ext_ins {H' : Hp} {a C dx : Addr} {fs : List (Str × V)} (h : H' a = some (.ins C dx fs) ∨ Ch (.ins C dx fs) (H' a)) : H' a = some (.ins C dx fs) := ch_not h (fun _ z => by cases z) fun _ z => by cases z
theorem ext_du {H' : Hp} {a : Addr} {xs : List E3} {ep : Nat} (h : H' a = some (duO a xs ep) ∨ Ch (duO a xs ep) (H' a)) : H' a = some (duO a xs ep) := ch_not h (fun _ z => by cases z) fun _ z => by cases z
theorem ext_ext {H' : Hp} {a : Addr} {φ : Heap → Prop} (h : H' a = some (.ext φ) ∨ Ch (.ext φ) (H' a)) : H' a = some (.ext φ) := ch_not h (fun _ z => by cases z) fun _ z => by cases z
theorem ext_xd {H' : Hp} {a dx : Addr} {fvs : List (Str × V)} {o : HO} (x : XdO dx fvs o) (h : H' a = some o ∨ Ch o (H' a)) : H' a = some o := by
  rcases x with e | ⟨ψ, e, _⟩ <;> (subst e; exact ch_not h (fun _ z => by cases z) fun _ z => by cases z)
section
variable {K : PySem.W.Frag} {O O' : Addr → Prop} {H H' : Hp}
mutual
theorem Den.mono (ho : ∀ a, O' a → O a) (x : Ext O H H') : ∀ {v : V} {d : D}, Den K O H v d → Den K O' H' v d
  | _, _, .non => .non
  | _, _, .bl b => .bl b
  | _, _, .int i => .int i
  | _, _, .str z => .str z
  | _, _, .tup n h s => .tup (fun z => n (ho _ z)) (ext_tup (x _ _ n h)) (Dens.mono ho x s)
  | _, _, .tupK h1 h2 h3 h4 h5 s => .tupK h1 h2 h3 h4 h5 (Dens.mono ho x s)
  | _, _, .lst n h s => .lst (fun z => n (ho _ z)) (ext_lst (x _ _ n h)) (Dens.mono ho x s)
  | _, _, .scr n h => .scr (fun z => n (ho _ z)) (rd_mono (fun o e => x _ o n e) h)
  | _, _, .scrK h1 h2 h3 h4 h5 h6 => .scrK h1 h2 h3 h4 h5 h6
  | _, _, .dct n h s => .dct (fun z => n (ho _ z)) (rd_mono (fun o e => x _ o n e) h) (DenKV.mono ho x s)
  | _, _, .pen n h => .pen (fun z => n (ho _ z)) (ext_pen (x _ _ n h))
  | _, _, .fn y => .fn y
  | _, _, .obj n h s => .obj (fun z => n (ho _ z)) (ext_ins (x _ _ n h)) (DenFs.mono ho x s)
  | _, _, .dcu m n h s => .dcu m (fun z => n (ho _ z)) (ext_du (x _ _ n h)) (DenTK.mono ho x s)
  | _, _, .exc n h p => .exc (fun z => n (ho _ z)) (ext_ext (x _ _ n h)) p
  | _, _, .excF n h p n2 h2 q s => .excF (fun z => n (ho _ z)) (ext_ext (x _ _ n h)) p (fun z => n2 (ho _ z)) (ext_xd q (x _ _ n2 h2)) q (DenFs.mono ho x s)
theorem Dens.mono (ho : ∀ a, O' a → O a) (x : Ext O H H') : ∀ {vs : List V} {ds : List D}, Dens K O H vs ds → Dens K O' H' vs ds
  | _, _, .nil => .nil
  | _, _, .cons h s => .cons (Den.mono ho x h) (Dens.mono ho x s)
theorem DenKV.mono (ho : ∀ a, O' a → O a) (x : Ext O H H') : ∀ {vs : List (Key × V)} {ds : List (D × D)}, DenKV K O H vs ds → DenKV K O' H' vs ds
  | _, _, .nil => .nil
  | _, _, .cons h s => .cons (Den.mono ho x h) (DenKV.mono ho x s)
theorem DenFs.mono (ho : ∀ a, O' a → O a) (x : Ext O H H') : ∀ {vs : List (Str × V)} {ds : List (Str × D)}, DenFs K O H vs ds → DenFs K O' H' vs ds
  | _, _, .nil => .nil
  | _, _, .cons h s => .cons (Den.mono ho x h) (DenFs.mono ho x s)
theorem DenTK.mono (ho : ∀ a, O' a → O a) (x : Ext O H H') : ∀ {vs : List E3} {ds : List (D × D)}, DenTK K O H vs ds → DenTK K O' H' vs ds
  | _, _, .nil => .nil
  | _, _, .cons z q k r h s => .cons z q (Den.mono ho x k) r (Den.mono ho x h) (DenTK.mono ho x s)
end
theorem Den.ext (x : Ext O H H') {v : V} {d : D} (h : Den K O H v d) : Den K O H' v d := h.mono (fun _ z => z) x
theorem Dens.ext (x : Ext O H H') {v : List V} {d : List D} (h : Dens K O H v d) : Dens K O H' v d := h.mono (fun _ z => z) x
theorem DenKV.ext (x : Ext O H H') {v : List (Key × V)} {d : List (D × D)} (h : DenKV K O H v d) : DenKV K O H' v d := h.mono (fun _ z => z) x
theorem DenFs.ext (x : Ext O H H') {v : List (Str × V)} {d : List (Str × D)} (h : DenFs K O H v d) : DenFs K O H' v d := h.mono (fun _ z => z) x
theorem DenTK.ext (x : Ext O H H') {v : List E3} {d : List (D × D)} (h : DenTK K O H v d) : DenTK K O H' v d := h.mono (fun _ z => z) x
theorem Den.less (ho : ∀ a, O' a → O a) {v : V} {d : D} (h : Den K O H v d) : Den K O' H v d := h.mono ho (Ext.refl _ _)
theorem Dens.less (ho : ∀ a, O' a → O a) {v : List V} {d : List D} (h : Dens K O H v d) : Dens K O' H v d := h.mono ho (Ext.refl _ _)
theorem DenKV.less (ho : ∀ a, O' a → O a) {v : List (Key × V)} {d : List (D × D)} (h : DenKV K O H v d) : DenKV K O' H v d := h.mono ho (Ext.refl _ _)
theorem DenFs.less (ho : ∀ a, O' a → O a) {v : List (Str × V)} {d : List (Str × D)} (h : DenFs K O H v d) : DenFs K O' H v d := h.mono ho (Ext.refl _ _)
theorem DenTK.less (ho : ∀ a, O' a → O a) {v : List E3} {d : List (D × D)} (h : DenTK K O H v d) : DenTK K O' H v d := h.mono ho (Ext.refl _ _)
/-- one more address, where nothing stands yet -/
def also (O : Addr → Prop) (p : Addr) : Addr → Prop := fun a => O a ∨ a = p
mutual
theorem Den.more {p : Addr} (hp : H p = none) : ∀ {v : V} {d : D}, Den K O H v d → Den K (also O p) H v d
  | _, _, .non => .non
  | _, _, .bl b => .bl b
  | _, _, .int i => .int i
  | _, _, .str z => .str z
  | _, _, .tup n h s => .tup (fun z => z.elim n (ne_of_none h hp)) h (Dens.more hp s)
  | _, _, .tupK h1 h2 h3 h4 h5 s => .tupK h1 h2 h3 h4 h5 (Dens.more hp s)
  | _, _, .lst n h s => .lst (fun z => z.elim n (ne_of_none h hp)) h (Dens.more hp s)
  | _, _, .scr n h => .scr (fun z => z.elim n (fun e => by subst e; rcases h with h | ⟨_, h⟩ <;> rw [hp] at h <;> cases h)) h
  | _, _, .scrK h1 h2 h3 h4 h5 h6 => .scrK h1 h2 h3 h4 h5 h6
  | _, _, .dct n h s => .dct (fun z => z.elim n (fun e => by subst e; rcases h with h | ⟨_, h⟩ <;> rw [hp] at h <;> cases h)) h (DenKV.more hp s)
  | _, _, .pen n h => .pen (fun z => z.elim n (ne_of_none h hp)) h
  | _, _, .fn y => .fn y
  | _, _, .obj n h s => .obj (fun z => z.elim n (ne_of_none h hp)) h (DenFs.more hp s)
  | _, _, .dcu m n h s => .dcu m (fun z => z.elim n (ne_of_none h hp)) h (DenTK.more hp s)
  | _, _, .exc n h p => .exc (fun z => z.elim n (ne_of_none h hp)) h p
  | _, _, .excF n h p n2 h2 q s => .excF (fun z => z.elim n (ne_of_none h hp)) h p (fun z => z.elim n2 (ne_of_none h2 hp)) h2 q (DenFs.more hp s)
theorem Dens.more {p : Addr} (hp : H p = none) : ∀ {vs : List V} {ds : List D}, Dens K O H vs ds → Dens K (also O p) H vs ds
  | _, _, .nil => .nil
  | _, _, .cons h s => .cons (Den.more hp h) (Dens.more hp s)
theorem DenKV.more {p : Addr} (hp : H p = none) : ∀ {vs : List (Key × V)} {ds : List (D × D)}, DenKV K O H vs ds → DenKV K (also O p) H vs ds
  | _, _, .nil => .nil
  | _, _, .cons h s => .cons (Den.more hp h) (DenKV.more hp s)
theorem DenFs.more {p : Addr} (hp : H p = none) : ∀ {vs : List (Str × V)} {ds : List (Str × D)}, DenFs K O H vs ds → DenFs K (also O p) H vs ds
  | _, _, .nil => .nil
  | _, _, .cons h s => .cons (Den.more hp h) (DenFs.more hp s)
theorem DenTK.more {p : Addr} (hp : H p = none) : ∀ {vs : List E3} {ds : List (D × D)}, DenTK K O H vs ds → DenTK K (also O p) H vs ds
  | _, _, .nil => .nil
  | _, _, .cons z q k r h s => .cons z q (Den.more hp k) r (Den.more hp h) (DenTK.more hp s)
end
theorem Dens.length : ∀ {vs : List V} {ds : List D}, Dens K O H vs ds → vs.length = ds.length
  | _, _, .nil => rfl
  | _, _, .cons _ s => by rw [List.length_cons, List.length_cons, Dens.length s]
theorem Dens.get : ∀ {vs : List V} {ds : List D}, Dens K O H vs ds → ∀ (i : Nat) (d : D), ds[i]? = some d → ∃ v, vs[i]? = some v ∧ Den K O H v d
  | _, _, .nil, i, d, e => by simp at e
  | _, _, .cons h _, 0, d, e => by
    have e' := Option.some.inj (show some _ = some d from e); subst e'; exact ⟨_, rfl, h⟩
  | _, _, .cons _ s, i + 1, d, e => Dens.get s i d e
theorem Dens.get' : ∀ {vs : List V} {ds : List D}, Dens K O H vs ds → ∀ (i : Nat) (v : V), vs[i]? = some v → ∃ d, ds[i]? = some d ∧ Den K O H v d
  | _, _, .nil, i, d, e => by simp at e
  | _, _, .cons h _, 0, d, e => by
    have e' := Option.some.inj (show some _ = some d from e); subst e'; exact ⟨_, rfl, h⟩
  | _, _, .cons _ s, i + 1, d, e => Dens.get' s i d e
theorem Dens.append : ∀ {vs vs' : List V} {ds ds' : List D}, Dens K O H vs ds → Dens K O H vs' ds' → Dens K O H (vs ++ vs') (ds ++ ds')
  | _, _, _, _, .nil, s => s
  | _, _, _, _, .cons h r, s => .cons h (Dens.append r s)
theorem Dens.take : ∀ {vs : List V} {ds : List D} (n : Nat), Dens K O H vs ds → Dens K O H (vs.take n) (ds.take n)
  | _, _, 0, _ => .nil
  | _, _, _ + 1, .nil => .nil
  | _, _, n + 1, .cons h s => .cons h (Dens.take n s)
theorem Dens.drop : ∀ {vs : List V} {ds : List D} (n : Nat), Dens K O H vs ds → Dens K O H (vs.drop n) (ds.drop n)
  | _, _, 0, s => s
  | _, _, _ + 1, .nil => .nil
  | _, _, n + 1, .cons _ s => Dens.drop n s
theorem Dens.set : ∀ {vs : List V} {ds : List D} (i : Nat) {v : V} {d : D}, Dens K O H vs ds → Den K O H v d → Dens K O H (vs.set i v) (ds.set i d)
  | _, _, _, _, _, .nil, _ => .nil
  | _, _, 0, _, _, .cons _ s, h => .cons h s
  | _, _, i + 1, _, _, .cons g s, h => .cons g (Dens.set i s h)
theorem Dens.eraseIdx : ∀ {vs : List V} {ds : List D} (i : Nat), Dens K O H vs ds → Dens K O H (vs.eraseIdx i) (ds.eraseIdx i)
  | _, _, _, .nil => .nil
  | _, _, 0, .cons _ s => s
  | _, _, i + 1, .cons g s => .cons g (Dens.eraseIdx i s)
theorem Dens.reverse : ∀ {vs : List V} {ds : List D}, Dens K O H vs ds → Dens K O H vs.reverse ds.reverse
  | _, _, .nil => .nil
  | _, _, .cons h s => by
    rw [List.reverse_cons, List.reverse_cons]
    exact Dens.append (Dens.reverse s) (.cons h .nil)
theorem DenKV.length : ∀ {vs : List (Key × V)} {ds : List (D × D)}, DenKV K O H vs ds → vs.length = ds.length
  | _, _, .nil => rfl
  | _, _, .cons _ s => by rw [List.length_cons, List.length_cons, DenKV.length s]
end

theorem DenFs.length {K : PySem.W.Frag} {O : Addr → Prop} {H : Hp} : ∀ {vs : List (Str × V)} {ds : List (Str × D)}, DenFs K O H vs ds → vs.length = ds.length
  | _, _, .nil => rfl
  | _, _, .cons _ s => by rw [List.length_cons, List.length_cons, DenFs.length s]
theorem DenTK.length {K : PySem.W.Frag} {O : Addr → Prop} {H : Hp} : ∀ {vs : List E3} {ds : List (D × D)}, DenTK K O H vs ds → vs.length = ds.length
  | _, _, .nil => rfl
  | _, _, .cons _ _ _ _ _ s => by rw [List.length_cons, List.length_cons, DenTK.length s]

/-! ### what a frame holds -/
/-- a slot: its object is the frame's own (true), or a value -/
abbrev Rho := List (Option (Bool × D))
/-- an own object of the frame, its content out of O -/
inductive Top (K : PySem.W.Frag) (O : Addr → Prop) (H : Hp) (a : Addr) : D → Prop
  | lst {vs ds} : H a = some (.lst vs) → Dens K O H vs ds → Top K O H a (.lst ds)
  | dct {kvs es} : H a = some (.dK kvs) → DenKV K O H kvs es → Top K O H a (.dct es)
  | dcu {xs ep es} : (a == sysModules) = false → H a = some (duO a xs ep) → DenTK K O H xs es → Top K O H a (.dcu es)
  | obj {c dx fvs fs} : H a = some (.ins (He.ga K c) dx fvs) → DenFs K O H fvs fs → Top K O H a (.obj c fs)
section
variable {K : PySem.W.Frag} {O O' : Addr → Prop} {H H' : Hp} {a : Addr} {d : D}
theorem Top.map (t : Top K O H a d) (k : ∀ o, H a = some o → NT o → H' a = some o) (m : ∀ v e, Den K O H v e → Den K O' H' v e) : Top K O' H' a d := by
  have ms : ∀ {vs : List V} {ds : List D}, Dens K O H vs ds → Dens K O' H' vs ds := by
    intro vs ds h
    induction ds generalizing vs with
    | nil => cases h; exact .nil
    | cons d r ih => cases h with | cons h s => exact .cons (m _ _ h) (ih s)
  cases t with
  | lst h s => exact .lst (k _ h (fun _ zz => by cases zz)) (ms s)
  | @dct kvs es h s =>
    refine .dct (k _ h (fun _ zz => by cases zz)) ?_
    clear h
    induction es generalizing kvs with
    | nil => cases s; exact .nil
    | cons d r ih => cases s with | cons h s => exact .cons (m _ _ h) (ih s)
  | @dcu xs ep es m0 h s =>
    refine .dcu m0 (k _ h (fun _ zz => by cases zz)) ?_
    clear h
    induction es generalizing xs with
    | nil => cases s; exact .nil
    | cons d r ih => cases s with | cons zz q kk rr h s => exact .cons zz q (m _ _ kk) rr (m _ _ h) (ih s)
  | @obj c dx fvs fs h s =>
    refine .obj (k _ h (fun _ zz => by cases zz)) ?_
    clear h
    induction fs generalizing fvs with
    | nil => cases s; exact .nil
    | cons d r ih => cases s with | cons h s => exact .cons (m _ _ h) (ih s)
theorem Top.ext (x : Ext O H H') (k : ∀ o, H a = some o → NT o → H' a = some o) (t : Top K O H a d) : Top K O H' a d := t.map k fun _ _ h => h.ext x
theorem Top.there (t : Top K O H a d) : H a ≠ none := by cases t <;> (rename_i h _; rw [h]; intro z; cases z)
/-- given away: a value off what is left -/
theorem Top.out (ho : ∀ b, O' b → O b) (na : ¬ O' a) (t : Top K O H a d) : Den K O' H (.ref a) d := by
  cases t with
  | lst h s => exact .lst na h (s.less ho)
  | dct h s => exact .dct na (.inl h) (s.less ho)
  | dcu m h s => exact .dcu m na h (s.less ho)
  | obj h s => exact .obj na h (s.less ho)
end
/-- a heap with one object -/
theorem one_heap (a : Addr) (o : Obj) (nf : o.data ≠ .freed) : ∃ h : Heap, h.get? a = some o ∧ ∀ b o', h.get? b = some o' → o' = o := by
  have at_ : ∀ b, ((Array.replicate a o).push o)[b]? = some o ∨ ((Array.replicate a o).push o)[b]? = none := fun b => by
    rw [Array.getElem?_push]
    by_cases h : b = (Array.replicate a o).size
    · rw [if_pos h]; exact .inl rfl
    · rw [if_neg h, Array.getElem?_replicate]
      by_cases h2 : b < a
      · rw [if_pos h2]; exact .inl rfl
      · rw [if_neg h2]; exact .inr rfl
  have get : ∀ b, ((Array.replicate a o).push o)[b]? = some o → (⟨(Array.replicate a o).push o, {}⟩ : Heap).get? b = some o := fun b e => by
    unfold Heap.get?
    rw [e]
    obtain ⟨c, d, dt, sl⟩ := o
    cases dt <;> first | rfl | exact absurd rfl nf
  refine ⟨⟨(Array.replicate a o).push o, {}⟩, get a (by rw [Array.getElem?_push]; simp), fun b o' e => ?_⟩
  rcases at_ b with h | h
  · rw [get b h] at e; exact (Option.some.inj e).symm
  · unfold Heap.get? at e
    rw [h] at e
    cases e
theorem du_notCode {a c : Addr} {xs : List E3} {ep : Nat} {q : Str} : duO a xs ep ≠ LamX.CodeO c q := fun z => by
  unfold duO LamX.CodeO at z
  injection z with z
  obtain ⟨h, e, all⟩ := one_heap a { cls := .type "dict", dict := none, data := .dict (xs.map duE).toArray ep } (by intro z; cases z)
  have t := (congrFun z h).mp ⟨_, e, ⟨rfl, rfl, rfl⟩, rfl⟩
  obtain ⟨o', vs, _, k1, k2, _⟩ := t
  have e2 := all _ _ k1
  subst e2
  cases k2
theorem Top.notCode {K : PySem.W.Frag} {O : Addr → Prop} {H : Hp} {a c : Addr} {d : D} {q : Str} (t : Top K O H a d) : H a ≠ some (LamX.CodeO c q) := by
  cases t with
  | lst h _ => rw [h]; intro z; cases z
  | dct h _ => rw [h]; intro z; cases z
  | dcu _ h _ => rw [h]; intro z; exact du_notCode (Option.some.inj z)
  | obj h _ => rw [h]; intro z; cases z
theorem Top.notTab {K : PySem.W.Frag} {O : Addr → Prop} {H : Hp} {a : Addr} {d : D} (t : Top K O H a d) (ps : Array Value) : H a ≠ some (.tbl ps) := by
  cases t <;> (rename_i h _; rw [h]; intro z; cases z)
/-- neither a table nor a code object -/
def Nc (r : Option HO) : Prop := (∀ ps, r ≠ some (.tbl ps)) ∧ ∀ c q, r ≠ some (LamX.CodeO c q)
theorem Top.nc {K : PySem.W.Frag} {O : Addr → Prop} {H : Hp} {a : Addr} {d : D} (t : Top K O H a d) : Nc (H a) := ⟨t.notTab, fun _ _ => t.notCode⟩
theorem nc_lst {r : Option HO} {vs : List V} (h : r = some (.lst vs)) : Nc r := by subst h; exact ⟨fun _ z => by (cases z), fun _ _ z => by (cases z)⟩
theorem nc_dK {r : Option HO} {vs : List (Key × V)} (h : r = some (.dK vs)) : Nc r := by subst h; exact ⟨fun _ z => by (cases z), fun _ _ z => by (cases z)⟩
theorem nc_ins {r : Option HO} {C dx : Addr} {vs : List (Str × V)} (h : r = some (.ins C dx vs)) : Nc r := by subst h; exact ⟨fun _ z => by (cases z), fun _ _ z => by (cases z)⟩
theorem nc_none {r : Option HO} (h : r = none) : Nc r := by subst h; exact ⟨fun _ z => by (cases z), fun _ _ z => by (cases z)⟩
/-- an own object is written: the tables stay -/
theorem tab_upd {H : Hp} {a p : Addr} {q : Str} {o : HO} (n : Nc (H a)) (h : LamX.TabS H p q) : LamX.TabS (upd H a o) p q := by
  obtain ⟨ps, h1, h2, h3⟩ := h
  have np : p ≠ a := fun z => n.1 ps (by rw [← z]; exact h1)
  refine ⟨ps, by rw [upd_ne np]; exact h1, h2, fun pos cv hc => ?_⟩
  obtain ⟨c, e1, e2⟩ := h3 pos cv hc
  exact ⟨c, e1, by rw [upd_ne (fun z => n.2 c q (by rw [← z]; exact e2))]; exact e2⟩
theorem tabs_upd {T : List (Addr × Str)} {H : Hp} {a : Addr} {o : HO} (n : Nc (H a)) (h : LamX.Tabs T H) : LamX.Tabs T (upd H a o) := fun p hp => tab_upd n (h p hp)
/-- what is held besides the slots: a value, a frozen object -/
inductive Pin where
  | den (v : V) (d : D)
  | frz (a : Addr) (o : Obj) (u : HO)
  | du (a : Addr) (xs : List E3) (ep : Nat) (es : List (D × D))
def Pin.ok (K : PySem.W.Frag) (O : Addr → Prop) (H : Hp) : Pin → Prop
  | .den v d => Den K O H v d
  | .frz a o u => ¬ O a ∧ H a = some (.frz o u)
  | .du a xs ep es => ¬ O a ∧ H a = some (duO a xs ep) ∧ DenTK K O H xs es
theorem Pin.ok.ext {K : PySem.W.Frag} {O : Addr → Prop} {H H' : Hp} (x : Ext O H H') : ∀ {p : Pin}, p.ok K O H → p.ok K O H'
  | .den v d, h => Den.ext x (show Den K O H v d from h)
  | .frz a o u, h => ⟨h.1, ch_not (x a _ h.1 h.2) (fun _ z => by cases z) fun _ z => by cases z⟩
  | .du a xs ep es, h => ⟨h.1, ext_du (x a _ h.1 h.2.1), h.2.2.ext x⟩
theorem Pin.ok.more {K : PySem.W.Frag} {O : Addr → Prop} {H : Hp} {p : Addr} (hp : H p = none) : ∀ {q : Pin}, q.ok K O H → q.ok K (also O p) H
  | .den v d, h => Den.more hp (show Den K O H v d from h)
  | .frz a o u, h => ⟨fun z => z.elim h.1 (ne_of_none h.2 hp), h.2⟩
  | .du a xs ep es, h => ⟨fun z => z.elim h.1 (ne_of_none h.2.1 hp), h.2.1, h.2.2.more hp⟩
theorem Pin.ok.less {K : PySem.W.Frag} {O O' : Addr → Prop} {H : Hp} (ho : ∀ a, O' a → O a) : ∀ {q : Pin}, q.ok K O H → q.ok K O' H
  | .den v d, h => Den.less ho (show Den K O H v d from h)
  | .frz a o u, h => ⟨fun z => h.1 (ho _ z), h.2⟩
  | .du a xs ep es, h => ⟨fun z => h.1 (ho _ z), h.2.1, h.2.2.less ho⟩
/-- z: may dicts be frozen; H0: the heap at the entry; S: what is kept off (by the callers); P: values that are held besides; O: S and the own objects -/
structure Rel (K : PySem.W.Frag) (z : Bool) (fx : Nat → Option Addr) (H0 : Hp) (S : Addr → Prop) (P : List Pin) (O : Addr → Prop) (σ : St) (H : Hp) (ρ : Rho) : Prop where
  len : σ.length = ρ.length
  sdom : ∀ a, S a → H0 a ≠ none
  dom : ∀ a, O a → H a ≠ none
  sub : ∀ a, S a → O a
  new : ∀ a, O a → S a ∨ H0 a = none
  grow : Gr z S H0 H
  slot : ∀ (i : Nat) d, ρ[i]? = some (some (false, d)) → ∃ v, σ[i]? = some (some v) ∧ Den K O H v d
  mine : ∀ (i : Nat) d, ρ[i]? = some (some (true, d)) → ∃ a, σ[i]? = some (some (.ref a)) ∧ O a ∧ H0 a = none ∧ Top K O H a d
  inj : ∀ (i j : Nat) a d d', ρ[i]? = some (some (true, d)) → ρ[j]? = some (some (true, d')) → σ[i]? = some (some (.ref a)) → σ[j]? = some (some (.ref a)) → i = j
  held : ∀ p ∈ P, p.ok K O H
  fix : ∀ i a, fx i = some a → σ[i]? = some (some (.ref a))
  tab : LamX.Tabs Wd.T H
section
variable {K : PySem.W.Frag} {z : Bool} {fx : Nat → Option Addr} {H0 : Hp} {S O : Addr → Prop} {P : List Pin} {σ : St} {H H' : Hp} {ρ : Rho}
/-- new objects alone -/
theorem Rel.growTo (r : Rel K z fx H0 S P O σ H ρ) (g : Gr z O H H') : Rel K z fx H0 S P O σ H' ρ where
  len := r.len
  sdom := r.sdom
  dom := fun a h => g.there (r.dom a h)
  sub := r.sub
  new := r.new
  grow := r.grow.trans (g.less r.sub)
  slot := fun i d h1 => let ⟨v, e, x⟩ := r.slot i d h1; ⟨v, e, x.ext g.ext⟩
  mine := fun i d h1 => let ⟨a, e, o, n, t⟩ := r.mine i d h1; ⟨a, e, o, n, t.ext g.ext (g.onT o)⟩
  inj := r.inj
  held := fun p hp => (r.held p hp).ext g.ext
  fix := r.fix
  tab := g.tab r.tab
end
end Py

/-! R1: readings simulate computations: names, constants, operators, displays, tests. -/
namespace Py
open PySem L2
variable [Wd]

abbrev CE := Rho → M D
abbrev CT := Rho → M Bool
abbrev CA := Rho → M (List D)

/-- where a def's body stands -/
structure Cf where
  K : PySem.W.Frag
  z : Bool
  mg : Str → Option Value
  H0 : Hp
  S : Addr → Prop
  E : XK
  /-- slots that stay (self) -/
  fix : Nat → Option Addr

def XRel (K : PySem.W.Frag) (mg : Str → Option Value) (S : Addr → Prop) (H : Hp) (cls : Value) (d : Option Addr) (x : Exc) : Prop :=
  ∃ C, mg x.cls = some (.ref C) ∧ cls = .ref C ∧ ((x.fs = [] ∧ d = none) ∨ x.fs ≠ [] ∧ ∃ da fs, d = some da ∧ ¬ S da ∧ H da = some (.xd fs) ∧ DenFs K S H fs x.fs)
def XP (f : Cf) (x : Exc) : Prop := ∀ cls d H', Gr f.z f.S f.H0 H' → XRel f.K f.mg f.S H' cls d x → f.E cls d H'

abbrev Cf.Rel (f : Cf) (P : List Pin) (O : Addr → Prop) (σ : St) (H : Hp) (ρ : Rho) : Prop := Py.Rel f.K f.z f.fix f.H0 f.S P O σ H ρ
/-- an operand: a value off O, or an own object -/
def DenC (K : PySem.W.Frag) (H0 : Hp) (O : Addr → Prop) (H : Hp) (v : V) (d : D) : Prop :=
  Den K O H v d ∨ ∃ a, v = .ref a ∧ O a ∧ H0 a = none ∧ Top K O H a d
theorem DenC.grow {K : PySem.W.Frag} {z : Bool} {H0 : Hp} {O : Addr → Prop} {H H' : Hp} {v : V} {d : D} (g : Gr z O H H') (h : DenC K H0 O H v d) : DenC K H0 O H' v d := by
  rcases h with h | ⟨a, e, o, n, t⟩
  · exact .inl (h.ext g.ext)
  · exact .inr ⟨a, e, o, n, t.ext g.ext (g.onT o)⟩
/-- off nothing at all: for operations whose answer is an atom -/
theorem DenC.bare {K : PySem.W.Frag} {H0 : Hp} {O : Addr → Prop} {H : Hp} {v : V} {d : D} (h : DenC K H0 O H v d) : Den K (fun _ => False) H v d := by
  rcases h with h | ⟨a, e, o, n, t⟩
  · exact h.less fun _ z => z.elim
  · subst e
    exact t.out (fun _ z => z.elim) fun z => z

def SimE (f : Cf) (te : TE) (c : CE) : Prop := ∀ (P : List Pin) (O : Addr → Prop) (σ : St) (H : Hp) (ρ : Rho) (Q : VK), f.Rel P O σ H ρ →
  (c ρ).wp (fun d => ∀ v H', Gr f.z O H H' → Den f.K O H' v d → Q v H') (XP f) → te σ H Q
def SimC (f : Cf) (te : TE) (c : CE) : Prop := ∀ (P : List Pin) (O : Addr → Prop) (σ : St) (H : Hp) (ρ : Rho) (Q : VK), f.Rel P O σ H ρ →
  (c ρ).wp (fun d => ∀ v H', Gr f.z O H H' → DenC f.K f.H0 O H' v d → Q v H') (XP f) → te σ H Q
def SimT (f : Cf) (tt : TT) (c : CT) : Prop := ∀ (P : List Pin) (O : Addr → Prop) (σ : St) (H : Hp) (ρ : Rho) (Q : Bool → Hp → Prop), f.Rel P O σ H ρ →
  (c ρ).wp (fun b => ∀ H', Gr f.z O H H' → Q b H') (XP f) → tt σ H Q
def SimA (f : Cf) (ta : TA) (c : CA) : Prop := ∀ (P : List Pin) (O : Addr → Prop) (σ : St) (H : Hp) (ρ : Rho) (Q : List V → Hp → Prop), f.Rel P O σ H ρ →
  (c ρ).wp (fun ds => ∀ vs H', Gr f.z O H H' → Dens f.K O H' vs ds → Q vs H') (XP f) → ta σ H Q
/-- operands in a row -/
inductive DenCs (K : PySem.W.Frag) (H0 : Hp) (O : Addr → Prop) (H : Hp) : List V → List D → Prop
  | nil : DenCs K H0 O H [] []
  | cons {v d vs ds} : DenC K H0 O H v d → DenCs K H0 O H vs ds → DenCs K H0 O H (v :: vs) (d :: ds)
theorem DenCs.grow {K : PySem.W.Frag} {z : Bool} {H0 : Hp} {O : Addr → Prop} {H H' : Hp} (g : Gr z O H H') : ∀ {v : List V} {d : List D}, DenCs K H0 O H v d → DenCs K H0 O H' v d
  | _, _, .nil => .nil
  | _, _, .cons h s => .cons (h.grow g) (DenCs.grow g s)
def SimB (f : Cf) (ta : TA) (c : CA) : Prop := ∀ (P : List Pin) (O : Addr → Prop) (σ : St) (H : Hp) (ρ : Rho) (Q : List V → Hp → Prop), f.Rel P O σ H ρ →
  (c ρ).wp (fun ds => ∀ vs H', Gr f.z O H H' → DenCs f.K f.H0 O H' vs ds → Q vs H') (XP f) → ta σ H Q
theorem SimE.c {f : Cf} {te : TE} {c : CE} (h : SimE f te c) : SimC f te c := fun P O σ H ρ Q r w =>
  h P O σ H ρ Q r (M.wp_mono w (fun d q v H' g x => q v H' g (.inl x)) fun _ z => z)

/-! ### names, constants -/
def cVar (i : Nat) : CE := fun ρ => match ρ[i]? with
  | some (some (false, d)) => .ret d
  | _ => .stuck
/-- a name as an operand: a value, or an own object -/
def cOwn (i : Nat) : CE := fun ρ => match ρ[i]? with
  | some (some (_, d)) => .ret d
  | _ => .stuck
def cK (d : D) : CE := fun _ => .ret d
section
variable {f : Cf}
theorem sim_var {i : Nat} : SimE f (tVar i) (cVar i) := fun P O σ H ρ Q r w => by
  unfold cVar at w
  split at w
  · rename_i d e
    obtain ⟨v, e1, x⟩ := r.slot i d e
    exact ⟨v, e1, w v H (Gr.refl _ _ H) x⟩
  · exact w.elim
theorem sim_own {i : Nat} : SimC f (tVar i) (cOwn i) := fun P O σ H ρ Q r w => by
  unfold cOwn at w
  split at w
  · rename_i b d e
    cases b with
    | false =>
      obtain ⟨v, e1, x⟩ := r.slot i d e
      exact ⟨v, e1, w v H (Gr.refl _ _ H) (.inl x)⟩
    | true =>
      obtain ⟨a, e1, o, n, t⟩ := r.mine i d e
      exact ⟨_, e1, w _ H (Gr.refl _ _ H) (.inr ⟨a, rfl, o, n, t⟩)⟩
  · exact w.elim
theorem sim_k {v : V} {d : D} (h : ∀ O H, Den f.K O H v d) : SimE f (tC v) (cK d) := fun P O σ H ρ Q r w => w v H (Gr.refl _ _ H) (h O H)
theorem sim_int {i : Int} : SimE f (tC (.int i)) (cK (.int i)) := sim_k fun _ _ => .int i
theorem sim_bl {b : Bool} : SimE f (tC (.bl b)) (cK (.bl b)) := sim_k fun _ _ => .bl b
theorem sim_non : SimE f (tC .non) (cK .non) := sim_k fun _ _ => .non
theorem sim_str {x : Str} : SimE f (tC (.str x)) (cK (.str x)) := sim_k fun _ _ => .str x

/-! ### operators by values -/
/-- a two-place operation on data: its answer, or none where it is not served -/
def OpS (r : R2) (K : PySem.W.Frag) (g : D → D → Option D) : Prop := ∀ (H0 : Hp) (O : Addr → Prop) (H : Hp) (x y : V) (dx dy z : D) (Q : VK), (∀ a, O a → H a ≠ none) → DenC K H0 O H x dx → DenC K H0 O H y dy → g dx dy = some z →
  (∀ v H', Grow H H' → Den K O H' v z → Q v H') → r x y H Q
def lift2 (g : D → D → Option D) (x y : D) : M D := match g x y with
  | some z => .ret z
  | none => .stuck
def cOp (g : D → D → Option D) (a b : CE) : CE := fun ρ => (a ρ).bind fun x => (b ρ).bind fun y => lift2 g x y
theorem sim_op {r : R2} {g : D → D → Option D} {ta tb : TE} {a b : CE} (ho : OpS r f.K g) (ha : SimC f ta a) (hb : SimC f tb b) : SimE f (tOp r ta tb) (cOp g a b) := fun P O σ H ρ Q rl w => by
  refine ha P O σ H ρ _ rl (M.wp_mono (M.wp_bind.mp w) (fun dx w1 x H1 g1 x1 => ?_) fun _ z => z)
  refine hb P O σ H1 ρ _ (rl.growTo g1) (M.wp_mono (M.wp_bind.mp w1) (fun dy w2 y H2 g2 y2 => ?_) fun _ z => z)
  unfold lift2 at w2
  split at w2
  · rename_i z e
    exact ho f.H0 O H2 x y dx dy z Q ((rl.growTo g1).growTo g2).dom (x1.grow g2) y2 e fun v H' g3 v3 => w2 v H' ((g1.trans g2).trans g3.gr) v3
  · exact w2.elim
/-- .. on one -/
def UnS (r : V → Hp → VK → Prop) (K : PySem.W.Frag) (g : D → Option D) : Prop := ∀ (H0 : Hp) (O : Addr → Prop) (H : Hp) (x : V) (dx z : D) (Q : VK), (∀ a, O a → H a ≠ none) → DenC K H0 O H x dx → g dx = some z →
  (∀ v H', Grow H H' → Den K O H' v z → Q v H') → r x H Q
def lift1 (g : D → Option D) (x : D) : M D := match g x with
  | some z => .ret z
  | none => .stuck
def cUn (g : D → Option D) (a : CE) : CE := fun ρ => (a ρ).bind fun x => lift1 g x
theorem sim_un {r : V → Hp → VK → Prop} {g : D → Option D} {ta : TE} {a : CE} (ho : UnS r f.K g) (ha : SimC f ta a) : SimE f (tUn r ta) (cUn g a) := fun P O σ H ρ Q rl w => by
  refine ha P O σ H ρ _ rl (M.wp_mono (M.wp_bind.mp w) (fun dx w1 x H1 g1 x1 => ?_) fun _ z => z)
  unfold lift1 at w1
  split at w1
  · rename_i z e
    exact ho f.H0 O H1 x dx z Q (rl.growTo g1).dom x1 e fun v H' g3 v3 => w1 v H' (g1.trans g3.gr) v3
  · exact w1.elim
/-- .. on a list of arguments (a built-in's call) -/
def CbS (r : List V → Hp → VK → Prop) (K : PySem.W.Frag) (g : List D → Option D) : Prop := ∀ (H0 : Hp) (O : Addr → Prop) (H : Hp) (xs : List V) (ds : List D) (z : D) (Q : VK), (∀ a, O a → H a ≠ none) → DenCs K H0 O H xs ds → g ds = some z →
  (∀ v H', Grow H H' → Den K O H' v z → Q v H') → r xs H Q
def liftN (g : List D → Option D) (x : List D) : M D := match g x with
  | some z => .ret z
  | none => .stuck
def cCb (g : List D → Option D) (a : CA) : CE := fun ρ => (a ρ).bind fun x => liftN g x
theorem sim_cb {r : List V → Hp → VK → Prop} {g : List D → Option D} {ta : TA} {a : CA} (ho : CbS r f.K g) (ha : SimB f ta a) : SimE f (tCB r ta) (cCb g a) := fun P O σ H ρ Q rl w => by
  refine ha P O σ H ρ _ rl (M.wp_mono (M.wp_bind.mp w) (fun dx w1 x H1 g1 x1 => ?_) fun _ z => z)
  unfold liftN at w1
  split at w1
  · rename_i z e
    exact ho f.H0 O H1 x dx z Q (rl.growTo g1).dom x1 e fun v H' g3 v3 => w1 v H' (g1.trans g3.gr) v3
  · exact w1.elim

/-! ### argument lists -/
def cNil : CA := fun _ => .ret []
def cCons (a : CE) (r : CA) : CA := fun ρ => (a ρ).bind fun x => (r ρ).bind fun xs => .ret (x :: xs)
theorem sim_nil : SimA f tNil cNil := fun P O σ H ρ Q rl w => w [] H (Gr.refl _ _ H) .nil
theorem sim_cons {ta : TE} {tr : TA} {a : CE} {r : CA} (ha : SimE f ta a) (hr : SimA f tr r) : SimA f (tCons ta tr) (cCons a r) := fun P O σ H ρ Q rl w => by
  refine ha P O σ H ρ _ rl (M.wp_mono (M.wp_bind.mp w) (fun dx w1 x H1 g1 x1 => ?_) fun _ z => z)
  refine hr P O σ H1 ρ _ (rl.growTo g1) (M.wp_mono (M.wp_bind.mp w1) (fun dy w2 y H2 g2 y2 => ?_) fun _ z => z)
  exact w2 _ H2 (g1.trans g2) (.cons (x1.ext g2.ext) y2)
theorem simB_nil : SimB f tNil cNil := fun P O σ H ρ Q rl w => w [] H (Gr.refl _ _ H) .nil
theorem simB_cons {ta : TE} {tr : TA} {a : CE} {r : CA} (ha : SimC f ta a) (hr : SimB f tr r) : SimB f (tCons ta tr) (cCons a r) := fun P O σ H ρ Q rl w => by
  refine ha P O σ H ρ _ rl (M.wp_mono (M.wp_bind.mp w) (fun dx w1 x H1 g1 x1 => ?_) fun _ z => z)
  refine hr P O σ H1 ρ _ (rl.growTo g1) (M.wp_mono (M.wp_bind.mp w1) (fun dy w2 y H2 g2 y2 => ?_) fun _ z => z)
  exact w2 _ H2 (g1.trans g2) (.cons (x1.grow g2) y2)

/-! ### displays -/
def LIM : Nat := 1000000
theorem lim_line {n : Nat} (h : n ≤ LIM) : n ≤ sizeLine := Nat.le_trans h (by decide)
theorem lim_lt {n : Nat} (h : n ≤ LIM) : n < sizeLine := Nat.lt_of_le_of_lt h (by decide)
def mkTup (ds : List D) : M D := if ds.length ≤ LIM then .ret (.tup ds) else .stuck
def mkLst (ds : List D) : M D := if ds.length ≤ LIM then .ret (.lst ds) else .stuck
def cTup (a : CA) : CE := fun ρ => (a ρ).bind mkTup
def cLst (a : CA) : CE := fun ρ => (a ρ).bind mkLst
theorem off_new {O : Addr → Prop} {H : Hp} {p : Addr} (hd : ∀ a, O a → H a ≠ none) (hp : H p = none) : ¬ O p := fun z => hd p z hp
theorem sim_tup {ta : TA} {a : CA} (ha : SimA f ta a) : SimE f (tTup ta) (cTup a) := fun P O σ H ρ Q rl w => by
  refine ha P O σ H ρ _ rl (M.wp_mono (M.wp_bind.mp w) (fun ds w1 vs H1 g1 s1 => ?_) fun _ z => z)
  unfold mkTup at w1
  split at w1
  · rename_i hl
    refine ⟨lim_line (by rw [s1.length]; exact hl), fun p hp => ?_⟩
    exact w1 _ _ (g1.trans (Grow.new hp).gr) (.tup (off_new (rl.growTo g1).dom hp) upd_same (s1.ext (Grow.new hp).ext))
  · exact w1.elim
theorem sim_lst {ta : TA} {a : CA} (ha : SimA f ta a) : SimE f (tLst ta) (cLst a) := fun P O σ H ρ Q rl w => by
  refine ha P O σ H ρ _ rl (M.wp_mono (M.wp_bind.mp w) (fun ds w1 vs H1 g1 s1 => ?_) fun _ z => z)
  unfold mkLst at w1
  split at w1
  · rename_i hl
    refine ⟨lim_line (by rw [s1.length]; exact hl), fun p hp => ?_⟩
    exact w1 _ _ (g1.trans (Grow.new hp).gr) (.lst (off_new (rl.growTo g1).dom hp) upd_same (s1.ext (Grow.new hp).ext))
  · exact w1.elim

/-! ### tests -/
def truth : D → M Bool
  | .bl b => .ret b
  | _ => .stuck
def cTest (a : CE) : CT := fun ρ => (a ρ).bind truth
theorem sim_test {te : TE} {a : CE} (ha : SimC f te a) : SimT f (tTest te) (cTest a) := fun P O σ H ρ Q rl w => by
  refine ha P O σ H ρ _ rl (M.wp_mono (M.wp_bind.mp w) (fun d w1 v H1 g1 x1 => ?_) fun _ z => z)
  have hb := x1.bare
  cases d <;> first | exact w1.elim | skip
  cases hb
  exact ⟨_, rfl, w1 H1 g1⟩
theorem sim_tB {te : TE} {a : CE} (ha : SimC f te a) : SimT f (tB te) (cTest a) := sim_test ha
def cAnd (a b : CT) : CT := fun ρ => (a ρ).bind fun x => if x = true then b ρ else .ret false
def cOr (a b : CT) : CT := fun ρ => (a ρ).bind fun x => if x = true then .ret true else b ρ
def cNot (a : CT) : CT := fun ρ => (a ρ).bind fun x => .ret (!x)
theorem sim_and {ta tb : TT} {a b : CT} (ha : SimT f ta a) (hb : SimT f tb b) : SimT f (tAnd ta tb) (cAnd a b) := fun P O σ H ρ Q rl w => by
  refine ha P O σ H ρ _ rl (M.wp_mono (M.wp_bind.mp w) (fun x w1 H1 g1 => ?_) fun _ z => z)
  cases x with
  | true =>
    rw [if_pos rfl] at w1 ⊢
    exact hb P O σ H1 ρ _ (rl.growTo g1) (M.wp_mono w1 (fun y w2 H2 g2 => w2 H2 (g1.trans g2)) fun _ z => z)
  | false =>
    rw [if_neg Bool.false_ne_true] at w1 ⊢
    exact w1 H1 g1
theorem sim_or {ta tb : TT} {a b : CT} (ha : SimT f ta a) (hb : SimT f tb b) : SimT f (tOr ta tb) (cOr a b) := fun P O σ H ρ Q rl w => by
  refine ha P O σ H ρ _ rl (M.wp_mono (M.wp_bind.mp w) (fun x w1 H1 g1 => ?_) fun _ z => z)
  cases x with
  | true =>
    rw [if_pos rfl] at w1 ⊢
    exact w1 H1 g1
  | false =>
    rw [if_neg Bool.false_ne_true] at w1 ⊢
    exact hb P O σ H1 ρ _ (rl.growTo g1) (M.wp_mono w1 (fun y w2 H2 g2 => w2 H2 (g1.trans g2)) fun _ z => z)
theorem sim_not {ta : TT} {a : CT} (ha : SimT f ta a) : SimT f (tNot ta) (cNot a) := fun P O σ H ρ Q rl w =>
  ha P O σ H ρ _ rl (M.wp_mono (M.wp_bind.mp w) (fun x w1 H1 g1 => w1 H1 g1) fun _ z => z)
/-- as values -/
def cAndV (a b : CE) : CE := fun ρ => (a ρ).bind fun x => (truth x).bind fun t => if t = true then b ρ else .ret (.bl false)
def cOrV (a b : CE) : CE := fun ρ => (a ρ).bind fun x => (truth x).bind fun t => if t = true then .ret (.bl true) else b ρ
def cNotV (a : CE) : CE := fun ρ => (a ρ).bind fun x => (truth x).bind fun t => .ret (.bl (!t))
theorem truth_of {K : PySem.W.Frag} {O : Addr → Prop} {H : Hp} {v : V} {d : D} {Q : Bool → Prop} {E : Exc → Prop} (x : Den K O H v d) (w : (truth d).wp Q E) : ∃ b, v = .bl b ∧ Q b := by
  cases d <;> first | exact w.elim | skip
  cases x
  exact ⟨_, rfl, w⟩
theorem sim_andV {ta tb : TE} {a b : CE} (ha : SimE f ta a) (hb : SimE f tb b) : SimE f (tAndV ta tb) (cAndV a b) := fun P O σ H ρ Q rl w => by
  refine ha P O σ H ρ _ rl (M.wp_mono (M.wp_bind.mp w) (fun x w1 v H1 g1 x1 => ?_) fun _ z => z)
  obtain ⟨t, e, w2⟩ := truth_of x1 (M.wp_bind.mp w1)
  refine ⟨t, e, ?_⟩
  cases t with
  | true =>
    rw [if_pos rfl] at w2 ⊢
    exact hb P O σ H1 ρ _ (rl.growTo g1) (M.wp_mono w2 (fun y w3 v2 H2 g2 x2 => w3 v2 H2 (g1.trans g2) x2) fun _ z => z)
  | false =>
    rw [if_neg Bool.false_ne_true] at w2 ⊢
    exact w2 _ H1 g1 (.bl false)
theorem sim_orV {ta tb : TE} {a b : CE} (ha : SimE f ta a) (hb : SimE f tb b) : SimE f (tOrV ta tb) (cOrV a b) := fun P O σ H ρ Q rl w => by
  refine ha P O σ H ρ _ rl (M.wp_mono (M.wp_bind.mp w) (fun x w1 v H1 g1 x1 => ?_) fun _ z => z)
  obtain ⟨t, e, w2⟩ := truth_of x1 (M.wp_bind.mp w1)
  refine ⟨t, e, ?_⟩
  cases t with
  | true =>
    rw [if_pos rfl] at w2 ⊢
    exact w2 _ H1 g1 (.bl true)
  | false =>
    rw [if_neg Bool.false_ne_true] at w2 ⊢
    exact hb P O σ H1 ρ _ (rl.growTo g1) (M.wp_mono w2 (fun y w3 v2 H2 g2 x2 => w3 v2 H2 (g1.trans g2) x2) fun _ z => z)
theorem sim_notV {ta : TE} {a : CE} (ha : SimE f ta a) : SimE f (tNotV ta) (cNotV a) := fun P O σ H ρ Q rl w => by
  refine ha P O σ H ρ _ rl (M.wp_mono (M.wp_bind.mp w) (fun x w1 v H1 g1 x1 => ?_) fun _ z => z)
  obtain ⟨t, e, w2⟩ := truth_of x1 (M.wp_bind.mp w1)
  exact ⟨t, e, w2 _ H1 g1 (.bl _)⟩
def cIf (t : CT) (a b : CE) : CE := fun ρ => (t ρ).bind fun x => if x = true then a ρ else b ρ
theorem sim_if {tt : TT} {ta tb : TE} {t : CT} {a b : CE} (ht : SimT f tt t) (ha : SimE f ta a) (hb : SimE f tb b) : SimE f (tIf tt ta tb) (cIf t a b) := fun P O σ H ρ Q rl w => by
  refine ht P O σ H ρ _ rl (M.wp_mono (M.wp_bind.mp w) (fun x w1 H1 g1 => ?_) fun _ z => z)
  cases x with
  | true =>
    rw [if_pos rfl] at w1 ⊢
    exact ha P O σ H1 ρ _ (rl.growTo g1) (M.wp_mono w1 (fun y w2 v H2 g2 x2 => w2 v H2 (g1.trans g2) x2) fun _ z => z)
  | false =>
    rw [if_neg Bool.false_ne_true] at w1 ⊢
    exact hb P O σ H1 ρ _ (rl.growTo g1) (M.wp_mono w1 (fun y w2 v H2 g2 x2 => w2 v H2 (g1.trans g2) x2) fun _ z => z)

/-! ### comparison chains a < b < c -/
def cChain (g g' : D → D → Option D) (a b c : CE) : CE := fun ρ => (a ρ).bind fun x => (b ρ).bind fun y => (lift2 g x y).bind fun z => (truth z).bind fun t => if t = true then (c ρ).bind fun w => lift2 g' y w else .ret (.bl false)
theorem sim_chain {r r' : R2} {g g' : D → D → Option D} {ta tb tc : TE} {a b c : CE} (ho : OpS r f.K g) (ho' : OpS r' f.K g') (ha : SimC f ta a) (hb : SimC f tb b) (hc : SimC f tc c) : SimE f (tChain r r' ta tb tc) (cChain g g' a b c) := fun P O σ H ρ Q rl w => by
  refine ha P O σ H ρ _ rl (M.wp_mono (M.wp_bind.mp w) (fun dx w1 x H1 g1 x1 => ?_) fun _ z => z)
  refine hb P O σ H1 ρ _ (rl.growTo g1) (M.wp_mono (M.wp_bind.mp w1) (fun dy w2 y H2 g2 y2 => ?_) fun _ z => z)
  have w3 := M.wp_bind.mp w2
  unfold lift2 at w3
  split at w3
  · rename_i z e
    refine ho f.H0 O H2 x y dx dy z _ ((rl.growTo g1).growTo g2).dom (x1.grow g2) y2 e fun v H3 g3' v3 => ?_
    have g3 : Gr f.z O H2 H3 := g3'.gr
    obtain ⟨t, e, w4⟩ := truth_of v3 (M.wp_bind.mp w3)
    refine ⟨t, e, ?_⟩
    cases t with
    | true =>
      rw [if_pos rfl] at w4 ⊢
      refine hc P O σ H3 ρ _ (((rl.growTo g1).growTo g2).growTo g3) (M.wp_mono (M.wp_bind.mp w4) (fun dw w5 w' H4 g4 x4 => ?_) fun _ z => z)
      unfold lift2 at w5
      split at w5
      · rename_i z' e'
        exact ho' f.H0 O H4 y w' dy dw z' Q ((((rl.growTo g1).growTo g2).growTo g3).growTo g4).dom (y2.grow (g3.trans g4)) x4 e' fun v H' g5 v5 => w5 v H' ((((g1.trans g2).trans g3).trans g4).trans g5.gr) v5
      · exact w5.elim
    | false =>
      rw [if_neg Bool.false_ne_true] at w4 ⊢
      exact w4 _ H3 ((g1.trans g2).trans g3) (.bl false)
  · exact w3.elim
end
end Py

/-! R2: the operators on data. -/
namespace Py
open PySem L2
variable [Wd]

/-! ### an operation by data -/
def uOp (K : PySem.W.Frag) (g : D → D → Option D) : R2 := fun x y H Q => ∃ (H0 : Hp) (O : Addr → Prop) (dx dy z : D), (∀ a, O a → H a ≠ none) ∧ DenC K H0 O H x dx ∧ DenC K H0 O H y dy ∧ g dx dy = some z ∧ ∀ v H', Grow H H' → Den K O H' v z → Q v H'
theorem ops_u {K : PySem.W.Frag} {g : D → D → Option D} : OpS (uOp K g) K g := fun H0 O H x y dx dy z Q hd hx hy e h => ⟨H0, O, dx, dy, z, hd, hx, hy, e, h⟩
def uUn (K : PySem.W.Frag) (g : D → Option D) : V → Hp → VK → Prop := fun x H Q => ∃ (H0 : Hp) (O : Addr → Prop) (dx z : D), (∀ a, O a → H a ≠ none) ∧ DenC K H0 O H x dx ∧ g dx = some z ∧ ∀ v H', Grow H H' → Den K O H' v z → Q v H'
theorem uns_u {K : PySem.W.Frag} {g : D → Option D} : UnS (uUn K g) K g := fun H0 O H x dx z Q hd hx e h => ⟨H0, O, dx, z, hd, hx, e, h⟩
def uCb (K : PySem.W.Frag) (g : List D → Option D) : List V → Hp → VK → Prop := fun xs H Q => ∃ (H0 : Hp) (O : Addr → Prop) (ds : List D) (z : D), (∀ a, O a → H a ≠ none) ∧ DenCs K H0 O H xs ds ∧ g ds = some z ∧ ∀ v H', Grow H H' → Den K O H' v z → Q v H'
theorem cbs_u {K : PySem.W.Frag} {g : List D → Option D} : CbS (uCb K g) K g := fun H0 O H xs ds z Q hd hx e h => ⟨H0, O, ds, z, hd, hx, e, h⟩

/-! ### reading an operand -/
section
variable {K : PySem.W.Frag} {H0 : Hp} {O : Addr → Prop} {H : Hp} {v : V}
theorem DenC.int {i : Int} (h : DenC K H0 O H v (.int i)) : v = .int i := by have := h.bare; cases this; rfl
theorem DenC.str {i : Str} (h : DenC K H0 O H v (.str i)) : v = .str i := by have := h.bare; cases this; rfl
theorem DenC.bl {i : Bool} (h : DenC K H0 O H v (.bl i)) : v = .bl i := by have := h.bare; cases this; rfl
theorem DenC.non (h : DenC K H0 O H v .non) : v = .non := by have := h.bare; cases this; rfl
theorem DenC.lst {ds : List D} (h : DenC K H0 O H v (.lst ds)) : ∃ a vs, v = .ref a ∧ H a = some (.lst vs) ∧ Dens K O H vs ds := by
  rcases h with h | ⟨a, e, o, n, t⟩
  · cases h with | lst _ h s => exact ⟨_, _, rfl, h, s⟩
  · cases t with | lst h s => exact ⟨a, _, e, h, s⟩
theorem DenC.dct {ds : List (D × D)} (h : DenC K H0 O H v (.dct ds)) : ∃ a vs, v = .ref a ∧ Rd H a (.dK vs) ∧ DenKV K O H vs ds := by
  rcases h with h | ⟨a, e, o, n, t⟩
  · cases h with | dct _ h s => exact ⟨_, _, rfl, h, s⟩
  · cases t with | dct h s => exact ⟨a, _, e, .inl h, s⟩
theorem DenC.dcu {ds : List (D × D)} (h : DenC K H0 O H v (.dcu ds)) : ∃ a xs ep, v = .ref a ∧ H a = some (duO a xs ep) ∧ DenTK K O H xs ds := by
  rcases h with h | ⟨a, e, o, n, t⟩
  · cases h with | dcu _ _ h s => exact ⟨_, _, _, rfl, h, s⟩
  · cases t with | dcu _ h s => exact ⟨a, _, _, e, h, s⟩
theorem DenC.obj {c : Str} {fs : List (Str × D)} (h : DenC K H0 O H v (.obj c fs)) : ∃ a dx fvs, v = .ref a ∧ H a = some (.ins (He.ga K c) dx fvs) ∧ DenFs K O H fvs fs := by
  rcases h with h | ⟨a, e, o, n, t⟩
  · cases h with | obj _ h s => exact ⟨_, _, _, rfl, h, s⟩
  · cases t with | obj h s => exact ⟨a, _, _, e, h, s⟩
theorem DenC.tup' {ds : List D} (h : DenC K H0 O H v (.tup ds)) : Den K O H v (.tup ds) := by
  rcases h with h | ⟨a, e, o, n, t⟩
  · exact h
  · cases t
theorem DenC.tup {ds : List D} (h : DenC K H0 O H v (.tup ds)) : ∃ a vs, v = .ref a ∧ SqT K H a vs ∧ Dens K O H vs ds := by
  have h' := h.tup'
  clear h
  cases h' with
  | tup n h s => exact ⟨_, _, rfl, .inl (.inl h), s⟩
  | tupK h1 h2 h3 h4 h5 s => exact ⟨_, _, rfl, .inr ⟨_, _, _, h1, h2, h3, h4, h5⟩, s⟩
theorem DenC.scr {ns : List Int} (h : DenC K H0 O H v (.scr ns)) : ∃ a, v = .ref a ∧ SqL K H a (ns.map V.int) := by
  have h' := h.bare
  cases h' with
  | scr n h => exact ⟨_, rfl, .inl h⟩
  | scrK h1 h2 h3 h4 h5 h6 => exact ⟨_, rfl, .inr ⟨_, _, _, h1, h2, h3, h4, h5, h6⟩⟩
end

/-! ### + -/
def addD : D → D → Option D
  | .int i, .int j => some (.int (i + j))
  | .str x, .str y => if x.length + y.length ≤ LIM then some (.str (x ++ y)) else none
  | .lst xs, .lst ys => if xs.length + ys.length ≤ LIM then some (.lst (xs ++ ys)) else none
  | .tup xs, .tup ys => if xs.length + ys.length ≤ LIM then some (.tup (xs ++ ys)) else none
  | _, _ => none
section
variable {X : Cx}
theorem u_add : OpR X (binaryOp .Add) (uOp X.K addD) := by
  intro pins s σ H x y v u Q I rx ry h
  obtain ⟨H0, O, dx, dy, z, hd, hx, hy, e, q⟩ := h
  unfold addD at e
  split at e
  · cases e; cases hx.int; cases hy.int
    exact op_add pins s σ H _ _ v u Q I rx ry ⟨_, _, rfl, rfl, q _ _ (Grow.refl _) (.int _)⟩
  · split at e
    · rename_i hl
      cases e; cases hx.str; cases hy.str
      exact op_add_str pins s σ H _ _ v u Q I rx ry ⟨_, _, rfl, rfl, lim_line hl, q _ _ (Grow.refl _) (.str _)⟩
    · cases e
  · split at e
    · rename_i hl
      cases e
      obtain ⟨a, vs, rfl, ha, sa⟩ := hx.lst
      obtain ⟨b, ws, rfl, hb, sb⟩ := hy.lst
      refine op_cat pins s σ H _ _ v u Q I rx ry ⟨a, b, vs, ws, rfl, rfl, ha, hb, lim_line (by rw [sa.length, sb.length]; exact hl), fun p hp => ?_⟩
      exact q _ _ (Grow.new hp) (.lst (off_new hd hp) upd_same ((sa.append sb).ext (Grow.new hp).ext))
    · cases e
  · split at e
    · rename_i hl
      cases e
      have tx := hx.tup'
      have ty := hy.tup'
      obtain ⟨a, vs, rfl, ha, sa⟩ := hx.tup
      obtain ⟨b, ws, rfl, hb, sb⟩ := hy.tup
      refine op_catA pins s σ H _ _ v u Q I rx ry ⟨a, b, vs, ws, rfl, rfl, ha, hb, lim_line (by rw [sa.length, sb.length]; exact hl), fun e1 => ?_, fun e1 e2 => ?_, fun e1 e2 p hp => ?_⟩
      · subst e1; cases sa; exact q _ _ (Grow.refl _) ty
      · subst e2; cases sb; rw [List.append_nil] at q; exact q _ _ (Grow.refl _) tx
      · exact q _ _ (Grow.new hp) (.tup (off_new hd hp) upd_same ((sa.append sb).ext (Grow.new hp).ext))
    · cases e
  · cases e

/-! ### the other arithmetic -/
def subD : D → D → Option D
  | .int i, .int j => some (.int (i - j))
  | _, _ => none
theorem u_sub : OpR X (binaryOp .Sub) (uOp X.K subD) := by
  intro pins s σ H x y v u Q I rx ry h
  obtain ⟨H0, O, dx, dy, z, hd, hx, hy, e, q⟩ := h
  unfold subD at e
  split at e
  · cases e; cases hx.int; cases hy.int
    exact op_sub pins s σ H _ _ v u Q I rx ry ⟨_, _, rfl, rfl, q _ _ (Grow.refl _) (.int _)⟩
  · cases e
theorem dens_rep {K : PySem.W.Frag} {O : Addr → Prop} {H : Hp} {vs : List V} {ds : List D} (s : Dens K O H vs ds) : ∀ n : Nat, Dens K O H (List.replicate n vs).flatten (List.replicate n ds).flatten
  | 0 => .nil
  | n + 1 => by
    rw [List.replicate_succ, List.replicate_succ, List.flatten_cons, List.flatten_cons]
    exact s.append (dens_rep s n)
def mulD : D → D → Option D
  | .int i, .int j => if (-(2 ^ 64) < i ∧ i < 2 ^ 64) ∨ (-(2 ^ 64) < j ∧ j < 2 ^ 64) then some (.int (i * j)) else none
  | .lst xs, .int k => if 0 ≤ k ∧ k ≤ 1000 ∧ xs.length ≤ 1000 then some (.lst (List.replicate k.toNat xs).flatten) else none
  | _, _ => none
theorem u_mul : OpR X (binaryOp .Mult) (uOp X.K mulD) := by
  intro pins s σ H x y v u Q I rx ry h
  obtain ⟨H0, O, dx, dy, z, hd, hx, hy, e, q⟩ := h
  unfold mulD at e
  split at e
  · split at e
    · rename_i hc
      cases e; cases hx.int; cases hy.int
      exact op_mul pins s σ H _ _ v u Q I rx ry ⟨_, _, rfl, rfl, hc, q _ _ (Grow.refl _) (.int _)⟩
    · cases e
  · split at e
    · rename_i xs k hc
      cases e; cases hy.int
      obtain ⟨a, vs, rfl, ha, sa⟩ := hx.lst
      refine op_rep pins s σ H _ _ v u Q I rx ry ⟨a, k, vs, rfl, rfl, ha, by omega, by omega, ?_, fun p hp => ?_⟩
      · rw [sa.length]
        exact Nat.le_trans (Nat.mul_le_mul hc.2.2 (show k.toNat ≤ 1000 by omega)) (by decide)
      · exact q _ _ (Grow.new hp) (.lst (off_new hd hp) upd_same ((dens_rep sa _).ext (Grow.new hp).ext))
    · cases e
  · cases e
def fdivD : D → D → Option D
  | .int i, .int j => if 0 < j ∧ j < 1073741824 then some (.int (i / j)) else none
  | _, _ => none
theorem u_fdiv : OpR X (binaryOp .FloorDiv) (uOp X.K fdivD) := by
  intro pins s σ H x y v u Q I rx ry h
  obtain ⟨H0, O, dx, dy, z, hd, hx, hy, e, q⟩ := h
  unfold fdivD at e
  split at e
  · split at e
    · rename_i hc
      cases e; cases hx.int; cases hy.int
      exact op_fdiv pins s σ H _ _ v u Q I rx ry ⟨_, _, rfl, rfl, hc, q _ _ (Grow.refl _) (.int _)⟩
    · cases e
  · cases e
def modD : D → D → Option D
  | .int i, .int j => if 0 < j then some (.int (i % j)) else none
  | _, _ => none
theorem u_mod : OpR X (binaryOp .Mod) (uOp X.K modD) := by
  intro pins s σ H x y v u Q I rx ry h
  obtain ⟨H0, O, dx, dy, z, hd, hx, hy, e, q⟩ := h
  unfold modD at e
  split at e
  · split at e
    · rename_i hc
      cases e; cases hx.int; cases hy.int
      exact op_mod pins s σ H _ _ v u Q I rx ry ⟨_, _, rfl, rfl, hc, q _ _ (Grow.refl _) (.int _)⟩
    · cases e
  · cases e
def powD : D → D → Option D
  | .int i, .int j => if 0 ≤ j ∧ j ≤ 1000 ∧ i.natAbs < 1000 then some (.int (i ^ j.toNat)) else none
  | _, _ => none
theorem u_pow : OpR X (binaryOp .Pow) (uOp X.K powD) := by
  intro pins s σ H x y v u Q I rx ry h
  obtain ⟨H0, O, dx, dy, z, hd, hx, hy, e, q⟩ := h
  unfold powD at e
  split at e
  · split at e
    · rename_i hc
      cases e; cases hx.int; cases hy.int
      exact op_pow pins s σ H _ _ v u Q I rx ry ⟨_, _, rfl, rfl, ⟨hc.1, by omega, by omega⟩, q _ _ (Grow.refl _) (.int _)⟩
    · cases e
  · cases e
def negD : D → Option D
  | .int i => some (.int (-i))
  | _ => none
theorem u_neg : UnR X (unaryOp .USub) (uUn X.K negD) := by
  intro pins s σ H x v Q I rx h
  obtain ⟨H0, O, dx, z, hd, hx, e, q⟩ := h
  unfold negD at e
  split at e
  · cases e; cases hx.int
    exact un_neg pins s σ H _ v Q I rx ⟨_, rfl, q _ _ (Grow.refl _) (.int _)⟩
  · cases e

/-! ### < <= > >= on ints and texts -/
def cmpD (p : Int → Int → Bool) (q : List Nat → List Nat → Bool) : D → D → Option D
  | .int i, .int j => some (.bl (p i j))
  | .str x, .str y => some (.bl (q x.cps.toList y.cps.toList))
  | _, _ => none
def ltD : D → D → Option D := cmpD (fun i j => decide (i < j)) (fun x y => decide (x < y))
theorem u_lt : OpR X (compareOp .Lt) (uOp X.K ltD) := by
  intro pins s σ H x y v u Q I rx ry h
  obtain ⟨H0, O, dx, dy, z, hd, hx, hy, e, q⟩ := h
  unfold ltD cmpD at e
  split at e
  · cases e; cases hx.int; cases hy.int
    exact op_lt pins s σ H _ _ v u Q I rx ry ⟨_, _, rfl, rfl, q _ _ (Grow.refl _) (.bl _)⟩
  · cases e; cases hx.str; cases hy.str
    exact op_lt_str pins s σ H _ _ v u Q I rx ry ⟨_, _, rfl, rfl, q _ _ (Grow.refl _) (.bl _)⟩
  · cases e
def leD : D → D → Option D
  | .int i, .int j => some (.bl (decide (i ≤ j)))
  | _, _ => none
theorem u_le : OpR X (compareOp .LtE) (uOp X.K leD) := by
  intro pins s σ H x y v u Q I rx ry h
  obtain ⟨H0, O, dx, dy, z, hd, hx, hy, e, q⟩ := h
  unfold leD at e
  split at e
  · cases e; cases hx.int; cases hy.int
    exact op_le pins s σ H _ _ v u Q I rx ry ⟨_, _, rfl, rfl, q _ _ (Grow.refl _) (.bl _)⟩
  · cases e
def gtD : D → D → Option D
  | .int i, .int j => some (.bl (decide (j < i)))
  | _, _ => none
theorem u_gt : OpR X (compareOp .Gt) (uOp X.K gtD) := by
  intro pins s σ H x y v u Q I rx ry h
  obtain ⟨H0, O, dx, dy, z, hd, hx, hy, e, q⟩ := h
  unfold gtD at e
  split at e
  · cases e; cases hx.int; cases hy.int
    exact op_gt pins s σ H _ _ v u Q I rx ry ⟨_, _, rfl, rfl, q _ _ (Grow.refl _) (.bl _)⟩
  · cases e
/-! ### is None -/
def isNonD : D → D → Option D
  | .non, .non => some (.bl true)
  | _, .non => some (.bl false)
  | _, _ => none
theorem den_non {K : PySem.W.Frag} {O : Addr → Prop} {H : Hp} {v : V} {d : D} (h : Den K O H v d) (n : d ≠ .non) : v ≠ .non := by
  intro e; subst e; cases h; exact n rfl
theorem u_is : OpR X (compareOp .Is) (uOp X.K isNonD) := by
  intro pins s σ H x y v u Q I rx ry h
  obtain ⟨H0, O, dx, dy, z, hd, hx, hy, e, q⟩ := h
  unfold isNonD at e
  split at e
  · cases e; cases hx.non; cases hy.non
    exact op_isN pins s σ H _ _ v u Q I rx ry ⟨rfl, q _ _ (Grow.refl _) (.bl _)⟩
  · rename_i hn
    cases e; cases hy.non
    have nx : x ≠ .non := den_non hx.bare hn
    refine op_isN pins s σ H _ _ v u Q I rx ry ⟨rfl, ?_⟩
    rw [decide_eq_false nx]
    exact q _ _ (Grow.refl _) (.bl _)
  · cases e
def isNotNonD : D → D → Option D
  | .non, .non => some (.bl false)
  | _, .non => some (.bl true)
  | _, _ => none
theorem u_isnot : OpR X (compareOp .IsNot) (uOp X.K isNotNonD) := by
  intro pins s σ H x y v u Q I rx ry h
  obtain ⟨H0, O, dx, dy, z, hd, hx, hy, e, q⟩ := h
  unfold isNotNonD at e
  split at e
  · cases e; cases hx.non; cases hy.non
    exact op_notN pins s σ H _ _ v u Q I rx ry ⟨rfl, q _ _ (Grow.refl _) (.bl _)⟩
  · rename_i hn
    cases e; cases hy.non
    have nx : x ≠ .non := den_non hx.bare hn
    refine op_notN pins s σ H _ _ v u Q I rx ry ⟨rfl, ?_⟩
    rw [decide_eq_false nx]
    exact q _ _ (Grow.refl _) (.bl _)
  · cases e
end
end Py

/-! R3: equality, membership, items, slices, built-in calls on data. -/
namespace Py
open PySem L2
variable [Wd]

mutual
def D.toP : D → PyData
  | .non => .none
  | .bl b => .bool b
  | .int i => .int i
  | .str x => .str x
  | .tup xs => .tuple (D.toPs xs)
  | .lst xs => .list (D.toPs xs)
  | .dct kvs => .dict (D.toPkv kvs)
  | .obj _ _ => .none
  | .exc _ _ => .none
  | .dcu kvs => .dict (D.toPkv kvs)
  | .fn _ => .none
  | .pen => .none
  | .scr _ => .none
def D.toPs : List D → List PyData
  | [] => []
  | x :: xs => D.toP x :: D.toPs xs
def D.toPkv : List (D × D) → List (PyData × PyData)
  | [] => []
  | (k, v) :: r => (D.toP k, D.toP v) :: D.toPkv r
end
mutual
/-- atoms, lists and tuples of them -/
def D.pl : D → Bool
  | .non => true
  | .bl _ => true
  | .int _ => true
  | .str _ => true
  | .tup xs => D.pls xs
  | .lst xs => D.pls xs
  | .dct _ => false
  | .obj _ _ => false
  | .exc _ _ => false
  | .dcu _ => false
  | .fn _ => false
  | .pen => false
  | .scr _ => false
def D.pls : List D → Bool
  | [] => true
  | x :: xs => D.pl x && D.pls xs
end
mutual
def D.dp : D → Nat
  | .tup xs => D.dps xs + 1
  | .lst xs => D.dps xs + 1
  | .dct kvs => D.dpk kvs + 1
  | .non => 0
  | .bl _ => 0
  | .int _ => 0
  | .str _ => 0
  | .obj _ _ => 0
  | .exc _ _ => 0
  | .dcu kvs => D.dpk kvs + 1
  | .fn _ => 0
  | .pen => 0
  | .scr _ => 0
def D.dps : List D → Nat
  | [] => 0
  | x :: xs => max (D.dp x) (D.dps xs)
def D.dpk : List (D × D) → Nat
  | [] => 0
  | (k, v) :: r => max (max (D.dp k) (D.dp v)) (D.dpk r)
end
mutual
theorem toP_plain : ∀ d : D, d.pl = true → d.toP.plain = true ∧ d.toP.depth = d.dp
  | .non, _ => ⟨rfl, rfl⟩
  | .bl _, _ => ⟨rfl, rfl⟩
  | .int _, _ => ⟨rfl, rfl⟩
  | .str _, _ => ⟨rfl, rfl⟩
  | .tup xs, h => by
    obtain ⟨a, b⟩ := toPs_plain xs (by simpa [D.pl] using h)
    refine ⟨by simp only [D.toP, PyData.plain]; exact a, by simp only [D.toP, PyData.depth, D.dp]; rw [b]⟩
  | .lst xs, h => by
    obtain ⟨a, b⟩ := toPs_plain xs (by simpa [D.pl] using h)
    refine ⟨by simp only [D.toP, PyData.plain]; exact a, by simp only [D.toP, PyData.depth, D.dp]; rw [b]⟩
  | .dct _, h => by simp [D.pl] at h
  | .obj _ _, h => by simp [D.pl] at h
  | .exc _ _, h => by simp [D.pl] at h
  | .dcu _, h => by simp [D.pl] at h
  | .fn _, h => by simp [D.pl] at h
  | .pen, h => by simp [D.pl] at h
  | .scr _, h => by simp [D.pl] at h
theorem toPs_plain : ∀ ds : List D, D.pls ds = true → PyData.plainAll (D.toPs ds) = true ∧ PyData.depthAll (D.toPs ds) = D.dps ds
  | [], _ => ⟨rfl, rfl⟩
  | x :: xs, h => by
    have h' : x.pl = true ∧ D.pls xs = true := by simpa [D.pls] using h
    obtain ⟨a, b⟩ := toP_plain x h'.1
    obtain ⟨c, d⟩ := toPs_plain xs h'.2
    refine ⟨by simp only [D.toPs, PyData.plainAll]; rw [a, c]; rfl, by simp only [D.toPs, PyData.depthAll, D.dps]; rw [b, d]⟩
end

section
variable {X : Cx} {pins : List (Addr × Obj)} {σ : St} {H : Hp} {s : Shared} {O : Addr → Prop}
mutual
theorem Den.reads (I : Inv X pins σ H s) : ∀ {v : V} {d : D}, Den X.K O H v d → ∀ u, RelV v u → d.pl = true → ∃ as, Reads s.heap u d.toP as
  | _, _, .non, u, r, _ => by cases r; exact ⟨_, .none⟩
  | _, _, .bl b, u, r, _ => by cases r; exact ⟨_, .bool b⟩
  | _, _, .int i, u, r, _ => by obtain ⟨t, rfl⟩ := r; exact ⟨_, .int i t⟩
  | _, _, .str x, u, r, _ => by obtain ⟨t, rfl⟩ := r; exact ⟨_, .str x t⟩
  | _, _, .tup (a := a) (vs := vs) (ds := ds) n h q, u, r, p => by
    cases r
    obtain ⟨its, rv, ⟨o, e, c, m, dt⟩, _⟩ := I.tuple (xs := vs) (.inl (.inl h))
    obtain ⟨as, ra⟩ := Dens.reads I q its rv (by simpa [D.pl] using p)
    simp only [D.toP]
    exact ⟨_, .tuple e c dt (by simpa using ra)⟩
  | _, _, .tupK (vs := vs) h1 h2 h3 h4 h5 q, u, r, p => by
    cases r
    obtain ⟨its, rv, ⟨o, e, c, m, dt⟩, _⟩ := I.tuple (xs := vs) (.inr ⟨_, _, _, h1, h2, h3, h4, h5⟩)
    obtain ⟨as, ra⟩ := Dens.reads I q its rv (by simpa [D.pl] using p)
    simp only [D.toP]
    exact ⟨_, .tuple e c dt (by simpa using ra)⟩
  | _, _, .lst (vs := vs) n h q, u, r, p => by
    cases r
    obtain ⟨z, its, m, rv, e⟩ := (show ObjOk X.prog X.w H s.heap _ (.lst vs) from I.hok _ _ h)
    obtain ⟨as, ra⟩ := Dens.reads I q its rv (by simpa [D.pl] using p)
    simp only [D.toP]
    exact ⟨_, .list e rfl rfl (by simpa using ra)⟩
  | _, _, .dct _ _ _, u, r, p => by simp [D.pl] at p
  | _, _, .pen _ _, u, r, p => by simp [D.pl] at p
  | _, _, .fn _, u, r, p => by simp [D.pl] at p
  | _, _, .obj _ _ _, u, r, p => by simp [D.pl] at p
  | _, _, .exc _ _ _, u, r, p => by simp [D.pl] at p
  | _, _, .excF _ _ _ _ _ _ _, u, r, p => by simp [D.pl] at p
  | _, _, .dcu _ _ _ _, u, r, p => by simp [D.pl] at p
  | _, _, .scr _ _, u, r, p => by simp [D.pl] at p
  | _, _, .scrK _ _ _ _ _ _, u, r, p => by simp [D.pl] at p
theorem Dens.reads (I : Inv X pins σ H s) : ∀ {vs : List V} {ds : List D}, Dens X.K O H vs ds → ∀ us, Vals vs us → D.pls ds = true → ∃ as, ReadsAll s.heap us (D.toPs ds) as
  | _, _, .nil, us, r, _ => by cases r; exact ⟨_, .nil⟩
  | _, _, .cons (d := d) (ds := ds) h q, us, r, p => by
    have p' : d.pl = true ∧ D.pls ds = true := by simpa [D.pls] using p
    cases r with
    | cons r1 r2 =>
      obtain ⟨as, a⟩ := Den.reads I h _ r1 p'.1
      obtain ⟨bs, b⟩ := Dens.reads I q _ r2 p'.2
      simp only [D.toPs]
      exact ⟨_, .cons a b⟩
end
end

/-! ### == and != -/
def eqB (x y : D) : Bool := PyData.eqv x.toP y.toP
def okEq (x y : D) : Bool := x.pl && y.pl && decide (min x.dp y.dp ≤ 60)
def eqD (x y : D) : Option D := if okEq x y = true then some (.bl (eqB x y)) else none
def neD (x y : D) : Option D := if okEq x y = true then some (.bl (!eqB x y)) else none
section
variable {X : Cx}
theorem okEq_of {x y : D} (h : okEq x y = true) : x.pl = true ∧ y.pl = true ∧ min x.dp y.dp ≤ 60 := by
  unfold okEq at h
  simp only [Bool.and_eq_true, decide_eq_true_eq] at h
  exact ⟨h.1.1, h.1.2, h.2⟩
theorem u_eq (hu : X.A.units + 64 < cLine) : OpR X (compareOp .Eq) (uOp X.K eqD) := by
  intro pins s σ H x y v u Q I rx ry h
  obtain ⟨H0, O, dx, dy, z, hd, hx, hy, e, q⟩ := h
  unfold eqD at e
  split at e
  · rename_i hc
    cases e
    obtain ⟨p1, p2, p3⟩ := okEq_of hc
    obtain ⟨as, ra⟩ := hx.bare.reads I v rx p1
    obtain ⟨bs, rb⟩ := hy.bare.reads I u ry p2
    have d1 := toP_plain dx p1
    have d2 := toP_plain dy p2
    exact PySem.SeqAt.eq_plain ra rb d1.1 d2.1 (by rw [d1.2, d2.2]; omega) ⟨.bl _, H, I, rfl, q _ _ (Grow.refl _) (.bl _)⟩
  · cases e
theorem u_ne (hu : X.A.units + 64 < cLine) : OpR X (compareOp .NotEq) (uOp X.K neD) := by
  intro pins s σ H x y v u Q I rx ry h
  obtain ⟨H0, O, dx, dy, z, hd, hx, hy, e, q⟩ := h
  unfold neD at e
  split at e
  · rename_i hc
    cases e
    obtain ⟨p1, p2, p3⟩ := okEq_of hc
    obtain ⟨as, ra⟩ := hx.bare.reads I v rx p1
    obtain ⟨bs, rb⟩ := hy.bare.reads I u ry p2
    have d1 := toP_plain dx p1
    have d2 := toP_plain dy p2
    exact PySem.SeqAt.ne_plain ra rb d1.1 d2.1 (by rw [d1.2, d2.2]; omega) ⟨.bl _, H, I, rfl, q _ _ (Grow.refl _) (.bl _)⟩
  · cases e

/-! ### dicts by data -/
def keyOf : D → Option Key
  | .int i => some (.inl i)
  | .str x => some (.inr x)
  | _ => none
def keyIsD (d : D) (k : Key) : Bool := match d, k with
  | .int i, .inl j => decide (i = j)
  | .str x, .inr y => decide (x = y)
  | _, _ => false
theorem keyIsD_of (k k' : Key) : keyIsD (keyD k) k' = decide (k = k') := by
  cases k <;> cases k' <;> simp [keyIsD, keyD]
def dGet (es : List (D × D)) (k : Key) : Option D := (es.find? fun e => keyIsD e.1 k).map (·.2)
def dPut (es : List (D × D)) (k : Key) (d : D) : List (D × D) :=
  if (es.any fun e => keyIsD e.1 k) = true then es.map (fun e => if keyIsD e.1 k = true then (e.1, d) else e) else es ++ [(keyD k, d)]
def dMerge (es : List (D × D)) : List (Key × D) → List (D × D)
  | [] => es
  | (k, d) :: r => dMerge (dPut es k d) r
section
variable {K : PySem.W.Frag} {O : Addr → Prop} {H : Hp}
theorem DenKV.get (k : Key) : ∀ {kvs : List (Key × V)} {es : List (D × D)}, DenKV K O H kvs es → (∀ d, dGet es k = some d → ∃ v, valV kvs k = some v ∧ Den K O H v d) ∧ (dGet es k = none → valV kvs k = none)
  | _, _, .nil => ⟨fun d e => by simp [dGet] at e, fun _ => rfl⟩
  | _, _, .cons (k := k') (v := v) (d := d) (kvs := kvs) (es := es) h s => by
    obtain ⟨a, b⟩ := DenKV.get k s
    by_cases e : k' = k
    · refine ⟨fun d' q => ?_, fun q => ?_⟩
      · refine ⟨v, valV_pos (p := (k', v)) e, ?_⟩
        have : dGet ((keyD k', d) :: es) k = some d := by unfold dGet; rw [List.find?_cons, show keyIsD (keyD k', d).1 k = true by show keyIsD (keyD k') k = true; rw [keyIsD_of]; exact decide_eq_true e]; rfl
        rw [this] at q; cases q; exact h
      · have : dGet ((keyD k', d) :: es) k = some d := by unfold dGet; rw [List.find?_cons, show keyIsD (keyD k', d).1 k = true by show keyIsD (keyD k') k = true; rw [keyIsD_of]; exact decide_eq_true e]; rfl
        rw [this] at q; cases q
    · have t : dGet ((keyD k', d) :: es) k = dGet es k := by unfold dGet; rw [List.find?_cons, show keyIsD (keyD k', d).1 k = false by show keyIsD (keyD k') k = false; rw [keyIsD_of]; exact decide_eq_false e]
      rw [t, valV_neg (p := (k', v)) (r := kvs) e]
      exact ⟨a, b⟩
theorem DenKV.any (k : Key) : ∀ {kvs : List (Key × V)} {es : List (D × D)}, DenKV K O H kvs es → (kvs.any fun kv => decide (kv.1 = k)) = (es.any fun e => keyIsD e.1 k)
  | _, _, .nil => rfl
  | _, _, .cons (k := k') h s => by
    rw [List.any_cons, List.any_cons, DenKV.any k s]
    show (decide (k' = k) || _) = (keyIsD (keyD k') k || _)
    rw [keyIsD_of]
theorem DenKV.append : ∀ {a b : List (Key × V)} {c d : List (D × D)}, DenKV K O H a c → DenKV K O H b d → DenKV K O H (a ++ b) (c ++ d)
  | _, _, _, _, .nil, s => s
  | _, _, _, _, .cons h r, s => .cons h (DenKV.append r s)
theorem DenKV.mapPut (k : Key) {v : V} {d : D} (h : Den K O H v d) : ∀ {kvs : List (Key × V)} {es : List (D × D)}, DenKV K O H kvs es →
    DenKV K O H (kvs.map (fun kv => if kv.1 = k then (kv.1, v) else kv)) (es.map (fun e => if keyIsD e.1 k = true then (e.1, d) else e))
  | _, _, .nil => .nil
  | _, _, .cons (k := k') (v := v') (d := d') (kvs := kvs) (es := es) g s => by
    rw [List.map_cons, List.map_cons]
    by_cases e : k' = k
    · rw [if_pos (show (k', v').1 = k from e), if_pos (show keyIsD (keyD k', d').1 k = true by show keyIsD (keyD k') k = true; rw [keyIsD_of]; exact decide_eq_true e)]
      exact .cons h (DenKV.mapPut k h s)
    · rw [if_neg (show ¬ (k', v').1 = k from e), if_neg (show ¬ keyIsD (keyD k', d').1 k = true by show ¬ keyIsD (keyD k') k = true; rw [keyIsD_of, decide_eq_false e]; exact Bool.false_ne_true)]
      exact .cons g (DenKV.mapPut k h s)
theorem DenKV.put (k : Key) {v : V} {d : D} {kvs : List (Key × V)} {es : List (D × D)} (s : DenKV K O H kvs es) (h : Den K O H v d) : DenKV K O H (putK kvs k v) (dPut es k d) := by
  unfold putK dPut
  rw [s.any k]
  split
  · exact s.mapPut k h
  · exact s.append (.cons h .nil)
end
theorem keyOf_v {K : PySem.W.Frag} {O : Addr → Prop} {H : Hp} {v : V} {d : D} {k : Key} (h : Den K O H v d) (e : keyOf d = some k) : v = kV k := by
  cases d <;> simp only [keyOf] at e <;> first | (cases e; cases h; rfl) | cases e
theorem keyOf_keyD (k : Key) : keyOf (keyD k) = some k := by cases k <;> rfl

/-! ### in -/
def inB (x : D) (xs : List D) : Bool := xs.any fun y => eqB y x
def inD (x c : D) : Option D := match c with
  | .str z => match x with
    | .str y => some (.bl (!(Builtin.Str.occurrences z y 0 z.length 1).isEmpty))
    | _ => none
  | .lst xs => if x.pl && D.pls xs && decide (min (D.dps xs) x.dp ≤ 60) then some (.bl (inB x xs)) else none
  | .tup xs => if x.pl && D.pls xs && decide (min (D.dps xs) x.dp ≤ 60) then some (.bl (inB x xs)) else none
  | .dct es => match keyOf x with
    | some k => some (.bl (dGet es k).isSome)
    | none => none
  | _ => none
def notD : D → D
  | .bl b => .bl (!b)
  | d => d
def notInD (x c : D) : Option D := (inD x c).map notD
theorem any_toPs (e : PyData → Bool) : ∀ xs : List D, (D.toPs xs).any e = xs.any fun y => e y.toP
  | [] => by simp [D.toPs]
  | x :: xs => by simp [D.toPs, any_toPs e xs]
theorem u_in_core (hu : X.A.units + 66 < cLine) {neg : Bool} {op : CmpOp} (hop : op = if neg then CmpOp.NotIn else CmpOp.In) : OpR X (compareOp op) (uOp X.K (if neg then notInD else inD)) := by
  intro pins s σ H x y v u Q I rx ry h
  obtain ⟨H0, O, dx, dy, z, hd, hx, hy, e, q⟩ := h
  obtain ⟨b, hb, hz⟩ : ∃ b, inD dx dy = some (.bl b) ∧ z = .bl (if neg then !b else b) := by
    have key : ∀ w, inD dx dy = some w → ∃ b, w = .bl b := by
      intro w hw
      unfold inD at hw
      split at hw
      · split at hw <;> cases hw; exact ⟨_, rfl⟩
      · split at hw <;> cases hw; exact ⟨_, rfl⟩
      · split at hw <;> cases hw; exact ⟨_, rfl⟩
      · split at hw <;> cases hw; exact ⟨_, rfl⟩
      · cases hw
    cases neg with
    | true =>
      have e' : (inD dx dy).map notD = some z := e
      cases hi : inD dx dy with
      | none => rw [hi] at e'; cases e'
      | some w =>
        obtain ⟨b, rfl⟩ := key w hi
        rw [hi] at e'
        exact ⟨b, rfl, (Option.some.inj e').symm⟩
    | false =>
      have e' : inD dx dy = some z := e
      obtain ⟨b, rfl⟩ := key z e'
      exact ⟨b, e', rfl⟩
  subst hz
  have fin : ∀ {H' : Hp} {s' : Shared}, Inv X pins σ H' s' → H' = H → EP X pins σ Q (.bool (if neg then !b else b)) s' := fun I' e => by
    subst e
    exact ⟨.bl _, _, I', rfl, q _ _ (Grow.refl _) (.bl _)⟩
  unfold inD at hb
  split at hb
  · split at hb
    · cases hb
      cases hx.str; cases hy.str
      cases neg with
      | true => subst hop; exact op_notin_str pins s σ H _ _ v u Q I rx ry ⟨_, _, rfl, rfl, q _ _ (Grow.refl _) (.bl _)⟩
      | false => subst hop; exact op_in_str pins s σ H _ _ v u Q I rx ry ⟨_, _, rfl, rfl, q _ _ (Grow.refl _) (.bl _)⟩
    · cases hb
  · split at hb
    · rename_i xs hc
      cases hb
      simp only [Bool.and_eq_true, decide_eq_true_eq] at hc
      obtain ⟨as, ra⟩ := hx.bare.reads I v rx hc.1.1
      obtain ⟨bs, rb⟩ := hy.bare.reads I u ry (by simpa [D.pl] using hc.1.2)
      have d1 := toP_plain dx hc.1.1
      have d2 := toPs_plain xs hc.1.2
      simp only [D.toP] at rb
      have ev : ((D.toPs xs).any fun y => PyData.eqv y dx.toP) = inB dx xs := any_toPs _ xs
      cases neg with
      | true =>
        subst hop
        exact PySem.SeqAt.notIn_list_data rb ra d2.1 d1.1 (by rw [d1.2, d2.2]; omega) (by rw [ev]; exact fin I rfl)
      | false =>
        subst hop
        exact PySem.SeqAt.in_list_data rb ra d2.1 d1.1 (by rw [d1.2, d2.2]; omega) (by rw [ev]; exact fin I rfl)
    · cases hb
  · split at hb
    · rename_i xs hc
      cases hb
      simp only [Bool.and_eq_true, decide_eq_true_eq] at hc
      obtain ⟨as, ra⟩ := hx.bare.reads I v rx hc.1.1
      obtain ⟨bs, rb⟩ := hy.bare.reads I u ry (by simpa [D.pl] using hc.1.2)
      have d1 := toP_plain dx hc.1.1
      have d2 := toPs_plain xs hc.1.2
      simp only [D.toP] at rb
      have ev : ((D.toPs xs).any fun y => PyData.eqv y dx.toP) = inB dx xs := any_toPs _ xs
      cases neg with
      | true =>
        subst hop
        exact PySem.SeqAt.notIn_tuple_data rb ra d2.1 d1.1 (by rw [d1.2, d2.2]; omega) (by rw [ev]; exact fin I rfl)
      | false =>
        subst hop
        exact PySem.SeqAt.in_tuple_data rb ra d2.1 d1.1 (by rw [d1.2, d2.2]; omega) (by rw [ev]; exact fin I rfl)
    · cases hb
  · split at hb
    · rename_i es _ k hk
      cases hb
      obtain ⟨a, kvs, rfl, ha, sa⟩ := hy.dct
      cases keyOf_v hx.bare hk
      have g : DGet H a (kV k) (valV kvs k) := .inl ⟨kvs, k, ha, rfl, rfl⟩
      cases (show u = Value.ref a from ry)
      have eb : (dGet es k).isSome = (valV kvs k).isSome := by
        obtain ⟨g1, g2⟩ := sa.get k
        cases hq : dGet es k with
        | none => rw [g2 hq]; rfl
        | some d => obtain ⟨w, hw, _⟩ := g1 d hq; rw [hw]; rfl
      rw [eb] at fin
      cases neg with
      | true => subst hop; exact d_notIn (by omega) I g rx fun s3 I3 => fin I3 rfl
      | false => subst hop; exact d_in (by omega) I g rx fun s3 I3 => fin I3 rfl
    · cases hb
  · cases hb
theorem u_in (hu : X.A.units + 66 < cLine) : OpR X (compareOp .In) (uOp X.K inD) := u_in_core (neg := false) hu rfl
theorem u_notin (hu : X.A.units + 66 < cLine) : OpR X (compareOp .NotIn) (uOp X.K notInD) := u_in_core (neg := true) hu rfl
end
end Py

/-! R4: items, slices, built-in calls. -/
namespace Py
open PySem L2
variable [Wd]

section
variable {X : Cx}
/-! ### x[i] -/
theorem Dens.at_ {K : PySem.W.Frag} {O : Addr → Prop} {H : Hp} {vs : List V} {ds : List D} (s : Dens K O H vs ds) {i : Int} {d : D} (e : atI ds i = some d) : ∃ v, atI vs i = some v ∧ Den K O H v d := by
  unfold atI at e ⊢
  rw [s.length]
  cases q : ixN ds.length i with
  | none => rw [q] at e; cases e
  | some j => rw [q] at e; exact s.get j d e
def ixD : D → D → Option D
  | .lst xs, .int i => atI xs i
  | .tup xs, .int i => atI xs i
  | .scr ns, .int i => (atI ns i).map .int
  | .str z, .int i => if z.length ≤ LIM then (atI z.cps.toList i).map fun c => .str ⟨#[c]⟩ else none
  | .dct es, k => match keyOf k with
    | some k => dGet es k
    | none => none
  | _, _ => none
theorem ix_dict (hu : X.A.units + 1 < cLine) : IxR X (fun x y H Q => ∃ a v, x = .ref a ∧ DGet H a y (some v) ∧ Q v H) := by
  intro value slice pins s σ H x y v u Q I rx ry h hs
  obtain ⟨a, w, rfl, g, q⟩ := h
  cases (show v = Value.ref a from rx)
  exact PyProof.Rows.tail_any (dict_typeIs I g) PySem.F.slot_dict_getitem.lookup (d_getItem hu I g ry fun w' s' I' r' => ⟨w, H, I', r', q⟩) hs
theorem atI_map {α β : Type} (g : α → β) (xs : List α) (i : Int) : atI (xs.map g) i = (atI xs i).map g := by
  unfold atI
  rw [List.length_map]
  cases ixN xs.length i with
  | none => rfl
  | some j => show (xs.map g)[j]? = (xs[j]?).map g; rw [List.getElem?_map]
theorem u_ix (hu : X.A.units + 1 < cLine) : IxR X (uOp X.K ixD) := by
  intro value slice pins s σ H x y v u Q I rx ry h hs
  obtain ⟨H0, O, dx, dy, z, hd, hx, hy, e, q⟩ := h
  unfold ixD at e
  split at e
  · cases hy.int
    obtain ⟨a, vs, rfl, ha, sa⟩ := hx.lst
    obtain ⟨w, ew, dw⟩ := sa.at_ e
    exact ix_list value slice pins s σ H _ _ v u Q I rx ry ⟨a, vs, _, w, rfl, rfl, SqL.of ha, ew, q _ _ (Grow.refl _) dw⟩ hs
  · cases hy.int
    obtain ⟨a, vs, rfl, ha, sa⟩ := hx.tup
    obtain ⟨w, ew, dw⟩ := sa.at_ e
    exact ix_tup value slice pins s σ H _ _ v u Q I rx ry ⟨a, vs, _, w, rfl, rfl, ha, ew, q _ _ (Grow.refl _) dw⟩ hs
  · rename_i ns i
    cases hy.int
    obtain ⟨a, rfl, ha⟩ := hx.scr
    cases em : atI ns i with
    | none => rw [em] at e; cases e
    | some n =>
      rw [em] at e; cases e
      exact ix_list value slice pins s σ H _ _ v u Q I rx ry ⟨a, _, _, .int n, rfl, rfl, ha, by rw [atI_map, em]; rfl, q _ _ (Grow.refl _) (.int n)⟩ hs
  · split at e
    · rename_i z' i hl
      cases hy.int; cases hx.str
      cases em : atI z'.cps.toList i with
      | none => rw [em] at e; cases e
      | some c =>
        rw [em] at e; cases e
        exact ix_str value slice pins s σ H _ _ v u Q I rx ry ⟨z', i, c, rfl, rfl, lim_line hl, em, q _ _ (Grow.refl _) (.str _)⟩ hs
    · cases e
  · split at e
    · rename_i es _ _ k hk
      obtain ⟨a', kvs, rfl, ha', sa⟩ := hx.dct
      cases keyOf_v hy.bare hk
      obtain ⟨w', ev, dv⟩ := (sa.get k).1 z e
      exact ix_dict hu value slice pins s σ H _ _ v u Q I rx ry ⟨a', w', rfl, by rw [← ev]; exact .inl ⟨kvs, k, ha', rfl, rfl⟩, q _ _ (Grow.refl _) dv⟩ hs
    · cases e
  · cases e
/-! ### d[k] -/
def dixD : D → D → Option D
  | .dct es, k => match keyOf k with
    | some k => dGet es k
    | none => none
  | _, _ => none
theorem sim_dget {f : Cf} {td ty : TE} {a b : CE} (ha : SimC f td a) (hb : SimC f ty b) : SimE f (tDGet td ty) (cOp dixD a b) := fun P O σ H ρ Q rl w => by
  refine ha P O σ H ρ _ rl (M.wp_mono (M.wp_bind.mp w) (fun dx w1 x H1 g1 x1 => ?_) fun _ z => z)
  refine hb P O σ H1 ρ _ (rl.growTo g1) (M.wp_mono (M.wp_bind.mp w1) (fun dy w2 y H2 g2 y2 => ?_) fun _ z => z)
  unfold lift2 at w2
  split at w2
  · rename_i z e
    unfold dixD at e
    split at e
    · split at e
      · rename_i es dy' _ k hk
        obtain ⟨a', kvs, rfl, ha', sa⟩ := (x1.grow g2).dct
        cases keyOf_v y2.bare hk
        obtain ⟨v, ev, dv⟩ := (sa.get k).1 z e
        exact ⟨a', v, rfl, by rw [← ev]; exact .inl ⟨kvs, k, ha', rfl, rfl⟩, w2 v H2 (g1.trans g2) dv⟩
      · cases e
    · cases e
  · exact w2.elim
/-! ### d.get(k, x) -/
def dget2D : D → D → D → Option D
  | .dct es, k, x => match keyOf k with
    | some k => some ((dGet es k).getD x)
    | none => none
  | _, _, _ => none
def lift3 (g : D → D → D → Option D) (x y z : D) : M D := match g x y z with
  | some w => .ret w
  | none => .stuck
def cOp3 (g : D → D → D → Option D) (a b c : CE) : CE := fun ρ => (a ρ).bind fun x => (b ρ).bind fun y => (c ρ).bind fun z => lift3 g x y z
/-- the receiver is known to be a dict as soon as it is read -/
def asDct : D → M D
  | .dct es => .ret (.dct es)
  | _ => .stuck
def cGet2 (a b c : CE) : CE := fun ρ => (a ρ).bind fun x => (asDct x).bind fun x => (b ρ).bind fun y => (c ρ).bind fun z => lift3 dget2D x y z
theorem sim_get2 {f : Cf} {td ty tx : TE} {a b c : CE} (ha : SimC f td a) (hb : SimC f ty b) (hc : SimE f tx c) : SimE f (tDGet2 td ty tx) (cGet2 a b c) := fun P O σ H ρ Q rl w => by
  refine ha P O σ H ρ _ rl (M.wp_mono (M.wp_bind.mp w) (fun dx w1 x H1 g1 x1 => ?_) fun _ z => z)
  cases dx with
  | dct es =>
    have w1' := M.wp_bind.mp w1
    obtain ⟨a', kvs, rfl, ha', sa⟩ := x1.dct
    refine ⟨a', rfl, .inl ⟨kvs, ha'⟩, ?_⟩
    refine hb P O σ H1 ρ _ (rl.growTo g1) (M.wp_mono (M.wp_bind.mp w1') (fun dy w2 y H2 g2 y2 => ?_) fun _ z => z)
    refine hc P O σ H2 ρ _ ((rl.growTo g1).growTo g2) (M.wp_mono (M.wp_bind.mp w2) (fun dz w3 z H3 g3 z3 => ?_) fun _ z => z)
    unfold lift3 at w3
    split at w3
    · rename_i r e
      have e' : (match keyOf dy with
        | some k => some ((dGet es k).getD dz)
        | none => none) = some r := e
      cases hk : keyOf dy with
      | none => rw [hk] at e'; cases e'
      | some k =>
        rw [hk] at e'
        cases e'
        cases keyOf_v y2.bare hk
        have ha3 : Rd H3 a' (.dK kvs) := (g2.trans g3).rd ha'
        have sa3 := sa.ext (g2.trans g3).ext
        refine ⟨valV kvs k, .inl ⟨kvs, k, ha3, rfl, rfl⟩, ?_⟩
        cases em : dGet es k with
        | none =>
          rw [(sa3.get k).2 em]
          rw [em] at w3
          exact w3 z H3 ((g1.trans g2).trans g3) z3
        | some d =>
          obtain ⟨v, ev, dv⟩ := (sa3.get k).1 d em
          rw [ev]
          rw [em] at w3
          exact w3 v H3 ((g1.trans g2).trans g3) dv
    · exact w3.elim
  | _ => exact w1.elim

/-! ### x[lo:hi] -/
def cutD (xs : List D) (lo hi : Option Int) : List D := (xs.drop (HT.sIx xs.length 0 lo)).take (HT.sIx xs.length xs.length hi - HT.sIx xs.length 0 lo)
def slD : D → Option Int → Option Int → Option D
  | .lst xs, lo, hi => some (.lst (cutD xs lo hi))
  | .tup xs, lo, hi => some (.tup (cutD xs lo hi))
  | .str z, lo, hi => if z.length ≤ LIM then some (.str (cutS z lo hi)) else none
  | _, _, _ => none
theorem dens_cut {K : PySem.W.Frag} {O : Addr → Prop} {H : Hp} {vs : List V} {ds : List D} (s : Dens K O H vs ds) (lo hi : Option Int) : Dens K O H (cutV vs lo hi) (cutD ds lo hi) := by
  unfold cutV cutD
  rw [s.length]
  exact (s.drop _).take _
def uSl (K : PySem.W.Frag) : V → Option Int → Option Int → Hp → VK → Prop := fun x lo hi H Q => ∃ (H0 : Hp) (O : Addr → Prop) (dx z : D), (∀ a, O a → H a ≠ none) ∧ DenC K H0 O H x dx ∧ slD dx lo hi = some z ∧ ∀ v H', Grow H H' → Den K O H' v z → Q v H'
theorem u_sl : SlR X (uSl X.K) := by
  intro pins s σ H x v vl vu lo hi sl Q I rx hs pl pu h
  obtain ⟨H0, O, dx, z, hd, hx, e, q⟩ := h
  unfold slD at e
  split at e
  · cases e
    obtain ⟨a, vs, rfl, ha, sa⟩ := hx.lst
    exact sl_list pins s σ H _ v vl vu lo hi sl Q I rx hs pl pu ⟨a, vs, rfl, SqL.of ha, fun p hp => q _ _ (Grow.new hp) (.lst (off_new hd hp) upd_same ((dens_cut sa lo hi).ext (Grow.new hp).ext))⟩
  · cases e
    have tx := hx.tup'
    obtain ⟨a, vs, rfl, ha, sa⟩ := hx.tup
    refine sl_tupA pins s σ H _ v vl vu lo hi sl Q I rx hs pl pu ⟨a, vs, rfl, ha, fun hw => ?_, fun hw p hp => q _ _ (Grow.new hp) (.tup (off_new hd hp) upd_same ((dens_cut sa lo hi).ext (Grow.new hp).ext))⟩
    refine q _ _ (Grow.refl _) ?_
    have : ∀ xs lo hi, vs.length = xs.length → (HT.sIx vs.length 0 lo = 0 ∧ HT.sIx vs.length vs.length hi = vs.length) → cutD xs lo hi = xs := by
      intro xs lo hi el hw
      unfold cutD
      rw [el] at hw
      rw [hw.1, hw.2, List.drop_zero, Nat.sub_zero, List.take_length]
    rw [this _ _ _ sa.length hw]; exact tx
  · split at e
    · rename_i hl
      cases e; cases hx.str
      exact sl_str pins s σ H _ v vl vu lo hi sl Q I rx hs pl pu ⟨_, rfl, lim_line hl, q _ _ (Grow.refl _) (.str _)⟩
    · cases e
  · cases e
abbrev CO := Rho → M (Option Int)
def SimO (f : Cf) (to : TO) (c : CO) : Prop := ∀ (P : List Pin) (O : Addr → Prop) (σ : St) (H : Hp) (ρ : Rho) (Q : Option Int → Hp → Prop), f.Rel P O σ H ρ →
  (c ρ).wp (fun b => ∀ H', Gr f.z O H H' → Q b H') (XP f) → to σ H Q
def cNo : CO := fun _ => .ret none
def asInt : D → M (Option Int)
  | .int i => .ret (some i)
  | _ => .stuck
def cPart (a : CE) : CO := fun ρ => (a ρ).bind asInt
theorem sim_no {f : Cf} : SimO f tNoPart cNo := fun P O σ H ρ Q rl w => w H (Gr.refl _ _ H)
theorem sim_part {f : Cf} {te : TE} {a : CE} (ha : SimE f te a) : SimO f (tPart te) (cPart a) := fun P O σ H ρ Q rl w => by
  refine ha P O σ H ρ _ rl (M.wp_mono (M.wp_bind.mp w) (fun d w1 v H1 g1 x1 => ?_) fun _ z => z)
  cases d <;> first | exact w1.elim | skip
  cases x1
  exact ⟨_, rfl, w1 H1 g1⟩
def liftS (x : D) (lo hi : Option Int) : M D := match slD x lo hi with
  | some z => .ret z
  | none => .stuck
def cSl (a : CE) (l u : CO) : CE := fun ρ => (a ρ).bind fun x => (l ρ).bind fun lo => (u ρ).bind fun hi => liftS x lo hi
theorem sim_sl {f : Cf} {te : TE} {tl th : TO} {a : CE} {l u : CO} (ha : SimC f te a) (hl : SimO f tl l) (hu : SimO f th u) : SimE f (tSl (uSl f.K) te tl th) (cSl a l u) := fun P O σ H ρ Q rl w => by
  refine ha P O σ H ρ _ rl (M.wp_mono (M.wp_bind.mp w) (fun dx w1 x H1 g1 x1 => ?_) fun _ z => z)
  refine hl P O σ H1 ρ _ (rl.growTo g1) (M.wp_mono (M.wp_bind.mp w1) (fun lo w2 H2 g2 => ?_) fun _ z => z)
  refine hu P O σ H2 ρ _ ((rl.growTo g1).growTo g2) (M.wp_mono (M.wp_bind.mp w2) (fun hi w3 H3 g3 => ?_) fun _ z => z)
  unfold liftS at w3
  split at w3
  · rename_i z e
    exact ⟨f.H0, O, dx, z, (((rl.growTo g1).growTo g2).growTo g3).dom, (x1.grow g2).grow g3, e, fun v H' g4 v4 => w3 v H' (((g1.trans g2).trans g3).trans g4.gr) v4⟩
  · exact w3.elim

/-! ### built-in calls -/
def lenD : List D → Option D
  | [.lst xs] => some (.int xs.length)
  | [.tup xs] => some (.int xs.length)
  | [.scr ns] => some (.int ns.length)
  | [.str z] => if z.length ≤ LIM then some (.int z.length) else none
  | [.dct es] => none
  | _ => none
theorem DenCs.one {K : PySem.W.Frag} {H0 : Hp} {O : Addr → Prop} {H : Hp} {xs : List V} {d : D} (h : DenCs K H0 O H xs [d]) : ∃ v, xs = [v] ∧ DenC K H0 O H v d := by
  cases h with
  | cons h t => cases t; exact ⟨_, rfl, h⟩
theorem DenCs.two {K : PySem.W.Frag} {H0 : Hp} {O : Addr → Prop} {H : Hp} {xs : List V} {d e : D} (h : DenCs K H0 O H xs [d, e]) : ∃ v w, xs = [v, w] ∧ DenC K H0 O H v d ∧ DenC K H0 O H w e := by
  cases h with
  | cons h t => obtain ⟨w, e, q⟩ := t.one; subst e; exact ⟨_, _, rfl, h, q⟩
theorem u_len : CallR X (.builtin "len") (uCb X.K lenD) := by
  intro pins s σ H xs us Q I r h
  obtain ⟨H0, O, ds, z, hd, hx, e, q⟩ := h
  unfold lenD at e
  split at e
  · cases e
    obtain ⟨v, rfl, hv⟩ := hx.one
    obtain ⟨a, vs, rfl, ha, sa⟩ := hv.lst
    rw [← sa.length] at q
    exact call_len pins s σ H _ us Q I r ⟨_, vs.length, rfl, .inl ⟨vs, SqL.of ha, rfl⟩, q _ _ (Grow.refl _) (.int _)⟩
  · cases e
    obtain ⟨v, rfl, hv⟩ := hx.one
    obtain ⟨a, vs, rfl, ha, sa⟩ := hv.tup
    rw [← sa.length] at q
    exact call_len pins s σ H _ us Q I r ⟨_, vs.length, rfl, .inr ⟨vs, ha, rfl⟩, q _ _ (Grow.refl _) (.int _)⟩
  · rename_i ns
    cases e
    obtain ⟨v, rfl, hv⟩ := hx.one
    obtain ⟨a, rfl, ha⟩ := hv.scr
    exact call_len pins s σ H _ us Q I r ⟨_, ns.length, rfl, .inl ⟨_, ha, by rw [List.length_map]⟩, q _ _ (Grow.refl _) (.int _)⟩
  · split at e
    · rename_i hl
      cases e
      obtain ⟨v, rfl, hv⟩ := hx.one
      cases hv.str
      exact call_len pins s σ H _ us Q I r ⟨_, _, rfl, ⟨lim_line hl, rfl⟩, q _ _ (Grow.refl _) (.int _)⟩
    · cases e
  · cases e
  · cases e
def maxD : List D → Option D
  | [.int i, .int j] => some (.int (if j > i then j else i))
  | _ => none
theorem u_max (hc : X.calm = true) : CallR X (.builtin "max") (uCb X.K maxD) := by
  intro pins s σ H xs us Q I r h
  obtain ⟨H0, O, ds, z, hd, hx, e, q⟩ := h
  unfold maxD at e
  split at e
  · cases e
    obtain ⟨v, w, rfl, hv, hw⟩ := hx.two
    cases hv.int; cases hw.int
    exact call_max2 hc pins s σ H _ us Q I r ⟨_, _, rfl, q _ _ (Grow.refl _) (.int _)⟩
  · cases e
def minD : List D → Option D
  | [.int i, .int j] => some (.int (if j < i then j else i))
  | _ => none
theorem u_min (hc : X.calm = true) : CallR X (.builtin "min") (uCb X.K minD) := by
  intro pins s σ H xs us Q I r h
  obtain ⟨H0, O, ds, z, hd, hx, e, q⟩ := h
  unfold minD at e
  split at e
  · cases e
    obtain ⟨v, w, rfl, hv, hw⟩ := hx.two
    cases hv.int; cases hw.int
    exact call_min2 hc pins s σ H _ us Q I r ⟨_, _, rfl, q _ _ (Grow.refl _) (.int _)⟩
  · cases e
/-- a list of bools; of ints -/
def blsOf : List D → Option (List Bool)
  | [] => some []
  | .bl b :: r => (blsOf r).map (b :: ·)
  | _ => none
def intsOf : List D → Option (List Int)
  | [] => some []
  | .int b :: r => (intsOf r).map (b :: ·)
  | _ => none
theorem blsOf_v {K : PySem.W.Frag} {O : Addr → Prop} {H : Hp} : ∀ {vs : List V} {ds : List D} {bs : List Bool}, Dens K O H vs ds → blsOf ds = some bs → vs = bs.map V.bl
  | _, _, bs, .nil, e => by cases e; rfl
  | _, _, bs, .cons (d := d) (ds := ds) h s, e => by
    cases d <;> simp only [blsOf] at e <;> first | cases e | skip
    cases q : blsOf ds with
    | none => rw [q] at e; cases e
    | some bs' => rw [q] at e; cases e; cases h; rw [blsOf_v s q]; rfl
theorem intsOf_v {K : PySem.W.Frag} {O : Addr → Prop} {H : Hp} : ∀ {vs : List V} {ds : List D} {bs : List Int}, Dens K O H vs ds → intsOf ds = some bs → vs = bs.map V.int
  | _, _, bs, .nil, e => by cases e; rfl
  | _, _, bs, .cons (d := d) (ds := ds) h s, e => by
    cases d <;> simp only [intsOf] at e <;> first | cases e | skip
    cases q : intsOf ds with
    | none => rw [q] at e; cases e
    | some bs' => rw [q] at e; cases e; cases h; rw [intsOf_v s q]; rfl
def allD : List D → Option D
  | [.lst xs] => (blsOf xs).map fun bs => .bl (bs.all id)
  | _ => none
def anyD : List D → Option D
  | [.lst xs] => (blsOf xs).map fun bs => .bl (bs.any id)
  | _ => none
def sumD : List D → Option D
  | [.lst xs] => (intsOf xs).map fun bs => .int bs.sum
  | _ => none
theorem u_all (hc : X.calm = true) : CallR X (.builtin "all") (uCb X.K allD) := by
  intro pins s σ H xs us Q I r h
  obtain ⟨H0, O, ds, z, hd, hx, e, q⟩ := h
  unfold allD at e
  split at e
  · rename_i ys
    obtain ⟨v, rfl, hv⟩ := hx.one
    obtain ⟨a, vs, rfl, ha, sa⟩ := hv.lst
    cases em : blsOf ys with
    | none => rw [em] at e; cases e
    | some bs =>
      rw [em] at e; cases e
      have ev := blsOf_v sa em
      subst ev
      exact cr_all hc pins s σ H _ us Q I r ⟨a, bs, rfl, SqL.of ha, q _ _ (Grow.refl _) (.bl _)⟩
  · cases e
theorem u_any (hc : X.calm = true) : CallR X (.builtin "any") (uCb X.K anyD) := by
  intro pins s σ H xs us Q I r h
  obtain ⟨H0, O, ds, z, hd, hx, e, q⟩ := h
  unfold anyD at e
  split at e
  · rename_i ys
    obtain ⟨v, rfl, hv⟩ := hx.one
    obtain ⟨a, vs, rfl, ha, sa⟩ := hv.lst
    cases em : blsOf ys with
    | none => rw [em] at e; cases e
    | some bs =>
      rw [em] at e; cases e
      have ev := blsOf_v sa em
      subst ev
      exact cr_any hc pins s σ H _ us Q I r ⟨a, bs, rfl, SqL.of ha, q _ _ (Grow.refl _) (.bl _)⟩
  · cases e
theorem u_sum (hc : X.calm = true) : CallR X (.builtin "sum") (uCb X.K sumD) := by
  intro pins s σ H xs us Q I r h
  obtain ⟨H0, O, ds, z, hd, hx, e, q⟩ := h
  unfold sumD at e
  split at e
  · rename_i ys
    obtain ⟨v, rfl, hv⟩ := hx.one
    obtain ⟨a, vs, rfl, ha, sa⟩ := hv.lst
    cases em : intsOf ys with
    | none => rw [em] at e; cases e
    | some bs =>
      rw [em] at e; cases e
      have ev := intsOf_v sa em
      subst ev
      exact cr_sum hc pins s σ H _ us Q I r ⟨a, bs, rfl, SqL.of ha, q _ _ (Grow.refl _) (.int _)⟩
  · cases e
def listD : List D → Option D
  | [.lst xs] => some (.lst xs)
  | [.tup xs] => some (.lst xs)
  | _ => none
theorem u_list : CallR X (.type "list") (uCb X.K listD) := by
  intro pins s σ H xs us Q I r h
  obtain ⟨H0, O, ds, z, hd, hx, e, q⟩ := h
  unfold listD at e
  split at e
  · cases e
    obtain ⟨v, rfl, hv⟩ := hx.one
    obtain ⟨a, vs, rfl, ha, sa⟩ := hv.lst
    exact call_list_of pins s σ H _ us Q I r ⟨a, vs, rfl, .inl (SqL.of ha), fun p hp => q _ _ (Grow.new hp) (.lst (off_new hd hp) upd_same (sa.ext (Grow.new hp).ext))⟩
  · cases e
    obtain ⟨v, rfl, hv⟩ := hx.one
    obtain ⟨a, vs, rfl, ha, sa⟩ := hv.tup
    exact call_list_of pins s σ H _ us Q I r ⟨a, vs, rfl, .inr ha, fun p hp => q _ _ (Grow.new hp) (.lst (off_new hd hp) upd_same (sa.ext (Grow.new hp).ext))⟩
  · cases e
def tupleD : List D → Option D
  | [.lst xs] => some (.tup xs)
  | [.tup xs] => some (.tup xs)
  | _ => none
theorem u_tuple : CallR X (.type "tuple") (uCb X.K tupleD) := by
  intro pins s σ H xs us Q I r h
  obtain ⟨H0, O, ds, z, hd, hx, e, q⟩ := h
  unfold tupleD at e
  split at e
  · cases e
    obtain ⟨v, rfl, hv⟩ := hx.one
    obtain ⟨a, vs, rfl, ha, sa⟩ := hv.lst
    exact call_tuple_of pins s σ H _ us Q I r ⟨a, vs, rfl, .inl ⟨SqL.of ha, fun p hp => q _ _ (Grow.new hp) (.tup (off_new hd hp) upd_same (sa.ext (Grow.new hp).ext))⟩⟩
  · cases e
    obtain ⟨v, rfl, hv⟩ := hx.one
    have tx := hv.tup'
    obtain ⟨a, vs, rfl, ha, sa⟩ := hv.tup
    exact call_tuple_of pins s σ H _ us Q I r ⟨a, vs, rfl, .inr ⟨ha, q _ _ (Grow.refl _) tx⟩⟩
  · cases e

/-! ### isinstance(x, T) -/
inductive Ty where
  | str | tuple | list | dict | int | bool
def Ty.name : Ty → String
  | .str => "str"
  | .tuple => "tuple"
  | .list => "list"
  | .dict => "dict"
  | .int => "int"
  | .bool => "bool"
def tyN : D → Option String
  | .non => some "NoneType"
  | .bl _ => some "bool"
  | .int _ => some "int"
  | .str _ => some "str"
  | .tup _ => some "tuple"
  | .lst _ => some "list"
  | .dct _ => some "dict"
  | _ => none
def isB : Ty → D → Bool
  | .str, .str _ => true
  | .tuple, .tup _ => true
  | .list, .lst _ => true
  | .dict, .dct _ => true
  | .int, .int _ => true
  | .int, .bl _ => true
  | .bool, .bl _ => true
  | _, _ => false
def isiD (T : Ty) (d : D) : Option D := if (tyN d).isSome = true then some (.bl (isB T d)) else none
theorem kit_all : ∀ (T : Ty) (d : D) (t : String), tyN d = some t → L2.kitB t T.name = some (isB T d) := by
  intro T d t h
  cases d <;> simp only [tyN] at h <;> first | cases h | skip
  all_goals (cases T <;> simp only [isB, Ty.name] <;> decide +kernel)
theorem tyX_of {K : PySem.W.Frag} {O : Addr → Prop} {H : Hp} {v : V} {d : D} {t : String} (h : Den K O H v d) (e : tyN d = some t) : TyX K H v (.type t) := by
  cases h <;> simp only [tyN] at e <;> first | (cases e) | skip
  · exact .base .non
  · exact .base (.bl _)
  · exact .base (.int _)
  · exact .base (.str _)
  · rename_i h _; exact .base (.tup h)
  · rename_i h1 h2 h3 h4 h5 _; exact .kTuple h1 h2
  · rename_i h _; exact .base (.lst h)
  · rename_i h _
    rcases h with h | ⟨o, h⟩
    · exact .base (.dK h)
    · exact .fDict h
theorem sim_isi {f : Cf} {te : TE} {a : CE} (T : Ty) (ha : SimC f te a) : SimE f (tCB (rIsi f.K) (tCons te (tCons (tC (.ty T.name)) tNil))) (cUn (isiD T) a) := fun P O σ H ρ Q rl w => by
  refine ha P O σ H ρ _ rl (M.wp_mono (M.wp_bind.mp w) (fun d w1 v H1 g1 x1 => ?_) fun _ z => z)
  unfold lift1 at w1
  split at w1
  · rename_i z e
    unfold isiD at e
    split at e
    · cases e
      obtain ⟨t, ht⟩ := Option.isSome_iff_exists.mp ‹(tyN d).isSome = true›
      exact ⟨v, .ty T.name, .type t, .type T.name, isB T d, rfl, .ty _, tyX_of x1.bare ht, L2.kit_ty (kit_all T d t ht), w1 _ H1 g1 (.bl _)⟩
    · cases e
  · exact w1.elim
end
end Py

/-! R5: statements, own objects, loops. -/
namespace Py
open PySem L2
variable [Wd]

inductive Out where
  | next (ρ : Rho)
  | ret (d : D)
  | brk (ρ : Rho)
  | cont (ρ : Rho)
abbrev CS := Rho → M Out
def post (f : Cf) (P : List Pin) (E : Ends) : Out → Prop
  | .next ρ => ∀ O σ H, f.Rel P O σ H ρ → E.nx σ H
  | .ret d => match f.fix 0 with
    | none => ∀ v H, Gr f.z f.S f.H0 H → Den f.K f.S H v d → E.rt v H
    | some _ => ∃ d' e, d = .tup [d', e] ∧ ∀ P' O σ H ρ v, f.Rel P' O σ H ρ → ρ[0]? = some (some (true, e)) → Den f.K O H v d' → E.rt v H
  | .brk ρ => ∀ O σ H, f.Rel P O σ H ρ → E.bk σ H
  | .cont ρ => ∀ O σ H, f.Rel P O σ H ρ → E.ct σ H
def SimS (f : Cf) (ts : TS) (c : CS) : Prop := ∀ (P : List Pin) (O : Addr → Prop) (σ : St) (H : Hp) (ρ : Rho) (E : Ends), f.Rel P O σ H ρ → (c ρ).wp (post f P E) (XP f) → ts E σ H

section
variable {f : Cf}
theorem DenC.out {P : List Pin} {O : Addr → Prop} {σ : St} {H0 H : Hp} {ρ : Rho} {v : V} {d : D} (r : f.Rel P O σ H0 ρ) (h : DenC f.K f.H0 O H v d) : Den f.K f.S H v d := by
  rcases h with h | ⟨a, e, o, n, t⟩
  · exact h.less r.sub
  · subst e
    exact t.out r.sub fun z => r.sdom a z n

/-! ### blocks -/
def cNext : CS := fun ρ => .ret (.next ρ)
def cNever : CS := fun _ => .stuck
def andThen (b : CS) : Out → M Out
  | .next ρ => b ρ
  | o => .ret o
def cSeq (a b : CS) : CS := fun ρ => (a ρ).bind (andThen b)
theorem sim_next : SimS f tNext cNext := fun P O σ H ρ E r w => w O σ H r
theorem sim_never : SimS f tNever cNever := fun P O σ H ρ E r w => w
theorem sim_seq {t u : TS} {a b : CS} (ha : SimS f t a) (hb : SimS f u b) : SimS f (tSeq t u) (cSeq a b) := fun P O σ H ρ E r w => by
  refine ha P O σ H ρ { E with nx := u E } r (M.wp_mono (M.wp_bind.mp w) (fun o h => ?_) fun _ z => z)
  cases o with
  | next ρ' => exact fun O' σ' H' r' => hb P O' σ' H' ρ' E r' h
  | ret d => exact h
  | brk ρ' => exact h
  | cont ρ' => exact h
def cBrk : CS := fun ρ => .ret (.brk ρ)
theorem sim_brk : SimS f tBreak cBrk := fun P O σ H ρ E r w => w O σ H r
def cIfS (t : CT) (a b : CS) : CS := fun ρ => (t ρ).bind fun x => if x = true then a ρ else b ρ
theorem sim_ifS {tt : TT} {t u : TS} {c : CT} {a b : CS} (hc : SimT f tt c) (ha : SimS f t a) (hb : SimS f u b) : SimS f (tIfS tt t u) (cIfS c a b) := fun P O σ H ρ E r w => by
  refine hc P O σ H ρ _ r (M.wp_mono (M.wp_bind.mp w) (fun x w1 H1 g1 => ?_) fun _ z => z)
  cases x with
  | true =>
    rw [if_pos rfl] at w1 ⊢
    exact ha P O σ H1 ρ E (r.growTo g1) w1
  | false =>
    rw [if_neg Bool.false_ne_true] at w1 ⊢
    exact hb P O σ H1 ρ E (r.growTo g1) w1
def cRet (a : CE) : CS := fun ρ => (a ρ).bind fun d => .ret (.ret d)
theorem post_ret {P : List Pin} {E : Ends} {d : D} (hf : f.fix 0 = none) (h : post f P E (.ret d)) : ∀ v H, Gr f.z f.S f.H0 H → Den f.K f.S H v d → E.rt v H := by
  simp only [post, hf] at h
  exact h
theorem sim_ret {te : TE} {a : CE} (ha : SimC f te a) (hf : f.fix 0 = none := by rfl) : SimS f (tRet te) (cRet a) := fun P O σ H ρ E r w =>
  ha P O σ H ρ _ r (M.wp_mono (M.wp_bind.mp w) (fun d w1 v H1 g1 x1 => post_ret hf w1 v H1 (r.growTo g1).grow (x1.out r)) fun _ z => z)
/-- return e in a method: the value, and self as it is then -/
def cRetM (a : CE) : CS := fun ρ => (a ρ).bind fun d => match ρ[0]? with
  | some (some (true, e)) => .ret (.ret (.tup [d, e]))
  | _ => .stuck
theorem sim_retM {te : TE} {a : CE} (ha : SimE f te a) (hf : (f.fix 0).isSome = true := by rfl) : SimS f (tRet te) (cRetM a) := fun P O σ H ρ E r w => by
  refine ha P O σ H ρ _ r (M.wp_mono (M.wp_bind.mp w) (fun d w1 v H1 g1 x1 => ?_) fun _ z => z)
  split at w1
  · rename_i e he
    obtain ⟨x, hx⟩ := Option.isSome_iff_exists.mp hf
    replace w1 : post f P E (.ret (.tup [d, e])) := w1
    simp only [post, hx] at w1
    obtain ⟨d', e', q, k⟩ := w1
    cases q
    exact k P O σ H1 ρ v (r.growTo g1) he x1
  · exact w1.elim
def cRetN : CS := fun _ => .ret (.ret .non)
theorem sim_retN (hf : f.fix 0 = none := by rfl) : SimS f tRetN cRetN := fun P O σ H ρ E r w => post_ret hf w .non H r.grow .non
def cDrop (a : CE) : CS := fun ρ => (a ρ).bind fun _ => .ret (.next ρ)
theorem sim_drop {te : TE} {a : CE} (ha : SimC f te a) : SimS f (tDrop te) (cDrop a) := fun P O σ H ρ E r w =>
  ha P O σ H ρ _ r (M.wp_mono (M.wp_bind.mp w) (fun d w1 v H1 g1 x1 => w1 O σ H1 (r.growTo g1)) fun _ z => z)
/-- raise X('..') -/
def cRaise (n : Str) : CS := fun _ => .err ⟨n, []⟩
theorem sim_raise {n : Str} {C : Addr} (hm : f.mg n = some (.ref C)) : SimS f (fun _ σ H => f.E (.ref C) none H) (cRaise n) := fun P O σ H ρ E r w =>
  w (.ref C) none H r.grow ⟨C, hm, rfl, .inl ⟨rfl, rfl⟩⟩

/-! ### stores to names -/
theorem get_set {α : Type} {l : List α} {i j : Nat} {x y : α} (h : (l.set i x)[j]? = some y) : (i = j ∧ y = x) ∨ (i ≠ j ∧ l[j]? = some y) := by
  by_cases e : i = j
  · subst e
    refine .inl ⟨rfl, ?_⟩
    rw [List.getElem?_set] at h
    simp only [if_true] at h
    split at h
    · exact (Option.some.inj h).symm
    · cases h
  · exact .inr ⟨e, by rw [List.getElem?_set_ne e] at h; exact h⟩
section
variable {P : List Pin} {O : Addr → Prop} {σ : St} {H : Hp} {ρ : Rho}
theorem set_at {i : Nat} {v : Option V} {x y : Option (Bool × D)} (hl : σ.length = ρ.length) (h : (ρ.set i x)[i]? = some y) : (σ.set i v)[i]? = some v := by
  have hi : i < (ρ.set i x).length := (List.getElem?_eq_some_iff.mp h).1
  rw [List.length_set] at hi
  rw [List.getElem?_set_self (by omega)]
/-- a value into a slot -/
theorem set_fix {l : List (Option V)} {i j : Nat} {x : Option V} {a : Addr} (fi : f.fix i = none) (fj : f.fix j = some a) (h : l[j]? = some (some (.ref a))) : (l.set i x)[j]? = some (some (.ref a)) := by
  have : i ≠ j := fun e => by rw [e, fj] at fi; cases fi
  rw [List.getElem?_set_ne this]; exact h
theorem Rel.setSlot (r : f.Rel P O σ H ρ) {i : Nat} {v : V} {d : D} (fi : f.fix i = none) (x : Den f.K O H v d) : f.Rel P O (σ.set i (some v)) H (ρ.set i (some (false, d))) where
  len := by rw [List.length_set, List.length_set]; exact r.len
  sdom := r.sdom
  dom := r.dom
  sub := r.sub
  new := r.new
  grow := r.grow
  slot := fun j e h1 => by
    rcases get_set h1 with ⟨q1, q2⟩ | ⟨q1, q2⟩
    · subst q1; cases q2
      exact ⟨v, set_at r.len h1, x⟩
    · obtain ⟨w, ew, xw⟩ := r.slot j e q2
      exact ⟨w, by rw [List.getElem?_set_ne q1]; exact ew, xw⟩
  mine := fun j e h1 => by
    rcases get_set h1 with ⟨q1, q2⟩ | ⟨q1, q2⟩
    · cases q2
    · obtain ⟨a, ew, xw⟩ := r.mine j e q2
      exact ⟨a, by rw [List.getElem?_set_ne q1]; exact ew, xw⟩
  inj := fun j k a d1 d2 h3 h4 h5 h6 => by
    rcases get_set h3 with ⟨q1, q⟩ | ⟨q1, q3⟩
    · cases q
    · rcases get_set h4 with ⟨p1, p⟩ | ⟨p1, p3⟩
      · cases p
      · rw [List.getElem?_set_ne q1] at h5
        rw [List.getElem?_set_ne p1] at h6
        exact r.inj j k a d1 d2 q3 p3 h5 h6
  held := r.held
  fix := fun j a h => set_fix fi h (r.fix j a h)
  tab := r.tab
/-- a new object into a slot, its own -/
theorem Rel.setOwn {H' : Hp} (r : f.Rel P O σ H ρ) {i : Nat} {p : Addr} {d : D} (fi : f.fix i = none) (g : Gr f.z O H H') (hp : H p = none) (t : Top f.K (also O p) H' p d) : f.Rel P (also O p) (σ.set i (some (.ref p))) H' (ρ.set i (some (true, d))) := by
  have x : Ext (also O p) H H' := fun a o n h => g.ext a o (fun z => n (.inl z)) h
  have mr : ∀ v e, Den f.K O H v e → Den f.K (also O p) H' v e := fun v e y => (y.more hp).ext x
  have h0p : f.H0 p = none := r.grow.fresh hp
  refine ⟨by rw [List.length_set, List.length_set]; exact r.len, r.sdom, ?_, fun a h => .inl (r.sub a h), ?_, r.grow.trans (g.less r.sub), ?_, ?_, ?_, fun q hq => ((r.held q hq).more hp).ext x, fun j a h => set_fix fi h (r.fix j a h), g.tab r.tab⟩
  · intro a h
    rcases h with h | h
    · exact g.there (r.dom a h)
    · subst h; exact t.there
  · intro a h
    rcases h with h | h
    · exact r.new a h
    · subst h; exact .inr h0p
  · intro j e h1
    rcases get_set h1 with ⟨q1, q2⟩ | ⟨q1, q2⟩
    · cases q2
    · obtain ⟨w, ew, xw⟩ := r.slot j e q2
      exact ⟨w, by rw [List.getElem?_set_ne q1]; exact ew, mr _ _ xw⟩
  · intro j e h1
    rcases get_set h1 with ⟨q1, q2⟩ | ⟨q1, q2⟩
    · subst q1; cases q2
      exact ⟨p, set_at r.len h1, .inr rfl, h0p, t⟩
    · obtain ⟨a, ew, oa, na, ta⟩ := r.mine j e q2
      exact ⟨a, by rw [List.getElem?_set_ne q1]; exact ew, .inl oa, na, ta.map (g.onT oa) mr⟩
  · intro j k a d1 d2 h3 h4 h5 h6
    have old : ∀ j e, i ≠ j → ρ[j]? = some (some (true, e)) → (σ.set i (some (.ref p)))[j]? = some (some (.ref p)) → False := fun j e n q z => by
      rw [List.getElem?_set_ne n] at z
      obtain ⟨a, ew, oa, _⟩ := r.mine j e q
      rw [z] at ew; cases ew
      exact r.dom p oa hp
    rcases get_set h3 with ⟨q1, _⟩ | ⟨q1, q3⟩
    · rcases get_set h4 with ⟨p1, _⟩ | ⟨p1, p3⟩
      · rw [← q1, ← p1]
      · subst q1
        have : a = p := by
          rw [set_at r.len h3] at h5
          cases h5; rfl
        subst this
        exact (old k d2 p1 p3 h6).elim
    · rcases get_set h4 with ⟨p1, _⟩ | ⟨p1, p3⟩
      · subst p1
        have : a = p := by
          rw [set_at r.len h4] at h6
          cases h6; rfl
        subst this
        exact (old j d1 q1 q3 h5).elim
      · rw [List.getElem?_set_ne q1] at h5
        rw [List.getElem?_set_ne p1] at h6
        exact r.inj j k a d1 d2 q3 p3 h5 h6
/-- an own object is changed -/
theorem Rel.change {o : HO} (r : f.Rel P O σ H ρ) {i : Nat} {a : Addr} {d e : D} (hi : ρ[i]? = some (some (true, e))) (ha : σ[i]? = some (some (.ref a))) (oa : O a) (na : f.H0 a = none) (t : Top f.K O (upd H a o) a d) : f.Rel P O σ (upd H a o) (ρ.set i (some (true, d))) := by
  have x : Ext O H (upd H a o) := Ext.write oa
  have nc : Nc (H a) := by
    obtain ⟨a2, ea, _, _, t0⟩ := r.mine i e hi
    rw [ha] at ea
    cases ea
    exact t0.nc
  refine ⟨by rw [List.length_set]; exact r.len, r.sdom, ?_, r.sub, r.new, ?_, ?_, ?_, ?_, fun q hq => (r.held q hq).ext x, r.fix, tabs_upd nc r.tab⟩
  · intro b hb
    by_cases e : b = a
    · subst e; rw [upd_same]; intro z; cases z
    · rw [upd_ne e]; exact r.dom b hb
  · refine ⟨fun b u hb => ?_, fun tq => tabs_upd nc (r.grow.tab tq)⟩
    · have : b ≠ a := fun e => by subst e; rw [na] at hb; cases hb
      rw [upd_ne this]
      exact r.grow.at_ b u hb
  · intro j e' h1
    rcases get_set h1 with ⟨q1, q2⟩ | ⟨q1, q2⟩
    · cases q2
    · obtain ⟨w, ew, xw⟩ := r.slot j e' q2
      exact ⟨w, ew, xw.ext x⟩
  · intro j e' h1
    rcases get_set h1 with ⟨q1, q2⟩ | ⟨q1, q2⟩
    · subst q1; cases q2
      exact ⟨a, ha, oa, na, t⟩
    · obtain ⟨b, ew, ob, nb, tb⟩ := r.mine j e' q2
      refine ⟨b, ew, ob, nb, tb.ext x ?_⟩
      have : b ≠ a := fun z => by subst z; exact q1 (r.inj i j b e e' hi q2 ha ew)
      intro u hu _
      rw [upd_ne this]; exact hu
  · intro j k b d1 d2 h3 h4 h5 h6
    have back : ∀ j d1, (ρ.set i (some (true, d)))[j]? = some (some (true, d1)) → ∃ d0, ρ[j]? = some (some (true, d0)) := fun j d1 h => by
      rcases get_set h with ⟨q1, _⟩ | ⟨_, q⟩
      · subst q1; exact ⟨e, hi⟩
      · exact ⟨_, q⟩
    obtain ⟨x1, y1⟩ := back j d1 h3
    obtain ⟨x2, y2⟩ := back k d2 h4
    exact r.inj j k b x1 x2 y1 y2 h5 h6
/-- an own object is given away: a value from now on -/
def less1 (O : Addr → Prop) (a : Addr) : Addr → Prop := fun b => O b ∧ b ≠ a
theorem Rel.give (r : f.Rel P O σ H ρ) {i : Nat} {a : Addr} {d : D} (hi : ρ[i]? = some (some (true, d))) (ha : σ[i]? = some (some (.ref a))) (na : f.H0 a = none) (t : Top f.K O H a d) : f.Rel P (less1 O a) σ H (ρ.set i (some (false, d))) := by
  have ho : ∀ b, less1 O a b → O b := fun b h => h.1
  refine ⟨by rw [List.length_set]; exact r.len, r.sdom, fun b h => r.dom b h.1, fun b h => ⟨r.sub b h, fun e => r.sdom b h (by rw [e]; exact na)⟩, fun b h => r.new b h.1, r.grow, ?_, ?_, ?_, fun q hq => (r.held q hq).less ho, r.fix, r.tab⟩
  · intro j e' h1
    rcases get_set h1 with ⟨q1, q2⟩ | ⟨q1, q2⟩
    · subst q1; cases q2
      exact ⟨_, ha, t.out ho fun z => z.2 rfl⟩
    · obtain ⟨w, ew, xw⟩ := r.slot j e' q2
      exact ⟨w, ew, xw.less ho⟩
  · intro j e' h1
    rcases get_set h1 with ⟨q1, q2⟩ | ⟨q1, q2⟩
    · cases q2
    · obtain ⟨b, ew, ob, nb, tb⟩ := r.mine j e' q2
      exact ⟨b, ew, ⟨ob, fun z => by subst z; exact q1 (r.inj i j b _ _ hi q2 ha ew)⟩, nb, tb.map (fun _ h _ => h) fun _ _ h => h.less ho⟩
  · intro j k b d1 d2 h3 h4 h5 h6
    rcases get_set h3 with ⟨q1, q⟩ | ⟨q1, q3⟩
    · cases q
    · rcases get_set h4 with ⟨p1, p⟩ | ⟨p1, p3⟩
      · cases p
      · exact r.inj j k b d1 d2 q3 p3 h5 h6
end
/-- ahead of a statement: names given away -/
def giveR (ρ : Rho) (i : Nat) : Rho := match ρ[i]? with
  | some (some (true, d)) => ρ.set i (some (false, d))
  | _ => ρ
def cGive (is : List Nat) (c : CS) : CS := fun ρ => c (is.foldl giveR ρ)
theorem Rel.give1 {P : List Pin} {O : Addr → Prop} {σ : St} {H : Hp} {ρ : Rho} (r : f.Rel P O σ H ρ) (i : Nat) : ∃ O', f.Rel P O' σ H (giveR ρ i) := by
  unfold giveR
  split
  · rename_i d e
    obtain ⟨a, e1, oa, na, t⟩ := r.mine i d e
    exact ⟨_, r.give e e1 na t⟩
  · exact ⟨O, r⟩
theorem Rel.gives {P : List Pin} {σ : St} {H : Hp} : ∀ (is : List Nat) {O : Addr → Prop} {ρ : Rho}, f.Rel P O σ H ρ → ∃ O', f.Rel P O' σ H (is.foldl giveR ρ)
  | [], O, _, r => ⟨O, r⟩
  | i :: is, _, _, r => let ⟨_, r'⟩ := r.give1 i; Rel.gives is r'
theorem sim_give {ts : TS} {c : CS} (is : List Nat) (h : SimS f ts c) : SimS f ts (cGive is c) := fun P O σ H ρ E r w =>
  let ⟨O', r'⟩ := Rel.gives is r
  h P O' σ H _ E r' w
def cAsg (i : Nat) (a : CE) : CS := fun ρ => (a ρ).bind fun d => .ret (.next (ρ.set i (some (false, d))))
theorem sim_asg {te : TE} {a : CE} {i : Nat} (fi : f.fix i = none) (ha : SimE f te a) : SimS f (tAsg te (gName i)) (cAsg i a) := fun P O σ H ρ E r w =>
  ha P O σ H ρ _ r (M.wp_mono (M.wp_bind.mp w) (fun d w1 v H1 g1 x1 => w1 O _ H1 ((r.growTo g1).setSlot fi x1)) fun _ z => z)
/-- a new object as a value: what makes one -/
def SimN (f : Cf) (te : TE) (c : CE) : Prop := ∀ (P : List Pin) (O : Addr → Prop) (σ : St) (H : Hp) (ρ : Rho) (Q : VK), f.Rel P O σ H ρ →
  (c ρ).wp (fun d => ∀ p H', Gr f.z O H H' → H p = none → Top f.K (also O p) H' p d → Q (.ref p) H') (XP f) → te σ H Q
theorem SimN.e {te : TE} {a : CE} (h : SimN f te a) : SimE f te a := fun P O σ H ρ Q r w =>
  h P O σ H ρ Q r (M.wp_mono w (fun d w1 p H' g hp t => w1 (.ref p) H' g (t.out (fun _ z => .inl z) fun z => r.dom p z hp)) fun _ z => z)
def cAsgN (i : Nat) (a : CE) : CS := fun ρ => (a ρ).bind fun d => .ret (.next (ρ.set i (some (true, d))))
theorem sim_asgN {te : TE} {a : CE} {i : Nat} (fi : f.fix i = none) (ha : SimN f te a) : SimS f (tAsg te (gName i)) (cAsgN i a) := fun P O σ H ρ E r w =>
  ha P O σ H ρ _ r (M.wp_mono (M.wp_bind.mp w) (fun d w1 p H1 g1 hp t => w1 _ _ H1 (r.setOwn fi g1 hp t)) fun _ z => z)
theorem simN_lst {ta : TA} {a : CA} (ha : SimA f ta a) : SimN f (tLst ta) (cLst a) := fun P O σ H ρ Q rl w => by
  refine ha P O σ H ρ _ rl (M.wp_mono (M.wp_bind.mp w) (fun ds w1 vs H1 g1 s1 => ?_) fun _ z => z)
  unfold mkLst at w1
  split at w1
  · rename_i hl
    refine ⟨lim_line (by rw [s1.length]; exact hl), fun p hp => ?_⟩
    refine w1 p _ (g1.trans (Grow.new hp).gr) (g1.fresh hp) (.lst upd_same ?_)
    exact (s1.more hp).ext (Grow.new hp).ext
  · exact w1.elim
def cDict0 : CE := fun _ => .ret (.dct [])
theorem simN_dict0 : SimN f tDNewK cDict0 := fun P O σ H ρ Q rl w p hp =>
  w p _ (Grow.new hp).gr hp (.dct upd_same .nil)
/-- list(x), an own list -/
theorem simN_list {ta : TA} {a : CA} (ha : SimB f ta a) : SimN f (tCB (fun xs H Q => ∃ p ys, xs = [.ref p] ∧ (SqL f.K H p ys ∨ SqT f.K H p ys) ∧ ∀ l, H l = none → Q (.ref l) (upd H l (.lst ys))) ta) (cCb listD a) := fun P O σ H ρ Q rl w => by
  refine ha P O σ H ρ _ rl (M.wp_mono (M.wp_bind.mp w) (fun ds w1 vs H1 g1 s1 => ?_) fun _ z => z)
  unfold liftN at w1
  split at w1
  · rename_i z e
    unfold listD at e
    split at e
    · cases e
      obtain ⟨v, rfl, hv⟩ := s1.one
      obtain ⟨b, ws, rfl, hb, sb⟩ := hv.lst
      exact ⟨b, ws, rfl, .inl (SqL.of hb), fun p hp => w1 p _ (g1.trans (Grow.new hp).gr) (g1.fresh hp) (.lst upd_same ((sb.more hp).ext (Grow.new hp).ext))⟩
    · cases e
      obtain ⟨v, rfl, hv⟩ := s1.one
      obtain ⟨b, ws, rfl, hb, sb⟩ := hv.tup
      exact ⟨b, ws, rfl, .inr hb, fun p hp => w1 p _ (g1.trans (Grow.new hp).gr) (g1.fresh hp) (.lst upd_same ((sb.more hp).ext (Grow.new hp).ext))⟩
    · cases e
  · exact w1.elim

/-! ### xs.append(e), d[k] = e on an own object -/
/-- what an own list is, ahead of a change -/
def withLst (i : Nat) (ρ : Rho) {α : Type} (k : List D → M α) : M α := match ρ[i]? with
  | some (some (true, .lst xs)) => k xs
  | _ => .stuck
def withDct (i : Nat) (ρ : Rho) {α : Type} (k : List (D × D) → M α) : M α := match ρ[i]? with
  | some (some (true, .dct xs)) => k xs
  | _ => .stuck
theorem withLst_wp {i : Nat} {ρ : Rho} {α : Type} {k : List D → M α} {Q : α → Prop} {E : Exc → Prop} (w : (withLst i ρ k).wp Q E) : ∃ xs, ρ[i]? = some (some (true, .lst xs)) ∧ (k xs).wp Q E := by
  unfold withLst at w
  split at w
  · rename_i xs h; exact ⟨xs, h, w⟩
  · exact w.elim
theorem withDct_wp {i : Nat} {ρ : Rho} {α : Type} {k : List (D × D) → M α} {Q : α → Prop} {E : Exc → Prop} (w : (withDct i ρ k).wp Q E) : ∃ xs, ρ[i]? = some (some (true, .dct xs)) ∧ (k xs).wp Q E := by
  unfold withDct at w
  split at w
  · rename_i xs h; exact ⟨xs, h, w⟩
  · exact w.elim
def cApp (i : Nat) (a : CE) : CS := fun ρ => withLst i ρ fun xs => (a ρ).bind fun d => if xs.length < LIM then .ret (.next (ρ.set i (some (true, .lst (xs ++ [d]))))) else .stuck
def extOf : D → M (List D)
  | .lst ys => .ret ys
  | _ => .stuck
def cExt (i : Nat) (a : CE) : CS := fun ρ => withLst i ρ fun xs => (a ρ).bind fun d => (extOf d).bind fun ys => if xs.length + ys.length ≤ LIM then .ret (.next (ρ.set i (some (true, .lst (xs ++ ys))))) else .stuck
theorem top_lst {K : PySem.W.Frag} {O : Addr → Prop} {H : Hp} {a : Addr} {xs : List D} (t : Top K O H a (.lst xs)) : ∃ vs, H a = some (.lst vs) ∧ Dens K O H vs xs := by
  cases t with | lst h s => exact ⟨_, h, s⟩
theorem top_dct {K : PySem.W.Frag} {O : Addr → Prop} {H : Hp} {a : Addr} {xs : List (D × D)} (t : Top K O H a (.dct xs)) : ∃ vs, H a = some (.dK vs) ∧ DenKV K O H vs xs := by
  cases t with | dct h s => exact ⟨_, h, s⟩
theorem sim_app {te : TE} {a : CE} {i : Nat} (ha : SimE f te a) : SimS f (tDrop (tBM f.K "list" rAppend (tVar i) (tCons te tNil))) (cApp i a) := fun P O σ H ρ E r w => by
  obtain ⟨xs, hx, w'⟩ := withLst_wp w
  obtain ⟨l, e1, ol, nl, tl⟩ := r.mine i _ hx
  obtain ⟨vs, hl, sl⟩ := top_lst tl
  refine ⟨.ref l, e1, .inl ⟨rfl, vs, SqL.of hl⟩, ?_⟩
  refine ha P O σ H ρ _ r (M.wp_mono (M.wp_bind.mp w') (fun d w1 v H1 g1 x1 => ?_) fun _ z => z)
  split at w1
  · rename_i hlen
    have hl1 := g1.onO ol _ hl
    refine ⟨l, vs, v, rfl, rfl, hl1, Nat.lt_of_lt_of_le (by rw [sl.length]; exact hlen) (by decide), ?_⟩
    refine w1 O σ _ ((r.growTo g1).change hx e1 ol nl (.lst upd_same ?_))
    exact ((sl.ext g1.ext).append (.cons x1 .nil)).ext (Ext.write ol)
  · exact w1.elim
theorem sim_ext {te : TE} {a : CE} {i : Nat} (ha : SimE f te a) : SimS f (tDrop (tBM f.K "list" rExtend (tVar i) (tCons te tNil))) (cExt i a) := fun P O σ H ρ E r w => by
  obtain ⟨xs, hx, w'⟩ := withLst_wp w
  obtain ⟨l, e1, ol, nl, tl⟩ := r.mine i _ hx
  obtain ⟨vs, hl, sl⟩ := top_lst tl
  refine ⟨.ref l, e1, .inl ⟨rfl, vs, SqL.of hl⟩, ?_⟩
  refine ha P O σ H ρ _ r (M.wp_mono (M.wp_bind.mp w') (fun d w1 v H1 g1 x1 => ?_) fun _ z => z)
  cases d with
  | lst ys =>
    have w2 := M.wp_bind.mp w1
    cases x1 with
    | @lst b ws ds nb hb sb =>
    replace w2 : M.wp (if xs.length + ys.length ≤ LIM then M.ret (Out.next (ρ.set i (some (true, .lst (xs ++ ys))))) else M.stuck) (post f P E) (XP f) := w2
    split at w2
    · rename_i hlen
      have hl1 := g1.onO ol _ hl
      refine ⟨l, b, vs, ws, rfl, rfl, hl1, hb, lim_line (by rw [sl.length, sb.length]; exact hlen), ?_⟩
      refine w2 O σ _ ((r.growTo g1).change hx e1 ol nl (.lst upd_same ?_))
      exact ((sl.ext g1.ext).append sb).ext (Ext.write ol)
    · exact w2.elim
  | _ => exact w1.elim
/-- d[k] = e, d an own dict -/
def cPut (i : Nat) (k a : CE) : CS := fun ρ => (a ρ).bind fun d => withDct i ρ fun es => (k ρ).bind fun kd => match keyOf kd with
  | some key => if es.length < LIM then .ret (.next (ρ.set i (some (true, .dct (dPut es key d))))) else .stuck
  | none => .stuck
theorem sim_put {tk te : TE} {k a : CE} {i : Nat} (hk : SimE f tk k) (ha : SimE f te a) : SimS f (sDPut (tVar i) tk te) (cPut i k a) := fun P O σ H ρ E r w => by
  refine ha P O σ H ρ _ r (M.wp_mono (M.wp_bind.mp w) (fun d w1 v H1 g1 x1 => ?_) fun _ z => z)
  obtain ⟨es, hx, w'⟩ := withDct_wp w1
  obtain ⟨l, e1, ol, nl, tl⟩ := (r.growTo g1).mine i _ hx
  obtain ⟨kvs, hl, sl⟩ := top_dct tl
  refine ⟨.ref l, e1, ?_⟩
  refine hk P O σ H1 ρ _ (r.growTo g1) (M.wp_mono (M.wp_bind.mp w') (fun kd w2 y H2 g2 x2 => ?_) fun _ z => z)
  split at w2
  · rename_i key hkey
    split at w2
    · rename_i hlen
      cases keyOf_v x2 hkey
      have hl2 := g2.onO ol _ hl
      refine ⟨l, _, rfl, DPut.k hl2 (Nat.lt_of_lt_of_le (by rw [sl.length]; exact hlen) (by decide)), ?_⟩
      refine w2 O σ _ (((r.growTo g1).growTo g2).change hx e1 ol nl (.dct upd_same ?_))
      exact ((sl.ext g2.ext).put key (x1.ext g2.ext)).ext (Ext.write ol)
    · exact w2.elim
  · exact w2.elim

/-! ### targets -/
abbrev CG := D → Rho → M Rho
def SimG (f : Cf) (g : TG) (c : CG) : Prop := ∀ (P : List Pin) (O : Addr → Prop) (σ : St) (H : Hp) (ρ : Rho) (v : V) (d : D) (Q : St → Hp → Prop), f.Rel P O σ H ρ → Den f.K O H v d →
  (c d ρ).wp (fun ρ' => ∀ σ', f.Rel P O σ' H ρ' → Q σ' H) (XP f) → g v σ H Q
def cgName (i : Nat) : CG := fun d ρ => .ret (ρ.set i (some (false, d)))
theorem simG_name {i : Nat} (fi : f.fix i = none) : SimG f (gName i) (cgName i) := fun P O σ H ρ v d Q r x w => w _ (r.setSlot fi x)
abbrev CGs := List D → Rho → M Rho
def SimGs (f : Cf) (g : TGs) (c : CGs) : Prop := ∀ (P : List Pin) (O : Addr → Prop) (σ : St) (H : Hp) (ρ : Rho) (v : List V) (d : List D) (Q : St → Hp → Prop), f.Rel P O σ H ρ → Dens f.K O H v d →
  (c d ρ).wp (fun ρ' => ∀ σ', f.Rel P O σ' H ρ' → Q σ' H) (XP f) → g v σ H Q
def cgNil : CGs := fun ds ρ => match ds with
  | [] => .ret ρ
  | _ => .stuck
def cgCons (g : CG) (gs : CGs) : CGs := fun ds ρ => match ds with
  | [] => .stuck
  | d :: r => (g d ρ).bind fun ρ' => gs r ρ'
theorem simGs_nil : SimGs f gNil cgNil := fun P O σ H ρ v d Q r x w => by
  cases x with
  | nil => exact ⟨rfl, w σ r⟩
  | cons _ _ => exact w.elim
theorem simGs_cons {g : TG} {gs : TGs} {c : CG} {cs : CGs} (h : SimG f g c) (hs : SimGs f gs cs) : SimGs f (gCons g gs) (cgCons c cs) := fun P O σ H ρ v d Q r x w => by
  cases x with
  | nil => exact w.elim
  | cons x xs => exact ⟨_, _, rfl, h P O σ H ρ _ _ _ r x (M.wp_mono (M.wp_bind.mp w) (fun ρ' w1 σ' r' => hs P O σ' H ρ' _ _ Q r' xs w1) fun _ z => z)⟩
def cgTup (n : Nat) (gs : CGs) : CG := fun d ρ => match d with
  | .tup ds => if ds.length = n then gs ds ρ else .stuck
  | _ => .stuck
theorem simG_tup {n : Nat} {gs : TGs} {cs : CGs} (hs : SimGs f gs cs) : SimG f (gTup f.K n gs) (cgTup n cs) := fun P O σ H ρ v d Q r x w => by
  cases d with
  | tup ds =>
    have w' : (if ds.length = n then cs ds ρ else M.stuck).wp (fun ρ' => ∀ σ', f.Rel P O σ' H ρ' → Q σ' H) (XP f) := w
    split at w'
    · rename_i hl
      obtain ⟨a, vs, e, ha, sa⟩ := (DenC.tup (H0 := f.H0) (.inl x))
      exact ⟨a, vs, e, ha, by rw [sa.length]; exact hl, hs P O σ H ρ _ _ Q r sa w'⟩
    · exact w'.elim
  | _ => exact w.elim
def cAsgG (g : CG) (a : CE) : CS := fun ρ => (a ρ).bind fun d => (g d ρ).bind fun ρ' => .ret (.next ρ')
theorem sim_asgG {te : TE} {g : TG} {c : CG} {a : CE} (ha : SimE f te a) (hg : SimG f g c) : SimS f (tAsg te g) (cAsgG c a) := fun P O σ H ρ E r w =>
  ha P O σ H ρ _ r (M.wp_mono (M.wp_bind.mp w) (fun d w1 v H1 g1 x1 => hg P O σ H1 ρ v d _ (r.growTo g1) x1 (M.wp_mono (M.wp_bind.mp w1) (fun ρ' w2 σ' r' => w2 O σ' H1 r') fun _ z => z)) fun _ z => z)

/-! ### what is walked -/
/-- J walks the items ds, from H on, while what is off O stays -/
def Walks (K : PySem.W.Frag) (O : Addr → Prop) (J : It) (H : Hp) (ds : List D) : Prop := ∀ H', Ext O H H' → ∀ i : Nat,
  (i < ds.length → J.go i H' ∧ ∀ x H'', J.yld i H' x H'' → Grow H' H'' ∧ ∃ d, ds[i]? = some d ∧ Den K O H'' x d) ∧ (ds.length ≤ i → J.stop i H')
/-- the pinned values that keep a walk -/
def Keeps (K : PySem.W.Frag) (P : List Pin) (J : It) (ds : List D) : Prop := ∀ (O : Addr → Prop) (H : Hp), (∀ p ∈ P, p.ok K O H) → ∀ i : Nat,
  (i < ds.length → J.go i H ∧ ∀ x H'', J.yld i H x H'' → Grow H H'' ∧ ∃ d, ds[i]? = some d ∧ ((∀ a, O a → H a ≠ none) → Den K O H'' x d)) ∧ (ds.length ≤ i → i ≤ ds.length → J.stop i H)
abbrev CI := Rho → M (List D)
def SimI (f : Cf) (wi : TI) (c : CI) : Prop := ∀ (P : List Pin) (O : Addr → Prop) (σ : St) (H : Hp) (ρ : Rho) (R : It → Hp → Prop), f.Rel P O σ H ρ →
  (c ρ).wp (fun ds => ∀ J H' P', Gr f.z O H H' → (∀ p ∈ P', p.ok f.K O H') → Keeps f.K P' J ds → R J H') (XP f) → wi σ H R
/-- behind a turn: go on, leave -/
def turnOut (k : Rho → M Out) : Out → M Out
  | .next ρ => k ρ
  | .cont ρ => k ρ
  | .brk ρ => .ret (.next ρ)
  | .ret d => .ret (.ret d)
def loopF (g : CG) (b : CS) : List D → Rho → M Out
  | [], ρ => .ret (.next ρ)
  | d :: r, ρ => (g d ρ).bind fun ρ1 => (b ρ1).bind (turnOut (loopF g b r))
def cFor (g : CG) (c : CI) (b : CS) : CS := fun ρ => (c ρ).bind fun ds => loopF g b ds ρ
theorem Rel.pin {P P' : List Pin} {O : Addr → Prop} {σ : St} {H : Hp} {ρ : Rho} (r : f.Rel P O σ H ρ) (h : ∀ p ∈ P', p.ok f.K O H) : f.Rel (P' ++ P) O σ H ρ :=
  { r with held := fun p hp => (List.mem_append.mp hp).elim (h p) (r.held p) }
theorem Rel.unpin {P P' : List Pin} {O : Addr → Prop} {σ : St} {H : Hp} {ρ : Rho} (r : f.Rel (P' ++ P) O σ H ρ) : f.Rel P O σ H ρ :=
  { r with held := fun p hp => r.held p (List.mem_append_right _ hp) }
theorem sim_for {wi : TI} {g : TG} {tb : TS} {cg : CG} {ci : CI} {b : CS} (hi : SimI f wi ci) (hg : SimG f g cg) (hb : SimS f tb b) : SimS f (tFor wi g tb) (cFor cg ci b) := fun P O σ H ρ E r w => by
  refine hi P O σ H ρ _ r (M.wp_mono (M.wp_bind.mp w) (fun ds w1 J H1 P' g1 hp hk => ?_) fun _ z => z)
  refine ⟨fun i m σ' H' => m = ds.length - i ∧ i ≤ ds.length ∧ ∃ O' ρ', f.Rel (P' ++ P) O' σ' H' ρ' ∧ (loopF cg b (ds.drop i) ρ').wp (post f P E) (XP f), ⟨ds.length, by simp, Nat.zero_le _, O, ρ, (r.growTo g1).pin hp, by rw [List.drop_zero]; exact w1⟩, ?_⟩
  rintro i m σ' H' ⟨rfl, hle, O', ρ', r', w'⟩
  have k := hk O' H' (fun p hp => r'.held p (List.mem_append_left _ hp)) i
  by_cases hi : i < ds.length
  · refine .inr ⟨(k.1 hi).1, fun σ2 H2 => ∃ O2 ρ2, f.Rel (P' ++ P) O2 σ2 H2 ρ2 ∧ (loopF cg b (ds.drop (i + 1)) ρ2).wp (post f P E) (XP f), ?_, ?_⟩
    · rintro σ2 H2 ⟨O2, ρ2, r2, w2⟩
      exact ⟨ds.length - (i + 1), by omega, rfl, hi, O2, ρ2, r2, w2⟩
    · intro x H'' hy
      obtain ⟨gg, d, hd, xd⟩ := (k.1 hi).2 x H'' hy
      have r2 : f.Rel (P' ++ P) O' σ' H'' ρ' := r'.growTo gg.gr
      have ed : ds.drop i = d :: ds.drop (i + 1) := by
        obtain ⟨h1, h2⟩ := List.getElem?_eq_some_iff.mp hd
        rw [List.drop_eq_getElem_cons h1, h2]
      rw [ed] at w'
      refine hg (P' ++ P) O' σ' H'' ρ' x d _ r2 (xd r'.dom) (M.wp_mono (M.wp_bind.mp w') (fun ρ2 w2 σ2 r3 => ?_) fun _ z => z)
      refine hb (P' ++ P) O' σ2 H'' ρ2 _ r3 (M.wp_mono (M.wp_bind.mp w2) (fun o h => ?_) fun _ z => z)
      cases o with
      | next ρ3 => exact fun O3 σ3 H3 r4 => ⟨O3, ρ3, r4, h⟩
      | cont ρ3 => exact fun O3 σ3 H3 r4 => ⟨O3, ρ3, r4, h⟩
      | brk ρ3 => exact fun O3 σ3 H3 r4 => h O3 σ3 H3 r4.unpin
      | ret d3 => exact h
  · refine .inl ⟨k.2 (by omega) hle, ?_⟩
    rw [List.drop_eq_nil_of_le (by omega)] at w'
    exact w' O' σ' H' r'.unpin
/-! the sources: a list or a tuple, a text, range(n) -/
def itemsD : D → M (List D)
  | .lst xs => .ret xs
  | .tup xs => .ret xs
  | .str z => .ret (z.cps.toList.map fun c => .str ⟨#[c]⟩)
  | _ => .stuck
def iSeq (K : PySem.W.Frag) (tl : TE) : TI := fun σ H R => tl σ H fun x H1 => (∃ a, x = .ref a ∧ (∃ xs, SqL K H1 a xs) ∧ R (Itl K a) H1) ∨ (∃ a, x = .ref a ∧ (∃ xs, SqT K H1 a xs) ∧ R (Itt K a) H1) ∨ ∃ z, x = .str z ∧ R (Its z) H1
def cItems (a : CE) : CI := fun ρ => (a ρ).bind itemsD
theorem keeps_lst {K : PySem.W.Frag} {a : Addr} {ds : List D} : Keeps K [.den (.ref a) (.lst ds)] (Itl K a) ds := fun O H hp i => by
  have h : Den K O H (.ref a) (.lst ds) := hp _ (List.mem_singleton.mpr rfl)
  cases h with
  | @lst _ vs _ n h s =>
  refine ⟨fun hi => ?_, fun hi _ => ⟨vs, SqL.of h, by rw [s.length]; exact hi⟩⟩
  obtain ⟨v, ev, xv⟩ := s.get i ds[i] (List.getElem?_eq_getElem hi)
  refine ⟨⟨vs, v, SqL.of h, ev⟩, fun x H'' hy => ?_⟩
  obtain ⟨e, q⟩ := hy
  subst e
  have := q vs (SqL.of h)
  rw [ev] at this; cases this
  exact ⟨Grow.refl _, _, List.getElem?_eq_getElem hi, fun _ => xv⟩
theorem keeps_tup {K : PySem.W.Frag} {a : Addr} {ds : List D} : Keeps K [.den (.ref a) (.tup ds)] (Itt K a) ds := fun O H hp i => by
  have h : Den K O H (.ref a) (.tup ds) := hp _ (List.mem_singleton.mpr rfl)
  obtain ⟨b, vs, e, h, s⟩ := (DenC.tup (H0 := H) (.inl h))
  cases e
  refine ⟨fun hi => ?_, fun hi _ => ⟨vs, h, by rw [s.length]; exact hi⟩⟩
  obtain ⟨v, ev, xv⟩ := s.get i ds[i] (List.getElem?_eq_getElem hi)
  refine ⟨⟨vs, v, h, ev⟩, fun x H'' hy => ?_⟩
  obtain ⟨e, q⟩ := hy
  subst e
  have := q vs h
  rw [ev] at this; cases this
  exact ⟨Grow.refl _, _, List.getElem?_eq_getElem hi, fun _ => xv⟩
theorem keeps_str {K : PySem.W.Frag} {z : Str} : Keeps K [] (Its z) (z.cps.toList.map fun c => .str ⟨#[c]⟩) := fun O H hp i => by
  refine ⟨fun hi => ?_, fun hi _ => ?_⟩
  · rw [List.length_map] at hi
    have hi' : i < z.cps.size := by simpa using hi
    refine ⟨hi', fun x H'' hy => ?_⟩
    obtain ⟨e, c, hc, ex⟩ := hy
    subst e; subst ex
    refine ⟨Grow.refl _, .str ⟨#[c]⟩, ?_, fun _ => .str _⟩
    rw [List.getElem?_map]
    have : z.cps.toList[i]? = some c := by simpa using hc
    rw [this]; rfl
  · rw [List.length_map] at hi
    show z.cps.size ≤ i
    simpa using hi
theorem simI_seq {te : TE} {a : CE} (ha : SimE f te a) : SimI f (iSeq f.K te) (cItems a) := fun P O σ H ρ R r w => by
  refine ha P O σ H ρ _ r (M.wp_mono (M.wp_bind.mp w) (fun d w1 v H1 g1 x1 => ?_) fun _ z => z)
  cases d with
  | lst xs =>
    have x1' := x1
    cases x1 with
    | @lst b vs _ n h s => exact .inl ⟨b, rfl, ⟨vs, SqL.of h⟩, w1 _ H1 [.den (.ref b) (.lst xs)] g1 (fun p hp => by rw [List.mem_singleton.mp hp]; exact x1') keeps_lst⟩
  | tup xs =>
    obtain ⟨b, vs, e, h, s⟩ := (DenC.tup (H0 := H) (.inl x1))
    subst e
    exact .inr (.inl ⟨b, rfl, ⟨vs, h⟩, w1 _ H1 [.den (.ref b) (.tup xs)] g1 (fun p hp => by rw [List.mem_singleton.mp hp]; exact x1) keeps_tup⟩)
  | str z =>
    cases x1
    exact .inr (.inr ⟨z, rfl, w1 _ H1 [] g1 (fun p hp => nomatch hp) keeps_str⟩)
  | _ => exact w1.elim
def rangeD : List D → M (List D)
  | [.int n] => if -1000000 ≤ n ∧ n ≤ 1000000 then .ret ((List.range n.toNat).map fun (i : Nat) => D.int (i : Int)) else .stuck
  | _ => .stuck
def cRange (a : CA) : CI := fun ρ => (a ρ).bind rangeD
theorem simI_range {ta : TA} {a : CA} (ha : SimA f ta a) : SimI f (iRng1 ta) (cRange a) := fun P O σ H ρ R r w => by
  refine ha P O σ H ρ _ r (M.wp_mono (M.wp_bind.mp w) (fun ds w1 vs H1 g1 s1 => ?_) fun _ z => z)
  unfold rangeD at w1
  split at w1
  · rename_i n
    split at w1
    · rename_i hn
      cases s1 with
      | cons x t =>
        cases t
        cases x
        · refine ⟨n, rfl, by omega, by omega, w1 _ H1 [] g1 (fun p hp => nomatch hp) fun O' H' _ i => ⟨fun hi => ?_, fun hi _ => ?_⟩⟩
          · rw [List.length_map, List.length_range] at hi
            refine ⟨hi, fun x H'' hy => ?_⟩
            obtain ⟨e, ex⟩ := hy
            subst e; subst ex
            refine ⟨Grow.refl _, .int (i : Int), ?_, fun _ => by rw [Int.zero_add]; exact .int _⟩
            rw [List.getElem?_map, List.getElem?_range hi]; rfl
          · rw [List.length_map, List.length_range] at hi
            exact hi
    · exact w1.elim
  · exact w1.elim
end
end Py

/-! RG: defs whose callers stand under no guard (as FnOk, with this said of the stack; repr of nested data asks it). -/
namespace Py
open PySem PySem.Spec PyProof.Rows L2

/-- room, and no guard on the stack -/
structure RoomG (n : Nat) (B : Around) : Prop where
  room : Room n B
  bare : B.guards = some []
theorem RoomG.less {m n : Nat} {B : Around} (q : RoomG n B) (le : m ≤ n) : RoomG m B := ⟨q.room.mono le, q.bare⟩
theorem RoomG.inner {n : Nat} {B : Around} (q : RoomG (n + 1) B) (en : Env) : RoomG n (B.deeper en) := ⟨q.room.deeper en, q.bare⟩

structure FnG (P : Program) (w : World) (K : PySem.W.Frag) (mg : Str → Option Value) (base : Heap) (XT : CXT) (n : Nat) (at_ : Addr) (fd : FuncData) (ps : List Str) (pr : Sp) : Prop where
  len : ∀ vs H Q E, pr vs H Q E → vs.length = ps.length
  run : ∀ (B : Around) (out : List Env) (st : Shared) (H : Hp) (ag : Args) (us : List Value) (vs : List V) (Q : VK) (E : XK), RoomG n B → Env0 P w K mg base B out st H →
    BindsTo st fd ag (ps.zip us) → Vals vs us → pr vs H Q E → codeAny (model P w) B (.call (.ref at_) ag) (CR XT out P w H st Q E) st
section
variable {P : Program} {w : World} {K : PySem.W.Frag} {mg : Str → Option Value} {base : Heap} {XT : CXT}
theorem FnG.weaker {m n : Nat} {at_ : Addr} {fd : FuncData} {ps : List Str} {pr : Sp} (G : FnG P w K mg base XT m at_ fd ps pr) (le : m ≤ n) : FnG P w K mg base XT n at_ fd ps pr :=
  ⟨G.len, fun B out st H ag us vs Q E q => G.run B out st H ag us vs Q E (q.less le)⟩
theorem FnG.imp {n : Nat} {at_ : Addr} {fd : FuncData} {ps : List Str} {pr pr' : Sp} (G : FnG P w K mg base XT n at_ fd ps pr) (le : ∀ vs H Q E, pr' vs H Q E → pr vs H Q E) : FnG P w K mg base XT n at_ fd ps pr' :=
  ⟨fun vs H Q E z => G.len vs H Q E (le _ _ _ _ z), fun B out st H ag us vs Q E q e b v z => G.run B out st H ag us vs Q E q e b v (le _ _ _ _ z)⟩

/-- room for n levels, and s more calls -/
structure RoomK (s n : Nat) (B : Around) : Prop where
  hd : B.handled = none
  dp : B.depth + 3 * n + s + 5 < recursionLimit
  un : B.units + 16 * n + 3 * s + 200 < cLine
  bare : B.guards = some []
theorem RoomG.k {n : Nat} {B : Around} (q : RoomG (n + 1) B) : RoomK 3 n B := ⟨q.room.hd, by have := q.room.dp; omega, by have := q.room.un; omega, q.bare⟩
theorem RoomK.inner {s n : Nat} {B : Around} (q : RoomK (s + 1) n B) (en : Env) : RoomK s n (B.deeper en) :=
  ⟨q.hd, by have := q.dp; show B.depth + 1 + 3 * n + s + 5 < _; omega, by have := q.un; show B.units + 3 + 16 * n + 3 * s + 200 < _; omega, q.bare⟩
theorem RoomK.g {s n : Nat} {B : Around} (q : RoomK s n B) : RoomG n B := ⟨⟨q.hd, by have := q.dp; omega, by have := q.un; omega⟩, q.bare⟩
/-- a def by its body -/
theorem FnG.of_bodyL {n : Nat} {at_ : Addr} {nm qn : Str} {par : Arguments} {body : List Stmt} {sc : Scope} {dvs : List V} {kws : List (Str × V)} {fd : FuncData} {N ps : List Str} {pr : Sp}
    (F : FunD K nm qn par body sc dvs kws at_ fd) (S : FnScope N ps sc) (len : ∀ vs H Q E, pr vs H Q E → vs.length = ps.length)
    (go : ∀ (cv : Value) (B : Around) (out : List Env) (st : Shared) (H : Hp) (vs : List V) (Q : VK) (E : XK), fd.code = cv → RoomK 2 n (B.deeper (envOfC qn sc st.heap.objs.size at_ cv)) → pr vs H Q E →
      ∃ t, PSs (cxOf XT P w K mg base N qn sc at_ cv B out st H E) body t ∧ t { nx := fun _ H' => Q .non H', rt := Q } (L2.start N vs) H) :
    FnG P w K mg base XT (n + 1) at_ fd ps pr := by
  obtain ⟨_, _, dV, kV, doc, pm, an, cv, ct, _, efd, look, code, _, _⟩ := F.ex
  subst efd
  refine ⟨len, ?_⟩
  intro B out st H ag us vs Q E q env bnd vals z
  have inK : K.In st.heap := env.mod.kin.keeps fun c o e => (env.bs c o e).1
  have free : st.heap.NoLimit := env.mod.nolimit.keeps fun c o e => (env.bs c o e).1
  have kinds : ∀ y ∈ ps.zip us, sc.names.lookup y.1 = some .local ∨ (sc.names.lookup y.1 = some .cell ∧ ((cellsFrom (st.heap.objs.size + 1) sc.names []).lookup y.1).isSome = true) := by
    rintro ⟨y, u⟩ hy
    have := S.par y (List.of_mem_zip hy).1
    exact this.imp id fun c => ⟨c, PySem.W.cellsFrom_some _ _ _ (Or.inl c)⟩
  refine codeAny_call_function q.room.depth (inK _ _ look) rfl S.co S.gen rfl (PySem.W.codeRec_of inK code) (bnd _ _ _ _ ?_)
  refine wpAny_newFunctionEnv_cells S.kind kinds fun en en_eq st1 x => ?_
  subst en_eq
  refine ⟨free.keeps x.toInCall.keep, codeAny_func ?_⟩
  obtain ⟨t, pt, tz⟩ := go cv B out st H vs Q E rfl (q.k.inner _) z
  have J0 : Inv (cxOf XT P w K mg base N qn sc at_ cv B out st H E) [] (L2.start N vs) H st1 := inv_start S q.room.hd env (len _ _ _ _ z) vals x
  refine wpAny_mono (pt.run [] st1 (L2.start N vs) H _ J0 tz) ?_ fun _ _ u => u
  intro fl st2 done
  cases fl with
  | next => obtain ⟨_, H', J, u⟩ := done; exact ⟨V.non, H', J.os, J.bare, J.base, J.hok, rfl, u⟩
  | ret r => obtain ⟨v, _, H', J, rv, u⟩ := done; exact ⟨v, H', J.os, J.bare, J.base, J.hok, rv, u⟩
  | brk => obtain ⟨_, _, _, u⟩ := done; exact u.elim
  | cont => obtain ⟨_, _, _, u⟩ := done; exact u.elim
theorem FnG.of_body {n : Nat} {at_ : Addr} {nm qn : Str} {par : Arguments} {body : List Stmt} {sc : Scope} {dvs : List V} {kws : List (Str × V)} {fd : FuncData} {N ps : List Str} {pr : Sp}
    (F : FunD K nm qn par body sc dvs kws at_ fd) (S : FnScope N ps sc) (len : ∀ vs H Q E, pr vs H Q E → vs.length = ps.length)
    (go : ∀ (cv : Value) (B : Around) (out : List Env) (st : Shared) (H : Hp) (vs : List V) (Q : VK) (E : XK), RoomG n (B.deeper (envOfC qn sc st.heap.objs.size at_ cv)) → pr vs H Q E →
      ∃ t, PSs (cxOf XT P w K mg base N qn sc at_ cv B out st H E) body t ∧ t { nx := fun _ H' => Q .non H', rt := Q } (L2.start N vs) H) :
    FnG P w K mg base XT (n + 1) at_ fd ps pr := FnG.of_bodyL F S len fun cv B out st H vs Q E _ q z => go cv B out st H vs Q E q.g z
end

/-! ### calls -/
section
variable {X : Cx} {XT : CXT} {n : Nat} {at_ : Addr} {fd : FuncData} {ps : List Str} {pr : Sp} {E : XK} {x : Str} {p pos : Pos} {e : Expr} {es : List Expr} {t : TA}
theorem FnG.goes {pins : List (Addr × Obj)} {σ : L2.St} {H : Hp} {st : Shared} {Q : VK} {us : List Value} {vs : List V} (G : FnG X.prog X.w X.K X.mg X.base XT n at_ fd ps pr) (q : RoomG n X.A) (bn : Binds X.K fd ps []) (pass : Passes XT X E)
    (J : Inv X pins σ H st) (rel : Vals vs us) (z : pr vs H Q E) : wpAny (model X.prog X.w) X.A (call (.ref at_) us) (EP X pins σ Q) X.xe st := by
  have hl : (us ++ []).length = ps.length := by rw [List.append_nil, ← rel.length]; exact G.len _ _ _ _ z
  have b := bn st us J.kIn hl
  rw [List.append_nil] at b
  refine wpAny_call (codeAny_mono (G.run X.A X.stack st H ⟨us, []⟩ us vs Q E q J.env0 b rel z) ?_)
  intro r st' c
  match r, c with
  | .error er, c => exact pass pins σ H st er st' J c
  | .ok (.ret u), c => exact J.after c
  | .ok .next, c => exact c.elim
  | .ok .brk, c => exact c.elim
  | .ok .cont, c => exact c.elim
theorem pe_callG (G : FnG X.prog X.w X.K X.mg X.base XT n at_ fd ps pr) (q : RoomG n X.A) (gl : Gl X x) (gm : X.mg x = some (.ref at_)) (kp : PySem.W.keepIn X.K (.ref at_) = true) (bn : Binds X.K fd ps []) (pass : Passes XT X E) (args : PA X (e :: es) t)
    (nd : (x == ("__debug__" : Str)) = false) (s1 : starEach (e :: es) X.env = (false, eval e X.env) :: starEach es X.env) (s2 : (backTo pos (starEach es X.env)).any (·.1) = false) : PE X (.Call (.Name x p) (e :: es) [] pos) (tCall pr [] E t) := by
  constructor
  intro pins st σ H Q J h
  refine wpAny_Call_Name_kw (ld_glob J gl gm (PySem.W.callWith_K (h₀ := X.base) J.ok.mod.kin kp (thn (args.run pos pins st σ H _ J h) ?_) s1 s2) nd)
  rintro us st1 ⟨vs, H1, J1, rel, z⟩
  rw [List.append_nil] at z
  exact ⟨J1.kIn, G.goes q bn pass J1 rel z⟩
theorem pe_callG0 (G : FnG X.prog X.w X.K X.mg X.base XT n at_ fd ps pr) (q : RoomG n X.A) (gl : Gl X x) (gm : X.mg x = some (.ref at_)) (kp : PySem.W.keepIn X.K (.ref at_) = true) (bn : Binds X.K fd ps []) (pass : Passes XT X E)
    (nd : (x == ("__debug__" : Str)) = false) : PE X (.Call (.Name x p) [] [] pos) (tCall pr [] E tNil) := by
  constructor
  intro pins st σ H Q J h
  exact wpAny_Call_Name_kw (ld_glob J gl gm (PySem.W.callWith_K0 J.kIn kp (G.goes (us := []) q bn pass J .nil h)) nd)
end

/-! ### the law's own call -/
theorem caller_room {n : Nat} (q : Room n callerA) : RoomG n callerA := ⟨q, rfl⟩
section
variable {P : Program} {w : World} {K : PySem.W.Frag} {mg mb : Str → Option Value} {XT : CXT} {n : Nat} {fa a : Addr} {fd : FuncData} {x : Str} {pr : Sp} {st : Shared} {vs : List Value} {ns : List Int}
/-- a heap that tracks the script alone, or nothing -/
theorem law_from {H : Hp} (KX : K.In st.heap) (gl : st.heap.Ns mainGlobals mg) (bl : st.heap.Ns builtinsNs mb) (bb : ∀ x : Str, x ≠ "__name__" → mb x = bootBuiltins x) (nl : st.heap.NoLimit) (ng : st.gens = #[])
    (obj : st.heap.get? a = some { cls := .type "list", data := .seq vs.toArray }) (q : Room n callerA) (F : ∀ base : Heap, K.In base → base.Ns mainGlobals mg → FnG P w K mg base XT n fa fd [x] pr)
    (bn : ∀ (s : Shared) (u : Value), BindsTo s fd ⟨[u], []⟩ [(x, u)]) (noX : ∀ e s', XT [] H st (fun _ _ _ => False) e s' → False) (only : Only H) (want : pr [.ref a] H (fun v _ => v = .bl true) fun _ _ _ => False)
    (ok : HOk P w H st.heap) (alone : ∀ b, H b ≠ none → b = a) (notK : H a ≠ none → K.lookup a = none) :
    codeAny (model P w) callerA (.call (.ref fa) ⟨[.ref a], []⟩) (fun r s' => r = .ok (.ret (.bool true)) ∧ OldK st.heap s'.heap ∧ s'.os = st.os ∧ AllBare s'.gens) st := by
  have freeD : ∀ (b : Addr) (o : Obj) (es : Array DictEntry) (ep : Nat), st.heap.get? b = some o → o.data = .dict es ep → H b = none := by
    intro b o es ep h1 h2
    refine Classical.byContradiction fun h => ?_
    have hb := alone b h
    rw [hb, obj] at h1
    cases h1
    exact Data.noConfusion (show Data.seq vs.toArray _ = Data.dict es ep from h2)
  have ns_ : ∀ (b : Addr) (m : Str → Option Value), st.heap.Ns b m → (hidT st.heap H).Ns b m := by
    rintro b m ⟨o, es, ep, h1, h2, h3⟩
    exact ⟨o, es, ep, hidT_get h1 (freeD b o es ep h1 h2), h2, h3⟩
  have kb : K.In (hidT st.heap H) := by
    intro b o h1
    refine hidT_get (KX b o h1) (Classical.byContradiction fun h => ?_)
    have hb := alone b h
    rw [hb] at h h1
    rw [notK h] at h1
    cases h1
  have md : Mod K mg (hidT st.heap H) := ⟨kb, ns_ _ _ gl, ⟨mb, ns_ _ _ bl, bb⟩, by obtain ⟨mc, c1, c2⟩ := nl; exact ⟨mc, ns_ _ _ c1, c2⟩⟩
  have noF : ∀ b ∈ frs ([] : List Env), H b = none := fun b hb => by simp [frs] at hb
  have env : Env0 P w K mg (hidT st.heap H) callerA [] st H :=
    { hok := ok, bare := .of_eq ng, frf := noF, bs := (fun _ _ h => of_hidT h), funs := trivial, bsz := Nat.le_of_eq (hidT_size _ _), mod := md, frames := rfl }
  refine codeAny_mono ((F _ kb (ns_ _ _ gl)).run callerA [] st H ⟨[.ref a], []⟩ [.ref a] [.ref a] _ _ (caller_room q) env (bn st (.ref a)) (.cons rfl .nil) want) ?_
  intro r s' c
  match r, c with
  | .error er, c => exact (noX er s' c).elim
  | .ok .next, c => exact c.elim
  | .ok .brk, c => exact c.elim
  | .ok .cont, c => exact c.elim
  | .ok (.ret u), c =>
    obtain ⟨v, H', c1, c2, c3, c4, c5, c6⟩ := c
    have c7 : v = .bl true := c6
    rw [c7] at c5
    have c8 : u = Value.bool true := c5
    rw [c8]
    refine ⟨rfl, OldK.of_keep ?_, c1, c2⟩
    intro b o h1
    rcases only b with h2 | ⟨ob, xs, h2⟩
    · exact c3.keep b o h1 h2 (by intro m; cases m) (by intro m; cases m)
    · have k1 := (ok b _ h2).1
      have k2 := (c4 b _ (c3.frzs b ob _ h2)).1
      rw [h1] at k1
      cases k1
      exact k2
theorem law_callG (KX : K.In st.heap) (gl : st.heap.Ns mainGlobals mg) (bl : st.heap.Ns builtinsNs mb) (bb : ∀ x : Str, x ≠ "__name__" → mb x = bootBuiltins x) (nl : st.heap.NoLimit) (ng : st.gens = #[])
    (obj : st.heap.get? a = some { cls := .type "list", data := .seq vs.toArray }) (hints : IntsAre vs ns) (few : ns.length ≤ sizeLine) (q : Room n callerA) (F : ∀ base : Heap, K.In base → base.Ns mainGlobals mg → FnG P w K mg base XT n fa fd [x] pr)
    (bn : ∀ (s : Shared) (u : Value), BindsTo s fd ⟨[u], []⟩ [(x, u)]) (want : ∀ H : Hp, Only H → SqL K H a (ns.map V.int) → pr [.ref a] H (fun v _ => v = .bl true) fun _ _ _ => False) (noX : ∀ H e s', XT [] H st (fun _ _ _ => False) e s' → False) :
    codeAny (model P w) callerA (.call (.ref fa) ⟨[.ref a], []⟩) (fun r s' => r = .ok (.ret (.bool true)) ∧ OldK st.heap s'.heap ∧ s'.os = st.os ∧ AllBare s'.gens) st := by
  have rel := vals_ints hints
  by_cases hk : ∃ o, K.lookup a = some o
  · obtain ⟨o, hk⟩ := hk
    have e := KX a o hk
    rw [obj] at e
    cases e
    have none_ : ∀ (b : Addr) (u : HO), (fun _ : Addr => (none : Option HO)) b = some u → False := fun b u z => by cases z
    refine law_from (H := fun _ => none) KX gl bl bb nl ng obj q F bn (noX _) (fun _ => Or.inl rfl) (want _ (fun _ => Or.inl rfl) ?_) (fun b u z => (none_ b u z).elim) (fun b z => absurd rfl z) (fun z => absurd rfl z)
    exact Or.inr ⟨_, vs.toArray, _, hk, rfl, rfl, rfl, by rw [List.size_toArray, hints.length]; exact few, by simpa using rel⟩
  · have hk' : K.lookup a = none := by
      cases h : K.lookup a with
      | none => rfl
      | some o => exact absurd ⟨o, h⟩ hk
    let fr : HO := .frz { cls := .type "list", data := .seq vs.toArray } (.lst (ns.map V.int))
    let H : Hp := fun b => if b = a then some fr else none
    have at_a : H a = some fr := if_pos rfl
    have off_a : ∀ b, b ≠ a → H b = none := fun b hb => if_neg hb
    have only : Only H := fun b => by
      by_cases hb : b = a
      · rw [hb]; exact Or.inr ⟨_, _, at_a⟩
      · exact Or.inl (off_a b hb)
    refine law_from (H := H) KX gl bl bb nl ng obj q F bn (noX _) only (want H only (Or.inl (Or.inr ⟨_, at_a⟩))) ?_ (fun b z => Classical.byContradiction fun hb => z (off_a b hb)) (fun _ => hk')
    intro b u z
    by_cases hb : b = a
    · subst hb
      rw [at_a] at z
      cases z
      exact ⟨obj, by rw [List.length_map]; exact few, vs, _, rel, obj⟩
    · rw [off_a b hb] at z
      cases z
end
/-- the end of a law row -/
theorem walk_G {l : PySem.W.OpenLaw} {m n : Nat} {q : Program} {loose : List Str} {XP : (Str → Option Value) → Heap → Prop} {YP : World → Heap → Prop} {d : DefRec} {XT : World → CXT} {x : Str}
    (most : l.most = some m) (few : m ≤ sizeLine) (nodef : d.params.defaults = []) (room : Room n callerA)
    (F : ∀ (w : World) (mg : Str → Option Value) (fa : Addr) (h : Heap), YP w h → h.Ns mainGlobals mg → mg d.name = some (.ref fa) →
      ∃ (K : PySem.W.Frag) (fd : FuncData) (pr : Sp), K.In h ∧ (∀ (s : Shared) (u : Value), BindsTo s fd ⟨[u], []⟩ [(x, u)]) ∧
        (∀ (H : Hp) (a : Addr) (ns : List Int), ns.length ≤ m → Only H → SqL K H a (ns.map V.int) → pr [.ref a] H (fun v _ => v = .bl true) fun _ _ _ => False) ∧
        ∀ base : Heap, K.In base → base.Ns mainGlobals mg → FnG l.prog w K mg base (XT w) n fa fd [x] pr)
    (noX : ∀ (w : World) (H : Hp) (s : Shared) (e : Value) (s' : Shared), XT w [] H s (fun _ _ _ => False) e s' → False) :
    PySem.W.WalkO q loose XP YP l.row.toRowW d [] (fun f vs => PySem.call f vs) := by
  apply Att.attach_call most nodef
  intro w s0 s1 mg mb fa o pm cd doc a vs ns T Y h1 h2 h3 h4 h5 h6 h7 h8
  obtain ⟨K, fd, pr, inK, bn, want, G⟩ := F w mg fa _ Y T.T.g h4
  exact law_callG inK T.T.g T.T.b T.T.builtins T.T.nolimit h8 h5 h6 (Nat.le_trans h7 few) room G bn (fun H hO hS => want H a ns h7 hO hS) (fun H e s' => noX w H s1 e s')
end Py

/-! R6: calls of defs, comprehensions, defs. -/
namespace Py
open PySem L2
variable [Wd]

/-! ### a def's promise by data -/
def spD (K : PySem.W.Frag) (mg : Str → Option Value) (z : Bool) (n : Nat) (F : List D → M D) : Sp := fun vs H Q E => vs.length = n ∧ ∃ (O : Addr → Prop) (ds : List D), ((∀ a, O a → H a ≠ none) ∧ LamX.Tabs Wd.T H) ∧ Dens K O H vs ds ∧
  (F ds).wp (fun d => ∀ v H', Gr z O H H' → Den K O H' v d → Q v H') (fun x => ∀ cls dd H', Gr z O H H' → XRel K mg O H' cls dd x → E cls dd H')
theorem XRel.less {K : PySem.W.Frag} {mg : Str → Option Value} {O O' : Addr → Prop} {H : Hp} {cls : Value} {d : Option Addr} {x : Exc} (ho : ∀ a, O' a → O a) (h : XRel K mg O H cls d x) : XRel K mg O' H cls d x := by
  obtain ⟨C, h1, h2, h3⟩ := h
  refine ⟨C, h1, h2, h3.imp id fun ⟨ne, da, fs, e, n, h, s⟩ => ⟨ne, da, fs, e, fun z => n (ho _ z), h, s.less ho⟩⟩
def cCall (n : Nat) (F : List D → M D) (a : CA) : CE := fun ρ => (a ρ).bind fun ds => if ds.length = n then F ds else .stuck
section
variable {f : Cf}
theorem sim_call {ta : TA} {a : CA} {n : Nat} {F : List D → M D} (ha : SimA f ta a) : SimE f (tCall (spD f.K f.mg f.z n F) [] f.E ta) (cCall n F a) := fun P O σ H ρ Q r w => by
  refine ha P O σ H ρ _ r (M.wp_mono (M.wp_bind.mp w) (fun ds w1 vs H1 g1 s1 => ?_) fun _ z => z)
  split at w1
  · rename_i hn
    rw [List.append_nil]
    refine ⟨by rw [s1.length]; exact hn, O, ds, ⟨(r.growTo g1).dom, (r.growTo g1).tab⟩, s1, M.wp_mono w1 (fun d w2 v H2 g2 x2 => w2 v H2 (g1.trans g2) x2) fun x hx cls dd H2 g2 xr => ?_⟩
    exact hx cls dd H2 ((r.growTo g1).grow.trans (g2.less r.sub)) (xr.less r.sub)
  · exact w1.elim
end
/-- a def of the text that keeps such a promise -/
structure CallOk (P : Program) (w : World) (K : PySem.W.Frag) (mg : Str → Option Value) (base : Heap) (k : Nat) (x : Str) (z : Bool) (n : Nat) (F : List D → M D) : Prop where
  ex : ∃ (f : Addr) (fd : FuncData) (ps : List Str), mg x = some (.ref f) ∧ PySem.W.keepIn K (.ref f) = true ∧ Binds K fd ps [] ∧ FnG P w K mg base (L2.CX P w) k f fd ps (spD K mg z n F)
section
variable {X : Cx} {x : Str} {p pos : Pos} {e : Expr} {es : List Expr} {t : TA} {k n : Nat} {z : Bool} {F : List D → M D} {E : XK}
theorem pe_callD (C : CallOk X.prog X.w X.K X.mg X.base k x z n F) (hr : RoomG k X.A) (hx : Passes (L2.CX X.prog X.w) X E) (ha : PA X (e :: es) t) (hg : Gl X x := by rfl)
    (hdb : (x == ("__debug__" : Str)) = false := by decide) (he : starEach (e :: es) X.env = (false, eval e X.env) :: starEach es X.env := by rfl) (hpl : (backTo pos (starEach es X.env)).any (·.1) = false := by rfl) :
    PE X (.Call (.Name x p) (e :: es) [] pos) (tCall (spD X.K X.mg z n F) [] E t) := by
  obtain ⟨f, fd, ps, hm, hk, hb, G⟩ := C.ex
  exact pe_callG G hr hg hm hk hb hx ha hdb he hpl
theorem pe_callD0 (C : CallOk X.prog X.w X.K X.mg X.base k x z n F) (hr : RoomG k X.A) (hx : Passes (L2.CX X.prog X.w) X E) (hg : Gl X x := by rfl)
    (hdb : (x == ("__debug__" : Str)) = false := by decide) : PE X (.Call (.Name x p) [] [] pos) (tCall (spD X.K X.mg z n F) [] E tNil) := by
  obtain ⟨f, fd, ps, hm, hk, hb, G⟩ := C.ex
  exact pe_callG0 G hr hg hm hk hb hx hdb
end

/-! ### the walk over a list, a tuple or a text, whichever comes -/
theorem pi_seq {X : Cx} {tg l : Expr} {tl : TE} (hl : PE X l tl) : PI X tg l (iSeq X.K tl) := by
  refine ⟨fun pins s σ H R I h => ?_⟩
  refine thn (hl.run pins s σ H _ I h) fun v s1 ⟨x, H1, I1, r1, q1⟩ => ?_
  rcases q1 with ⟨a, e, hq, q⟩ | ⟨a, e, hq, q⟩ | ⟨z, e, q⟩
  · have P1 : PE X l (fun _ _ _ => False) := ⟨fun _ _ _ _ _ _ h => h.elim⟩
    subst e
    obtain ⟨xs, hq⟩ := hq
    cases r1
    obtain ⟨its, rv, p, hz⟩ := I1.list hq
    refine wpAny_pyIter_list p.isList ?_
    refine ⟨s1.heap.objs.size, [s1.heap.objs.size], _, _, H1, rfl, I1.kept (t' := s1.toks) fun b o e => Heap.get?_push_of_some _ e, turn_list a _, ⟨_, Heap.get?_push_size _ rfl, rfl, rfl⟩, fun b hb => ?_, q⟩
    have e : b = s1.heap.objs.size := by simpa using hb
    subst e
    exact I1.fpOk (Nat.le_refl _) (I1.hok.fresh (Nat.le_refl _))
  · subst e
    obtain ⟨xs, hq⟩ := hq
    cases r1
    obtain ⟨its, rv, p, hz⟩ := I1.tuple hq
    refine wpAny_pyIter_tuple (show s1.heap.IsTuple a its.toArray from p) ?_
    refine ⟨s1.heap.objs.size, [s1.heap.objs.size], _, _, H1, rfl, I1.kept (t' := s1.toks) fun b o e => Heap.get?_push_of_some _ e, turn_tuple a _, ⟨_, Heap.get?_push_size _ rfl, rfl, rfl⟩, fun b hb => ?_, q⟩
    have e : b = s1.heap.objs.size := by simpa using hb
    subst e
    exact I1.fpOk (Nat.le_refl _) (I1.hok.fresh (Nat.le_refl _))
  · subst e
    obtain ⟨t, rfl⟩ := r1
    cases ha : z.cps.all (· < 128)
    · exact wpAny_pyIter_wide ha (pi_one (tk := s1.toks) I1 _ (turn_str _ z t "str_iterator" (.inr rfl)) ⟨_, Heap.get?_push_size _ rfl, rfl, rfl⟩ q)
    · exact wpAny_pyIter_ascii ha (pi_one (tk := s1.toks) I1 _ (turn_str _ z t "str_ascii_iterator" (.inl rfl)) ⟨_, Heap.get?_push_size _ rfl, rfl, rfl⟩ q)

/-! ### comprehensions -/
def noErr {α : Type} : M α → M α
  | .ret a => .ret a
  | .err _ => .stuck
  | .stuck => .stuck
  | .draw n k => .draw n fun i => noErr (k i)
theorem noErr_wp {α : Type} {m : M α} {Q : α → Prop} {E E' : Exc → Prop} (h : (noErr m).wp Q E) : m.wp Q E' := by
  induction m with
  | ret a => exact h
  | err x => exact h.elim
  | stuck => exact h
  | draw n k ih => exact fun i hi => ih i (h i hi)
theorem noErr_ret {α : Type} (a : α) : noErr (M.ret a) = .ret a := rfl
def wipeR (ρ : Rho) : List Nat → Rho
  | [] => ρ
  | v :: vs => (wipeR ρ vs).set v none
def loopC (g : CG) (t : CT) (e : CE) (ρ : Rho) : List D → M (List D)
  | [] => .ret []
  | d :: r => (g d ρ).bind fun ρ1 => (t ρ1).bind fun b => if b = true then (e ρ1).bind fun y => (loopC g t e ρ r).bind fun ys => .ret (y :: ys) else loopC g t e ρ r
def cLc (vs : List Nat) (g : CG) (c : CI) (t : CT) (e : CE) : CE := fun ρ => (c ρ).bind fun ds => if ds.length ≤ LIM then (noErr (loopC g t e (wipeR ρ vs) ds)).bind fun ys => .ret (.lst ys) else .stuck
def cYes : CT := fun _ => .ret true
section
variable {f : Cf} {P : List Pin} {O : Addr → Prop} {σ : St} {H : Hp} {ρ : Rho}
theorem sim_yes : SimT f tYes cYes := fun P O σ H ρ Q r w => w H (Gr.refl _ _ H)
theorem Rel.set_none (r : f.Rel P O σ H ρ) (i : Nat) (fi : f.fix i = none) : f.Rel P O (σ.set i none) H (ρ.set i none) where
  len := by rw [List.length_set, List.length_set]; exact r.len
  sdom := r.sdom
  dom := r.dom
  sub := r.sub
  new := r.new
  grow := r.grow
  slot := fun j e h1 => by
    rcases get_set h1 with ⟨_, q2⟩ | ⟨q1, q2⟩
    · cases q2
    · obtain ⟨w, ew, xw⟩ := r.slot j e q2
      exact ⟨w, by rw [List.getElem?_set_ne q1]; exact ew, xw⟩
  mine := fun j e h1 => by
    rcases get_set h1 with ⟨_, q2⟩ | ⟨q1, q2⟩
    · cases q2
    · obtain ⟨w, ew, xw⟩ := r.mine j e q2
      exact ⟨w, by rw [List.getElem?_set_ne q1]; exact ew, xw⟩
  inj := fun j k a d1 d2 h3 h4 h5 h6 => by
    rcases get_set h3 with ⟨_, q⟩ | ⟨q1, q3⟩
    · cases q
    · rcases get_set h4 with ⟨_, q⟩ | ⟨p1, p3⟩
      · cases q
      · rw [List.getElem?_set_ne q1] at h5
        rw [List.getElem?_set_ne p1] at h6
        exact r.inj j k a d1 d2 q3 p3 h5 h6
  held := r.held
  fix := fun j a h => set_fix fi h (r.fix j a h)
  tab := r.tab
theorem Rel.wipe (r : f.Rel P O σ H ρ) : ∀ vs : List Nat, (∀ v ∈ vs, f.fix v = none) → f.Rel P O (L2.wipe σ vs) H (wipeR ρ vs)
  | [], _ => r
  | v :: vs, hv => (Rel.wipe r vs fun u hu => hv u (List.mem_cons_of_mem _ hu)).set_none v (hv v List.mem_cons_self)
/-- a new object is guarded: it is no slot's, and nothing leans on it -/
theorem Rel.guard {p : Addr} {o : HO} (r : f.Rel P O σ H ρ) (hp : H p = none) : f.Rel P (also O p) σ (upd H p o) ρ := by
  have g : Gr f.z O H (upd H p o) := (Grow.new hp).gr
  have mr : ∀ {v : V} {e : D}, Den f.K O H v e → Den f.K (also O p) (upd H p o) v e := fun {v e} x => (x.more hp).ext (Grow.new hp).ext
  refine ⟨r.len, r.sdom, ?_, fun a h => .inl (r.sub a h), ?_, r.grow.trans (g.less r.sub), ?_, ?_, r.inj, fun q hq => ((r.held q hq).more hp).ext (Grow.new hp).ext, r.fix, g.tab r.tab⟩
  · intro a h
    rcases h with h | h
    · exact g.there (r.dom a h)
    · subst h; rw [upd_same]; intro z; cases z
  · intro a h
    rcases h with h | h
    · exact r.new a h
    · subst h; exact .inr (r.grow.fresh hp)
  · intro j e h1
    obtain ⟨w, ew, xw⟩ := r.slot j e h1
    exact ⟨w, ew, mr xw⟩
  · intro j e h1
    obtain ⟨a, ew, oa, na, ta⟩ := r.mine j e h1
    exact ⟨a, ew, .inl oa, na, ta.map (g.onT oa) fun _ _ y => mr y⟩
/-- a guarded object is changed -/
theorem Rel.touch {p : Addr} {o : HO} (r : f.Rel P O σ H ρ) (nc : Nc (H p)) (op : O p) (h0 : f.H0 p = none) (hn : ∀ (i : Nat) d a, ρ[i]? = some (some (true, d)) → σ[i]? = some (some (.ref a)) → a ≠ p) : f.Rel P O σ (upd H p o) ρ := by
  have x : Ext O H (upd H p o) := Ext.write op
  refine ⟨r.len, r.sdom, ?_, r.sub, r.new, ?_, ?_, ?_, r.inj, fun q hq => (r.held q hq).ext x, r.fix, tabs_upd nc r.tab⟩
  · intro b hb
    by_cases e : b = p
    · subst e; rw [upd_same]; intro z; cases z
    · rw [upd_ne e]; exact r.dom b hb
  · refine ⟨fun b u hb => ?_, fun tq => tabs_upd nc (r.grow.tab tq)⟩
    have : b ≠ p := fun e => by subst e; rw [h0] at hb; cases hb
    rw [upd_ne this]
    exact r.grow.at_ b u hb
  · intro j e h1
    obtain ⟨w, ew, xw⟩ := r.slot j e h1
    exact ⟨w, ew, xw.ext x⟩
  · intro j e h1
    obtain ⟨a, ew, oa, na, ta⟩ := r.mine j e h1
    exact ⟨a, ew, oa, na, ta.ext x fun u hu _ => by rw [upd_ne (hn j e a h1 ew)]; exact hu⟩
theorem Gr.updNew {z : Bool} {O : Addr → Prop} {H H' : Hp} {p : Addr} {o : HO} (g : Gr z O H H') (nc : Nc (H' p)) (hp : H p = none) : Gr z O H (upd H' p o) := ⟨fun a u h => by
  rw [upd_ne (ne_of_none h hp)]; exact g.at_ a u h, fun t => tabs_upd nc (g.tab t)⟩
theorem get_wipe {vs : List Nat} {i : Nat} {d : Bool × D} : (wipeR ρ vs)[i]? = some (some d) → ρ[i]? = some (some d) := by
  induction vs with
  | nil => exact id
  | cons v vs ih =>
    intro h
    rcases get_set h with ⟨_, q⟩ | ⟨_, q⟩
    · cases q
    · exact ih q
theorem set_comm_none {α : Type} (l : List (Option α)) (i j : Nat) : (l.set i none).set j none = (l.set j none).set i none := by
  by_cases e : i = j
  · subst e; rfl
  · exact List.set_comm _ _ e
theorem wipe_set_none (σ : St) (i : Nat) : ∀ vs : List Nat, wipe (σ.set i none) vs = (wipe σ vs).set i none
  | [] => rfl
  | v :: vs => by
    show (wipe (σ.set i none) vs).set v none = ((wipe σ vs).set v none).set i none
    rw [wipe_set_none σ i vs, set_comm_none]
theorem wipe_in {i : Nat} {x : Option V} (σ : St) : ∀ vs : List Nat, i ∈ vs → wipe (σ.set i x) vs = wipe σ vs
  | [], h => nomatch h
  | v :: vs, h => by
    show (wipe (σ.set i x) vs).set v none = (wipe σ vs).set v none
    by_cases hm : i ∈ vs
    · rw [wipe_in σ vs hm]
    · have e : i = v := by rcases List.mem_cons.mp h with e | e; exact e; exact absurd e hm
      subst e
      have : ∀ (τ : St) (ws : List Nat), (wipe τ ws).set i none = wipe (τ.set i none) ws := fun τ ws => (wipe_set_none τ i ws).symm
      rw [this, this, List.set_set]
theorem wipe_wipe (σ : St) : ∀ vs : List Nat, wipe (wipe σ vs) vs = wipe σ vs := fun vs => by
  have : ∀ (ws : List Nat), (∀ w ∈ ws, w ∈ vs) → wipe (wipe σ ws) vs = wipe σ vs := by
    intro ws
    induction ws with
    | nil => intro _; rfl
    | cons v ws ih =>
      intro h
      show wipe ((wipe σ ws).set v none) vs = wipe σ vs
      rw [wipe_in _ vs (h v List.mem_cons_self)]
      exact ih fun w hw => h w (List.mem_cons_of_mem _ hw)
  exact this vs fun _ h => h
/-- a target whose names are all among vs -/
def Wp (vs : List Nat) (g : TG) : Prop := ∀ (σ0 σ : St) (x : V) (H : Hp) (Q : St → Hp → Prop), wipe σ vs = wipe σ0 vs → g x σ H Q → g x σ H fun σ2 H2 => wipe σ2 vs = wipe σ0 vs ∧ Q σ2 H2
def Wps (vs : List Nat) (g : TGs) : Prop := ∀ (σ0 σ : St) (x : List V) (H : Hp) (Q : St → Hp → Prop), wipe σ vs = wipe σ0 vs → g x σ H Q → g x σ H fun σ2 H2 => wipe σ2 vs = wipe σ0 vs ∧ Q σ2 H2
theorem wp_name {vs : List Nat} {i : Nat} (h : i ∈ vs := by decide) : Wp vs (gName i) := fun σ0 σ x H Q e q => ⟨by rw [wipe_in σ vs h]; exact e, q⟩
theorem wps_nil {vs : List Nat} : Wps vs gNil := fun σ0 σ x H Q e q => ⟨q.1, e, q.2⟩
theorem wps_cons {vs : List Nat} {g : TG} {gs : TGs} (hm : ∀ (x : V) (σ : St) (H : Hp) (Q Q' : St → Hp → Prop), (∀ σ' H', Q σ' H' → Q' σ' H') → g x σ H Q → g x σ H Q') (h : Wp vs g) (hs : Wps vs gs) : Wps vs (gCons g gs) := fun σ0 σ x H Q e q => by
  obtain ⟨v, r, rfl, q⟩ := q
  exact ⟨v, r, rfl, hm _ _ _ _ _ (fun σ' H' z => hs σ0 σ' r H' Q z.1 z.2) (h σ0 σ v H _ e q)⟩
theorem gm_name {i : Nat} : ∀ (x : V) (σ : St) (H : Hp) (Q Q' : St → Hp → Prop), (∀ σ' H', Q σ' H' → Q' σ' H') → gName i x σ H Q → gName i x σ H Q' := fun _ _ _ _ _ h q => h _ _ q
theorem wp_tup {vs : List Nat} {K : PySem.W.Frag} {n : Nat} {gs : TGs} (h : Wps vs gs) : Wp vs (gTup K n gs) := fun σ0 σ x H Q e ⟨a, xs, h1, h2, h3, q⟩ => ⟨a, xs, h1, h2, h3, h σ0 σ xs H Q e q⟩
abbrev Cf.calm (f : Cf) : Cf := { f with E := E0 }
theorem simN_lc {wi : TI} {g : TG} {tt : TT} {te : TE} {vs : List Nat} {cg : CG} {ci : CI} {ct : CT} {ce : CE} (hi : SimI f wi ci) (hg : SimG f.calm g cg) (ht : SimT f.calm tt ct) (he : SimE f.calm te ce)
    (hwp : Wp vs g) (hfx : ∀ v ∈ vs, f.fix v = none) :
    SimN f (tLc wi g tt te vs) (cLc vs cg ci ct ce) := fun P O σ H ρ Q r w => by
  refine hi P O σ H ρ _ r (M.wp_mono (M.wp_bind.mp w) (fun ds w1 J H1 P' g1 hp hk => ?_) fun _ z => z)
  split at w1
  · rename_i hlen
    intro Dl hD
    have w2 := noErr_wp (E' := fun _ => False) (M.wp_bind.mp w1)
    have r1 : f.Rel (P' ++ P) O σ H1 ρ := (r.growTo g1).pin hp
    have h0 : f.H0 Dl = none := r1.grow.fresh hD
    have hne : ∀ (i : Nat) d a, ρ[i]? = some (some (true, d)) → σ[i]? = some (some (.ref a)) → a ≠ Dl := fun i d a h2 h3 => by
      obtain ⟨b, e, ob, _⟩ := r1.mine i d h2
      rw [h3] at e; cases e
      exact fun z => r1.dom a ob (z ▸ hD)
    refine ⟨fun i m H' => m = ds.length - i ∧ i ≤ ds.length ∧ ∃ acc, acc.length ≤ i ∧ Gr f.z O H1 H' ∧ f.Rel (P' ++ P) (also O Dl) σ H' ρ ∧ (∃ us, H' Dl = some (.lst us) ∧ Dens f.K (also O Dl) H' us acc) ∧
      (loopC cg ct ce (wipeR ρ vs) (ds.drop i)).wp (fun ys => ∀ p H2, Gr f.z O H H2 → H p = none → Top f.K (also O p) H2 p (.lst (acc ++ ys)) → Q (.ref p) H2) (fun _ => False), ?_, ?_⟩
    · refine ⟨ds.length, by simp, Nat.zero_le _, [], Nat.le_refl _, (Grow.new hD).gr, r1.guard hD, ⟨[], upd_same, .nil⟩, ?_⟩
      rw [List.drop_zero]
      exact w2
    · rintro i m H' ⟨rfl, hle, acc, hacc, gH, rH, ⟨us, hus, sus⟩, w'⟩
      have k := hk (also O Dl) H' (fun p hp => rH.held p (List.mem_append_left _ hp)) i
      by_cases hi : i < ds.length
      · refine .inr ⟨(k.1 hi).1, fun H2 => i + 1 ≤ ds.length ∧ ∃ acc, acc.length ≤ i + 1 ∧ Gr f.z O H1 H2 ∧ f.Rel (P' ++ P) (also O Dl) σ H2 ρ ∧ (∃ us, H2 Dl = some (.lst us) ∧ Dens f.K (also O Dl) H2 us acc) ∧
          (loopC cg ct ce (wipeR ρ vs) (ds.drop (i + 1))).wp (fun ys => ∀ p H3, Gr f.z O H H3 → H p = none → Top f.K (also O p) H3 p (.lst (acc ++ ys)) → Q (.ref p) H3) (fun _ => False), ?_, ?_⟩
        · rintro H2 ⟨h1, h2⟩
          exact ⟨ds.length - (i + 1), by omega, rfl, h1, h2⟩
        · intro x H'' hy
          obtain ⟨gg, d, hd, xd⟩ := (k.1 hi).2 x H'' hy
          have r2 : f.Rel (P' ++ P) (also O Dl) σ H'' ρ := rH.growTo gg.gr
          have ed : ds.drop i = d :: ds.drop (i + 1) := by
            obtain ⟨h1, h2⟩ := List.getElem?_eq_some_iff.mp hd
            rw [List.drop_eq_getElem_cons h1, h2]
          rw [ed] at w'
          have gH2 : Gr f.z O H1 H'' := gH.trans gg.gr
          have hus2 : H'' Dl = some (.lst us) := gg Dl _ hus
          have sus2 : Dens f.K (also O Dl) H'' us acc := sus.ext gg.ext
          refine hwp σ (wipe σ vs) x H'' _ (wipe_wipe σ vs) (hg (P' ++ P) (also O Dl) (wipe σ vs) H'' (wipeR ρ vs) x d _ (r2.wipe vs hfx) (xd rH.dom) (M.wp_mono (M.wp_bind.mp w') (fun ρ1 w3 σ1 r3 => ?_) fun _ z => z.elim))
          refine ht (P' ++ P) (also O Dl) σ1 H'' ρ1 _ r3 (M.wp_mono (M.wp_bind.mp w3) (fun b w4 H3 g3 => ?_) fun _ z => z.elim)
          have gH3 : Gr f.z O H1 H3 := gH2.trans (g3.less fun _ z => .inl z)
          have hus3 : H3 Dl = some (.lst us) := g3.onO (.inr rfl) _ hus2
          have sus3 : Dens f.K (also O Dl) H3 us acc := sus2.ext g3.ext
          have rr3 : f.Rel (P' ++ P) (also O Dl) σ H3 ρ := r2.growTo g3
          cases b with
          | true =>
            rw [if_pos rfl] at w4 ⊢
            refine he (P' ++ P) (also O Dl) σ1 H3 ρ1 _ (r3.growTo g3) (M.wp_mono (M.wp_bind.mp w4) (fun y w5 v H4 g4 x4 => ?_) fun _ z => z.elim)
            have hus4 : H4 Dl = some (.lst us) := g4.onO (.inr rfl) _ hus3
            have gH4 : Gr f.z O H1 H4 := gH3.trans (g4.less fun _ z => .inl z)
            have rr4 : f.Rel (P' ++ P) (also O Dl) σ H4 ρ := rr3.growTo g4
            refine ⟨us, hus4, ?_, by omega, acc ++ [y], by rw [List.length_append]; simp; omega, gH4.updNew (nc_lst hus4) hD, rr4.touch (nc_lst hus4) (.inr rfl) h0 hne, ⟨us ++ [v], upd_same, ?_⟩, ?_⟩
            · rw [sus.length]
              exact Nat.lt_of_le_of_lt hacc (lim_lt (by omega))
            · exact ((sus3.ext g4.ext).append (.cons x4 .nil)).ext (Ext.write (.inr rfl))
            · refine M.wp_mono (M.wp_bind.mp w5) (fun ys h => ?_) fun _ z => z
              have h' : ∀ p H2, Gr f.z O H H2 → H p = none → Top f.K (also O p) H2 p (.lst (acc ++ y :: ys)) → Q (.ref p) H2 := h
              rw [List.append_assoc]
              exact h'
          | false =>
            rw [if_neg Bool.false_ne_true] at w4 ⊢
            exact ⟨by omega, acc, by omega, gH3, rr3, ⟨us, hus3, sus3⟩, w4⟩
      · refine .inl ⟨k.2 (by omega) hle, ?_⟩
        rw [List.drop_eq_nil_of_le (by omega)] at w'
        have w6 : ∀ p H2, Gr f.z O H H2 → H p = none → Top f.K (also O p) H2 p (.lst (acc ++ [])) → Q (.ref p) H2 := w'
        rw [List.append_nil] at w6
        exact w6 Dl H' (g1.trans gH) (g1.fresh hD) (.lst hus sus)
  · exact w1.elim
end
end Py

/-! R7: a def keeps its promise by data; short words for derivations. -/
namespace Py
open PySem PySem.Spec PyProof.Rows L2
variable [Wd]

def finish : Out → M D
  | .next _ => .ret .non
  | .ret d => .ret d
  | _ => .stuck
def startR (n : Nat) (ds : List D) : Rho := (ds.map fun d => (false, d)).map some ++ List.replicate (n - ds.length) none
def runC (n : Nat) (c : CS) (ds : List D) : M D := (c (startR n ds)).bind finish
theorem start_get {α : Type} {ds : List α} {m i : Nat} {d : α} (h : (ds.map some ++ List.replicate m none)[i]? = some (some d)) : ds[i]? = some d := by
  by_cases hi : i < ds.length
  · rw [List.getElem?_append_left (by simpa using hi), List.getElem?_map] at h
    cases q : ds[i]? with
    | none => rw [q] at h; cases h
    | some e => rw [q] at h; simpa using h
  · rw [List.getElem?_append_right (by simpa using Nat.le_of_not_lt hi)] at h
    rw [List.getElem?_replicate] at h
    split at h <;> cases h
theorem start_put {α : Type} {ds : List α} {m i : Nat} {d : α} (h : ds[i]? = some d) : (ds.map some ++ List.replicate m none)[i]? = some (some d) := by
  have hi := (List.getElem?_eq_some_iff.mp h).1
  rw [List.getElem?_append_left (by simpa using hi), List.getElem?_map, h]; rfl
theorem startR_get {n : Nat} {ds : List D} {i : Nat} {b : Bool} {d : D} (h : (startR n ds)[i]? = some (some (b, d))) : b = false ∧ ds[i]? = some d := by
  have h1 := start_get h
  rw [List.getElem?_map] at h1
  cases q : ds[i]? with
  | none => rw [q] at h1; cases h1
  | some e => rw [q] at h1; cases h1; exact ⟨rfl, rfl⟩
theorem rel_start {K : PySem.W.Frag} {z : Bool} {H : Hp} {O : Addr → Prop} {N : List Str} {vs : List V} {ds : List D} (hd : (∀ a, O a → H a ≠ none) ∧ LamX.Tabs Wd.T H) (s : Dens K O H vs ds) :
    Rel K z (fun _ => none) H O [] O (L2.start N vs) H (startR N.length ds) where
  len := by unfold L2.start startR; simp [s.length]
  sdom := hd.1
  dom := hd.1
  sub := fun _ h => h
  new := fun _ h => .inl h
  grow := Gr.refl _ _ _
  slot := fun i d h1 => by
    obtain ⟨v, ev, xv⟩ := s.get i d (startR_get h1).2
    exact ⟨v, start_put ev, xv⟩
  mine := fun i d h1 => by cases (startR_get h1).1
  inj := fun i j a d d' h3 h4 h5 h6 => by cases (startR_get h3).1
  held := fun p hp => nomatch hp
  fix := fun i a h => nomatch h
  tab := hd.2
/-- THE RULE for a def -/
theorem fun_ok {P : Program} {w : World} {K : PySem.W.Frag} {mg : Str → Option Value} {base : Heap} {x qual : Str} {params : Arguments} {body : List Stmt} {scope : Scope} {dvs : List V} {kws : List (Str × V)} {f : Addr} {fd : FuncData} {k : Nat} {N ps : List Str} {z : Bool} {c : CS}
    (F : FunD K x qual params body scope dvs kws f fd) (S : FnScope N ps scope)
    (hb : ∀ (cdv : Value) (A : Around) (outer : List Env) (s : Shared) (H : Hp) (E : XK) (O : Addr → Prop), RoomG k (A.deeper (envOfC qual scope s.heap.objs.size f cdv)) →
      ∃ t, PSs (cxOf (L2.CX P w) P w K mg base N qual scope f cdv A outer s H E) body t ∧ SimS ⟨K, z, mg, H, O, E, fun _ => none⟩ t c) :
    FnG P w K mg base (L2.CX P w) (k + 1) f fd ps (spD K mg z ps.length (runC N.length c)) := by
  refine FnG.of_body F S (fun vs H Q E h => h.1) (fun cdv A outer s H vs Q E hr h => ?_)
  obtain ⟨hl, O, ds, hd, sd, w'⟩ := h
  obtain ⟨t, ht, hs⟩ := hb cdv A outer s H E O hr
  refine ⟨t, ht, hs [] O _ H (startR N.length ds) _ (rel_start hd sd) (M.wp_mono (M.wp_bind.mp w') (fun o h => ?_) fun _ z => z)⟩
  cases o with
  | next ρ => exact fun O' σ' H' r => h .non H' r.grow .non
  | ret d => exact fun v H' g x => h v H' g x
  | brk ρ => exact h.elim
  | cont ρ => exact h.elim
/-- .. its code object told -/
theorem fun_okL {P : Program} {w : World} {K : PySem.W.Frag} {mg : Str → Option Value} {base : Heap} {x qual : Str} {params : Arguments} {body : List Stmt} {scope : Scope} {dvs : List V} {kws : List (Str × V)} {f : Addr} {fd : FuncData} {k : Nat} {N ps : List Str} {z : Bool} {c : CS}
    (F : FunD K x qual params body scope dvs kws f fd) (S : FnScope N ps scope)
    (hb : ∀ (cdv : Value) (A : Around) (outer : List Env) (s : Shared) (H : Hp) (E : XK) (O : Addr → Prop), fd.code = cdv → RoomK 2 k (A.deeper (envOfC qual scope s.heap.objs.size f cdv)) →
      ∃ t, PSs (cxOf (L2.CX P w) P w K mg base N qual scope f cdv A outer s H E) body t ∧ SimS ⟨K, z, mg, H, O, E, fun _ => none⟩ t c) :
    FnG P w K mg base (L2.CX P w) (k + 1) f fd ps (spD K mg z ps.length (runC N.length c)) := by
  refine FnG.of_bodyL F S (fun vs H Q E h => h.1) (fun cdv A outer s H vs Q E hcv hr h => ?_)
  obtain ⟨hl, O, ds, hd, sd, w'⟩ := h
  obtain ⟨t, ht, hs⟩ := hb cdv A outer s H E O hcv hr
  refine ⟨t, ht, hs [] O _ H (startR N.length ds) _ (rel_start hd sd) (M.wp_mono (M.wp_bind.mp w') (fun o h => ?_) fun _ z => z)⟩
  cases o with
  | next ρ => exact fun O' σ' H' r => h .non H' r.grow .non
  | ret d => exact fun v H' g x => h v H' g x
  | brk ρ => exact h.elim
  | cont ρ => exact h.elim
theorem fun_zero {P : Program} {w : World} {K : PySem.W.Frag} {mg : Str → Option Value} {base : Heap} {CX : CXT} {f : Addr} {fd : FuncData} {ps : List Str} {z : Bool} : FnG P w K mg base CX 0 f fd ps (spD K mg z ps.length fun _ => .stuck) :=
  ⟨fun vs H Q E h => h.1, fun A outer s H args us vs Q E hr he hb hv h => by obtain ⟨_, _, _, _, _, w⟩ := h; exact w.elim⟩

/-! ### short words -/
section
variable {X : Cx}
theorem pset (i : Nat) {x : Str} {e : Expr} {te : TE} {pos pos' : Pos} (he : PE X e te) (hN : X.N.Nodup) (hi : X.N[i]? = some x := by rfl) (hx : Loc X.env.scope x := by first | exact .inl rfl | exact .inr rfl)
    (hs : swapsWith e (some (.Name x pos')) pos.line X.env = pure false := by rfl) (hf : X.fn x = true ∨ X.env.scope.names.lookup x = some .local := by first | exact .inl rfl | exact .inr rfl) : PS X (.Assign [.Name x pos'] e pos) (tAsg te (gName i)) :=
  ps_set hN hi hx he hs hf
theorem pgn (i : Nat) {x : Str} {pos : Pos} (hN : X.N.Nodup) (hi : X.N[i]? = some x := by rfl) (hx : Loc X.env.scope x := by first | exact .inl rfl | exact .inr rfl)
    (hf : X.fn x = true ∨ X.env.scope.names.lookup x = some .local := by first | exact .inl rfl | exact .inr rfl) : PG X (.Name x pos) (gName i) := pg_name hN hi hx hf
/-- the built-in names are free -/
structure Bf (mg : Str → Option Value) : Prop where
  len : mg "len" = none
  isinstance : mg "isinstance" = none
  all : mg "all" = none
  any : mg "any" = none
  sum : mg "sum" = none
  max : mg "max" = none
  min : mg "min" = none
  range : mg "range" = none
  list : mg "list" = none
  tuple : mg "tuple" = none
  dict : mg "dict" = none
  repr : mg "repr" = none
  str : mg "str" = none
  int : mg "int" = none
  bool : mg "bool" = none
  sorted : mg "sorted" = none
  set : mg "set" = none
  zip : mg "zip" = none
  enumerate : mg "enumerate" = none
theorem boot_tys : bootBuiltins "str" = some (.type "str") ∧ bootBuiltins "tuple" = some (.type "tuple") ∧ bootBuiltins "list" = some (.type "list") ∧ bootBuiltins "dict" = some (.type "dict") ∧ bootBuiltins "int" = some (.type "int") ∧ bootBuiltins "bool" = some (.type "bool") := by
  refine ⟨?_, ?_, ?_, ?_, ?_, ?_⟩ <;> decide +kernel
theorem boot_fns : bootBuiltins "len" = some (.builtin "len") ∧ bootBuiltins "isinstance" = some (.builtin "isinstance") ∧ bootBuiltins "all" = some (.builtin "all") ∧ bootBuiltins "any" = some (.builtin "any") ∧ bootBuiltins "sum" = some (.builtin "sum") ∧ bootBuiltins "max" = some (.builtin "max") ∧ bootBuiltins "min" = some (.builtin "min") ∧ bootBuiltins "repr" = some (.builtin "repr") := by
  refine ⟨?_, ?_, ?_, ?_, ?_, ?_, ?_, ?_⟩ <;> decide +kernel
variable {p p2 pos : Pos} {e : Expr} {es : List Expr} {t : TA} {te : TE}
/-- isinstance(e, T) -/
theorem pisi (T : Ty) {x : Str} (B : Bf X.mg) (he : PE X e te) (hx : x = Str.ofString T.name := by rfl) (hg : Gl X "isinstance" := by rfl) (hg2 : Gl X x := by rfl) (hst : starEach [e, .Name x p2] X.env = (false, eval e X.env) :: starEach [.Name x p2] X.env := by rfl) (hst2 : starEach [.Name x p2] X.env = (false, eval (.Name x p2) X.env) :: starEach [] X.env := by rfl)
    (hpl : (backTo pos (starEach [.Name x p2] X.env)).any (·.1) = false := by rfl) :
    PE X (.Call (.Name "isinstance" p) [e, .Name x p2] [] pos) (tCB (rIsi X.K) (tCons te (tCons (tC (.ty T.name)) tNil))) := by
  have hb : PE X (.Name x p2) (tC (.ty T.name)) := by
    subst hx
    cases T
    · exact pe_bltn (v := .ty "str") hg2 B.str boot_tys.1 rfl
    · exact pe_bltn (v := .ty "tuple") hg2 B.tuple boot_tys.2.1 rfl
    · exact pe_bltn (v := .ty "list") hg2 B.list boot_tys.2.2.1 rfl
    · exact pe_bltn (v := .ty "dict") hg2 B.dict boot_tys.2.2.2.1 rfl
    · exact pe_bltn (v := .ty "int") hg2 B.int boot_tys.2.2.2.2.1 rfl
    · exact pe_bltn (v := .ty "bool") hg2 B.bool boot_tys.2.2.2.2.2 rfl
  exact pe_callB call_isi hg B.isinstance boot_fns.2.1 (pa_cons he (pa_cons hb pa_nil hst2) hst) (by decide) (by decide) hst hpl
theorem plen (B : Bf X.mg) (ha : PA X (e :: es) t) (hg : Gl X "len" := by rfl) (he : starEach (e :: es) X.env = (false, eval e X.env) :: starEach es X.env := by rfl) (hpl : (backTo pos (starEach es X.env)).any (·.1) = false := by rfl) : PE X (.Call (.Name "len" p) (e :: es) [] pos) (tCB (uCb X.K lenD) t) :=
  pe_callB u_len hg B.len boot_fns.1 ha (by decide) (by decide) he hpl
theorem pall (B : Bf X.mg) (hc : X.calm = true) (ha : PA X (e :: es) t) (hg : Gl X "all" := by rfl) (he : starEach (e :: es) X.env = (false, eval e X.env) :: starEach es X.env := by rfl) (hpl : (backTo pos (starEach es X.env)).any (·.1) = false := by rfl) : PE X (.Call (.Name "all" p) (e :: es) [] pos) (tCB (uCb X.K allD) t) :=
  pe_callB (u_all hc) hg B.all boot_fns.2.2.1 ha (by decide) (by decide) he hpl
theorem pany (B : Bf X.mg) (hc : X.calm = true) (ha : PA X (e :: es) t) (hg : Gl X "any" := by rfl) (he : starEach (e :: es) X.env = (false, eval e X.env) :: starEach es X.env := by rfl) (hpl : (backTo pos (starEach es X.env)).any (·.1) = false := by rfl) : PE X (.Call (.Name "any" p) (e :: es) [] pos) (tCB (uCb X.K anyD) t) :=
  pe_callB (u_any hc) hg B.any boot_fns.2.2.2.1 ha (by decide) (by decide) he hpl
theorem psum (B : Bf X.mg) (hc : X.calm = true) (ha : PA X (e :: es) t) (hg : Gl X "sum" := by rfl) (he : starEach (e :: es) X.env = (false, eval e X.env) :: starEach es X.env := by rfl) (hpl : (backTo pos (starEach es X.env)).any (·.1) = false := by rfl) : PE X (.Call (.Name "sum" p) (e :: es) [] pos) (tCB (uCb X.K sumD) t) :=
  pe_callB (u_sum hc) hg B.sum boot_fns.2.2.2.2.1 ha (by decide) (by decide) he hpl
theorem pmax (B : Bf X.mg) (hc : X.calm = true) (ha : PA X (e :: es) t) (hg : Gl X "max" := by rfl) (he : starEach (e :: es) X.env = (false, eval e X.env) :: starEach es X.env := by rfl) (hpl : (backTo pos (starEach es X.env)).any (·.1) = false := by rfl) : PE X (.Call (.Name "max" p) (e :: es) [] pos) (tCB (uCb X.K maxD) t) :=
  pe_callB (u_max hc) hg B.max boot_fns.2.2.2.2.2.1 ha (by decide) (by decide) he hpl
theorem pmin (B : Bf X.mg) (hc : X.calm = true) (ha : PA X (e :: es) t) (hg : Gl X "min" := by rfl) (he : starEach (e :: es) X.env = (false, eval e X.env) :: starEach es X.env := by rfl) (hpl : (backTo pos (starEach es X.env)).any (·.1) = false := by rfl) : PE X (.Call (.Name "min" p) (e :: es) [] pos) (tCB (uCb X.K minD) t) :=
  pe_callB (u_min hc) hg B.min boot_fns.2.2.2.2.2.2.1 ha (by decide) (by decide) he hpl
theorem plist (B : Bf X.mg) (ha : PA X (e :: es) t) (hg : Gl X "list" := by rfl) (he : starEach (e :: es) X.env = (false, eval e X.env) :: starEach es X.env := by rfl) (hpl : (backTo pos (starEach es X.env)).any (·.1) = false := by rfl) : PE X (.Call (.Name "list" p) (e :: es) [] pos) (tCB (uCb X.K listD) t) :=
  pe_callTy u_list hg B.list boot_tys.2.2.1 ha (by decide) (by decide) he hpl
theorem plistN (B : Bf X.mg) (ha : PA X (e :: es) t) (hg : Gl X "list" := by rfl) (he : starEach (e :: es) X.env = (false, eval e X.env) :: starEach es X.env := by rfl) (hpl : (backTo pos (starEach es X.env)).any (·.1) = false := by rfl) : PE X (.Call (.Name "list" p) (e :: es) [] pos) (tCB (fun xs H Q => ∃ p ys, xs = [.ref p] ∧ (SqL X.K H p ys ∨ SqT X.K H p ys) ∧ ∀ l, H l = none → Q (.ref l) (upd H l (.lst ys))) t) :=
  pe_callTy call_list_of hg B.list boot_tys.2.2.1 ha (by decide) (by decide) he hpl
theorem ptuple (B : Bf X.mg) (ha : PA X (e :: es) t) (hg : Gl X "tuple" := by rfl) (he : starEach (e :: es) X.env = (false, eval e X.env) :: starEach es X.env := by rfl) (hpl : (backTo pos (starEach es X.env)).any (·.1) = false := by rfl) : PE X (.Call (.Name "tuple" p) (e :: es) [] pos) (tCB (uCb X.K tupleD) t) :=
  pe_callTy u_tuple hg B.tuple boot_tys.2.1 ha (by decide) (by decide) he hpl
/-- an item: d[k] of a dict is pe_dget -/
theorem pix {a b : Expr} {ta tb : TE} (hu : X.A.units + 1 < cLine) (ha : PE X a ta) (hb : PE X b tb) (hs : PlainIx b := by exact fun _ _ => rfl) : PE X (.Subscript a b pos) (tOp (uOp X.K ixD) ta tb) := pe_ix (u_ix hu) ha hb hs
theorem psl {a : Expr} {lo hi : Option Expr} {ta : TE} {tl th : TO} (ha : PE X a ta) (hl : PO X lo tl) (hh : PO X hi th) : PE X (.Subscript a (.Slice lo hi none p2) pos) (tSl (uSl X.K) ta tl th) := pe_slice u_sl ha hl hh
end
end Py

/-! R8: repr by data. -/
namespace Py
open PySem L2
variable [Wd]

mutual
/-- what repr serves -/
def D.sh : D → Bool
  | .non => true
  | .bl _ => true
  | .int i => decide (i.natAbs.log2 < 1920)
  | .str x => x.cps.toList.all fun c => decide (c < 4294967296)
  | .tup xs => D.shs xs
  | .lst xs => D.shs xs
  | .dct kvs => D.shk kvs
  | .obj _ _ => false
  | .exc _ _ => false
  | .dcu kvs => D.shk kvs
  | .fn _ => false
  | .pen => false
  | .scr _ => false
def D.shs : List D → Bool
  | [] => true
  | x :: xs => D.sh x && D.shs xs
def D.shk : List (D × D) → Bool
  | [] => true
  | (k, v) :: r => D.sh k && D.sh v && D.shk r
end
mutual
/-- how long the text can be -/
def D.wt : D → Nat
  | .non => 4
  | .bl _ => 5
  | .int _ => 1921
  | .str x => 10 * x.length + 2
  | .tup xs => D.wts xs + 3
  | .lst xs => D.wts xs + 2
  | .dct kvs => D.wtk kvs + 2
  | .obj _ _ => 0
  | .exc _ _ => 0
  | .dcu kvs => D.wtk kvs + 2
  | .fn _ => 0
  | .pen => 0
  | .scr _ => 0
def D.wts : List D → Nat
  | [] => 0
  | x :: xs => D.wt x + 2 + D.wts xs
def D.wtk : List (D × D) → Nat
  | [] => 0
  | (k, v) :: r => D.wt k + D.wt v + 4 + D.wtk r
end
theorem len_app (x y : Str) : (x ++ y).length = x.length + y.length := by
  show (x.cps ++ y.cps).size = _
  rw [Array.size_append]; rfl
mutual
theorem wt_ok : ∀ d : D, d.sh = true → d.toP.shown.length ≤ d.wt ∧ d.toP.showable = true
  | .non, _ => ⟨by decide, rfl⟩
  | .bl b, _ => ⟨by cases b <;> decide, rfl⟩
  | .int i, h => by
    have h' : i.natAbs.log2 < 1920 := by simpa [D.sh] using h
    refine ⟨?_, by simp only [D.toP, PyData.showable]; exact decide_eq_true h'⟩
    simp only [D.toP, PyData.shown, D.wt]
    have := int_text_length_le (by decide) h'
    show (Str.ofString (toString i)).length ≤ 1921
    rw [ofString_length]
    exact this
  | .str x, h => by
    have h' : ∀ c ∈ x.cps.toList, c < 4294967296 := fun c hc => of_decide_eq_true (List.all_eq_true.mp h c hc)
    refine ⟨?_, rfl⟩
    simp only [D.toP, PyData.shown, D.wt]
    exact StrLaws.reprText_len x h'
  | .tup xs, h => by
    obtain ⟨a, b, c⟩ := wts_ok xs (by simpa [D.sh] using h)
    refine ⟨?_, by simp only [D.toP, PyData.showable]; exact b⟩
    simp only [D.toP]
    rw [PyData.shown_tuple, len_app, len_app]
    have e := StrLaws.join_length_le ", " (PyData.shownAll (D.toPs xs))
    have e2 : (", " : Str).length = 2 := by decide
    have e3 : ("(" : Str).length = 1 := by decide
    have e4 : ((if (D.toPs xs).length == 1 then (",)" : String) else ")" : String) : Str).length ≤ 2 := by split <;> decide
    rw [e2] at e
    rw [e3]
    simp only [D.wt]
    omega
  | .lst xs, h => by
    obtain ⟨a, b, c⟩ := wts_ok xs (by simpa [D.sh] using h)
    refine ⟨?_, by simp only [D.toP, PyData.showable]; exact b⟩
    simp only [D.toP]
    rw [PyData.shown_list, len_app, len_app]
    have e := StrLaws.join_length_le ", " (PyData.shownAll (D.toPs xs))
    have e2 : (", " : Str).length = 2 := by decide
    have e3 : ("[" : Str).length = 1 := by decide
    have e4 : ("]" : Str).length = 1 := by decide
    rw [e2] at e
    rw [e3, e4]
    simp only [D.wt]
    omega
  | .dct kvs, h => by
    obtain ⟨a, b, c⟩ := wtk_ok kvs (by simpa [D.sh] using h)
    refine ⟨?_, by simp only [D.toP, PyData.showable]; exact b⟩
    simp only [D.toP]
    rw [PyData.shown_dict, len_app, len_app]
    have e := StrLaws.join_length_le ", " (PyData.shownKv (D.toPkv kvs))
    have e2 : (", " : Str).length = 2 := by decide
    have e3 : ("{" : Str).length = 1 := by decide
    have e4 : ("}" : Str).length = 1 := by decide
    rw [e2] at e
    rw [e3, e4]
    simp only [D.wt]
    omega
  | .obj _ _, h => by simp [D.sh] at h
  | .exc _ _, h => by simp [D.sh] at h
  | .dcu kvs, h => by
    obtain ⟨a, b, c⟩ := wtk_ok kvs (by simpa [D.sh] using h)
    refine ⟨?_, by simp only [D.toP, PyData.showable]; exact b⟩
    simp only [D.toP]
    rw [PyData.shown_dict, len_app, len_app]
    have e := StrLaws.join_length_le ", " (PyData.shownKv (D.toPkv kvs))
    have e2 : (", " : Str).length = 2 := by decide
    have e3 : ("{" : Str).length = 1 := by decide
    have e4 : ("}" : Str).length = 1 := by decide
    rw [e2] at e
    rw [e3, e4]
    simp only [D.wt]
    omega
  | .fn _, h => by simp [D.sh] at h
  | .pen, h => by simp [D.sh] at h
  | .scr _, h => by simp [D.sh] at h
theorem wts_ok : ∀ ds : List D, D.shs ds = true → ((PyData.shownAll (D.toPs ds)).map (·.length)).sum + (PyData.shownAll (D.toPs ds)).length * 2 ≤ D.wts ds ∧ PyData.showableAll (D.toPs ds) = true ∧ True
  | [], _ => ⟨by decide, rfl, trivial⟩
  | x :: xs, h => by
    have h' : x.sh = true ∧ D.shs xs = true := by simpa [D.shs] using h
    obtain ⟨a, b⟩ := wt_ok x h'.1
    obtain ⟨c, d, _⟩ := wts_ok xs h'.2
    refine ⟨?_, by simp only [D.toPs, PyData.showableAll]; rw [b, d]; rfl, trivial⟩
    simp only [D.toPs, PyData.shownAll, List.map_cons, List.sum_cons, List.length_cons, D.wts]
    omega
theorem wtk_ok : ∀ ds : List (D × D), D.shk ds = true → ((PyData.shownKv (D.toPkv ds)).map (·.length)).sum + (PyData.shownKv (D.toPkv ds)).length * 2 ≤ D.wtk ds ∧ PyData.showableKv (D.toPkv ds) = true ∧ True
  | [], _ => ⟨by decide, rfl, trivial⟩
  | (k, v) :: xs, h => by
    have h' : (k.sh = true ∧ v.sh = true) ∧ D.shk xs = true := by simpa [D.shk] using h
    obtain ⟨a, b⟩ := wt_ok k h'.1.1
    obtain ⟨a2, b2⟩ := wt_ok v h'.1.2
    obtain ⟨c, d, _⟩ := wtk_ok xs h'.2
    refine ⟨?_, by simp only [D.toPkv, PyData.showableKv]; rw [b, b2, d]; rfl, trivial⟩
    have e2 : (": " : Str).length = 2 := by decide
    simp only [D.toPkv, PyData.shownKv, List.map_cons, List.sum_cons, List.length_cons, D.wtk]
    rw [len_app, len_app, e2]
    omega
end
mutual
theorem toP_depth : ∀ d : D, d.toP.depth = d.dp
  | .non => rfl
  | .bl _ => rfl
  | .int _ => rfl
  | .str _ => rfl
  | .tup xs => by simp only [D.toP, PyData.depth, D.dp]; rw [toPs_depth xs]
  | .lst xs => by simp only [D.toP, PyData.depth, D.dp]; rw [toPs_depth xs]
  | .dct kvs => by simp only [D.toP, PyData.depth, D.dp]; rw [toPk_depth kvs]
  | .obj _ _ => rfl
  | .exc _ _ => rfl
  | .dcu kvs => by simp only [D.toP, PyData.depth, D.dp]; rw [toPk_depth kvs]
  | .fn _ => rfl
  | .pen => rfl
  | .scr _ => rfl
theorem toPs_depth : ∀ ds : List D, PyData.depthAll (D.toPs ds) = D.dps ds
  | [] => rfl
  | x :: xs => by simp only [D.toPs, PyData.depthAll, D.dps]; rw [toP_depth x, toPs_depth xs]
theorem toPk_depth : ∀ ds : List (D × D), PyData.depthKv (D.toPkv ds) = D.dpk ds
  | [] => rfl
  | (k, v) :: xs => by simp only [D.toPkv, PyData.depthKv, D.dpk]; rw [toP_depth k, toP_depth v, toPk_depth xs]
end
section
variable {X : Cx} {pins : List (Addr × Obj)} {σ : St} {H : Hp} {s : Shared} {O : Addr → Prop}
def Tracked (H : Hp) (as : List Addr) : Prop := ∀ a ∈ as, H a ≠ none
theorem trk_nil {H : Hp} : Tracked H [] := fun a h => nomatch h
theorem trk_cons {H : Hp} {a : Addr} {as : List Addr} {o : HO} (h : H a = some o) (t : Tracked H as) : Tracked H (a :: as) := fun b hb => by
  rcases List.mem_cons.mp hb with e | e
  · subst e; rw [h]; intro z; cases z
  · exact t b e
theorem trk_app {H : Hp} {as bs : List Addr} (t : Tracked H as) (t' : Tracked H bs) : Tracked H (as ++ bs) := fun b hb => (List.mem_append.mp hb).elim (t b) (t' b)
mutual
theorem Den.shows (I : Inv X pins σ H s) : ∀ {v : V} {d : D}, Den X.K O H v d → ∀ u, RelV v u → d.sh = true → ∃ as, Reads s.heap u d.toP as ∧ Tracked H as
  | _, _, .non, u, r, _ => by cases r; exact ⟨_, .none, trk_nil⟩
  | _, _, .bl b, u, r, _ => by cases r; exact ⟨_, .bool b, trk_nil⟩
  | _, _, .int i, u, r, _ => by obtain ⟨t, rfl⟩ := r; exact ⟨_, .int i t, trk_nil⟩
  | _, _, .str x, u, r, _ => by obtain ⟨t, rfl⟩ := r; exact ⟨_, .str x t, trk_nil⟩
  | _, _, .tup (a := a) (vs := vs) (ds := ds) n h q, u, r, p => by
    cases r
    obtain ⟨its, rv, ⟨o, e, c, m, dt⟩, _⟩ := I.tuple (xs := vs) (.inl (.inl h))
    obtain ⟨as, ra, ta⟩ := Dens.shows I q its rv (by simpa [D.sh] using p)
    simp only [D.toP]
    exact ⟨_, .tuple e c dt (by simpa using ra), ta⟩
  | _, _, .tupK (vs := vs) h1 h2 h3 h4 h5 q, u, r, p => by
    cases r
    obtain ⟨its, rv, ⟨o, e, c, m, dt⟩, _⟩ := I.tuple (xs := vs) (.inr ⟨_, _, _, h1, h2, h3, h4, h5⟩)
    obtain ⟨as, ra, ta⟩ := Dens.shows I q its rv (by simpa [D.sh] using p)
    simp only [D.toP]
    exact ⟨_, .tuple e c dt (by simpa using ra), ta⟩
  | _, _, .lst (vs := vs) n h q, u, r, p => by
    cases r
    obtain ⟨z, its, m, rv, e⟩ := (show ObjOk X.prog X.w H s.heap _ (.lst vs) from I.hok _ _ h)
    obtain ⟨as, ra, ta⟩ := Dens.shows I q its rv (by simpa [D.sh] using p)
    simp only [D.toP]
    exact ⟨_, .list e rfl rfl (by simpa using ra), trk_cons h ta⟩
  | _, _, .dct (a := a) (kvs := kvs) (es := es) n h q, u, r, p => by
    cases r
    have hx : ∃ vs, KV kvs vs ∧ s.heap.DictOf (mixKind X.prog X.w) a vs := by
      rcases h with h | ⟨o, h⟩
      · exact (I.hok _ _ h).2.2
      · exact (I.hok _ _ h).2.2.2
    have ht : ∃ o, H a = some o := by
      rcases h with h | ⟨o, h⟩
      · exact ⟨_, h⟩
      · exact ⟨_, h⟩
    obtain ⟨vs, kv, o, en, ep, g1, g2, g3, _, g5, _⟩ := hx
    obtain ⟨as, bs, ra, rb, ta, tb⟩ := DenKV.shows I q vs en.toList kv g5 (by simpa [D.sh] using p)
    obtain ⟨o', ht⟩ := ht
    simp only [D.toP]
    exact ⟨_, .dict g1 g2.1 g3 ra rb, trk_app (trk_cons ht ta) tb⟩
  | _, _, .pen _ _, u, r, p => by simp [D.sh] at p
  | _, _, .fn _, u, r, p => by simp [D.sh] at p
  | _, _, .obj _ _ _, u, r, p => by simp [D.sh] at p
  | _, _, .exc _ _ _, u, r, p => by simp [D.sh] at p
  | _, _, .excF _ _ _ _ _ _ _, u, r, p => by simp [D.sh] at p
  | _, _, .dcu (a := a) (xs := xs) (ep := ep) (es := es) _ n h q, u, r, p => by
    cases r
    obtain ⟨⟨o, g1, g2, g3⟩, _, _⟩ := (show ObjOk X.prog X.w H s.heap a (duO a xs ep) from I.hok _ _ h)
    obtain ⟨as, bs, ra, rb, ta, tb⟩ := DenTK.shows I q (by simpa [D.sh] using p)
    simp only [D.toP]
    have e1 : (xs.map duE).toArray.toList.map (·.key) = xs.map (·.2.2.1) := by show List.map _ (xs.map duE) = _; rw [List.map_map]; rfl
    have e2 : (xs.map duE).toArray.toList.map (·.val) = xs.map (·.2.2.2) := by show List.map _ (xs.map duE) = _; rw [List.map_map]; rfl
    exact ⟨_, .dict g1 g2.1 g3 (by rw [e1]; exact ra) (by rw [e2]; exact rb), trk_app (trk_cons h ta) tb⟩
  | _, _, .scr _ _, u, r, p => by simp [D.sh] at p
  | _, _, .scrK _ _ _ _ _ _, u, r, p => by simp [D.sh] at p
theorem Dens.shows (I : Inv X pins σ H s) : ∀ {vs : List V} {ds : List D}, Dens X.K O H vs ds → ∀ us, Vals vs us → D.shs ds = true → ∃ as, ReadsAll s.heap us (D.toPs ds) as ∧ Tracked H as
  | _, _, .nil, us, r, _ => by cases r; exact ⟨_, .nil, trk_nil⟩
  | _, _, .cons (d := d) (ds := ds) h q, us, r, p => by
    have p' : d.sh = true ∧ D.shs ds = true := by simpa [D.shs] using p
    cases r with
    | cons r1 r2 =>
      obtain ⟨as, a, ta⟩ := Den.shows I h _ r1 p'.1
      obtain ⟨bs, b, tb⟩ := Dens.shows I q _ r2 p'.2
      simp only [D.toPs]
      exact ⟨_, .cons a b, trk_app ta tb⟩
theorem DenTK.shows (I : Inv X pins σ H s) : ∀ {xs : List E3} {es : List (D × D)}, DenTK X.K O H xs es → D.shk es = true →
    ∃ as bs, ReadsAll s.heap (xs.map (·.2.2.1)) ((D.toPkv es).map (·.1)) as ∧ ReadsAll s.heap (xs.map (·.2.2.2)) ((D.toPkv es).map (·.2)) bs ∧ Tracked H as ∧ Tracked H bs
  | _, _, .nil, _ => ⟨_, _, .nil, .nil, trk_nil, trk_nil⟩
  | _, _, .cons (kd := kd) (d := d) (es := es) _ r1 hk r2 hv q, p => by
    have p' : (kd.sh = true ∧ d.sh = true) ∧ D.shk es = true := by simpa [D.shk] using p
    obtain ⟨as, bs, a, b, ta, tb⟩ := DenTK.shows I q p'.2
    obtain ⟨cs, c, tc⟩ := Den.shows I hv _ r2 p'.1.2
    obtain ⟨ds, d', td⟩ := Den.shows I hk _ r1 p'.1.1
    simp only [D.toPkv, List.map_cons]
    exact ⟨_, _, .cons d' a, .cons c b, trk_app td ta, trk_app tc tb⟩
theorem DenKV.shows (I : Inv X pins σ H s) : ∀ {kvs : List (Key × V)} {es : List (D × D)}, DenKV X.K O H kvs es → ∀ (vs : List (Key × Value)) (en : List DictEntry), KV kvs vs → Pairs (mixKind X.prog X.w) en vs → D.shk es = true →
    ∃ as bs, ReadsAll s.heap (en.map (·.key)) ((D.toPkv es).map (·.1)) as ∧ ReadsAll s.heap (en.map (·.val)) ((D.toPkv es).map (·.2)) bs ∧ Tracked H as ∧ Tracked H bs
  | _, _, .nil, vs, en, r, pr, _ => by cases r; cases pr; exact ⟨_, _, .nil, .nil, trk_nil, trk_nil⟩
  | _, _, .cons (k := k) (v := v) (d := d) (kvs := kvs) (es := es) h q, vs, en, r, pr, p => by
    have p' : ((keyD k).sh = true ∧ d.sh = true) ∧ D.shk es = true := by simpa [D.shk] using p
    cases r with
    | cons r1 r2 =>
      cases pr with
      | cons p1 p2 p3 =>
        obtain ⟨e1, e2⟩ := r1
        obtain ⟨as, bs, a, b, ta, tb⟩ := DenKV.shows I q _ _ r2 p3 p'.2
        obtain ⟨cs, c, tc⟩ := Den.shows I h _ e2 p'.1.2
        rw [← e1] at p1
        rw [← p2] at c
        simp only [D.toPkv, List.map_cons]
        refine ⟨[] ++ as, _, .cons ?_ a, .cons c b, ta, trk_app tc tb⟩
        rcases keyIs_shape p1 with ⟨i, t, ek, ev⟩ | ⟨i, t, ek, ev⟩
        · simp only at ek
          rw [ev, ek]; exact .int i t
        · simp only at ek
          rw [ev, ek]; exact .str i t
end
end

/-! ### repr -/
def reprD : List D → Option D
  | [d] => if d.sh = true ∧ d.wt ≤ LIM ∧ d.dp ≤ 60 then some (.str d.toP.shown) else none
  | _ => none
theorem u_repr {X : Cx} {o : Obj} (hs : X.K.lookup sysModules = some o) (hg : X.A.guards = some []) (hu : X.A.units + 64 < cLine) : CallR X (.builtin "repr") (uCb X.K reprD) := by
  intro pins s σ H xs us Q I r h
  obtain ⟨H0, O, ds, z, hd, hx, e, q⟩ := h
  cases hx with
  | nil => cases e
  | cons h1 h2 =>
  cases h2 with
  | cons _ _ => cases e
  | nil =>
  rename_i v d
  replace e : (if d.sh = true ∧ d.wt ≤ LIM ∧ d.dp ≤ 60 then some (D.str d.toP.shown) else none) = some z := e
  split at e
  · rename_i hc
    cases e
    cases r with
    | cons r1 r2 =>
    cases r2
    rename_i u
    obtain ⟨as, ra, ta⟩ := h1.bare.shows I u r1 hc.1
    obtain ⟨w1, w2⟩ := wt_ok d hc.1
    have hz : d.toP.shown.length ≤ sizeLine := lim_line (Nat.le_trans w1 hc.2.1)
    have ns : sysModules ∉ as := fun m => ta _ m ((I.bs _ _ (I.ok.mod.kin _ _ hs)).2)
    have fin : ∀ t, RelV (.str d.toP.shown) (.str d.toP.shown t) := fun t => ⟨t, rfl⟩
    cases h1.bare with
    | non => cases r1; exact P.repr_of_none ⟨.str _, H, I.kept (fun _ _ e => e), fin _, q _ _ (Grow.refl _) (.str _)⟩
    | bl b => cases r1; exact P.repr_of_bool ⟨.str _, H, I.kept (fun _ _ e => e), by cases b <;> exact fin _, q _ _ (Grow.refl _) (.str _)⟩
    | int i => obtain ⟨t, rfl⟩ := r1; exact P.repr_of_int (by simpa [D.sh] using hc.1) ⟨.str _, H, I.kept (fun _ _ e => e), fin _, q _ _ (Grow.refl _) (.str _)⟩
    | str i => obtain ⟨t, rfl⟩ := r1; exact P.repr_of_str ⟨.str _, H, I.kept (fun _ _ e => e), fin _, q _ _ (Grow.refl _) (.str _)⟩ hz
    | _ =>
      cases r1
      refine repr_of_reads' ra w2 (fun _ => ns) hg (by rw [toP_depth]; omega) (fun b o e => e) (fun h' u tk k => ?_) hz
      exact ⟨.str _, H, I.kept (t' := tk) k, fin _, q _ _ (Grow.refl _) (.str _)⟩
  · cases e
end Py

/-! R9: module constants, raising, pairs, dict displays, dict(..), walks over dicts, pop in a comprehension. -/
namespace Py
open PySem L2
variable [Wd]

/-! ### the module's constants -/
section
variable {X : Cx}
theorem pglobS {x z : Str} {pos : Pos} (h : ∃ t, X.mg x = some (.str z t)) (hg : Gl X x := by rfl) (hd : (x == ("__debug__" : Str)) = false := by decide) : PE X (.Name x pos) (tC (.str z)) := by
  obtain ⟨t, e⟩ := h
  exact pe_glob (v := .str z) hg e ⟨t, rfl⟩ hd
theorem pglobI {x : Str} {i : Int} {pos : Pos} (h : ∃ t, X.mg x = some (.int i t)) (hg : Gl X x := by rfl) (hd : (x == ("__debug__" : Str)) = false := by decide) : PE X (.Name x pos) (tC (.int i)) := by
  obtain ⟨t, e⟩ := h
  exact pe_glob (v := .int i) hg e ⟨t, rfl⟩ hd
end
/-! ### raising an own class without more -/
structure ExcF (K : PySem.W.Frag) (mg : Str → Option Value) (x : Str) (C : Addr) : Prop where
  ex : PySem.W.excIn K C He.veBase "ValueError.__new__" = true
  kp : PySem.W.keepIn K (.ref C) = true
  sub : PySem.W.subIn K (.ref C) (.type "BaseException") = some true
  ty : PySem.W.typeIn K (.ref C) = some (.type "type")
  gC : mg x = some (.ref C)
theorem praise {X : Cx} {x m : Str} {j : Nat} {p p2 pos pos2 : Pos} {C : Addr} {E : XK} (G : ExcF X.K X.mg x C) (hc : X.calm = true) (tk : Takes X (fun cls d _ H => E cls d H)) (hg : Gl X x := by rfl)
    (hdb : (x == ("__debug__" : Str)) = false := by decide) : PS X (.Raise (some (.Call (.Name x p) [.Constant (.str m) j p2] [] pos)) none pos2) (fun _ σ H => E (.ref C) none H) :=
  ps_raise (W := fun cls d _ H => E cls d H) hc tk (pmk_own PySem.F.excBase_ValueError G.ex G.gC G.kp (raises_own G.sub G.ty) hg hdb)

/-! ### a, b = x, y -/
def cPar (i j : Nat) (a : CA) : CS := fun ρ => (a ρ).bind fun ds => match ds with
  | [d, e] => .ret (.next ((ρ.set i (some (false, d))).set j (some (false, e))))
  | _ => .stuck
section
variable {f : Cf}
theorem sim_par {i j : Nat} {ta : TA} {a : CA} (fi : f.fix i = none) (fj : f.fix j = none) (ha : SimA f ta a) : SimS f (tPar i j ta) (cPar i j a) := fun P O σ H ρ E r w => by
  refine ha P O σ H ρ _ r (M.wp_mono (M.wp_bind.mp w) (fun ds w1 vs H1 g1 s1 => ?_) fun _ z => z)
  match ds, s1, w1 with
  | [d, e], .cons (v := v) x (.cons (v := u) y .nil), w1 => exact ⟨v, u, rfl, w1 O _ H1 (((r.growTo g1).setSlot fi x).setSlot fj y)⟩
  | [], _, w1 => exact w1.elim
  | [_], _, w1 => exact w1.elim
  | _ :: _ :: _ :: _, _, w1 => exact w1.elim

/-! ### dict displays -/
abbrev CP := Rho → M (List (D × D))
def cPnil : CP := fun _ => .ret []
def cPcons (a b : CE) (r : CP) : CP := fun ρ => (a ρ).bind fun x => (b ρ).bind fun y => (r ρ).bind fun xs => .ret ((x, y) :: xs)
inductive DenP (K : PySem.W.Frag) (O : Addr → Prop) (H : Hp) : List (V × V) → List (D × D) → Prop
  | nil : DenP K O H [] []
  | cons {v w d e vs ds} : Den K O H v d → Den K O H w e → DenP K O H vs ds → DenP K O H ((v, w) :: vs) ((d, e) :: ds)
def SimP (f : Cf) (tp : List (TE × TE)) (c : CP) : Prop := ∀ (P : List Pin) (O : Addr → Prop) (σ : St) (H : Hp) (ρ : Rho) (Q : List (V × V) → Hp → Prop), f.Rel P O σ H ρ →
  (c ρ).wp (fun ds => ∀ vs H', Gr f.z O H H' → DenP f.K O H' vs ds → Q vs H') (XP f) → tPairs tp σ H Q
theorem simP_nil : SimP f [] cPnil := fun P O σ H ρ Q r w => w [] H (Gr.refl _ _ _) .nil
theorem simP_cons {tk tv : TE} {tr : List (TE × TE)} {a b : CE} {r : CP} (ha : SimE f tk a) (hb : SimE f tv b) (hr : SimP f tr r) : SimP f ((tk, tv) :: tr) (cPcons a b r) := fun P O σ H ρ Q rl w => by
  refine ha P O σ H ρ _ rl (M.wp_mono (M.wp_bind.mp w) (fun dx w1 x H1 g1 x1 => ?_) fun _ z => z)
  refine hb P O σ H1 ρ _ (rl.growTo g1) (M.wp_mono (M.wp_bind.mp w1) (fun dy w2 y H2 g2 y2 => ?_) fun _ z => z)
  refine hr P O σ H2 ρ _ ((rl.growTo g1).growTo g2) (M.wp_mono (M.wp_bind.mp w2) (fun ds w3 vs H3 g3 s3 => ?_) fun _ z => z)
  exact w3 _ H3 ((g1.trans g2).trans g3) (.cons (x1.ext (g2.trans g3).ext) (y2.ext g3.ext) s3)
/-- the keys of pairs -/
def keyed : List (D × D) → Option (List (Key × D))
  | [] => some []
  | (k, d) :: r => (keyOf k).bind fun key => (keyed r).bind fun ks => some ((key, d) :: ks)
def mkDct (ps : List (D × D)) : M D := match keyed ps with
  | some ks => if ks.length ≤ 15 then .ret (.dct (dMerge [] ks)) else .stuck
  | none => .stuck
def cDisp (c : CP) : CE := fun ρ => (c ρ).bind mkDct
theorem keyed_of {K : PySem.W.Frag} {O : Addr → Prop} {H : Hp} : ∀ {vs : List (V × V)} {ds : List (D × D)} {ks : List (Key × D)}, DenP K O H vs ds → keyed ds = some ks → ∃ kvs : List (Key × V), vs = kvs.map (fun kv => (kV kv.1, kv.2)) ∧ kvs.length = ks.length ∧
    ∀ (acc : List (Key × V)) (es : List (D × D)), DenKV K O H acc es → DenKV K O H (mergeK acc kvs) (dMerge es ks)
  | _, _, _, .nil, e => by cases e; exact ⟨[], rfl, rfl, fun acc es h => h⟩
  | _, _, _, .cons (v := v) (w := w) (d := d) (e := e') (ds := ds) x y s, e => by
    replace e : ((keyOf d).bind fun key => (keyed ds).bind fun ks => some ((key, e') :: ks)) = some _ := e
    cases hk : keyOf d with
    | none => rw [hk] at e; cases e
    | some key =>
    rw [hk] at e
    replace e : ((keyed ds).bind fun ks => some ((key, e') :: ks)) = some _ := e
    cases hr : keyed ds with
    | none => rw [hr] at e; cases e
    | some kr =>
    rw [hr] at e
    cases e
    obtain ⟨kvs, e1, e2, e3⟩ := keyed_of s hr
    have ev := keyOf_v x hk
    subst ev e1
    refine ⟨(key, w) :: kvs, rfl, by rw [List.length_cons, List.length_cons, e2], fun acc es h => ?_⟩
    exact e3 _ _ (h.put key y)
theorem simN_disp {tp : List (TE × TE)} {c : CP} (h : SimP f tp c) : SimN f (tDisp tp) (cDisp c) := fun P O σ H ρ Q r w => by
  intro p hp
  have g0 : Gr f.z O H (upd H p (.dK [])) := (Grow.new hp).gr
  refine h P (also O p) σ _ ρ _ (r.guard hp) (M.wp_mono (M.wp_bind.mp w) (fun ds w1 vs H1 g1 s1 => ?_) fun _ z => z)
  unfold mkDct at w1
  split at w1
  · rename_i ks hk
    split at w1
    · rename_i hl
      obtain ⟨kvs, e1, e2, e3⟩ := keyed_of s1 hk
      refine ⟨g1.onO (.inr rfl) _ upd_same, kvs, e1, by omega, ?_⟩
      refine w1 p _ ((g0.trans (g1.less fun _ z => .inl z)).updNew (nc_dK (g1.onO (.inr rfl) _ upd_same)) hp) hp (.dct upd_same ?_)
      exact (e3 [] [] .nil).ext (Ext.write (.inr rfl))
    · exact w1.elim
  · exact w1.elim

/-! ### walks over dicts: the dict is frozen first -/
def tFz (te : TE) : TE := fun σ H Q => te σ H fun x H1 => ∃ d kvs, x = .ref d ∧ ((∃ o, H1 d = some (.frz o (.dK kvs)) ∧ Q (.ref d) H1) ∨ (H1 d = some (.dK kvs) ∧ ∀ o, Q (.ref d) (upd H1 d (.frz o (.dK kvs)))))
theorem pe_fz {X : Cx} {e : Expr} {te : TE} (he : PE X e te) : PE X e (tFz te) := by
  refine ⟨fun pins s σ H Q I h => thn (he.run pins s σ H _ I h) fun u s1 ⟨x, H1, I1, rx, d, kvs, ex, q⟩ => ?_⟩
  subst ex
  rcases q with ⟨o, h1, q⟩ | ⟨h1, q⟩
  · exact ⟨_, H1, I1, rx, q⟩
  · obtain ⟨od, I2⟩ := I1.lock h1 trivial
    exact ⟨_, _, I2, rx, q od⟩
def keysD : D → M (List D)
  | .dct es => .ret (es.map (·.1))
  | _ => .stuck
def valsD : D → M (List D)
  | .dct es => .ret (es.map (·.2))
  | _ => .stuck
def cKeys (a : CE) : CI := fun ρ => (a ρ).bind keysD
def cVals (a : CE) : CI := fun ρ => (a ρ).bind valsD
theorem DenKV.at {K : PySem.W.Frag} {O : Addr → Prop} {H : Hp} : ∀ {kvs : List (Key × V)} {es : List (D × D)}, DenKV K O H kvs es → ∀ (i : Nat) (k : Key) (v : V), kvs[i]? = some (k, v) → ∃ d, es[i]? = some (keyD k, d) ∧ Den K O H v d
  | _, _, .nil, i, k, v, e => by simp at e
  | _, _, .cons h s, 0, k, v, e => by
    have e' := Option.some.inj (show some _ = some (k, v) from e); cases e'; exact ⟨_, rfl, h⟩
  | _, _, .cons h s, i + 1, k, v, e => DenKV.at s i k v e
theorem den_key {K : PySem.W.Frag} {O : Addr → Prop} {H : Hp} (k : Key) : Den K O H (kV k) (keyD k) := by
  cases k
  · exact .int _
  · exact .str _
theorem dct_frz {K : PySem.W.Frag} {O : Addr → Prop} {H : Hp} {a : Addr} {o : Obj} {kvs : List (Key × V)} {es : List (D × D)} (h : Den K O H (.ref a) (.dct es)) (hf : H a = some (.frz o (.dK kvs))) : DenKV K O H kvs es := by
  cases h with
  | dct n r s =>
    rcases r with r | ⟨o', r⟩
    · rw [hf] at r; cases r
    · rw [hf] at r; cases r; exact s
theorem keeps_keys {K : PySem.W.Frag} {a : Addr} {o : Obj} {kvs : List (Key × V)} {es : List (D × D)} : Keeps K [.frz a o (.dK kvs), .den (.ref a) (.dct es)] (Itk a o kvs) (es.map (·.1)) := fun O H hp i => by
  obtain ⟨hn, hf⟩ : ¬ O a ∧ H a = some (.frz o (.dK kvs)) := hp _ List.mem_cons_self
  have hd : Den K O H (.ref a) (.dct es) := hp _ (List.mem_cons_of_mem _ List.mem_cons_self)
  have s := dct_frz hd hf
  rw [List.length_map]
  refine ⟨fun hi => ⟨⟨hf, by rw [s.length]; exact hi⟩, fun x H'' hy => ?_⟩, fun hi _ => ⟨hf, by rw [s.length]; exact hi⟩⟩
  obtain ⟨e, k, v, hk, ex⟩ := hy
  subst e; subst ex
  obtain ⟨d, hd, _⟩ := s.at i k v hk
  exact ⟨Grow.refl _, keyD k, by rw [List.getElem?_map, hd]; rfl, fun _ => den_key k⟩
theorem keeps_vals {K : PySem.W.Frag} {a : Addr} {o : Obj} {kvs : List (Key × V)} {es : List (D × D)} : Keeps K [.frz a o (.dK kvs), .den (.ref a) (.dct es)] (Itd a o kvs) (es.map (·.2)) := fun O H hp i => by
  obtain ⟨hn, hf⟩ : ¬ O a ∧ H a = some (.frz o (.dK kvs)) := hp _ List.mem_cons_self
  have hd : Den K O H (.ref a) (.dct es) := hp _ (List.mem_cons_of_mem _ List.mem_cons_self)
  have s := dct_frz hd hf
  rw [List.length_map]
  refine ⟨fun hi => ⟨⟨hf, by rw [s.length]; exact hi⟩, fun x H'' hy => ?_⟩, fun hi _ => ⟨hf, by rw [s.length]; exact hi⟩⟩
  obtain ⟨e, k, hk⟩ := hy
  subst e
  obtain ⟨d, hd, xd⟩ := s.at i k x hk
  exact ⟨Grow.refl _, d, by rw [List.getElem?_map, hd]; rfl, fun _ => xd⟩
theorem fz_step {te : TE} {a : CE} {σ : St} {H : Hp} {ρ : Rho} {P : List Pin} {O : Addr → Prop} (hz : f.z = true) (ha : SimE f te a) (r : f.Rel P O σ H ρ) {Q : VK} {R : D → Prop}
    (w : (a ρ).wp R (XP f)) (k : ∀ d, R d → ∃ es, d = .dct es ∧ ∀ b o kvs H', Gr f.z O H H' → ¬ O b → H' b = some (.frz o (.dK kvs)) → Den f.K O H' (.ref b) (.dct es) → Q (.ref b) H') : tFz te σ H Q := by
  refine ha P O σ H ρ _ r (M.wp_mono w (fun d hd v H1 g1 x1 => ?_) fun _ z => z)
  obtain ⟨es, e, q⟩ := k d hd
  subst e
  have x0 := x1
  cases x1 with
  | @dct b kvs _ n rd s =>
    refine ⟨b, kvs, rfl, ?_⟩
    rcases rd with rd | ⟨o, rd⟩
    · refine .inr ⟨rd, fun o => ?_⟩
      have g2 : Gr f.z O H1 (upd H1 b (.frz o (.dK kvs))) := ⟨fun c u h => by
        by_cases e : c = b
        · subst e; rw [rd] at h; cases h
          exact .inr (.inl ⟨hz, n, kvs, o, rfl, upd_same⟩)
        · rw [upd_ne e]; exact .inl h, fun t => tabs_upd (nc_dK rd) t⟩
      exact q b o kvs _ (g1.trans g2) n upd_same (x0.ext g2.ext)
    · exact .inl ⟨o, rd, q b o kvs H1 g1 n rd x0⟩
theorem simI_keysZ {te : TE} {a : CE} (hz : f.z = true) (ha : SimE f te a) : SimI f (iKeys (tFz te)) (cKeys a) := fun P O σ H ρ R r w => by
  refine fz_step hz ha r (M.wp_bind.mp w) fun d hd => ?_
  cases d with
  | dct es =>
    refine ⟨es, rfl, fun b o kvs H' g n hf hb => ⟨b, o, rfl, .inl ⟨kvs, hf, ?_⟩⟩⟩
    refine hd (Itk b o kvs) H' [.frz b o (.dK kvs), .den (.ref b) (.dct es)] g (fun p hp => ?_) keeps_keys
    rcases List.mem_cons.mp hp with e | e
    · subst e; exact ⟨n, hf⟩
    · rw [List.mem_singleton.mp e]; exact hb
  | _ => exact hd.elim
theorem simI_valsZ {te : TE} {a : CE} (hz : f.z = true) (ha : SimE f te a) : SimI f (iVals (tFz te)) (cVals a) := fun P O σ H ρ R r w => by
  refine fz_step hz ha r (M.wp_bind.mp w) fun d hd => ?_
  cases d with
  | dct es =>
    refine ⟨es, rfl, fun b o kvs H' g n hf hb => ⟨b, o, kvs, rfl, hf, ?_⟩⟩
    refine hd (Itd b o kvs) H' [.frz b o (.dK kvs), .den (.ref b) (.dct es)] g (fun p hp => ?_) keeps_vals
    rcases List.mem_cons.mp hp with e | e
    · subst e; exact ⟨n, hf⟩
    · rw [List.mem_singleton.mp e]; exact hb
  | _ => exact hd.elim
theorem pi_keysZ {X : Cx} {tg e : Expr} {te : TE} (he : PE X e te) : PI X tg e (iKeys (tFz te)) := pi_keys (pe_fz he)
theorem pi_valsZ {X : Cx} {tg e : Expr} {te : TE} {apos cpos : Pos} (he : PE X e te) (hb : attributeBase e "values" X.env (eval e X.env) = eval e X.env := by rfl) (hl : (apos.endLine == cpos.line) = true := by rfl) : PI X tg (.Call (.Attribute e "values" apos) [] [] cpos) (iVals (tFz te)) := pi_values (pe_fz he) hb hl

/-! ### xs[::-1] -/
def revD : D → Option D
  | .lst xs => some (.lst xs.reverse)
  | _ => none
def cRev (a : CE) : CE := cUn revD a
theorem sim_rev {te : TE} {a : CE} (ha : SimC f te a) : SimE f (tRevL f.K te) (cRev a) := fun P O σ H ρ Q r w => by
  refine ha P O σ H ρ _ r (M.wp_mono (M.wp_bind.mp w) (fun d w1 v H1 g1 x1 => ?_) fun _ z => z)
  cases d with
  | lst xs =>
    obtain ⟨b, vs, e, h, s⟩ := x1.lst
    refine ⟨b, vs, e, SqL.of h, fun p hp => ?_⟩
    exact w1 _ _ (g1.trans (Grow.new hp).gr) (.lst (off_new (r.growTo g1).dom hp) upd_same (s.reverse.ext (Grow.new hp).ext))
  | _ => exact w1.elim

/-! ### dict(list of pairs) -/
def pairOf : D → Option (D × D)
  | .tup [a, b] => some (a, b)
  | _ => none
def pairsOf : List D → Option (List (D × D))
  | [] => some []
  | x :: xs => (pairOf x).bind fun p => (pairsOf xs).bind fun ps => some (p :: ps)
def dictD : List D → Option D
  | [.lst xs] => (pairsOf xs).bind fun ps => (keyed ps).bind fun ks => some (.dct (dMerge [] ks))
  | _ => none
theorem pairs_den {K : PySem.W.Frag} {O : Addr → Prop} {H : Hp} : ∀ {vs : List V} {xs : List D} {ps : List (D × D)} {ks : List (Key × D)}, Dens K O H vs xs → pairsOf xs = some ps → keyed ps = some ks → ∃ (qs : List Addr) (kvs : List (Key × V)), vs = qs.map V.ref ∧
    Paired (fun p kv => SqT K H p [kV kv.1, kv.2]) qs kvs ∧ ∀ (acc : List (Key × V)) (es : List (D × D)), DenKV K O H acc es → DenKV K O H (mergeK acc kvs) (dMerge es ks)
  | _, _, _, _, .nil, e1, e2 => by cases e1; cases e2; exact ⟨[], [], rfl, .nil, fun acc es h => h⟩
  | _, _, _, _, .cons (v := v) (d := d) (ds := ds) x s, e1, e2 => by
    replace e1 : ((pairOf d).bind fun p => (pairsOf ds).bind fun ps => some (p :: ps)) = some _ := e1
    cases hp : pairOf d with
    | none => rw [hp] at e1; cases e1
    | some pr =>
    rw [hp] at e1
    replace e1 : ((pairsOf ds).bind fun ps => some (pr :: ps)) = some _ := e1
    cases hr : pairsOf ds with
    | none => rw [hr] at e1; cases e1
    | some ps =>
    rw [hr] at e1
    cases e1
    obtain ⟨k, dv⟩ := pr
    replace e2 : ((keyOf k).bind fun key => (keyed ps).bind fun ks => some ((key, dv) :: ks)) = some _ := e2
    cases hk : keyOf k with
    | none => rw [hk] at e2; cases e2
    | some key =>
    rw [hk] at e2
    replace e2 : ((keyed ps).bind fun ks => some ((key, dv) :: ks)) = some _ := e2
    cases hq : keyed ps with
    | none => rw [hq] at e2; cases e2
    | some kr =>
    rw [hq] at e2
    cases e2
    have ed : d = .tup [k, dv] := by
      unfold pairOf at hp
      split at hp
      · cases hp; rfl
      · cases hp
    subst ed
    obtain ⟨a, ws, ev, hs, sw⟩ := (DenC.tup (H0 := H) (.inl x))
    subst ev
    obtain ⟨qs, kvs, f1, f2, f3⟩ := pairs_den s hr hq
    subst f1
    cases sw with
    | cons y1 y2 =>
    cases y2 with
    | cons y2 y3 =>
    cases y3
    have ek := keyOf_v y1 hk
    subst ek
    exact ⟨a :: qs, (key, _) :: kvs, rfl, .cons hs f2, fun acc es h => f3 _ _ (h.put key y2)⟩
end
end Py

/-! RA: repr, dict(..), the reversed copy as short words; pop within a comprehension; pens. -/
namespace Py
open PySem PySem.Spec PyProof.Rows L2
variable [Wd]

theorem u_dict {X : Cx} (hc : X.calm = true) : CallR X (.type "dict") (uCb X.K dictD) := by
  intro pins s σ H xs us Q I r h
  obtain ⟨H0, O, ds, z, hd, hx, e, q⟩ := h
  rcases ds with _ | ⟨d, _ | ⟨d2, r2⟩⟩
  · cases e
  rotate_left
  · cases d <;> cases e
  cases hx with
  | cons h1 h2 =>
  cases h2
  cases d <;> first | (cases e; done) | skip
  rename_i es
  replace e : ((pairsOf es).bind fun ps => (keyed ps).bind fun ks => some (.dct (dMerge [] ks))) = some z := e
  cases hp : pairsOf es with
  | none => rw [hp] at e; cases e
  | some ps =>
  rw [hp] at e
  replace e : ((keyed ps).bind fun ks => some (.dct (dMerge [] ks))) = some z := e
  cases hk : keyed ps with
  | none => rw [hk] at e; cases e
  | some ks =>
  rw [hk] at e
  cases e
  obtain ⟨a, vs, ev, ha, sa⟩ := h1.lst
  subst ev
  obtain ⟨qs, kvs, f1, f2, f3⟩ := pairs_den sa hp hk
  subst f1
  refine call_dictP hc pins s σ H _ us Q I r ⟨a, qs, kvs, rfl, SqL.of ha, f2, fun p hpn => ?_⟩
  exact q _ _ (Grow.new hpn) (.dct (off_new hd hpn) (.inl upd_same) ((f3 [] [] .nil).ext (Grow.new hpn).ext))
section
variable {X : Cx} {p p2 pos : Pos} {e : Expr} {es : List Expr} {t : TA} {te : TE}
theorem pdict (B : Bf X.mg) (hc : X.calm = true) (ha : PA X (e :: es) t) (hg : Gl X "dict" := by rfl) (he : starEach (e :: es) X.env = (false, eval e X.env) :: starEach es X.env := by rfl) (hpl : (backTo pos (starEach es X.env)).any (·.1) = false := by rfl) : PE X (.Call (.Name "dict" p) (e :: es) [] pos) (tCB (uCb X.K dictD) t) :=
  pe_callTy (u_dict hc) hg B.dict boot_tys.2.2.2.1 ha (by decide) (by decide) he hpl
theorem prepr {o : Obj} {n : Nat} (B : Bf X.mg) (hs : X.K.lookup sysModules = some o) (hr : RoomG n X.A) (ha : PA X (e :: es) t) (hu : X.A.units + 64 < cLine) (hg : Gl X "repr" := by rfl) (he : starEach (e :: es) X.env = (false, eval e X.env) :: starEach es X.env := by rfl) (hpl : (backTo pos (starEach es X.env)).any (·.1) = false := by rfl) : PE X (.Call (.Name "repr" p) (e :: es) [] pos) (tCB (uCb X.K reprD) t) :=
  pe_callB (u_repr hs hr.bare hu) hg B.repr boot_fns.2.2.2.2.2.2.2 ha (by decide) (by decide) he hpl
end

/-! ### return [own.pop(e) for x in xs] -/
def popOf (xs : List D) : D → M (D × List D)
  | .int n => if 0 ≤ n ∧ n ≤ 1000000 then (match xs[n.toNat]? with
    | some y => .ret (y, xs.eraseIdx n.toNat)
    | none => .stuck) else .stuck
  | _ => .stuck
def loopP (cg : CG) (a : CE) (vs : List Nat) (i : Nat) : List D → Rho → M (List D)
  | [], _ => .ret []
  | d :: r, ρ => withLst i ρ fun _ => (cg d (wipeR ρ vs)).bind fun ρ1 => withLst i ρ1 fun xs => (a ρ1).bind fun k => (popOf xs k).bind fun yz => (loopP cg a vs i r (ρ.set i (some (true, .lst yz.2)))).bind fun ys => .ret (yz.1 :: ys)
def cRetPop (vs : List Nat) (i : Nat) (cg : CG) (ci : CI) (a : CE) : CS := fun ρ => (ci ρ).bind fun ds => if ds.length ≤ LIM then (noErr (loopP cg a vs i ds ρ)).bind fun ys => .ret (.ret (.lst ys)) else .stuck
theorem wipe_get {α : Type} {i : Nat} : ∀ {vs : List Nat} {l : List (Option V)}, i ∉ vs → (wipe l vs)[i]? = l[i]?
  | [], _, _ => rfl
  | v :: vs, l, h => by
    show ((wipe l vs).set v none)[i]? = _
    rw [List.getElem?_set_ne (fun e => h (by rw [e]; exact List.mem_cons_self))]
    exact wipe_get (α := α) fun m => h (List.mem_cons_of_mem _ m)
theorem wipeR_get {i : Nat} : ∀ {vs : List Nat} {l : Rho}, i ∉ vs → (wipeR l vs)[i]? = l[i]?
  | [], _, _ => rfl
  | v :: vs, l, h => by
    show ((wipeR l vs).set v none)[i]? = _
    rw [List.getElem?_set_ne (fun e => h (by rw [e]; exact List.mem_cons_self))]
    exact wipeR_get fun m => h (List.mem_cons_of_mem _ m)
section
variable {f : Cf}
theorem yes_of {σ : L2.St} {H : Hp} {A B : Hp → Prop} (h : A H) : tYes σ H (fun b H3 => if b = true then A H3 else B H3) := by
  show if (true = true) then A H else B H
  rw [if_pos rfl]; exact h
theorem sim_retPop {wi : TI} {g : TG} {ta : TE} {vs : List Nat} {i : Nat} {cg : CG} {ci : CI} {ca : CE} (hv : i ∉ vs) (hi : SimI f wi ci) (hg : SimG f.calm g cg) (ha : SimE f.calm ta ca) (hwp : Wp vs g) (hfx : ∀ v ∈ vs, f.fix v = none) (hm : ∀ (x : V) (σ : L2.St) (H : Hp) (Q Q' : L2.St → Hp → Prop), (∀ σ' H', Q σ' H' → Q' σ' H') → g x σ H Q → g x σ H Q') (hf0 : f.fix 0 = none := by rfl) :
    SimS f (tRet (tLc wi g tYes (tBM f.K "list" rPopAt (tVar i) (tCons ta tNil)) vs)) (cRetPop vs i cg ci ca) := fun P O σ H ρ E r w => by
  refine hi P O σ H ρ _ r (M.wp_mono (M.wp_bind.mp w) (fun ds w1 J H1 P' g1 hp hk => ?_) fun _ z => z)
  split at w1
  · rename_i hlen
    intro Dl hD
    have w2 := noErr_wp (E' := fun _ => False) (M.wp_bind.mp w1)
    have r1 : f.Rel (P' ++ P) O σ H1 ρ := (r.growTo g1).pin hp
    have h0 : f.H0 Dl = none := r1.grow.fresh hD
    have no1 : ¬ O Dl := fun z => r1.dom Dl z hD
    refine ⟨fun j m H' => m = ds.length - j ∧ j ≤ ds.length ∧ ∃ (acc : List D) (ρ' : Rho), acc.length ≤ j ∧ f.Rel (P' ++ P) (also O Dl) σ H' ρ' ∧ (∀ (j' : Nat) (d : D) (a : Addr), ρ'[j']? = some (some (true, d)) → σ[j']? = some (some (.ref a)) → a ≠ Dl) ∧ (∃ us, H' Dl = some (.lst us) ∧ Dens f.K (also O Dl) H' us acc) ∧
      (loopP cg ca vs i (ds.drop j) ρ').wp (fun ys => ∀ v H2, Gr f.z f.S f.H0 H2 → Den f.K f.S H2 v (.lst (acc ++ ys)) → E.rt v H2) (fun _ => False), ?_, ?_⟩
    · refine ⟨ds.length, by simp, Nat.zero_le _, [], ρ, Nat.le_refl _, r1.guard hD, ?_, ⟨[], upd_same, .nil⟩, ?_⟩
      · intro j' d a h2 h3
        obtain ⟨b, e, ob, _⟩ := r1.mine j' d h2
        rw [h3] at e; cases e
        exact fun z => r1.dom a ob (z ▸ hD)
      · rw [List.drop_zero]
        exact M.wp_mono w2 (fun ys h => post_ret hf0 h) fun _ z => z
    · rintro j m H' ⟨rfl, hle, acc, ρ', hacc, rH, hne, ⟨us, hus, sus⟩, w'⟩
      have k := hk (also O Dl) H' (fun p hp => rH.held p (List.mem_append_left _ hp)) j
      by_cases hj : j < ds.length
      · refine .inr ⟨(k.1 hj).1, fun H2 => j + 1 ≤ ds.length ∧ ∃ (acc : List D) (ρ' : Rho), acc.length ≤ j + 1 ∧ f.Rel (P' ++ P) (also O Dl) σ H2 ρ' ∧ (∀ (j' : Nat) (d : D) (a : Addr), ρ'[j']? = some (some (true, d)) → σ[j']? = some (some (.ref a)) → a ≠ Dl) ∧ (∃ us, H2 Dl = some (.lst us) ∧ Dens f.K (also O Dl) H2 us acc) ∧
          (loopP cg ca vs i (ds.drop (j + 1)) ρ').wp (fun ys => ∀ v H2, Gr f.z f.S f.H0 H2 → Den f.K f.S H2 v (.lst (acc ++ ys)) → E.rt v H2) (fun _ => False), ?_, ?_⟩
        · rintro H2 ⟨h1, h2⟩
          exact ⟨ds.length - (j + 1), by omega, rfl, h1, h2⟩
        · intro x H'' hy
          obtain ⟨gg, d, hd, xd⟩ := (k.1 hj).2 x H'' hy
          have r2 : f.Rel (P' ++ P) (also O Dl) σ H'' ρ' := rH.growTo gg.gr
          have ed : ds.drop j = d :: ds.drop (j + 1) := by
            obtain ⟨h1, h2⟩ := List.getElem?_eq_some_iff.mp hd
            rw [List.drop_eq_getElem_cons h1, h2]
          rw [ed] at w'
          obtain ⟨xs0, hx0, w'⟩ := withLst_wp w'
          have hus2 : H'' Dl = some (.lst us) := gg Dl _ hus
          have sus2 : Dens f.K (also O Dl) H'' us acc := sus.ext gg.ext
          have key : ∀ B : L2.St → Hp → Prop, (g x (wipe σ vs) H'' fun σ2 H2 => wipe σ2 vs = wipe σ vs → B σ2 H2) → g x (wipe σ vs) H'' fun σ2 H2 => wipe σ2 vs = wipe σ vs ∧ B σ2 H2 := fun B hB =>
            hm _ _ _ _ _ (fun σ2 H2 z => ⟨z.1, z.2 z.1⟩) (hwp σ _ x H'' _ (wipe_wipe σ vs) hB)
          refine key _ (hg (P' ++ P) (also O Dl) (wipe σ vs) H'' (wipeR ρ' vs) x d _ (r2.wipe vs hfx) (xd rH.dom) (M.wp_mono (M.wp_bind.mp w') (fun ρ1 w3 σ1 r3 => ?_) fun _ z => z.elim))
          intro hw1
          have es1 : σ1[i]? = σ[i]? := by rw [← wipe_get (α := Nat) (l := σ1) hv, hw1, wipe_get (α := Nat) hv]
          obtain ⟨xs, hx, w4⟩ := withLst_wp w3
          obtain ⟨l, e1, ol, nl, tl⟩ := r3.mine i _ hx
          obtain ⟨ws, hl, sl⟩ := top_lst tl
          refine yes_of ?_
          refine ⟨.ref l, e1, .inl ⟨rfl, ws, SqL.of hl⟩, ?_⟩
          refine ha (P' ++ P) (also O Dl) σ1 H'' ρ1 _ r3 (M.wp_mono (M.wp_bind.mp w4) (fun kd w5 v H4 g4 x4 => ?_) fun _ z => z.elim)
          have hl4 := g4.onO ol _ hl
          have hus4 : H4 Dl = some (.lst us) := g4.onO (.inr rfl) _ hus2
          have rr4 : f.Rel (P' ++ P) (also O Dl) σ H4 ρ' := r2.growTo g4
          have hlD : l ≠ Dl := hne i _ l hx0 (by rw [← es1]; exact e1)
          cases kd with
          | int n =>
            have w6 := M.wp_bind.mp w5
            replace w6 : M.wp (if 0 ≤ n ∧ n ≤ 1000000 then (match xs[n.toNat]? with
              | some y => M.ret (y, xs.eraseIdx n.toNat)
              | none => M.stuck) else M.stuck) _ _ := w6
            split at w6
            · rename_i hn
              split at w6
              · rename_i y hy
                cases x4
                obtain ⟨u, hu, xu⟩ := sl.get n.toNat y hy
                have hlt : n.toNat < ws.length := (List.getElem?_eq_some_iff.mp hu).1
                refine ⟨l, ws, n, n.toNat, u, rfl, rfl, hl4, by omega, by omega, seqIndex_of hn.1 (by omega), hu, ?_⟩
                have c1 := rr4.change (o := .lst (ws.eraseIdx n.toNat)) (d := .lst (xs.eraseIdx n.toNat)) hx0 (by rw [← es1]; exact e1) ol nl (.lst upd_same (((sl.ext g4.ext).eraseIdx n.toNat).ext (Ext.write ol)))
                have hne2 : ∀ (j' : Nat) (d : D) (a : Addr), (ρ'.set i (some (true, .lst (xs.eraseIdx n.toNat))))[j']? = some (some (true, d)) → σ[j']? = some (some (.ref a)) → a ≠ Dl := by
                  intro j' d a q2 q3
                  rcases get_set q2 with ⟨p1, _⟩ | ⟨_, p2⟩
                  · subst p1; exact hne _ _ a hx0 q3
                  · exact hne j' d a p2 q3
                have hus5 : (upd H4 l (.lst (ws.eraseIdx n.toNat))) Dl = some (.lst us) := by rw [upd_ne (Ne.symm hlD)]; exact hus4
                have ex5 : Ext (also O Dl) H4 (upd H4 l (.lst (ws.eraseIdx n.toNat))) := Ext.write ol
                refine ⟨us, hus5, by rw [sus.length]; exact Nat.lt_of_le_of_lt hacc (lim_lt (by omega)), by omega, acc ++ [y], _, by rw [List.length_append]; simp; omega, c1.touch (nc_lst hus5) (.inr rfl) h0 hne2, hne2, ⟨_, upd_same, ?_⟩, ?_⟩
                · exact ((((sus2.ext g4.ext).ext ex5).append (.cons ((xu.ext g4.ext).ext ex5) .nil))).ext (Ext.write (.inr rfl))
                · refine M.wp_mono (M.wp_bind.mp w6) (fun ys h => ?_) fun _ z => z
                  have h' : ∀ v H2, Gr f.z f.S f.H0 H2 → Den f.K f.S H2 v (.lst (acc ++ y :: ys)) → E.rt v H2 := h
                  rw [List.append_assoc]
                  exact h'
              · exact w6.elim
            · exact w6.elim
          | _ => exact w5.elim
      · refine .inl ⟨k.2 (by omega) hle, ?_⟩
        rw [List.drop_eq_nil_of_le (by omega)] at w'
        have w6 : ∀ v H2, Gr f.z f.S f.H0 H2 → Den f.K f.S H2 v (.lst (acc ++ [])) → E.rt v H2 := w'
        rw [List.append_nil] at w6
        exact w6 (.ref Dl) H' rH.grow (.lst (fun z => no1 (r.sub _ z)) hus (sus.less fun a h => .inl (r.sub a h)))
  · exact w1.elim
end
end Py

/-! RS: max of a list (default= too), joined texts, f-strings. -/
namespace Py
open PySem PySem.Spec PyProof.Rows L2
variable [Wd]

def maxI (n : Int) (r : List Int) : Int := r.foldl (fun a y => if a < y then y else a) n
theorem maxI_ge : ∀ (r : List Int) (n : Int), n ≤ maxI n r ∧ ∀ y ∈ r, y ≤ maxI n r
  | [], n => ⟨Int.le_refl _, fun y h => nomatch h⟩
  | z :: r, n => by
    have e : maxI n (z :: r) = maxI (if n < z then z else n) r := rfl
    by_cases hz : n < z
    · rw [if_pos hz] at e
      obtain ⟨a, b⟩ := maxI_ge r z
      rw [e]
      refine ⟨by omega, fun y h => ?_⟩
      rcases List.mem_cons.mp h with h | h
      · rw [h]; exact a
      · exact b y h
    · rw [if_neg hz] at e
      obtain ⟨a, b⟩ := maxI_ge r n
      rw [e]
      refine ⟨a, fun y h => ?_⟩
      rcases List.mem_cons.mp h with h | h
      · rw [h]; omega
      · exact b y h
theorem maxI_mem : ∀ (r : List Int) (n : Int), maxI n r = n ∨ maxI n r ∈ r
  | [], n => .inl rfl
  | z :: r, n => by
    have e : maxI n (z :: r) = maxI (if n < z then z else n) r := rfl
    rw [e]
    rcases maxI_mem r (if n < z then z else n) with h | h
    · rw [h]
      split
      · exact .inr List.mem_cons_self
      · exact .inl rfl
    · exact .inr (List.mem_cons_of_mem _ h)
def mxD : List D → Option D
  | [.int i, .int j] => some (.int (if j > i then j else i))
  | [.lst xs] => match intsOf xs with
    | some (n :: r) => some (.int (maxI n r))
    | _ => none
  | _ => none
def mxdD : List D → List D → Option D
  | [.lst xs], [.int d] => match intsOf xs with
    | some (n :: r) => some (.int (maxI n r))
    | some [] => some (.int d)
    | none => none
  | _, _ => none
theorem u_mx {X : Cx} (hc : X.calm = true) : CallR X (.builtin "max") (uCb X.K mxD) := by
  intro pins s σ H xs us Q I r h
  obtain ⟨H0, O, ds, z, hd, hx, e, q⟩ := h
  rcases ds with _ | ⟨d, _ | ⟨d2, _ | ⟨d3, r3⟩⟩⟩
  · cases e
  · cases d with
    | lst ys =>
      replace e : (match intsOf ys with
        | some (n :: r) => some (D.int (maxI n r))
        | _ => none) = some z := e
      cases hn : intsOf ys with
      | none => rw [hn] at e; cases e
      | some ns =>
        rw [hn] at e
        cases ns with
        | nil => cases e
        | cons n rr =>
          cases e
          cases hx with
          | cons h1 h2 =>
          cases h2
          obtain ⟨a, vs, ev, ha, sa⟩ := h1.lst
          subst ev
          have e2 := intsOf_v sa hn
          subst e2
          refine cr_max hc pins s σ H _ us Q I r ⟨a, n :: rr, rfl, SqL.of ha, by simp, fun m hm hmax => ?_⟩
          have g := maxI_ge rr n
          have mm := maxI_mem rr n
          have e3 : m = maxI n rr := by
            refine Int.le_antisymm ?_ ?_
            · rcases List.mem_cons.mp hm with h | h
              · rw [h]; exact g.1
              · exact g.2 m h
            · rcases mm with h | h
              · rw [h]; exact hmax n List.mem_cons_self
              · exact hmax _ (List.mem_cons_of_mem _ h)
          rw [e3]
          exact q _ _ (Grow.refl _) (.int _)
    | _ => cases e
  · exact u_max hc pins s σ H xs us Q I r ⟨H0, O, [d, d2], z, hd, hx, (by cases d <;> cases d2 <;> first | exact e | (cases e; done)), q⟩
  · cases d <;> cases d2 <;> cases e
/-- a built-in with keywords, by data -/
def uCk (K : PySem.W.Frag) (g : List D → List D → Option D) : List V → List V → Hp → VK → Prop := fun xs ys H Q => ∃ (H0 : Hp) (O : Addr → Prop) (ds es : List D) (z : D), (∀ a, O a → H a ≠ none) ∧ DenCs K H0 O H xs ds ∧ DenCs K H0 O H ys es ∧ g ds es = some z ∧ ∀ v H', Grow H H' → Den K O H' v z → Q v H'
def liftK (g : List D → List D → Option D) (x y : List D) : M D := match g x y with
  | some z => .ret z
  | none => .stuck
def cCk (g : List D → List D → Option D) (a b : CA) : CE := fun ρ => (a ρ).bind fun x => (b ρ).bind fun y => liftK g x y
theorem sim_ck {f : Cf} {g : List D → List D → Option D} {ta tk : TA} {a b : CA} (ha : SimB f ta a) (hb : SimB f tk b) : SimE f (tCKw (uCk f.K g) ta tk) (cCk g a b) := fun P O σ H ρ Q rl w => by
  refine ha P O σ H ρ _ rl (M.wp_mono (M.wp_bind.mp w) (fun dx w1 x H1 g1 x1 => ?_) fun _ z => z)
  refine hb P O σ H1 ρ _ (rl.growTo g1) (M.wp_mono (M.wp_bind.mp w1) (fun dy w2 y H2 g2 y2 => ?_) fun _ z => z)
  unfold liftK at w2
  split at w2
  · rename_i z e
    exact ⟨f.H0, O, dx, dy, z, ((rl.growTo g1).growTo g2).dom, x1.grow g2, y2, e, fun v H' g3 v3 => w2 v H' ((g1.trans g2).trans g3.gr) v3⟩
  · exact w2.elim
theorem maxOf_I (n : Int) (r : List Int) : PySem.W.maxOf n r = maxI n r := by
  unfold PySem.W.maxOf maxI
  congr 1
  funext a y
  show (if decide (a < y) = true then y else a) = _
  by_cases h : a < y
  · rw [if_pos h, if_pos (decide_eq_true h)]
  · rw [if_neg h, if_neg (by simpa using h)]
theorem hold_ints {h : Heap} : ∀ {its : List Value} {ns : List Int}, IntsAre its ns → PySem.W.HoldAll h its.toArray.toList ns := fun {its ns} hi => by
  show ∃ as, ReadsAll h its.toArray.toList (ns.map PyData.int) as
  have : ∀ {its : List Value} {ns : List Int}, IntsAre its ns → ∃ as, ReadsAll h its (ns.map PyData.int) as := by
    intro its ns hi
    induction hi with
    | nil => exact ⟨_, .nil⟩
    | cons _ _ _ ih => obtain ⟨as, r⟩ := ih; exact ⟨_, .cons (.int _ _) r⟩
  simpa using this hi
theorem u_mxd {X : Cx} (hc : X.calm = true) (hu : X.A.units + 64 < cLine) : CallRK X (.builtin "max") [Str.ofString "default"] (uCk X.K mxdD) := by
  intro pins s σ H xs zs us ws Q I r r' h
  obtain ⟨H0, O, ds, es, z, hd, hx, hy, e, q⟩ := h
  rcases ds with _ | ⟨d, _ | ⟨d2, r2⟩⟩
  · cases e
  rotate_left
  · cases d <;> cases e
  cases d with
  | lst ys =>
    rcases es with _ | ⟨k, _ | ⟨k2, r3⟩⟩
    · cases e
    rotate_left
    · cases k <;> cases e
    cases k with
    | int dd =>
      replace e : (match intsOf ys with
        | some (n :: r) => some (D.int (maxI n r))
        | some [] => some (.int dd)
        | none => none) = some z := e
      cases hx with
      | cons h1 h2 =>
      cases h2
      cases hy with
      | cons k1 k2 =>
      cases k2
      obtain ⟨a, vs, ev, ha, sa⟩ := h1.lst
      subst ev
      have ek := k1.int
      subst ek
      cases hn : intsOf ys with
      | none => rw [hn] at e; cases e
      | some ns =>
        rw [hn] at e
        have e2 := intsOf_v sa hn
        subst e2
        obtain ⟨its, rv, hl, _⟩ := I.list (SqL.of (K := X.K) ha)
        rw [Vals.ref1 r]
        cases r' with
        | cons w1 w2 =>
        cases w2
        obtain ⟨t, rfl⟩ := w1
        have hints : IntsAre its ns := rv.ints
        have hold : PySem.W.HoldAll s.heap its.toArray.toList ns := hold_ints hints
        have z1 : PySem.W.Datum.depth Int ≤ 1 := by decide
        refine PySem.W.max_list_datum_default (I.ok.hd hc) hl.isList hold (by omega) (fun e0 h' tk k => ?_) (fun y yy i v h' tk e0 hi hv k => ?_)
        · subst e0
          cases e
          exact ⟨.int dd, H, I.kept k, ⟨t, rfl⟩, q _ _ (Grow.refl _) (.int _)⟩
        · subst e0
          cases e
          rw [maxOf_I] at hv
          obtain ⟨as, rd⟩ := hv
          replace rd : Reads h' v (.int (maxI y yy)) as := rd
          cases rd
          exact ⟨.int _, H, I.kept k, ⟨_, rfl⟩, q _ _ (Grow.refl _) (.int _)⟩
    | _ => cases e
  | _ => cases e

theorem pmx {X : Cx} {p pos : Pos} {e : Expr} {es : List Expr} {t : TA} (B : Bf X.mg) (hc : X.calm = true) (ha : PA X (e :: es) t) (hg : Gl X "max" := by rfl) (he : starEach (e :: es) X.env = (false, eval e X.env) :: starEach es X.env := by rfl) (hpl : (backTo pos (starEach es X.env)).any (·.1) = false := by rfl) : PE X (.Call (.Name "max" p) (e :: es) [] pos) (tCB (uCb X.K mxD) t) :=
  pe_callB (u_mx hc) hg B.max boot_fns.2.2.2.2.2.1 ha (by decide) (by decide) he hpl
theorem pmxd {X : Cx} {p pos : Pos} {e : Expr} {es : List Expr} {kws : List Keyword} {t tk : TA} (B : Bf X.mg) (hc : X.calm = true) (hu : X.A.units + 64 < cLine) (ha : PA X (e :: es) t) (hk : PK X kws tk) (hg : Gl X "max" := by rfl)
    (he : backTo pos (starEach (e :: es) X.env) = (false, eval e X.env) :: backTo pos (starEach es X.env) := by rfl) (hpl : (backTo pos (starEach (e :: es) X.env)).any (·.1) = false := by rfl)
    (hall : (backToKw pos (keywordEach kws X.env)).all (·.1.isSome) = true := by rfl) (hnone : (backToKw pos (keywordEach kws X.env)).any (·.1.isNone) = false := by rfl) (hks : (backToKw pos (keywordEach kws X.env)).filterMap (·.1) = [Str.ofString "default"] := by rfl) :
    PE X (.Call (.Name "max" p) (e :: es) kws pos) (tCKw (uCk X.K mxdD) t tk) :=
  pe_callBK (u_mxd hc hu) hg B.max boot_fns.2.2.2.2.2.1 ha hk (by decide) (by decide) he hpl hall hnone hks

/-! ### sep.join(list of texts) -/
def strsOf : List D → Option (List Str)
  | [] => some []
  | .str b :: r => (strsOf r).map (b :: ·)
  | _ => none
theorem strsOf_v {K : PySem.W.Frag} {O : Addr → Prop} {H : Hp} : ∀ {vs : List V} {ds : List D} {bs : List Str}, Dens K O H vs ds → strsOf ds = some bs → vs = bs.map V.str
  | _, _, bs, .nil, e => by cases e; rfl
  | _, _, bs, .cons (d := d) (ds := ds) h s, e => by
    cases d <;> simp only [strsOf] at e <;> first | cases e | skip
    cases q : strsOf ds with
    | none => rw [q] at e; cases e
    | some bs' => rw [q] at e; cases e; cases h; rw [strsOf_v s q]; rfl
/-- a text's method with one argument -/
def TxS (r : V → List V → Hp → VK → Prop) (K : PySem.W.Frag) (g : Str → D → Option D) : Prop := ∀ (H0 : Hp) (O : Addr → Prop) (H : Hp) (x : Str) (y : V) (dy z : D) (Q : VK), (∀ a, O a → H a ≠ none) → DenC K H0 O H y dy → g x dy = some z →
  (∀ v H', Grow H H' → Den K O H' v z → Q v H') → r (.str x) [y] H Q
def liftT (g : Str → D → Option D) (x : D) (y : D) : M D := match x with
  | .str t => (match g t y with
    | some z => .ret z
    | none => .stuck)
  | _ => .stuck
def isStr : D → M D
  | .str t => .ret (.str t)
  | _ => .stuck
def cM1 (g : Str → D → Option D) (o a : CE) : CE := fun ρ => (o ρ).bind fun x => (isStr x).bind fun x => (a ρ).bind fun y => liftT g x y
theorem sim_m1 {f : Cf} {r : V → List V → Hp → VK → Prop} {g : Str → D → Option D} {to te : TE} {o a : CE} (hr : TxS r f.K g) (ho : SimC f to o) (ha : SimC f te a) : SimE f (tM1 r to te) (cM1 g o a) := fun P O σ H ρ Q rl w => by
  refine ho P O σ H ρ _ rl (M.wp_mono (M.wp_bind.mp w) (fun dx w1 x H1 g1 x1 => ?_) fun _ z => z)
  cases dx <;> first | exact w1.elim | skip
  rename_i t
  have ex := x1.str
  subst ex
  refine ⟨⟨t, rfl⟩, ?_⟩
  refine ha P O σ H1 ρ _ (rl.growTo g1) (M.wp_mono (M.wp_bind.mp w1) (fun dy w2 y H2 g2 y2 => ?_) fun _ z => z)
  replace w2 : (match g t dy with
    | some z => M.ret z
    | none => M.stuck).wp _ _ := w2
  split at w2
  · rename_i z e
    exact hr f.H0 O H2 t y dy z Q ((rl.growTo g1).growTo g2).dom y2 e fun v H' g3 v3 => w2 v H' ((g1.trans g2).trans g3.gr) v3
  · exact w2.elim
def joinD (a : Str) : D → Option D
  | .lst xs => (strsOf xs).bind fun ys => if (ys.map (·.length)).sum + ys.length * a.length ≤ LIM then some (.str (Txt.join a ys)) else none
  | _ => none
theorem txs_join {K : PySem.W.Frag} : TxS (fun x xs H Q => ∃ a p, ∃ ys : List Str, x = .str a ∧ xs = [.ref p] ∧ (SqL K H p (ys.map V.str) ∨ SqT K H p (ys.map V.str)) ∧ (ys.map (·.length)).sum + ys.length * a.length ≤ 16777216 ∧ Q (.str (Txt.join a ys)) H) K joinD := by
  intro H0 O H x y dy z Q hd hy e q
  cases dy with
  | lst xs =>
    replace e : ((strsOf xs).bind fun ys => if (ys.map (·.length)).sum + ys.length * x.length ≤ LIM then some (.str (Txt.join x ys)) else none) = some z := e
    cases hs : strsOf xs with
    | none => rw [hs] at e; cases e
    | some ys =>
      rw [hs] at e
      replace e : (if (ys.map (·.length)).sum + ys.length * x.length ≤ LIM then some (D.str (Txt.join x ys)) else none) = some z := e
      split at e
      · rename_i hl
        cases e
        obtain ⟨a, vs, ev, ha, sa⟩ := hy.lst
        subst ev
        have e2 := strsOf_v sa hs
        subst e2
        exact ⟨x, a, ys, rfl, rfl, .inl (SqL.of ha), Nat.le_trans hl (by decide), q _ _ (Grow.refl _) (.str _)⟩
      · cases e
  | _ => cases e
/-! ### f-strings -/
def fmtD : D → Option D
  | .str y => if y.length ≤ LIM then some (.str y) else none
  | .int i => if i.natAbs.log2 < 1920 then some (.str (toString i)) else none
  | _ => none
theorem sim_fmt {f : Cf} {te : TE} {a : CE} (ha : SimC f te a) : SimE f (tFmt te) (cUn fmtD a) := fun P O σ H ρ Q rl w => by
  refine ha P O σ H ρ _ rl (M.wp_mono (M.wp_bind.mp w) (fun dx w1 x H1 g1 x1 => ?_) fun _ z => z)
  unfold lift1 at w1
  cases dx with
  | str y =>
    have ex := x1.str
    subst ex
    replace w1 : (match (if y.length ≤ LIM then some (D.str y) else none) with
      | some z => M.ret z
      | none => M.stuck).wp _ _ := w1
    split at w1
    · rename_i z e
      split at e
      · rename_i hl
        cases e
        exact .inl ⟨y, rfl, lim_line hl, w1 _ H1 g1 (.str _)⟩
      · cases e
    · exact w1.elim
  | int i =>
    have ex := x1.int
    subst ex
    replace w1 : (match (if i.natAbs.log2 < 1920 then some (D.str (toString i)) else none) with
      | some z => M.ret z
      | none => M.stuck).wp _ _ := w1
    split at w1
    · rename_i z e
      split at e
      · rename_i hl
        cases e
        exact .inr ⟨i, rfl, hl, w1 _ H1 g1 (.str _)⟩
      · cases e
    · exact w1.elim
  | _ => exact w1.elim
abbrev CJ := Str → Rho → M Str
def cJnil : CJ := fun acc _ => .ret acc
def cJcons (a : CE) (r : CJ) : CJ := fun acc ρ => (a ρ).bind fun d => match d with
  | .str y => if (acc ++ y).length ≤ LIM then r (acc ++ y) ρ else .stuck
  | _ => .stuck
def SimJ (f : Cf) (ts : List TE) (c : CJ) : Prop := ∀ (P : List Pin) (O : Addr → Prop) (σ : L2.St) (H : Hp) (ρ : Rho) (acc : Str) (Q : Str → Hp → Prop), f.Rel P O σ H ρ →
  (c acc ρ).wp (fun y => ∀ H', Gr f.z O H H' → Q y H') (XP f) → tJs ts acc σ H Q
theorem simJ_nil {f : Cf} : SimJ f [] cJnil := fun P O σ H ρ acc Q rl w => w H (Gr.refl _ _ _)
theorem simJ_cons {f : Cf} {t : TE} {ts : List TE} {a : CE} {r : CJ} (ha : SimC f t a) (hr : SimJ f ts r) : SimJ f (t :: ts) (cJcons a r) := fun P O σ H ρ acc Q rl w => by
  refine ha P O σ H ρ _ rl (M.wp_mono (M.wp_bind.mp w) (fun d w1 x H1 g1 x1 => ?_) fun _ z => z)
  cases d with
  | str y =>
    have ex := x1.str
    subst ex
    replace w1 : (if (acc ++ y).length ≤ LIM then r (acc ++ y) ρ else M.stuck).wp _ _ := w1
    split at w1
    · rename_i hl
      exact ⟨y, rfl, lim_line hl, hr P O σ H1 ρ (acc ++ y) Q (rl.growTo g1) (M.wp_mono w1 (fun z h H' g2 => h H' (g1.trans g2)) fun _ z => z)⟩
    · exact w1.elim
  | _ => exact w1.elim
def cJoined (c : CJ) : CE := fun ρ => (c Str.empty ρ).bind fun y => .ret (.str y)
theorem sim_joined {f : Cf} {ts : List TE} {c : CJ} (h : SimJ f ts c) : SimE f (fun σ H Q => tJs ts Str.empty σ H fun out H1 => Q (.str out) H1) (cJoined c) := fun P O σ H ρ Q rl w =>
  h P O σ H ρ Str.empty _ rl (M.wp_mono (M.wp_bind.mp w) (fun y h H' g => h _ H' g (.str y)) fun _ z => z)
theorem lookup_mem {cs : List (Str × Bool)} {c : Str} {b : Bool} (h : cs.lookup c = some b) : (c, b) ∈ cs := by
  induction cs with
  | nil => cases h
  | cons p r ih =>
    rw [List.lookup_cons] at h
    cases q : (c == p.1) with
    | true =>
      rw [q] at h
      cases h
      have : c = p.1 := eq_of_beq q
      rw [this]; exact List.mem_cons_self
    | false => rw [q] at h; exact List.mem_cons_of_mem _ (ih h)
end Py

/-! RE: exceptions as data: isinstance, fields; list.count, list.index of plain items. -/
namespace Py
open PySem PySem.Spec PyProof.Rows L2
variable [Wd]

/-! ### list.count, list.index -/
def flV : D → Option V
  | .non => some .non
  | .bl b => some (.bl b)
  | .int i => some (.int i)
  | .str x => some (.str x)
  | _ => none
def flVs : List D → Option (List V)
  | [] => some []
  | d :: r => (flV d).bind fun v => (flVs r).map (v :: ·)
theorem flV_den {K : PySem.W.Frag} {O : Addr → Prop} {H : Hp} {v x : V} {d : D} (h : Den K O H v d) (e : flV d = some x) : v = x := by
  cases d <;> simp only [flV] at e <;> first | (cases e; cases h; rfl) | cases e
theorem flV_flat {x : V} {d : D} (e : flV d = some x) : flatV x = true := by
  cases d <;> simp only [flV] at e <;> first | (cases e; rfl) | cases e
theorem flVs_den {K : PySem.W.Frag} {O : Addr → Prop} {H : Hp} : ∀ {vs xs : List V} {ds : List D}, Dens K O H vs ds → flVs ds = some xs → vs = xs
  | _, _, _, .nil, e => by cases e; rfl
  | _, _, _, .cons (d := d) (ds := ds) h s, e => by
    simp only [flVs] at e
    cases q : flV d with
    | none => rw [q] at e; cases e
    | some x =>
      rw [q] at e
      cases q2 : flVs ds with
      | none => rw [q2] at e; cases e
      | some y => rw [q2] at e; cases e; rw [flV_den h q, flVs_den s q2]
theorem flVs_flat : ∀ {xs : List V} {ds : List D}, flVs ds = some xs → xs.all flatV = true
  | _, [], e => by cases e; rfl
  | _, d :: ds, e => by
    simp only [flVs] at e
    cases q : flV d with
    | none => rw [q] at e; cases e
    | some x =>
      rw [q] at e
      cases q2 : flVs ds with
      | none => rw [q2] at e; cases e
      | some y => rw [q2] at e; cases e; rw [List.all_cons, flV_flat q, flVs_flat q2]; rfl
def indexD (ds : List D) (y : D) : Option D := (flVs ds).bind fun xs => (flV y).bind fun z => if xs.findIdx (eqV · z) < xs.length then some (.int (xs.findIdx (eqV · z) : Nat)) else none
def countD (ds : List D) (y : D) : Option D := (flVs ds).bind fun xs => (flV y).bind fun z => some (.int (xs.countP (eqV · z) : Nat))
/-- a list's method with one argument -/
def cL1 (g : List D → D → Option D) (o a : CE) : CE := fun ρ => (o ρ).bind fun x => match x with
  | .lst ds => (a ρ).bind fun y => match g ds y with
    | some z => .ret z
    | none => .stuck
  | _ => .stuck
def LsS (r : V → List V → Hp → VK → Prop) (K : PySem.W.Frag) (g : List D → D → Option D) : Prop := ∀ (H0 : Hp) (O : Addr → Prop) (H : Hp) (p : Addr) (vs : List V) (ds : List D) (y : V) (dy z : D) (Q : VK), H p = some (.lst vs) → Dens K O H vs ds → DenC K H0 O H y dy → g ds dy = some z →
  (∀ v H', Grow H H' → Den K O H' v z → Q v H') → r (.ref p) [y] H Q
theorem sim_l1 {f : Cf} {r : V → List V → Hp → VK → Prop} {g : List D → D → Option D} {to te : TE} {o a : CE} (hr : LsS r f.K g) (ho : SimC f to o) (ha : SimC f te a) : SimE f (tBM f.K "list" r to (tCons te tNil)) (cL1 g o a) := fun P O σ H ρ Q rl w => by
  refine ho P O σ H ρ _ rl (M.wp_mono (M.wp_bind.mp w) (fun dx w1 x H1 g1 x1 => ?_) fun _ z => z)
  cases dx <;> first | exact w1.elim | skip
  rename_i ds
  obtain ⟨p, vs, ex, hp, sp⟩ := x1.lst
  subst ex
  refine ⟨.inl ⟨rfl, vs, SqL.of hp⟩, ?_⟩
  refine ha P O σ H1 ρ _ (rl.growTo g1) (M.wp_mono (M.wp_bind.mp w1) (fun dy w2 y H2 g2 y2 => ?_) fun _ z => z)
  obtain ⟨p2, vs2, ex2, hp2, sp2⟩ := (x1.grow g2).lst
  cases ex2
  replace w2 : (match g ds dy with
    | some z => M.ret z
    | none => M.stuck).wp _ _ := w2
  split at w2
  · rename_i z e
    exact hr f.H0 O H2 p vs2 ds y dy z Q hp2 sp2 y2 e fun v H' g3 v3 => w2 v H' ((g1.trans g2).trans g3.gr) v3
  · exact w2.elim
theorem ls_index {K : PySem.W.Frag} : LsS (rIndex K) K indexD := fun H0 O H p vs ds y dy z Q hp s hy e k => by
  unfold indexD at e
  cases q : flVs ds with
  | none => rw [q] at e; cases e
  | some xs =>
  rw [q] at e
  cases q2 : flV dy with
  | none => rw [q2] at e; cases e
  | some u =>
  rw [q2] at e
  replace e : (if xs.findIdx (eqV · u) < xs.length then some (D.int (xs.findIdx (eqV · u) : Nat)) else none) = some z := e
  split at e
  · rename_i hl
    cases e
    have ev := flVs_den s q
    subst ev
    have ey : y = u := flV_den hy.bare q2
    subst ey
    refine ⟨p, vs, y, vs.findIdx (eqV · y), vs[vs.findIdx (eqV · y)], rfl, rfl, SqL.of hp, flV_flat q2, flVs_flat q, List.getElem?_eq_getElem hl, List.findIdx_getElem (w := hl), fun m z' hm hz => ?_, k _ _ (Grow.refl _) (.int _)⟩
    have := List.not_of_lt_findIdx hm
    obtain ⟨hm', he⟩ := List.getElem?_eq_some_iff.mp hz
    rw [he] at this
    simpa using this
  · cases e
def rCount (K : PySem.W.Frag) : V → List V → Hp → VK → Prop := fun x xs H Q => ∃ (p : Addr) (ys : List V) (y : V), x = .ref p ∧ xs = [y] ∧ SqL K H p ys ∧ flatV y = true ∧ ys.all flatV = true ∧ Q (.int (ys.countP (eqV · y) : Nat)) H
theorem countP_eqU {y : V} : ∀ {ys : List V} {us : List Value}, Vals ys us → ys.all flatV = true → us.countP (eqU y) = ys.countP (eqV · y)
  | _, _, .nil, _ => rfl
  | z :: ys, u :: us, .cons r t, f => by
    rw [List.all_cons, Bool.and_eq_true] at f
    rw [List.countP_cons, List.countP_cons, countP_eqU t f.2, eqU_of r f.1]
theorem mt_count {X : Cx} : MtR X "list.count" (rCount X.K) := by
  intro pins s σ H x xs v us Q I rx rxs h
  obtain ⟨p, ys, y, e1, e2, hs, fy, fys, q⟩ := h
  subst e1 e2
  cases rx
  obtain ⟨uy, e3, ry⟩ := rxs.one
  subst e3
  obtain ⟨its, rv, ⟨⟨cls, dd, data, sl⟩, n, ho, hc, hdn, hd⟩, hlen⟩ := I.list hs
  simp only at hc hd
  subst hc hd
  refine call_meets PySem.F.slot_list_count ⟨_, ho, rfl⟩ PySem.F.entry_list_count (PySem.F.args_list_count_2 _ _)
    (SeqAt.list_countAt p its.toArray n dd sl uy (eqU y)) ⟨ho, fun u' hu' => mem_eqAt ry fy rv fys u' (by simpa using hu'), ?_⟩
  refine ⟨.int (ys.countP (eqV · y) : Nat), H, I.tok _, ⟨s.toks, ?_⟩, q⟩
  rw [show its.toArray.toList = its from rfl, countP_eqU rv fys]
theorem ls_count {K : PySem.W.Frag} : LsS (rCount K) K countD := fun H0 O H p vs ds y dy z Q hp s hy e k => by
  unfold countD at e
  cases q : flVs ds with
  | none => rw [q] at e; cases e
  | some xs =>
  rw [q] at e
  cases q2 : flV dy with
  | none => rw [q2] at e; cases e
  | some u =>
  rw [q2] at e
  cases e
  have ev := flVs_den s q
  subst ev
  have ey : y = u := flV_den hy.bare q2
  subst ey
  exact ⟨p, vs, y, rfl, rfl, SqL.of hp, flV_flat q2, flVs_flat q, k _ _ (Grow.refl _) (.int _)⟩
section
variable {X : Cx} {o e : Expr} {to te : TE} {apos cpos : Pos}
theorem pindex (ho : PE X o to) (he : PE X e te)
    (hbase : attributeBase o "index" X.env (eval o X.env) = eval o X.env := by rfl)
    (hfew : ((backTo cpos (starEach [e] X.env)).all (fun x => !x.1) && (backToKw cpos (keywordEach [] X.env)).all (fun x => x.1.isSome)
      && decide ([e].length + ([] : List Keyword).length + (if ([] : List Keyword).isEmpty then 0 else 1) < 30)) = true := by rfl)
    (hline : (apos.endLine == cpos.line) = true := by rfl) (hs : starEach [e] X.env = (false, eval e X.env) :: starEach [] X.env := by rfl) (hplain : (backTo cpos (starEach [] X.env)).any (·.1) = false := by rfl) :
    PE X (.Call (.Attribute o "index" apos) [e] [] cpos) (tBM X.K "list" (rIndex X.K) to (tCons te tNil)) :=
  pe_bm PySem.F.plainAttrs_list PySem.F.slot_list_index PySem.F.type_list_index mt_index ho (pa_cons he pa_nil hs) hbase hfew hline hs hplain
theorem pcount (ho : PE X o to) (he : PE X e te)
    (hbase : attributeBase o "count" X.env (eval o X.env) = eval o X.env := by rfl)
    (hfew : ((backTo cpos (starEach [e] X.env)).all (fun x => !x.1) && (backToKw cpos (keywordEach [] X.env)).all (fun x => x.1.isSome)
      && decide ([e].length + ([] : List Keyword).length + (if ([] : List Keyword).isEmpty then 0 else 1) < 30)) = true := by rfl)
    (hline : (apos.endLine == cpos.line) = true := by rfl) (hs : starEach [e] X.env = (false, eval e X.env) :: starEach [] X.env := by rfl) (hplain : (backTo cpos (starEach [] X.env)).any (·.1) = false := by rfl) :
    PE X (.Call (.Attribute o "count" apos) [e] [] cpos) (tBM X.K "list" (rCount X.K) to (tCons te tNil)) :=
  pe_bm PySem.F.plainAttrs_list PySem.F.slot_list_count PySem.F.type_list_count mt_count ho (pa_cons he pa_nil hs) hbase hfew hline hs hplain
end

/-! ### isinstance(e, C), e an exception without fields -/
def rIsX (K : PySem.W.Frag) (tv : Value) : List V → Hp → VK → Prop := fun xs H Q => ∃ (a D : Addr) (φ : Heap → Prop) (c : V) (b : Bool) (d : Option Addr), xs = [.ref a, c] ∧ H a = some (.ext φ) ∧ (∀ h, φ h → XcAt a D d h) ∧ (∀ dx, d = some dx → ∃ fvs o, H dx = some o ∧ XdO dx fvs o) ∧ ExcC K D ∧ (∀ u, RelV c u → u = tv) ∧ PySem.W.kitOne K (.ref D) tv = some b ∧ Q (.bl b) H
theorem call_isX {X : Cx} {tv : Value} : CallR X (.builtin "isinstance") (rIsX X.K tv) := by
  intro pins s σ H xs us Q I r h
  obtain ⟨a, D, φ, c, b, d, exs, ha, hφ, hdx, C, hcv, e, q⟩ := h
  subst exs
  cases r with
  | cons rx rr =>
    cases rr with
    | cons rt rr =>
      cases rr
      cases rx
      have ec := hcv _ rt
      subst ec
      obtain ⟨hh, _, _⟩ := (show ObjOk X.prog X.w H s.heap a (.ext φ) from I.hok a _ ha)
      obtain ⟨oe, vs, hget, hz, hv⟩ := hφ _ hh
      have J : ∃ od, PySem.W.InstAt s.heap a oe D od := by
        obtain ⟨oc, od, oda, osl⟩ := oe
        obtain ⟨h1, h2⟩ := hz
        dsimp only at h1 h2 hv
        subst h1 h2 hv
        cases od with
        | none => exact ⟨none, hget, rfl, rfl, trivial⟩
        | some dx =>
          obtain ⟨fvs, o, h3, h4⟩ := hdx dx rfl
          obtain ⟨ob, eo⟩ : ∃ ob, s.heap.get? dx = some ob := by
            rcases h4 with h4 | ⟨ψ, h4, _⟩
            · subst h4
              obtain ⟨mA, ⟨ob, _, _, eo, _⟩, _⟩ := (show ObjOk X.prog X.w H s.heap dx (.xd fvs) from I.hok dx _ h3)
              exact ⟨ob, eo⟩
            · subst h4
              obtain ⟨_, eo, _⟩ := (show ObjOk X.prog X.w H s.heap dx (.ext ψ) from I.hok dx _ h3)
              exact eo
          exact ⟨some ob, hget, rfl, rfl, eo⟩
      obtain ⟨od, J⟩ := J
      have hcl : (PySem.W.clsIn X.K D).isSome = true := by
        obtain ⟨cd, hc, _⟩ := PySem.W.any_some C.hd
        rw [hc]; rfl
      exact PySem.W.kia_one (PySem.W.kitx_exc hcl C.hg C.hk C.hs C.ha C.hn C.ht C.hm) I.kIn J e (fun z => nomatch z) fun tk => ⟨.bl b, H, I.kept (t' := tk) fun _ _ z => z, rfl, q⟩
/-- the exception classes cs, and whether each is a kind of tv -/
structure XsF (K : PySem.W.Frag) (tv : Value) (cs : List (Str × Bool)) : Prop where
  at_ : ∀ p ∈ cs, PySem.W.kitOne K (.ref (He.ga K p.1)) tv = some p.2 ∧ ExcC K (He.ga K p.1)
def isExcD (cs : List (Str × Bool)) (d : D) : Option D := match d with
  | .exc c _ => (cs.lookup c).map .bl
  | _ => none
theorem DenC.excA {K : PySem.W.Frag} {H0 : Hp} {O : Addr → Prop} {H : Hp} {v : V} {c : Str} {fs : List (Str × D)} (h : DenC K H0 O H v (.exc c fs)) : ∃ a φ d, v = .ref a ∧ H a = some (.ext φ) ∧ (∀ h, φ h → XcAt a (He.ga K c) d h) ∧ ∀ dx, d = some dx → ∃ fvs o, H dx = some o ∧ XdO dx fvs o := by
  have := h.bare
  cases this with
  | exc _ hh p => exact ⟨_, _, none, rfl, hh, p, fun dx z => nomatch z⟩
  | excF _ hh p _ h2 q _ => exact ⟨_, _, some _, rfl, hh, p, fun dx z => by cases z; exact ⟨_, _, h2, q⟩⟩
theorem sim_isExc {f : Cf} {tv : Value} {vt : V} {cs : List (Str × Bool)} {te : TE} {a : CE} (T : XsF f.K tv cs) (ht : ∀ u, RelV vt u → u = tv) (ha : SimC f te a) : SimE f (tCB (rIsX f.K tv) (tCons te (tCons (tC vt) tNil))) (cUn (isExcD cs) a) := fun P O σ H ρ Q rl w => by
  refine ha P O σ H ρ _ rl (M.wp_mono (M.wp_bind.mp w) (fun d w1 v H1 g1 x1 => ?_) fun _ z => z)
  unfold lift1 at w1
  split at w1
  · rename_i z e
    unfold isExcD at e
    split at e
    · rename_i c fs
      cases hl : cs.lookup c with
      | none => rw [hl] at e; cases e
      | some b =>
        rw [hl] at e
        cases e
        obtain ⟨k1, k2⟩ := T.at_ _ (lookup_mem hl)
        obtain ⟨a', φ, d, ev, h, p, hd⟩ := x1.excA
        subst ev
        exact ⟨a', He.ga f.K c, φ, vt, b, d, rfl, h, p, hd, k2, ht, k1, w1 _ H1 g1 (.bl _)⟩
    · cases e
  · exact w1.elim
theorem pisX {X : Cx} {e : Expr} {te : TE} {p p2 pos : Pos} {x : Str} (B : Bf X.mg) (hm : X.mg x = some (.ref (He.ga X.K x))) (he : PE X e te) (hg : Gl X "isinstance" := by rfl) (hg2 : Gl X x := by rfl) (hdb : (x == ("__debug__" : Str)) = false := by decide) (hst : starEach [e, .Name x p2] X.env = (false, eval e X.env) :: starEach [.Name x p2] X.env := by rfl) (hst2 : starEach [.Name x p2] X.env = (false, eval (.Name x p2) X.env) :: starEach [] X.env := by rfl)
    (hpl : (backTo pos (starEach [.Name x p2] X.env)).any (·.1) = false := by rfl) :
    PE X (.Call (.Name "isinstance" p) [e, .Name x p2] [] pos) (tCB (rIsX X.K (.ref (He.ga X.K x))) (tCons te (tCons (tC (.ref (He.ga X.K x))) tNil))) := by
  have hb : PE X (.Name x p2) (tC (.ref (He.ga X.K x))) := pe_glob hg2 hm rfl hdb
  exact pe_callB call_isX hg B.isinstance boot_fns.2.1 (pa_cons he (pa_cons hb pa_nil hst2) hst) (by decide) (by decide) hst hpl
/-- .. of ValueError -/
theorem pisXv {X : Cx} {e : Expr} {te : TE} {p p2 pos : Pos} (B : Bf X.mg) (hv : X.mg "ValueError" = none) (he : PE X e te) (hg : Gl X "isinstance" := by rfl) (hg2 : Gl X "ValueError" := by rfl) (hst : starEach [e, .Name "ValueError" p2] X.env = (false, eval e X.env) :: starEach [.Name "ValueError" p2] X.env := by rfl) (hst2 : starEach [.Name "ValueError" p2] X.env = (false, eval (.Name "ValueError" p2) X.env) :: starEach [] X.env := by rfl)
    (hpl : (backTo pos (starEach [.Name "ValueError" p2] X.env)).any (·.1) = false := by rfl) :
    PE X (.Call (.Name "isinstance" p) [e, .Name "ValueError" p2] [] pos) (tCB (rIsX X.K (.type "ValueError")) (tCons te (tCons (tC (.ty "ValueError")) tNil))) := by
  have hb : PE X (.Name "ValueError" p2) (tC (.ty "ValueError")) := pe_bltn (v := .ty "ValueError") (u := .type "ValueError") hg2 hv (by decide +kernel) rfl
  exact pe_callB call_isX hg B.isinstance boot_fns.2.1 (pa_cons he (pa_cons hb pa_nil hst2) hst) (by decide) (by decide) hst hpl
end Py

/-! RL: try .. except X as e, the exception a value; defs called in such a suite; lambdas handed to a def. -/
namespace Py
open PySem PySem.Spec PyProof.Rows L2

section
variable {X : Cx} {pins : List (Addr × Obj)} {σ : L2.St} {H : Hp} {s : Shared}
/-- an object that stands there, new since the entry, is told from now on -/
theorem Inv_track {a : Addr} {φ : Heap → Prop} {oe : Obj} {vs : Array Value} (J : Inv X pins σ H s) (na : H a = none) (n0 : X.s_0.heap.get? a = none) (nL : a ≠ X.env.locals) (np : ∀ p ∈ X.pn ++ pins, p.1 ≠ a)
    (ha : s.heap.get? a = some oe) (hd : oe.data = .fields vs) (ob : ObjOk X.prog X.w (upd H a (.ext φ)) s.heap a (.ext φ)) : Inv X pins σ (upd H a (.ext φ)) s := by
  have ne : ∀ b u, H b = some u → b ≠ a := fun b u e => ne_of_none e na
  refine ⟨J.ok, J.os, J.bare, ⟨J.base.keep, J.base.slot, fun b o e n x => ?_, J.base.there, fun b xs e => ?_, fun b o u e => ?_, fun b ps e => ?_⟩, J.loc, J.cell, ?_, fun x c e => ?_, fun p hp => ?_, fun b u e => ?_, J.len⟩
  · rw [upd_ne (fun z => by rw [z, n0] at e; cases e)]; exact J.base.free b o e n x
  · have q := J.base.tups b xs e
    rw [upd_ne (ne _ _ q)]; exact q
  · have q := J.base.frzs b o u e
    rw [upd_ne (ne _ _ q)]; exact q
  · obtain ⟨m, q⟩ := J.base.tbls b ps e
    exact ⟨m, by rw [upd_ne (ne _ _ q)]; exact q⟩
  · rw [upd_ne (Ne.symm nL)]; exact J.free
  · have nc : c ≠ a := fun z => by
      obtain ⟨v, o, h1, h2⟩ := J.cell x c e
      rw [z, ha] at h1
      cases h1
      rw [hd] at h2
      cases h2
    rw [upd_ne nc]; exact J.freeC x c e
  · obtain ⟨p1, p2, p3⟩ := J.pin p hp
    exact ⟨p1, by rw [upd_ne (np p hp)]; exact p2, p3⟩
  · by_cases hb : b = a
    · subst hb
      rw [upd_same] at e
      cases e
      exact ob
    · rw [upd_ne hb] at e
      exact (J.hok b u e).stay (fun _ _ _ q => q) (fun c q => by rw [upd_ne (ne _ _ q)]; exact q) fun c xs q => by rw [upd_ne (ne _ _ q)]; exact q
theorem xc_ok {P : Program} {w : World} {h : Heap} {a C : Addr} {d : Option Addr} {H : Hp} (x : XcAt a C d h) : ObjOk P w H h a (.ext (XcAt a C d)) := by
  obtain ⟨o, vs, e, z, dt⟩ := x
  exact ⟨⟨o, vs, e, z, dt⟩, ⟨o, e⟩, fun _ _ ⟨o, vs, e, z, dt⟩ k => ⟨o, vs, k o e, z, dt⟩⟩
theorem Inv_hot {a : Addr} (J : Inv X pins σ H s) : Inv (X.suite a X.pn) pins σ H s := ⟨J.ok.suite _ _, J.os, J.bare, J.base, J.loc, J.cell, J.free, J.freeC, J.pin, J.hok, J.len⟩
theorem Inv_cool {a : Addr} (J : Inv (X.suite a X.pn) pins σ H s) (ok : X.Ok) : Inv X pins σ H s := ⟨ok, J.os, J.bare, J.base, J.loc, J.cell, J.free, J.freeC, J.pin, J.hok, J.len⟩
end

/-- what the clause 'except x as n' wishes of an exception of the body: it is caught, and a value from then on -/
def wVal (K : PySem.W.Frag) (c : Value) (i : Nat) (ts : TS) (D : Ends) : WX := fun cls d σ H =>
  PySem.W.exmOne K cls c = some true ∧ ∃ C, cls = .ref C ∧ ∀ a, H a = none →
    ts { nx := fun σ' H' => D.nx (σ'.set i none) H', rt := D.rt, bk := fun σ' H' => D.bk (σ'.set i none) H', ct := fun σ' H' => D.ct (σ'.set i none) H' } (σ.set i (some (.ref a))) (upd H a (.ext (XcAt a C d)))
section
variable {X : Cx} {x n : Str} {c : Value} {i : Nat} {body suite : List Stmt} {b₀ : Stmt} {np pos pos' : Pos} {tb : WX → TS} {ts : TS}
theorem ps_try_val (hex : X.ex = []) (hs : X.stack = X.env :: X.outer) (hf : X.env.frame = some X.env.locals) (hN : X.N.Nodup) (hi : X.N[i]? = some n) (hln : X.env.kindOf n = some .local) (hc : Names X x c)
    (hb : ∀ (W : WX) (pn : List (Addr × Obj)) (xe : Value → Shared → Prop), Takes (X.tr pn xe) W → PassesOwn (model X.prog X.w) X.A X.env xe → PSs (X.tr pn xe) body (tb W))
    (hsu : ∀ a : Addr, PSs (X.suite a X.pn) (b₀ :: suite) ts) :
    PS X (.Try body [.ExceptHandler (some (.Name x np)) (some n) (b₀ :: suite) pos'] [] [] pos) (fun D σ H => tb (wVal X.K c i ts D) D σ H) := by
  constructor
  intro pins s σ H D I h
  have ok := I.ok
  have hfr : X.A.frames = some (X.env :: X.outer) := by rw [ok.frames, hs]
  have hloc : Loc X.env.scope n := .inl hln
  refine wpAny_Try_except ?_
  refine wpAny_mono ((hb (wVal X.K c i ts D) (X.pn ++ pins) (fun e s₁ => wpAny (model X.prog X.w) X.A (noteFrame e X.env) (fun _ s₂ => wpAny (model X.prog X.w) X.A (setFlight e none) (fun _ s₃ =>
    wpAny (model X.prog X.w) X.A (handleBy e X.env [.ExceptHandler (some (.Name x np)) (some n) (b₀ :: suite) pos']) (SP X pins D) X.xe s₃) X.xe s₂) X.xe s₁) (fun u s' xx => ?_) PassesOwn.looking).run [] s σ H D (I.toTry _) h) (fun f s1 hsp => ?_) (fun e s1 he => he)
  · obtain ⟨a, B, sI, pins', σ', H', cls, d, eu, J', nb, up, sky, na, os, ag, hb1, C, eC, hyes⟩ := xx
    subst eu eC
    have J : Inv X pins σ' H' sI := J'.ofTry ok
    have sky' : Sky B (X.env :: X.outer) a (Zc (.ref C) d) X.env.locals s'.heap := by rw [← hs]; exact sky
    show wpAny (model X.prog X.w) X.A (noteFrame (.ref a) X.env) _ _ _
    refine Sky.land Zc.steady hfr hf sky' fun h3 fl3 up3 => ?_
    have J3 : Inv X pins σ' H' { s' with heap := h3 } := J.landed nb fl3.1 (up.trans up3) os ag
    obtain ⟨oe3, vs3, he3, hz3, hd3⟩ := fl3.there
    have nfr : a ∉ frs (X.env :: X.outer) := fun hm => by
      obtain ⟨_, o', e', hnf⟩ := fl3.2.2.1.mem hm
      rw [he3] at e'
      cases e'
      exact hnf _ hd3
    have nL : a ≠ X.env.locals := fun z => nfr (List.mem_filterMap.mpr ⟨X.env, List.mem_cons_self, by rw [hf, z]⟩)
    have nB : B.get? a = none := fl3.2.1
    have nI : sI.heap.get? a = none := by
      cases q : sI.heap.get? a with
      | none => rfl
      | some o =>
        have z := nb a o q (by rw [show frs (X.tr (X.pn ++ pins) _).stack = frs (X.env :: X.outer) from by show frs X.stack = _; rw [hs]]; exact nfr)
        rw [nB] at z
        cases z
    have n0 : X.s_0.heap.get? a = none := by
      cases q : X.s_0.heap.get? a with
      | none => rfl
      | some o =>
        obtain ⟨o', z⟩ := J.base.there a o q (by rw [hex]; intro z; cases z)
        rw [nI] at z
        cases z
    have npn : ∀ p ∈ X.pn ++ pins, p.1 ≠ a := fun p hp z => by
      have q := (J.pin p hp).1
      rw [z, nI] at q
      cases q
    have S3 : Inv (X.suite a X.pn) pins σ' H' { s' with heap := h3 } := Inv_hot J3
    refine wpAny_handleBy_cons (codeAny_handlers_test ?_) (by intro q; cases q)
    have LT : PySem.W.Looks (model X.prog X.w) h3 (typeOf (.ref a)) (.ref C) := fun A Q E s k q => wpAny_typeOf_ref (k _ _ he3) (by rw [hz3.1]; exact q)
    have LM := PySem.W.exm_one (M := model X.prog X.w) (J3.kIn) LT hb1
    have test : ∀ {Q : Value → Shared → Prop} {E : Value → Shared → Prop}, Q c { s' with heap := h3 } → wpAny (model X.prog X.w) (X.A.mark (some (.ref a))) (eval (.Name x np) X.env) Q E { s' with heap := h3 } := fun {Q E} q => by
      obtain ⟨hg, hdbg, hm | ⟨hm, hv, hnn⟩⟩ := hc
      · exact ld_glob (X := X.suite a X.pn) S3 hg hm q hdbg
      · exact ld_blt (X := X.suite a X.pn) S3 hg hm hv q hnn hdbg
    refine test (LM.here ?_)
    refine codeAny_handlers_suite_as ?_
    refine HandSPX.lands_againZ fl3 fun h4 fl4 up4 => ?_
    have J4 : Inv X pins σ' H' { s' with heap := h4 } := J.landed nb fl4.1 ((up.trans up3).trans up4) os ag
    obtain ⟨oe4, vs4, he4, hz4, hd4⟩ := fl4.there
    have T4 : Inv X pins σ' (upd H' a (.ext (XcAt a C d))) { s' with heap := h4 } := Inv_track J4 na n0 nL npn he4 hd4 (xc_ok ⟨oe4, vs4, he4, hz4, hd4⟩)
    refine store_ok (X := X.suite a X.pn) (v := .ref a) (Inv_hot T4) hN hi hloc rfl (fun s5 S5 => ?_) (.inr hln)
    refine wpAny_mono ((hsu a).run pins s5 _ _ _ S5 (hyes a na)) (fun f s6 hsp => ?_) (fun _ _ z => False.elim z)
    have end_ : ∀ {σ6 : L2.St} {H6 : Hp} {Q : Shared → Prop}, Inv (X.suite a X.pn) pins σ6 H6 s6 → (∀ s7, Inv X pins (σ6.set i none) H6 s7 → Q s7) →
        wpAny (model X.prog X.w) X.A (do bindName X.env n .none; unbindBehindTheSuite X.env n pos') (fun _ s7 => Q s7) X.xe s6 := fun {σ6 H6 Q} S6 hq => gone_ok (Inv_cool S6 ok) hN hi hln hq
    cases f with
    | next =>
      obtain ⟨σ6, H6, S6, q6⟩ := hsp
      exact end_ S6 fun s7 J7 => ⟨_, _, J7, q6⟩
    | brk =>
      obtain ⟨σ6, H6, S6, q6⟩ := hsp
      exact end_ S6 fun s7 J7 => ⟨_, _, J7, q6⟩
    | cont =>
      obtain ⟨σ6, H6, S6, q6⟩ := hsp
      exact end_ S6 fun s7 J7 => ⟨_, _, J7, q6⟩
    | ret u =>
      obtain ⟨v6, σ6, H6, S6, r6, q6⟩ := hsp
      exact end_ S6 fun s7 J7 => ⟨_, _, _, J7, r6, q6⟩
  · cases f with
    | next =>
      obtain ⟨σ', H', J', q⟩ := hsp
      exact wpAny_execs_nil ⟨σ', H', J'.ofTry ok, q⟩
    | brk =>
      obtain ⟨σ', H', J', q⟩ := hsp
      exact ⟨σ', H', J'.ofTry ok, q⟩
    | cont =>
      obtain ⟨σ', H', J', q⟩ := hsp
      exact ⟨σ', H', J'.ofTry ok, q⟩
    | ret u =>
      obtain ⟨v, σ', H', J', r, q⟩ := hsp
      exact ⟨v, σ', H', J'.ofTry ok, r, q⟩
end
end Py

/-! RL2: defs that may be called in an except suite, too (FnW). -/
namespace Py
open PySem PySem.Spec PyProof.Rows L2

structure RoomW (n : Nat) (B : Around) : Prop where
  dp : B.depth + 3 * n + 5 < recursionLimit
  un : B.units + 16 * n + 200 < cLine
  bare : B.guards = some []
theorem RoomG.w {n : Nat} {B : Around} (q : RoomG n B) : RoomW n B := ⟨q.room.dp, q.room.un, q.bare⟩
theorem RoomW.less {m n : Nat} {B : Around} (q : RoomW n B) (le : m ≤ n) : RoomW m B := ⟨by have := q.dp; omega, by have := q.un; omega, q.bare⟩
theorem RoomW.inner {n : Nat} {B : Around} (q : RoomW (n + 1) B) (en : Env) : RoomW n (B.deeper en) :=
  ⟨by have := q.dp; show B.depth + 1 + 3 * n + 5 < _; omega, by have := q.un; show B.units + 3 + 16 * n + 200 < _; omega, q.bare⟩
theorem RoomW.depth {n : Nat} {B : Around} (q : RoomW n B) : B.depth < recursionLimit := by have := q.dp; omega
structure FnW (P : Program) (w : World) (K : PySem.W.Frag) (mg : Str → Option Value) (base : Heap) (XT : CXT) (n : Nat) (at_ : Addr) (fd : FuncData) (ps : List Str) (pr : Sp) : Prop where
  len : ∀ vs H Q E, pr vs H Q E → vs.length = ps.length
  run : ∀ (B : Around) (out : List Env) (st : Shared) (H : Hp) (ag : Args) (us : List Value) (vs : List V) (Q : VK) (E : XK), RoomW n B → Env0 P w K mg base B out st H →
    BindsTo st fd ag (ps.zip us) → Vals vs us → pr vs H Q E → codeAny (model P w) B (.call (.ref at_) ag) (CR XT out P w H st Q E) st
/-- the context of such a def's body -/
abbrev cxW (XT : CXT) (P : Program) (w : World) (K : PySem.W.Frag) (mg : Str → Option Value) (base : Heap) (N : List Str) (qual : Str) (scope : Scope) (f : Addr) (cd : Value) (A : Around) (outer : List Env) (s : Shared) (H : Hp) (E : XK) : Cx :=
  { cxOf XT P w K mg base N qual scope f cd A outer s H E with calm := false }
section
variable {P : Program} {w : World} {K : PySem.W.Frag} {mg : Str → Option Value} {base : Heap} {XT : CXT}
theorem FnW.g {n : Nat} {at_ : Addr} {fd : FuncData} {ps : List Str} {pr : Sp} (G : FnW P w K mg base XT n at_ fd ps pr) : FnG P w K mg base XT n at_ fd ps pr :=
  ⟨G.len, fun B out st H ag us vs Q E q => G.run B out st H ag us vs Q E q.w⟩
theorem FnW.of_body {n : Nat} {at_ : Addr} {nm qn : Str} {par : Arguments} {body : List Stmt} {sc : Scope} {dvs : List V} {kws : List (Str × V)} {fd : FuncData} {N ps : List Str} {pr : Sp}
    (F : FunD K nm qn par body sc dvs kws at_ fd) (S : FnScope N ps sc) (len : ∀ vs H Q E, pr vs H Q E → vs.length = ps.length)
    (go : ∀ (cv : Value) (B : Around) (out : List Env) (st : Shared) (H : Hp) (vs : List V) (Q : VK) (E : XK), RoomW n (B.deeper (envOfC qn sc st.heap.objs.size at_ cv)) → pr vs H Q E →
      ∃ t, PSs (cxW XT P w K mg base N qn sc at_ cv B out st H E) body t ∧ t { nx := fun _ H' => Q .non H', rt := Q } (L2.start N vs) H) :
    FnW P w K mg base XT (n + 1) at_ fd ps pr := by
  obtain ⟨_, _, dV, kV, doc, pm, an, cv, ct, _, efd, look, code, _, _⟩ := F.ex
  subst efd
  refine ⟨len, ?_⟩
  intro B out st H ag us vs Q E q env bnd vals z
  have inK : K.In st.heap := env.mod.kin.keeps fun c o e => (env.bs c o e).1
  have free : st.heap.NoLimit := env.mod.nolimit.keeps fun c o e => (env.bs c o e).1
  have kinds : ∀ y ∈ ps.zip us, sc.names.lookup y.1 = some .local ∨ (sc.names.lookup y.1 = some .cell ∧ ((cellsFrom (st.heap.objs.size + 1) sc.names []).lookup y.1).isSome = true) := by
    rintro ⟨y, u⟩ hy
    have := S.par y (List.of_mem_zip hy).1
    exact this.imp id fun c => ⟨c, PySem.W.cellsFrom_some _ _ _ (Or.inl c)⟩
  refine codeAny_call_function q.depth (inK _ _ look) rfl S.co S.gen rfl (PySem.W.codeRec_of inK code) (bnd _ _ _ _ ?_)
  refine wpAny_newFunctionEnv_cells S.kind kinds fun en en_eq st1 x => ?_
  subst en_eq
  refine ⟨free.keeps x.toInCall.keep, codeAny_func ?_⟩
  obtain ⟨t, pt, tz⟩ := go cv B out st H vs Q E (q.inner _) z
  have env' : Env0 P w K mg base { B with handled := none } out st H := { env with frames := env.frames }
  have J1 : Inv (cxOf XT P w K mg base N qn sc at_ cv { B with handled := none } out st H E) [] (L2.start N vs) H st1 := inv_start S rfl env' (len _ _ _ _ z) vals x
  have J0 : Inv (cxW XT P w K mg base N qn sc at_ cv B out st H E) [] (L2.start N vs) H st1 :=
    ⟨⟨J1.ok.mod, J1.ok.kind, J1.ok.glob, J1.ok.blt, J1.ok.above, J1.ok.inj, J1.ok.has, J1.ok.cab, (fun c => Bool.noConfusion (show false = true from c)), J1.ok.frames, J1.ok.stk, J1.ok.exf, J1.ok.bs, J1.ok.bsz, J1.ok.noex, J1.ok.exfs, J1.ok.funs, J1.ok.frf⟩,
      J1.os, J1.bare, J1.base, J1.loc, J1.cell, J1.free, J1.freeC, J1.pin, J1.hok, J1.len⟩
  refine wpAny_mono (pt.run [] st1 (L2.start N vs) H _ J0 tz) ?_ fun _ _ u => u
  intro fl st2 done
  cases fl with
  | next => obtain ⟨_, H', J, u⟩ := done; exact ⟨V.non, H', J.os, J.bare, J.base, J.hok, rfl, u⟩
  | ret r => obtain ⟨v, _, H', J, rv, u⟩ := done; exact ⟨v, H', J.os, J.bare, J.base, J.hok, rv, u⟩
  | brk => obtain ⟨_, _, _, u⟩ := done; exact u.elim
  | cont => obtain ⟨_, _, _, u⟩ := done; exact u.elim
end
section
variable {X : Cx} {XT : CXT} {n : Nat} {at_ : Addr} {fd : FuncData} {ps : List Str} {pr : Sp} {E : XK} {x : Str} {p pos : Pos} {e : Expr} {es : List Expr} {t : TA}
theorem FnW.goes {pins : List (Addr × Obj)} {σ : L2.St} {H : Hp} {st : Shared} {Q : VK} {us : List Value} {vs : List V} (G : FnW X.prog X.w X.K X.mg X.base XT n at_ fd ps pr) (q : RoomW n X.A) (bn : Binds X.K fd ps []) (pass : Passes XT X E)
    (J : Inv X pins σ H st) (rel : Vals vs us) (z : pr vs H Q E) : wpAny (model X.prog X.w) X.A (call (.ref at_) us) (EP X pins σ Q) X.xe st := by
  have hl : (us ++ []).length = ps.length := by rw [List.append_nil, ← rel.length]; exact G.len _ _ _ _ z
  have b := bn st us J.kIn hl
  rw [List.append_nil] at b
  refine wpAny_call (codeAny_mono (G.run X.A X.stack st H ⟨us, []⟩ us vs Q E q J.env0 b rel z) ?_)
  intro r st' c
  match r, c with
  | .error er, c => exact pass pins σ H st er st' J c
  | .ok (.ret u), c => exact J.after c
  | .ok .next, c => exact c.elim
  | .ok .brk, c => exact c.elim
  | .ok .cont, c => exact c.elim
end
variable [Wd]
structure CallW (P : Program) (w : World) (K : PySem.W.Frag) (mg : Str → Option Value) (base : Heap) (k : Nat) (x : Str) (z : Bool) (n : Nat) (F : List D → M D) : Prop where
  ex : ∃ (f : Addr) (fd : FuncData) (ps : List Str), mg x = some (.ref f) ∧ PySem.W.keepIn K (.ref f) = true ∧ Binds K fd ps [] ∧ FnW P w K mg base (L2.CX P w) k f fd ps (spD K mg z n F)
theorem CallW.d {P : Program} {w : World} {K : PySem.W.Frag} {mg : Str → Option Value} {base : Heap} {k : Nat} {x : Str} {z : Bool} {n : Nat} {F : List D → M D} (C : CallW P w K mg base k x z n F) : CallOk P w K mg base k x z n F := by
  obtain ⟨f, fd, ps, h1, h2, h3, G⟩ := C.ex
  exact ⟨f, fd, ps, h1, h2, h3, G.g⟩
theorem pe_callW {X : Cx} {x : Str} {p pos : Pos} {e : Expr} {es : List Expr} {t : TA} {k n : Nat} {z : Bool} {F : List D → M D} {E : XK} (C : CallW X.prog X.w X.K X.mg X.base k x z n F) (hr : RoomW k X.A) (hx : Passes (L2.CX X.prog X.w) X E) (ha : PA X (e :: es) t) (hg : Gl X x := by rfl)
    (hdb : (x == ("__debug__" : Str)) = false := by decide) (he : starEach (e :: es) X.env = (false, eval e X.env) :: starEach es X.env := by rfl) (hpl : (backTo pos (starEach es X.env)).any (·.1) = false := by rfl) :
    PE X (.Call (.Name x p) (e :: es) [] pos) (tCall (spD X.K X.mg z n F) [] E t) := by
  obtain ⟨f, fd, ps, hm, hk, hb, G⟩ := C.ex
  constructor
  intro pins st σ H Q J h
  refine wpAny_Call_Name_kw (ld_glob J hg hm (PySem.W.callWith_K (h₀ := X.base) J.ok.mod.kin hk (thn (ha.run pos pins st σ H _ J h) ?_) he hpl) hdb)
  rintro us st1 ⟨vs, H1, J1, rel, z⟩
  rw [List.append_nil] at z
  exact ⟨J1.kIn, G.goes hr hb hx J1 rel z⟩
theorem fun_okW {P : Program} {w : World} {K : PySem.W.Frag} {mg : Str → Option Value} {base : Heap} {x qual : Str} {params : Arguments} {body : List Stmt} {scope : Scope} {dvs : List V} {kws : List (Str × V)} {f : Addr} {fd : FuncData} {k : Nat} {N ps : List Str} {z : Bool} {c : CS}
    (F : FunD K x qual params body scope dvs kws f fd) (S : FnScope N ps scope)
    (hb : ∀ (cdv : Value) (A : Around) (outer : List Env) (s : Shared) (H : Hp) (E : XK) (O : Addr → Prop), RoomW k (A.deeper (envOfC qual scope s.heap.objs.size f cdv)) →
      ∃ t, PSs (cxW (L2.CX P w) P w K mg base N qual scope f cdv A outer s H E) body t ∧ SimS ⟨K, z, mg, H, O, E, fun _ => none⟩ t c) :
    FnW P w K mg base (L2.CX P w) (k + 1) f fd ps (spD K mg z ps.length (runC N.length c)) := by
  refine FnW.of_body F S (fun vs H Q E h => h.1) (fun cdv A outer s H vs Q E hr h => ?_)
  obtain ⟨hl, O, ds, hd, sd, w'⟩ := h
  obtain ⟨t, ht, hs⟩ := hb cdv A outer s H E O hr
  refine ⟨t, ht, hs [] O _ H (startR N.length ds) _ (rel_start hd sd) (M.wp_mono (M.wp_bind.mp w') (fun o h => ?_) fun _ z => z)⟩
  cases o with
  | next ρ => exact fun O' σ' H' r => h .non H' r.grow .non
  | ret d => exact fun v H' g x => h v H' g x
  | brk ρ => exact h.elim
  | cont ρ => exact h.elim
theorem fun_zeroW {P : Program} {w : World} {K : PySem.W.Frag} {mg : Str → Option Value} {base : Heap} {CX : CXT} {f : Addr} {fd : FuncData} {ps : List Str} {z : Bool} : FnW P w K mg base CX 0 f fd ps (spD K mg z ps.length fun _ => .stuck) :=
  ⟨fun vs H Q E h => h.1, fun A outer s H args us vs Q E hr he hb hv h => by obtain ⟨_, _, _, _, _, w⟩ := h; exact w.elim⟩
end Py

/-! RL3: said(lambda: e): the def calls it in a try, and tells the exception by a word. -/
namespace Py
open PySem PySem.Spec PyProof.Rows L2
theorem RoomW.hot {n : Nat} {B : Around} {v : Option Value} (q : RoomW n B) : RoomW n (B.mark v) := ⟨q.dp, q.un, q.bare⟩

section
variable {X : Cx} {pins : List (Addr × Obj)} {σ : L2.St} {H : Hp} {s : Shared}
/-- the lambda called, in the def that got it -/
theorem pe_actG {XT : CXT} {Eg : XK} {Ng : List Str} {qg : Str} {sg : Scope} {g f c' : Addr} {cdg pm ctv : Value} {params : Arguments} {body : Expr} {scope : Scope} {k i : Nat} {a : Str} {pn : List (Addr × Obj)} {xe : Value → Shared → Prop} {W : WX} {tb : XK → TE} {p1 p2 : Pos}
    (J : Inv X pins σ H s) (L : LamX.LamS X.env.scope scope) (hf : s.heap.get? f = some (PySem.W.kla_obj "<lambda>" (X.env.qual ++ "<lambda>") params body scope (cloFrom X.env.cells scope.names []) pm c' ctv)) (hfn : H f = none) (hfr : f ∉ frs X.stack)
    (hbind : bindArgs (PySem.W.kla_fn "<lambda>" (X.env.qual ++ "<lambda>") params body scope (cloFrom X.env.cells scope.names []) pm (.ref c') ctv) ⟨[], []⟩ = pure [])
    (tk : Takes ((cxOf XT X.prog X.w X.K X.mg X.base Ng qg sg g cdg X.A X.stack s H Eg).tr pn xe) W) (hr : RoomK 1 k (X.A.deeper (envOfC qg sg s.heap.objs.size g cdg)))
    (go : ∀ (B : Around) (out : List Env) (st : Shared) (H : Hp) (E : XK), RoomG k (B.deeper (LamX.lamEnv X scope st.heap.objs.size f c')) → PE (LamX.lamCx X B out st H E scope f c') body (tb E))
    (hN : Ng[i]? = some a) (hv : Vis sg a) (hd : (a == ("__debug__" : Str)) = false) (hcd : (a == ("__classdict__" : Str)) = false) :
    PE ((cxOf XT X.prog X.w X.K X.mg X.base Ng qg sg g cdg X.A X.stack s H Eg).tr pn xe) (.Call (.Name a p1) [] [] p2)
      (fun τ HZ Q => τ[i]? = some (some (.ref f)) ∧ HZ c' = some (LamX.CodeO c' (X.env.qual ++ "<lambda>")) ∧ tb (WE W τ) σ HZ Q) := by
  constructor
  intro pz sz τ HZ Q IZ h
  obtain ⟨hs, hc, ht⟩ := h
  refine wpAny_Call_Name_kw (thn ((pe_var (pos := p1) (i := i) hN hv hd hcd).run pz sz τ HZ (fun v H1 => v = .ref f ∧ H1 = HZ) IZ ⟨.ref f, hs, rfl, rfl⟩) ?_)
  rintro u s1 ⟨v, H1, I1, r1, ev, eH⟩
  subst ev
  rw [eH] at I1
  obtain rfl : u = Value.ref f := r1
  have of1 : s1.heap.get? f = some (PySem.W.kla_obj "<lambda>" (X.env.qual ++ "<lambda>") params body scope (cloFrom X.env.cells scope.names []) pm c' ctv) := I1.base.keep f _ hf hfn hfr (fun z => nomatch (show f ∈ ([] : List Addr) from z))
  refine PySem.W.callWith_F0 ⟨_, _, _, _, of1⟩ ?_
  have un : Un (frs X.stack) [] H HZ s.heap s1.heap := I1.base
  obtain ⟨⟨oc, vs, t, hoc, hdc, hvc⟩, _, _⟩ := I1.hok c' _ hc
  have rc : codeAny (model X.prog X.w) (X.A.deeper (envOfC qg sg s.heap.objs.size g cdg)) (.call (.ref f) ⟨[], []⟩) (CR (L2.CX X.prog X.w) (envOfC qg sg s.heap.objs.size g cdg :: X.stack) X.prog X.w HZ s1 Q (WE W τ)) s1 := by
    refine PySem.W.kla_callFunE hr.g.room.depth of1 rfl L.co L.gen rfl ⟨c', oc, vs, t, rfl, hoc, hdc, hvc⟩ ?_
    rw [hbind]
    refine wpAny_pure (wpAny_newFunctionEnv (fun y hy => (L.own y hy).2) (fun y hy => absurd hy (by simp)) (fun h₁ hns hsb => ⟨I1.nolimit.fresh _ hsb, ?_⟩) L.kind)
    show codeAny _ _ (.expr body (LamX.lamEnv X scope s1.heap.objs.size f c')) _ _
    have kp : ∀ b o, s1.heap.get? b = some o → h₁.get? b = some o := fun b o e => hsb.extBut b o (Nat.ne_of_lt (Heap.lt_size e)) (Heap.get?_push_of_some _ e)
    have J1 : Inv (LamX.lamCx X (X.A.deeper (envOfC qg sg s.heap.objs.size g cdg)) (envOfC qg sg s.heap.objs.size g cdg :: X.stack) s1 HZ (WE W τ) scope f c') [] σ HZ { s1 with heap := h₁, toks := s1.toks + ([] : List (Str × Value)).length } :=
      LamX.lam_start2 J L I1.env0 hr.hd un hns kp
    refine PySem.W.kla_codeExpr (wpAny_mono ((go _ _ s1 HZ (WE W τ) (hr.inner _).g).run [] _ _ HZ Q J1 ht) ?_ fun e s' hq => hq)
    rintro v s' ⟨w', H', J', rv, q⟩
    exact ⟨w', H', J'.os, J'.bare, J'.base, J'.hok, rv, q⟩
  refine wpAny_call (codeAny_mono rc fun r s' hq => ?_)
  match r, hq with
  | .error e, hq => exact passAt tk τ pz HZ s1 e s' I1 hq
  | .ok (.ret u), hq => exact I1.after hq
  | .ok .next, hq => exact hq.elim
  | .ok .brk, hq => exact hq.elim
  | .ok .cont, hq => exact hq.elim
end

/-! ### what such a def makes of a computation -/
def M.catch {α β : Type} : M α → (α → M β) → (Exc → M β) → M β
  | .ret a, k, _ => k a
  | .err x, _, h => h x
  | .stuck, _, _ => .stuck
  | .draw n f, k, h => .draw n fun i => (f i).catch k h
theorem M.wp_catch {α β : Type} {m : M α} {k : α → M β} {h : Exc → M β} {Q : β → Prop} {E : Exc → Prop} (w : (m.catch k h).wp Q E) : m.wp (fun a => (k a).wp Q E) (fun x => (h x).wp Q E) := by
  induction m with
  | ret a => exact w
  | err x => exact w
  | stuck => exact w
  | draw n f ih => exact fun i hi => ih i (w i hi)
variable [Wd]
def Gives (P : Program) (w : World) (K : PySem.W.Frag) (mg : Str → Option Value) (base : Heap) (k : Nat) (g : Addr) (Ng : List Str) (x : Str) (sg : Scope) (cdg : Value) (bg : List Stmt) (a : Str) (z : Bool) (hd : M D → M D) : Prop :=
  ∀ (B : Around) (out : List Env) (s : Shared) (H : Hp) (Q : VK) (O : Addr → Prop) (f c' : Addr) (q : Str) (m : M D) (tl : XK → Hp → VK → Prop), RoomK 1 k (B.deeper (envOfC x sg s.heap.objs.size g cdg)) →
    (∀ (W : WX) (pn : List (Addr × Obj)) (xe : Value → Shared → Prop) (p1 p2 : Pos), Takes ((cxOf C8.CX0 P w K mg base Ng x sg g cdg B out s H C8.E0).tr pn xe) W →
      PE ((cxOf C8.CX0 P w K mg base Ng x sg g cdg B out s H C8.E0).tr pn xe) (.Call (.Name a p1) [] [] p2) (fun τ HZ Q => τ[0]? = some (some (.ref f)) ∧ HZ c' = some (LamX.CodeO c' q) ∧ tl (WE W τ) HZ Q)) →
    H c' = some (LamX.CodeO c' q) → (∀ a, O a → H a ≠ none) → LamX.Tabs Wd.T H →
    (∀ (E : XK) (Q' : VK), m.wp (fun d => ∀ v H', Gr z O H H' → Den K O H' v d → Q' v H') (fun e => ∀ cls d H', Gr z O H H' → XRel K mg O H' cls d e → E cls d H') → tl E H Q') →
    (hd m).wp (fun d => ∀ v H', Gr z O H H' → Den K O H' v d → Q v H') (fun _ => False) →
    ∃ t, PSs (cxOf C8.CX0 P w K mg base Ng x sg g cdg B out s H C8.E0).nox bg t ∧ t { nx := fun _ H' => Q .non H', rt := Q } (L2.start Ng [.ref f]) H
structure Said (P : Program) (w : World) (K : PySem.W.Frag) (mg : Str → Option Value) (base : Heap) (k : Nat) (x : Str) (z : Bool) (hd : M D → M D) : Prop where
  ex : ∃ (g : Addr) (fd : FuncData) (a : Str) (Ng : List Str) (par : Arguments) (bg : List Stmt) (sg : Scope), mg x = some (.ref g) ∧ PySem.W.keepIn K (.ref g) = true ∧ Binds K fd [a] [] ∧ FunD K x x par bg sg [] [] g fd ∧ FnScope Ng [a] sg ∧ Ng[0]? = some a ∧ Vis sg a ∧
    (a == ("__debug__" : Str)) = false ∧ (a == ("__classdict__" : Str)) = false ∧ ∀ cdg, Gives P w K mg base k g Ng x sg cdg bg a z hd
/-- the words for an exception: cs computes the suite, in n slots, the exception in slot i -/
def saidM (n i : Nat) (known : List Str) (cs : CS) (m : M D) : M D := m.catch (fun d => liftN reprD [d]) fun e => if known.contains e.cls = true then noErr ((cs ((List.replicate n none).set i (some (false, .exc e.cls e.fs)))).bind finish) else .stuck
theorem gives_said {P : Program} {w : World} {K : PySem.W.Frag} {mg : Str → Option Value} {base : Heap} {k : Nat} {g : Addr} {Ng : List Str} {x a en n : Str} {sg : Scope} {cdg : Value} {z : Bool} {i : Nat} {known : List Str} {cs : CS} {b₀ : Stmt} {suite : List Stmt} {CE : Addr} {o : Obj} {p0 p1 p2 p3 p4 p5 p6 p7 : Pos}
    (B : Bf mg) (ks : K.lookup sysModules = some o) (hN : Ng.Nodup) (hi : Ng[i]? = some n) (hi0 : i ≠ 0) (hln : sg.names.lookup n = some .local) (hge : sg.names.lookup en = some .globalImplicit) (hde : (en == ("__debug__" : Str)) = false) (hrp : sg.names.lookup ("repr" : Str) = some .globalImplicit)
    (hme : mg en = some (.ref CE)) (hk : ∀ c ∈ known, mg c = some (.ref (He.ga K c)) ∧ PySem.W.exmOne K (.ref (He.ga K c)) (.ref CE) = some true)
    (hsu : ∀ (A : Around) (out : List Env) (s : Shared) (H : Hp) (O : Addr → Prop), RoomG k (A.deeper (envOfC x sg s.heap.objs.size g cdg)) → ∃ ts, (∀ a', PSs ((cxOf C8.CX0 P w K mg base Ng x sg g cdg A out s H C8.E0).nox.suite a' []) (b₀ :: suite) ts) ∧ SimS ⟨K, z, mg, H, O, E0, fun _ => none⟩ ts cs) :
    Gives P w K mg base k g Ng x sg cdg [.Try [.Return (some (.Call (.Name "repr" p0) [.Call (.Name a p1) [] [] p2] [] p3)) p4] [.ExceptHandler (some (.Name en p5)) (some n) (b₀ :: suite) p6] [] [] p7] a z (saidM Ng.length i known cs) := by
  intro A out s H Q O f c' q m tl hr act hc hd htb htl hw
  obtain ⟨ts, hts, hsim⟩ := hsu A out s H O hr.g
  have hgl : Gl (cxOf C8.CX0 P w K mg base Ng x sg g cdg A out s H C8.E0).nox en := hge
  have hun : (A.deeper (envOfC x sg s.heap.objs.size g cdg)).units + 64 < cLine := by have := hr.un; omega
  refine ⟨_, pss_one (ps_try_val (X := (cxOf C8.CX0 P w K mg base Ng x sg g cdg A out s H C8.E0).nox) (c := .ref CE) (ts := ts)
    (tb := fun W => tRet (tCB (uCb K reprD) (tCons (fun τ HZ Q => τ[0]? = some (some (.ref f)) ∧ HZ c' = some (LamX.CodeO c' q) ∧ tl (WE W τ) HZ Q) tNil))) rfl rfl rfl hN hi hln ⟨hgl, hde, .inl hme⟩ (fun W pn xe tk _ => ?_) hts), ?_⟩
  · refine pss_one (ps_ret (pe_callB (u_repr ks hr.bare hun) hrp B.repr boot_fns.2.2.2.2.2.2.2 (pa_cons (act W pn xe p1 p2 tk) pa_nil rfl) (by decide) (by decide) rfl rfl))
  · have h0 : (L2.start Ng [V.ref f])[0]? = some (some (.ref f)) := rfl
    refine ⟨h0, hc, htl _ _ (M.wp_mono (M.wp_catch hw) (fun d hd1 v H' g1 x1 => ?_) fun e he cls dd H' g1 xr => ?_)⟩
    · unfold liftN at hd1
      split at hd1
      · rename_i zz e
        exact ⟨H, O, [d], zz, fun b hb => g1.there (hd b hb), .cons (.inl x1) .nil, e, fun v2 H2 g2 x2 => hd1 v2 H2 (g1.trans g2.gr) x2⟩
      · exact hd1.elim
    · split at he
      · rename_i hkn
        have hmem : e.cls ∈ known := by simpa using hkn
        obtain ⟨k1, k2⟩ := hk _ hmem
        obtain ⟨C, m1, m2, m3⟩ := xr
        rw [k1] at m1
        cases m1
        subst m2
        refine ⟨k2, He.ga K e.cls, rfl, fun a' na => ?_⟩
        have no : ¬ O a' := fun oa => g1.there (hd a' oa) na
        have g2 : Gr z O H (upd H' a' (.ext (XcAt a' (He.ga K e.cls) dd))) := g1.trans (Grow.new na).gr
        have hden : Den K O (upd H' a' (.ext (XcAt a' (He.ga K e.cls) dd))) (.ref a') (.exc e.cls e.fs) := by
          obtain ⟨ec, efs⟩ := e
          rcases m3 with ⟨m3, m4⟩ | ⟨ne, da, fvs, m4, nS, m5, m6⟩
          · dsimp only at m3 m4 ⊢
            subst m3 m4
            exact .exc no upd_same fun _ h => h
          · dsimp only at ne m4 m5 m6 ⊢
            subst m4
            cases efs with
            | nil => exact absurd rfl ne
            | cons pf r =>
              exact .excF no upd_same (fun _ h => h) nS (Grow.new na _ _ m5) (.inl rfl) (m6.ext (Grow.new na).ext)
        have hlen : i < Ng.length := (List.getElem?_eq_some_iff.mp hi).1
        have rel : (⟨K, z, mg, H, O, E0, fun _ => none⟩ : Cf).Rel [] O ((L2.start Ng [V.ref f]).set i (some (.ref a'))) (upd H' a' (.ext (XcAt a' (He.ga K e.cls) dd))) ((List.replicate Ng.length none).set i (some (false, .exc e.cls e.fs))) := by
          refine ⟨?_, hd, fun b hb => g2.there (hd b hb), fun _ h => h, fun _ h => .inl h, g2, fun j d h1 => ?_, fun j d h1 => ?_, fun j l b d d' h3 h4 h5 h6 => ?_, (fun p hp => nomatch hp), (fun i a h => nomatch h), g2.tab htb⟩
          · rw [List.length_set, List.length_set, List.length_replicate]
            unfold L2.start
            simp
            omega
          · rcases get_set h1 with ⟨q1, q2⟩ | ⟨q1, q2⟩
            · subst q1; cases q2
              refine ⟨.ref a', ?_, hden⟩
              rw [List.getElem?_set_self]
              unfold L2.start
              simp
              omega
            · rw [List.getElem?_replicate] at q2
              split at q2 <;> cases q2
          · rcases get_set h1 with ⟨q1, q2⟩ | ⟨q1, q2⟩
            · cases q2
            · rw [List.getElem?_replicate] at q2
              split at q2 <;> cases q2
          · rcases get_set h3 with ⟨q1, q2⟩ | ⟨q1, q2⟩
            · cases q2
            · rw [List.getElem?_replicate] at q2
              split at q2 <;> cases q2
        refine hsim [] O _ _ _ _ rel (M.wp_mono (M.wp_bind.mp (noErr_wp (E' := XP _) he)) (fun o ho => ?_) fun _ h => h)
        cases o with
        | next ρ => exact fun O' σ' H2 r => ho .non H2 r.grow .non
        | ret d => exact fun v H2 g3 x3 => ho v H2 g3 x3
        | brk ρ => exact ho.elim
        | cont ρ => exact ho.elim
      · exact he.elim
end Py

/-! RL4: said(lambda: e) as an expression. -/
namespace Py
open PySem PySem.Spec PyProof.Rows L2
variable [Wd]

def tSaid (K : PySem.W.Frag) (mg : Str → Option Value) (z : Bool) (hd : M D → M D) (t : XK → TE) : TE := fun σ H Q => LamX.Tabs Wd.T H ∧ ∀ H1, LamX.ExtN H H1 → (∀ b, H b ≠ none → H1 b ≠ none) → (∀ b ps, H b = some (.tbl ps) → ∃ qs, H1 b = some (.tbl qs)) → LamX.Tabs Wd.T H1 → ∃ (O : Addr → Prop) (m : M D), (∀ a, O a → H1 a ≠ none) ∧
  (∀ (E : XK) (Q' : VK), m.wp (fun d => ∀ v H', Gr z O H1 H' → Den K O H' v d → Q' v H') (fun e => ∀ cls d H', Gr z O H1 H' → XRel K mg O H' cls d e → E cls d H') → t E σ H1 Q') ∧
  (hd m).wp (fun d => ∀ v H', Gr z O H1 H' → Den K O H' v d → Q v H') (fun _ => False)
/-- a lambda is made: as LamX.lam_make2, and no table goes -/
theorem lam_makeG {X : Cx} {pins : List (Addr × Obj)} {σ : L2.St} {H : Hp} {s : Shared} {T : List (Addr × Str)} {c P : Addr} {params : Arguments} {body : Expr} {sc : Scope} {pos : Pos} {E Q : Value → Shared → Prop} (I : Inv X pins σ H s) (TB : LamX.TabB X.base X.mg c P) (hcode : X.env.code = .ref c)
    (hm : (P, X.env.qual ++ "<lambda>") ∈ T) (hu : ∀ p ∈ T, p.1 = P → p.2 = X.env.qual ++ "<lambda>") (hT : LamX.Tabs T H) (hdef : defaultsOf params X.env = ([], [])) (hfree : ∀ y ∈ sc.names, y.2 = .free → ∃ c, X.env.cells.lookup y.1 = some c)
    (h : ∀ (f c' : Addr) (pm ctv : Value) (H1 : Hp) (s' : Shared), Inv X pins σ H1 s' → LamX.ExtN H H1 → (∀ b ps, H b = some (.tbl ps) → ∃ qs, H1 b = some (.tbl qs)) → LamX.Tabs T H1 →
      s'.heap.get? f = some (PySem.W.kla_obj "<lambda>" (X.env.qual ++ "<lambda>") params body sc (cloFrom X.env.cells sc.names []) pm c' ctv) → H1 f = none → f ∉ frs X.stack → H1 c' = some (LamX.CodeO c' (X.env.qual ++ "<lambda>")) → Q (.ref f) s') :
    wpAny (model X.prog X.w) X.A (eval (.Lambda params body sc pos) X.env) Q E s := by
  obtain ⟨ps, tab, trip, among⟩ := hT _ hm
  have getP : s.heap.get? P = some { cls := .none, data := .fields ps } := I.hok P _ tab
  have bmP : s.heap.BuiltinsAt X.mg P := TB.bm.keeps I.bk
  have far : ∀ f, s.heap.objs.size ≤ f → f ∉ frs X.stack := by
    intro f le z
    cases List.mem_cons.mp (I.stkSub _ z) with
    | inl e => have lt := I.lt; rw [← e] at lt; exact absurd (Nat.lt_of_lt_of_le lt le) (Nat.lt_irrefl _)
    | inr e => exact I.nofs le e
  refine PySem.W.kla_eval hdef ?_
  cases found : codeAmong pos ps.toList with
  | some cv =>
    obtain ⟨c', ecv, isC⟩ := among pos cv found
    subst ecv
    refine PySem.W.kla_makeFunctionHit (mg := X.mg) (c := c) (P := P) (ps := ps) (closure_ok hfree) I.ok.glob (I.mod.glob.keeps I.bk) hcode (TB.code.keeps I.bk) getP trip found bmP ?_
    intro ctv h2 tk kept more
    have J : Inv X pins σ H { s with heap := h2.push (PySem.W.kla_obj "<lambda>" (X.env.qual ++ "<lambda>") params body sc (cloFrom X.env.cells sc.names []) ((X.mg "__name__").getD .none) c' ctv), toks := tk } := I.kept fun b o e => Heap.get?_push_of_some _ (kept b o e)
    exact h h2.objs.size c' _ ctv H _ J (LamX.ExtN.refl H) (fun b qs e => ⟨qs, e⟩) hT (Heap.get?_push_size _ rfl) (I.hok.fresh more) (far _ more) isC
  | none =>
    refine PySem.W.kla_makeFunction (mg := X.mg) (c := c) (P := P) (ps := ps) (closure_ok hfree) I.ok.glob (I.mod.glob.keeps I.bk) hcode (TB.code.keeps I.bk) getP trip found TB.gP bmP ?_
    intro c' ctv h2 tk kept above below ⟨c2, oc, vs, tt, e2, oc_at, oc_d, oc_n⟩ tabNow
    cases e2
    have more : s.heap.objs.size ≤ h2.objs.size := Nat.le_trans above (Nat.le_of_lt below)
    have newC : H c' = none := I.hok.fresh above
    have J := LamX.inv_table (t' := tk) (q := X.env.qual ++ "<lambda>") (more := #[rawInt pos.line, rawInt pos.col, .ref c']) (h' := h2.push (PySem.W.kla_obj "<lambda>" (X.env.qual ++ "<lambda>") params body sc (cloFrom X.env.cells sc.names []) ((X.mg "__name__").getD .none) c' ctv)) I tab
      (fun b o hb e => Heap.get?_push_of_some _ (kept b o hb e)) (Heap.get?_push_of_some _ tabNow) above ⟨oc, vs, tt, Heap.get?_push_of_some _ oc_at, oc_d, oc_n⟩
    have ex : LamX.ExtN H (upd (upd H P (.tbl (ps ++ #[rawInt pos.line, rawInt pos.col, .ref c']))) c' (LamX.CodeO c' (X.env.qual ++ "<lambda>"))) := by
      intro b o e n
      have nP : b ≠ P := fun z => n ps (Option.some.inj (by rw [← e, z, tab]))
      rw [upd_ne (ne_of_none e newC), upd_ne nP]
      exact e
    have li : (ps ++ #[rawInt pos.line, rawInt pos.col, .ref c']).toList = ps.toList ++ [rawInt pos.line, rawInt pos.col, .ref c'] := by simp
    refine h h2.objs.size c' _ ctv _ _ J ex (fun b qs e => ?_) (fun p hp => ?_) (Heap.get?_push_size _ rfl) ?_ (far _ more) upd_same
    · by_cases hb : b = P
      · subst hb; exact ⟨_, by rw [upd_ne (ne_of_none tab newC), upd_same]⟩
      · exact ⟨qs, by rw [upd_ne (ne_of_none e newC), upd_ne hb]; exact e⟩
    · by_cases hb : p.1 = P
      · rw [hu p hp hb, hb]
        refine ⟨_, by rw [upd_ne (ne_of_none tab newC), upd_same], by rw [li]; exact PySem.TriplesOk_snoc _ _ _ _ trip, fun p' cv hcv => ?_⟩
        rw [li] at hcv
        cases LamX.among_app _ trip hcv with
        | inl z => obtain ⟨c0, e1, e2⟩ := among p' cv z; exact ⟨c0, e1, ex _ _ e2 LamX.codeO_ne⟩
        | inr z => exact ⟨c', z, upd_same⟩
      · obtain ⟨qs, a1, a2, a3⟩ := hT p hp
        refine ⟨qs, by rw [upd_ne (ne_of_none a1 newC), upd_ne hb]; exact a1, a2, fun p' cv hcv => ?_⟩
        obtain ⟨c0, e1, e2⟩ := a3 p' cv hcv
        exact ⟨c0, e1, ex _ _ e2 LamX.codeO_ne⟩
    · have n1 : h2.objs.size ≠ c' := Nat.ne_of_gt below
      have n2 : h2.objs.size ≠ P := Nat.ne_of_gt (Nat.lt_of_lt_of_le (Heap.lt_size getP) more)
      rw [upd_ne n1, upd_ne n2]
      exact I.hok.fresh more
/-- a def called at a state, its body told there -/
theorem run_ofG {XT : CXT} {P : Program} {w : World} {K : PySem.W.Frag} {mg : Str → Option Value} {base : Heap} {k : Nat} {at_ : Addr} {nm qn : Str} {par : Arguments} {body : List Stmt} {sc : Scope} {dV kV doc pm cv ct oc : Value} {an od : Option Addr} {osl : Array (Option Value)} {N ps : List Str}
    (look : K.lookup at_ = some ⟨oc, od, .func (PySem.W.fnOf nm qn par body sc dV kV doc pm an cv ct), osl⟩) (code : PySem.W.codeIn K cv qn = true) (S : FnScope N ps sc) {B : Around} {out : List Env} {st : Shared} {H : Hp} {ag : Args} {us : List Value} {vs : List V} {Q : VK} {E : XK}
    (q : Room k B) (env : Env0 P w K mg base B out st H) (bnd : BindsTo st (PySem.W.fnOf nm qn par body sc dV kV doc pm an cv ct) ag (ps.zip us)) (vals : Vals vs us) (hl : vs.length = ps.length)
    (go : ∃ t, PSs (cxOf XT P w K mg base N qn sc at_ cv B out st H E) body t ∧ t { nx := fun _ H' => Q .non H', rt := Q } (L2.start N vs) H) :
    codeAny (model P w) B (.call (.ref at_) ag) (CR XT out P w H st Q E) st := by
  have inK : K.In st.heap := env.mod.kin.keeps fun c o e => (env.bs c o e).1
  have free : st.heap.NoLimit := env.mod.nolimit.keeps fun c o e => (env.bs c o e).1
  have kinds : ∀ y ∈ ps.zip us, sc.names.lookup y.1 = some .local ∨ (sc.names.lookup y.1 = some .cell ∧ ((cellsFrom (st.heap.objs.size + 1) sc.names []).lookup y.1).isSome = true) := by
    rintro ⟨y, u⟩ hy
    have := S.par y (List.of_mem_zip hy).1
    exact this.imp id fun c => ⟨c, PySem.W.cellsFrom_some _ _ _ (Or.inl c)⟩
  refine codeAny_call_function q.depth (inK _ _ look) rfl S.co S.gen rfl (PySem.W.codeRec_of inK code) (bnd _ _ _ _ ?_)
  refine wpAny_newFunctionEnv_cells S.kind kinds fun en en_eq st1 x => ?_
  subst en_eq
  refine ⟨free.keeps x.toInCall.keep, codeAny_func ?_⟩
  obtain ⟨t, pt, tz⟩ := go
  have J0 : Inv (cxOf XT P w K mg base N qn sc at_ cv B out st H E) [] (L2.start N vs) H st1 := inv_start S q.hd env hl vals x
  refine wpAny_mono (pt.run [] st1 (L2.start N vs) H _ J0 tz) ?_ fun _ _ u => u
  intro fl st2 done
  cases fl with
  | next => obtain ⟨_, H', J, u⟩ := done; exact ⟨V.non, H', J.os, J.bare, J.base, J.hok, rfl, u⟩
  | ret r => obtain ⟨v, _, H', J, rv, u⟩ := done; exact ⟨v, H', J.os, J.bare, J.base, J.hok, rv, u⟩
  | brk => obtain ⟨_, _, _, u⟩ := done; exact u.elim
  | cont => obtain ⟨_, _, _, u⟩ := done; exact u.elim
theorem pe_said {X : Cx} {x : Str} {k : Nat} {z : Bool} {hd : M D → M D} {c P : Addr} {params : Arguments} {body : Expr} {scope : Scope} {t : XK → TE} {p lpos pos : Pos} (Sd : Said X.prog X.w X.K X.mg X.base k x z hd)
    (TB : LamX.TabB X.base X.mg c P) (hcode : X.env.code = .ref c) (hmT : (P, X.env.qual ++ "<lambda>") ∈ Wd.T) (hu : ∀ p ∈ Wd.T, p.1 = P → p.2 = X.env.qual ++ "<lambda>") (hr : RoomK 2 k X.A) (L : LamX.LamS X.env.scope scope) (hdef : defaultsOf params X.env = ([], []))
    (hbind : ∀ (q : Str) (cl : List (Str × Addr)) (pm cv ctv : Value), bindArgs (PySem.W.kla_fn "<lambda>" q params body scope cl pm cv ctv) ⟨[], []⟩ = pure [])
    (go : ∀ (B : Around) (out : List Env) (s : Shared) (H : Hp) (E : XK) (f c' : Addr), RoomG k (B.deeper (LamX.lamEnv X scope s.heap.objs.size f c')) → PE (LamX.lamCx X B out s H E scope f c') body (t E))
    (hg : Gl X x := by rfl) (hdb : (x == ("__debug__" : Str)) = false := by decide) :
    PE X (.Call (.Name x p) [.Lambda params body scope lpos] [] pos) (tSaid X.K X.mg z hd t) := by
  obtain ⟨g, fd, a, Ng, par, bg, sg, gm, kp, bn, F, S, hN0, hv, na, nc, G⟩ := Sd.ex
  constructor
  intro pins s σ H Q I h
  obtain ⟨hT, h⟩ := h
  refine wpAny_Call_Name_kw (ld_glob I hg gm ?_ hdb)
  refine PySem.W.callWith_K (h₀ := X.base) I.ok.mod.kin kp ?_ (by rfl) (by rfl)
  show wpAny _ _ (spliced ((false, eval (.Lambda params body scope lpos) X.env) :: backTo pos (starEach [] X.env))) _ _ s
  refine Calls.spliced_cons (lam_makeG I TB hcode hmT hu hT hdef (L.has I.ok) fun f c' pm' ctv H1 s' I1 eN tblK T1 hf hfn hfr hco => ?_)
  refine Calls.spliced_nil ⟨I1.kIn, ?_⟩
  have dom : ∀ b, H b ≠ none → H1 b ≠ none := fun b hb => by
    cases q : H b with
    | none => exact absurd q hb
    | some o =>
      by_cases ht : ∃ ps, o = .tbl ps
      · obtain ⟨ps, rfl⟩ := ht
        obtain ⟨qs, e⟩ := tblK b ps q
        rw [e]; intro z; cases z
      · rw [eN b o q (fun ps z => ht ⟨ps, z⟩)]; intro z; cases z
  obtain ⟨O, m, hO, htl, hw⟩ := h H1 eN dom tblK T1
  obtain ⟨oc, od, dV, kV, doc, pm, an, cv, ct, osl, efd, look, code, _, _⟩ := F.ex
  subst efd
  have rc : codeAny (model X.prog X.w) X.A (.call (.ref g) ⟨[.ref f], []⟩) (CR C8.CX0 X.stack X.prog X.w H1 s' Q C8.E0) s' := by
    refine run_ofG (N := Ng) (ps := [a]) (us := [.ref f]) (vs := [.ref f]) look code S hr.g.room I1.env0 (bn s' [.ref f] I1.kIn rfl) (.cons rfl .nil) rfl ?_
    obtain ⟨t', ht', hq'⟩ := G cv X.A X.stack s' H1 Q O f c' _ m (fun E H' Q' => t E σ H' Q') (hr.inner _) (fun W pn xe p1 p2 tk => pe_actG (i := 0) I1 L hf hfn hfr (hbind _ _ _ _ _) tk (hr.inner _) (fun B out st H E hr2 => go B out st H E f c' hr2) hN0 hv na nc) hco hO T1 htl hw
    exact ⟨t', ht'.nox, hq'⟩
  refine wpAny_call (codeAny_mono rc fun r s2 hq => ?_)
  match r, hq with
  | .error e, hq => exact (show False from hq).elim
  | .ok (.ret u), hq => exact I1.after hq
  | .ok .next, hq => exact hq.elim
  | .ok .brk, hq => exact hq.elim
  | .ok .cont, hq => exact hq.elim
/-- in the lambda the frame's values can be seen, not its own objects -/
def valsR (ρ : Rho) : Rho := ρ.map fun o => match o with
  | some (false, d) => some (false, d)
  | _ => none
theorem valsR_get {ρ : Rho} {i : Nat} {b : Bool} {d : D} (h : (valsR ρ)[i]? = some (some (b, d))) : b = false ∧ ρ[i]? = some (some (false, d)) := by
  unfold valsR at h
  rw [List.getElem?_map] at h
  cases q : ρ[i]? with
  | none => rw [q] at h; cases h
  | some o =>
    rw [q] at h
    match o, h with
    | some (false, e), h => cases h; exact ⟨rfl, rfl⟩
    | some (true, e), h => cases h
    | none, h => cases h
def cSaid (hd : M D → M D) (e : CE) : CE := fun ρ => noErr (hd (e (valsR ρ)))
theorem sim_said {f : Cf} {hd : M D → M D} {t : XK → TE} {e : CE} (he : ∀ (H : Hp) (S : Addr → Prop) (E : XK), SimE ⟨f.K, f.z, f.mg, H, S, E, f.fix⟩ (t E) e) : SimE f (tSaid f.K f.mg f.z hd t) (cSaid hd e) := fun P O σ H ρ Q r w => by
  refine ⟨r.tab, fun H1 eN dm tb T1 => ?_⟩
  have g : Gr f.z O H H1 := ⟨fun a o h => by
    by_cases ht : ∃ ps, o = .tbl ps
    · obtain ⟨ps, rfl⟩ := ht
      obtain ⟨qs, e⟩ := tb a ps h
      exact .inr (.inr ⟨ps, qs, rfl, e⟩)
    · exact .inl (eN a o h fun ps z => ht ⟨ps, z⟩), fun _ => T1⟩
  have r1 := r.growTo g
  refine ⟨O, e (valsR ρ), r1.dom, fun E Q' hm => ?_, M.wp_mono (noErr_wp (E' := fun _ => False) w) (fun d q v H' g2 x => q v H' (g.trans g2) x) fun _ z => z⟩
  refine he H1 O E P O σ H1 (valsR ρ) Q' ⟨?_, r1.dom, r1.dom, fun _ h => h, fun _ h => .inl h, Gr.refl _ _ _, fun i d h => ?_, fun i d h => ?_, fun i j a d d' h => ?_, r1.held, r1.fix, r1.tab⟩ hm
  · rw [r1.len]; unfold valsR; rw [List.length_map]
  · exact r1.slot i d (valsR_get h).2
  · cases (valsR_get h).1
  · cases (valsR_get h).1
end Py

/-! RB: pens: the def that makes one, the def that draws. -/
namespace Py
open PySem PySem.Spec PyProof.Rows L2
variable [Wd]

theorem cx_none {P : Program} {w : World} {out : List Env} {H : Hp} {s : Shared} {e : Value} {s' : Shared} (c : L2.CX P w out H s (fun _ _ _ => False) e s') : False := by
  obtain ⟨_, _, _, _, _, _, _, _, _, _, _, _, z⟩ := c
  exact z
section
variable {P : Program} {w : World} {K : PySem.W.Frag} {mg : Str → Option Value} {base : Heap} {XT : CXT} {n : Nat} {at_ : Addr} {fd : FuncData} {ps : List Str} {pr pr' : Sp}
/-- behind a call one object is described anew -/
def Re (P : Program) (w : World) (Q : VK) : VK := fun v H' => ∃ a o u, H' a = some o ∧ Mut (some o) ∧ (∀ h : Heap, ObjOk P w H' h a o → ObjOk P w (upd H' a u) h a u) ∧ Q v (upd H' a u)
theorem obj_there {H : Hp} {h : Heap} {a : Addr} {o : HO} (mu : Mut (some o)) (x : ObjOk P w H h a o) : ∃ u, h.get? a = some u := objOk_get x
theorem FnG.exit (G : FnG P w K mg base XT n at_ fd ps pr) (len : ∀ vs H Q E, pr' vs H Q E → vs.length = ps.length) (le : ∀ vs H Q E, pr' vs H Q E → pr vs H (Re P w Q) E) : FnG P w K mg base XT n at_ fd ps pr' := by
  refine ⟨len, fun B out st H ag us vs Q E q e b v z => codeAny_mono (G.run B out st H ag us vs _ E q e b v (le _ _ _ _ z)) ?_⟩
  intro r s' c
  match r, c with
  | .error er, c => exact c
  | .ok .next, c => exact c.elim
  | .ok .brk, c => exact c.elim
  | .ok .cont, c => exact c.elim
  | .ok (.ret u), c =>
    obtain ⟨v', H', c1, c2, c3, c4, c5, a, o, u', ha, mu, k, q'⟩ := c
    have x := c4 a o ha
    obtain ⟨ob, hob⟩ := objOk_get x
    have mu' : Mut (H' a) := by rw [ha]; exact mu
    exact ⟨v', upd H' a u', c1, c2, c3.trans (Un.write mu' (.inl rfl) (fun _ _ _ h => h) ⟨ob, hob⟩), c4.write mu' (.inl rfl) (fun _ _ _ h => h) ⟨ob, hob⟩ (k _ x), c5, q'⟩
/-- ahead of a call one object is described anew -/
theorem FnG.entry (G : FnG P w K mg base (L2.CX P w) n at_ fd ps pr) (len : ∀ vs H Q E, pr' vs H Q E → vs.length = ps.length)
    (le : ∀ vs H Q E, pr' vs H Q E → ∃ a o, H a = some o ∧ Mut (some o) ∧ ∀ h : Heap, ObjOk P w H h a o → ∃ u, ObjOk P w (upd H a u) h a u ∧ pr vs (upd H a u) Q E0) : FnG P w K mg base (L2.CX P w) n at_ fd ps pr' := by
  refine ⟨len, fun B out st H ag us vs Q E q e b v z => ?_⟩
  obtain ⟨a, o, ha, mu, k⟩ := le _ _ _ _ z
  have x := e.hok a o ha
  obtain ⟨u, ku, hp⟩ := k _ x
  obtain ⟨ob, hob⟩ := objOk_get x
  have mu' : Mut (H a) := by rw [ha]; exact mu
  have un : Un (frs out) [] H (upd H a u) st.heap st.heap := Un.write mu' (.inl rfl) (fun _ _ _ h => h) ⟨ob, hob⟩
  have off : ∀ b, H b = none → upd H a u b = none := fun b hb => by rw [upd_ne (Ne.symm (ne_of_none ha hb))]; exact hb
  have e' : Env0 P w K mg base B out st (upd H a u) :=
    { frames := e.frames, mod := e.mod, bsz := e.bsz, funs := e.funs, bare := e.bare, bs := (fun c ob' hc => ⟨(e.bs c ob' hc).1, off _ (e.bs c ob' hc).2⟩), frf := (fun c hc => off _ (e.frf c hc)), hok := e.hok.write mu' (.inl rfl) (fun _ _ _ h => h) ⟨ob, hob⟩ ku }
  refine codeAny_mono (G.run B out st (upd H a u) ag us vs Q E0 q e' b v hp) ?_
  intro r s' c
  match r, c with
  | .error er, c =>
    exact (cx_none c).elim
  | .ok .next, c => exact c.elim
  | .ok .brk, c => exact c.elim
  | .ok .cont, c => exact c.elim
  | .ok (.ret u), c =>
    obtain ⟨v', H', c1, c2, c3, c4, c5, c6⟩ := c
    exact ⟨v', H', c1, c2, un.trans c3, c4, c5, c6⟩
end
/-- the three ints of a pen -/
theorem pen_of_lst {P : Program} {w : World} {H : Hp} {h : Heap} {a : Addr} {i j k : Int} (h1 : 0 ≤ j) (h2 : j < 4294967296) (x : ObjOk P w H h a (.lst [.int i, .int j, .int k])) (H2 : Hp) : ObjOk P w H2 h a (penO a) := by
  obtain ⟨_, its, n, rv, e⟩ := x
  cases rv with
  | cons r1 rv =>
  cases rv with
  | cons r2 rv =>
  cases rv with
  | cons r3 rv =>
  cases rv
  obtain ⟨t1, rfl⟩ := r1
  obtain ⟨t2, rfl⟩ := r2
  obtain ⟨t3, rfl⟩ := r3
  refine ⟨⟨i, j, k, t1, t2, t3, n, h1, h2, e⟩, ⟨_, e⟩, fun ha hb ⟨i, j, k, t1, t2, t3, n, h1, h2, e⟩ kp => ⟨i, j, k, t1, t2, t3, n, h1, h2, kp _ e⟩⟩
theorem lst_of_pen {P : Program} {w : World} {H : Hp} {h : Heap} {a : Addr} (x : ObjOk P w H h a (penO a)) (H2 : Hp) : ∃ i j k : Int, 0 ≤ j ∧ j < 4294967296 ∧ ObjOk P w H2 h a (.lst [.int i, .int j, .int k]) := by
  obtain ⟨⟨i, j, k, t1, t2, t3, n, h1, h2, e⟩, _, _⟩ := x
  exact ⟨i, j, k, h1, h2, (show 3 ≤ sizeLine by decide), [.int i t1, .int j t2, .int k t3], n, .cons ⟨t1, rfl⟩ (.cons ⟨t2, rfl⟩ (.cons ⟨t3, rfl⟩ .nil)), e⟩

/-! ### making a pen -/
def toPen : D → M D
  | .lst [.int _, .int j, .int _] => if 0 ≤ j ∧ j < 4294967296 then .ret .pen else .stuck
  | _ => .stuck
theorem pen_ok {P : Program} {w : World} {K : PySem.W.Frag} {mg : Str → Option Value} {base : Heap} {x qual : Str} {params : Arguments} {body : List Stmt} {scope : Scope} {dvs : List V} {kws : List (Str × V)} {f : Addr} {fd : FuncData} {k : Nat} {N ps : List Str} {z : Bool} {c : CE}
    (F : FunD K x qual params body scope dvs kws f fd) (S : FnScope N ps scope)
    (hb : ∀ (cdv : Value) (A : Around) (outer : List Env) (s : Shared) (H : Hp) (E : XK) (O : Addr → Prop), RoomG k (A.deeper (envOfC qual scope s.heap.objs.size f cdv)) →
      ∃ te, PSs (cxOf (L2.CX P w) P w K mg base N qual scope f cdv A outer s H E) body (tRet te) ∧ SimN ⟨K, z, mg, H, O, E, fun _ => none⟩ te c) :
    FnG P w K mg base (L2.CX P w) (k + 1) f fd ps (spD K mg z ps.length (fun ds => (c (startR N.length ds)).bind toPen)) := by
  have G : FnG P w K mg base (L2.CX P w) (k + 1) f fd ps (fun vs H Q E => vs.length = ps.length ∧ ∃ (O : Addr → Prop) (ds : List D), ((∀ a, O a → H a ≠ none) ∧ LamX.Tabs Wd.T H) ∧ Dens K O H vs ds ∧
      (c (startR N.length ds)).wp (fun d => ∀ p H', Gr z O H H' → H p = none → Top K (also O p) H' p d → Q (.ref p) H') (fun x => ∀ cls dd H', Gr z O H H' → XRel K mg O H' cls dd x → E cls dd H')) := by
    refine FnG.of_body F S (fun vs H Q E h => h.1) (fun cdv A outer s H vs Q E hr h => ?_)
    obtain ⟨hl, O, ds, hd, sd, w'⟩ := h
    obtain ⟨te, ht, hs⟩ := hb cdv A outer s H E O hr
    exact ⟨_, ht, hs [] O _ H (startR N.length ds) _ (rel_start hd sd) w'⟩
  refine G.exit (fun vs H Q E h => h.1) fun vs H Q E ⟨hl, O, ds, hd, sd, w'⟩ => ⟨hl, O, ds, hd, sd, M.wp_mono (M.wp_bind.mp w') (fun d hw p H' g hp t => ?_) fun _ z => z⟩
  unfold toPen at hw
  split at hw
  · rename_i i j k'
    split at hw
    · rename_i hj
      obtain ⟨vs', hl', sl'⟩ := top_lst t
      have ev : vs' = [.int i, .int j, .int k'] := by
        cases sl' with
        | cons a1 sl' =>
        cases sl' with
        | cons a2 sl' =>
        cases sl' with
        | cons a3 sl' =>
        cases sl'
        cases a1; cases a2; cases a3; rfl
      subst ev
      refine ⟨p, _, penO p, hl', trivial, fun h x => pen_of_lst hj.1 hj.2 x _, ?_⟩
      exact hw _ _ (g.updNew t.nc hp) (.pen (off_new hd.1 hp) upd_same)
    · exact hw.elim
  · exact hw.elim

/-! ### drawing -/
def drawD : List D → M D
  | [.pen, .int n] => if 0 < n ∧ n < 1073741824 then .draw n.toNat (fun i => .ret (.int (i : Int))) else .stuck
  | _ => .stuck
def spDraw : Sp := fun vs H Q _ => ∃ (a : Addr) (i j k n : Int), vs = [.ref a, .int n] ∧ H a = some (.lst [.int i, .int j, .int k]) ∧ 0 ≤ j ∧ j < 4294967296 ∧ 0 < n ∧ n < 1073741824 ∧
  ∀ m i' j' k' : Int, 0 ≤ m → m < n → 0 ≤ j' → j' < 4294967296 → Q (.int m) (upd H a (.lst [.int i', .int j', .int k']))
theorem draw_pens {P : Program} {w : World} {K : PySem.W.Frag} {mg : Str → Option Value} {base : Heap} {f : Addr} {fd : FuncData} {k : Nat} {ps : List Str} {z : Bool} (hl : ps.length = 2) (G : FnG P w K mg base (L2.CX P w) k f fd ps spDraw) :
    FnG P w K mg base (L2.CX P w) k f fd ps (spD K mg z ps.length drawD) := by
  have G1 : FnG P w K mg base (L2.CX P w) k f fd ps (fun vs H Q E => ∃ (a : Addr) (i j k n : Int), vs = [.ref a, .int n] ∧ H a = some (.lst [.int i, .int j, .int k]) ∧ 0 ≤ j ∧ j < 4294967296 ∧ 0 < n ∧ n < 1073741824 ∧
      ∀ m : Int, 0 ≤ m → m < n → Q (.int m) (upd H a (penO a))) := by
    refine G.exit (fun vs H Q E ⟨a, i, j, k, n, e, _⟩ => by rw [e, hl]; rfl) fun vs H Q E ⟨a, i, j, k, n, e, h1, h2, h3, h4, h5, q⟩ => ⟨a, i, j, k, n, e, h1, h2, h3, h4, h5, fun m i' j' k' m1 m2 b1 b2 => ?_⟩
    refine ⟨a, _, penO a, upd_same, trivial, fun h x => pen_of_lst b1 b2 x _, ?_⟩
    rw [upd_upd]
    exact q m m1 m2
  refine G1.entry (fun vs H Q E h => h.1) fun vs H Q E ⟨hn, O, ds, hd, sd, w'⟩ => ?_
  unfold drawD at w'
  split at w'
  · rename_i n
    split at w'
    · rename_i hc
      cases sd with
      | cons x1 sd =>
      cases sd with
      | cons x2 sd =>
      cases sd
      cases x2
      cases x1 with
      | @pen a na ha =>
      refine ⟨a, _, ha, trivial, fun h x => ?_⟩
      obtain ⟨i, j, k, b1, b2, y⟩ := lst_of_pen x (upd H a (.lst [.int 0, .int 0, .int 0]))
      refine ⟨.lst [.int i, .int j, .int k], y, a, i, j, k, n, rfl, upd_same, b1, b2, hc.1, hc.2, fun m m1 m2 => ?_⟩
      have e : upd (upd H a (.lst [.int i, .int j, .int k])) a (penO a) = H := by
        rw [upd_upd]
        funext b
        by_cases q : b = a
        · subst q; rw [upd_same, ha]
        · rw [upd_ne q]
      rw [e]
      have q := w' m.toNat (by omega)
      have em : ((m.toNat : Nat) : Int) = m := by omega
      have q2 := q (.int m) H (Gr.refl _ _ _) (by rw [em]; exact .int m)
      exact q2
    · exact w'.elim
  · exact w'.elim
end Py

/-! RC: the drawing def's reading. -/
namespace Py
open PySem PySem.Spec PyProof.Rows L2
variable [Wd]
abbrev rAddI : R2 := rI0 fun i j => .int (i + j)
abbrev rMulI : R2 := rI CMul fun i j => .int (i * j)
abbrev rModI : R2 := rI (fun _ j => 0 < j) fun i j => .int (i % j)
abbrev rDivI : R2 := rI CDiv fun i j => .int (i / j)
abbrev rGtI : R2 := rI0 fun i j => .bl (decide (j < i))
abbrev tAt (K : PySem.W.Frag) (i : Int) : TE := tOp (rIxL K) (tVar 0) (tC (.int i))
def t_draw3 : TS := tSeq (tAsg (tOp rModI (tOp rAddI (tOp rMulI (tVar 3) (tVar 3)) (tOp rMulI (tC (.int 40014)) (tVar 3))) (tC (.int 2147483587))) (gName 3))
  (tRet (tOp rModI (tOp rDivI (tVar 3) (tC (.int 16))) (tVar 1)))
def t_draw2 (K : PySem.W.Frag) : TS := tSeq (tAsg (tOp rModI (tOp rAddI (tOp rAddI (tOp rMulI (tAt K 1) (tAt K 1)) (tOp rMulI (tC (.int 69621)) (tAt K 1))) (tC (.int 11))) (tC (.int 2147483629))) (gName 3)) t_draw3
def t_draw (K : PySem.W.Frag) : TS :=
  tSeq (tIfS (tTest (tOp rGtI (tAt K 0) (tC (.int 0))))
    (tSeq (tAsg (tOp rModI (tAt K 0) (tVar 1)) (gName 2)) (tSeq (tAsg (tOp rDivI (tAt K 0) (tVar 1)) (gSub (tVar 0) (tC (.int 0)) rSetL)) (tRet (tVar 2)))) tNext)
  (tSeq (tAsg (tOp rAddI (tAt K 2) (tC (.int 1))) (gSub (tVar 0) (tC (.int 2)) rSetL))
  (tSeq (tAsg (tOp rModI (tOp rAddI (tOp rAddI (tOp rMulI (tAt K 1) (tC (.int 48271))) (tOp rMulI (tC (.int 1009)) (tAt K 2))) (tC (.int 7))) (tC (.int 2147483647))) (gSub (tVar 0) (tC (.int 1)) rSetL))
  (t_draw2 K)))
theorem at_ok {K : PySem.W.Frag} {σ : L2.St} {H : Hp} {Q : VK} {a : Addr} {xs : List V} {i : Int} {v : V} (h0 : σ[0]? = some (some (.ref a))) (h1 : H a = some (.lst xs)) (h2 : atI xs i = some v) (q : Q v H) : tAt K i σ H Q :=
  ⟨_, h0, a, xs, i, v, rfl, rfl, SqL.of h1, h2, q⟩
theorem set_ok {σ : L2.St} {H : Hp} {v : V} {a : Addr} {xs : List V} {i : Int} {j : Nat} {Q : L2.St → Hp → Prop} (h0 : σ[0]? = some (some (.ref a))) (h1 : H a = some (.lst xs)) (h2 : ixN xs.length i = some j) (q : Q σ (upd H a (.lst (xs.set j v)))) : gSub (tVar 0) (tC (.int i)) rSetL v σ H Q :=
  ⟨_, h0, a, xs, i, j, rfl, rfl, h1, h2, q⟩
theorem if_t {t : TT} {u v : TS} {D : Ends} {σ : L2.St} {H : Hp} (h : t σ H fun b H1 => if b = true then u D σ H1 else v D σ H1) : tIfS t u v D σ H := h
theorem pick_t {b : Bool} {A B : Prop} (hb : b = true) (h : A) : if b = true then A else B := by rw [if_pos hb]; exact h
theorem pick_f {b : Bool} {A B : Prop} (hb : b = false) (h : B) : if b = true then A else B := by rw [hb, if_neg Bool.false_ne_true]; exact h
theorem draw3_ok {H : Hp} {Q : VK} {x : L2.St → Hp → Prop} {σ : L2.St} {m n : Int} (c1 : 0 ≤ m) (c2 : m < 2147483629) (n1 : 0 < n) (e1 : σ[1]? = some (some (.int n))) (e3 : σ[3]? = some (some (.int m))) (hl : σ.length = 4) (q : ∀ r, 0 ≤ r → r < n → Q (.int r) H) : t_draw3 { nx := x, rt := Q } σ H := by
  refine ⟨_, e3, _, e3, m, m, rfl, rfl, .inl ⟨by omega, by omega⟩, _, e3, 40014, m, rfl, rfl, .inl ⟨by decide, by decide⟩, _, _, rfl, rfl, _, _, rfl, rfl, (show (0 : Int) < 2147483587 by decide), ?_⟩
  refine ⟨_, List.getElem?_set_self (by omega), _, _, rfl, rfl, (show CDiv _ _ from ⟨by decide, by decide⟩), _, by rw [List.getElem?_set_ne (by decide)]; exact e1, _, _, rfl, rfl, n1, ?_⟩
  exact q _ (Int.emod_nonneg _ (by omega)) (Int.emod_lt_of_pos _ n1)
theorem draw2_ok {K : PySem.W.Frag} {H : Hp} {Q : VK} {x : L2.St → Hp → Prop} {σ : L2.St} {a : Addr} {i j k n : Int} (h : H a = some (.lst [.int i, .int j, .int k])) (b1 : 0 ≤ j) (b2 : j < 2147483647) (n1 : 0 < n) (e0 : σ[0]? = some (some (.ref a))) (es : σ = [some (.ref a), some (.int n), none, none])
    (q : ∀ r, 0 ≤ r → r < n → Q (.int r) H) : t_draw2 K { nx := x, rt := Q } σ H := by
  subst es
  refine at_ok rfl h (v := .int j) rfl ?_
  refine at_ok rfl h (v := .int j) rfl ?_
  refine ⟨j, j, rfl, rfl, .inl ⟨by omega, by omega⟩, ?_⟩
  refine at_ok rfl h (v := .int j) rfl ?_
  refine ⟨69621, j, rfl, rfl, .inl ⟨by decide, by decide⟩, _, _, rfl, rfl, _, _, rfl, rfl, _, _, rfl, rfl, (show (0 : Int) < 2147483629 by decide), ?_⟩
  exact draw3_ok (n := n) (Int.emod_nonneg _ (by decide)) (Int.emod_lt_of_pos _ (by decide)) n1 rfl rfl rfl q
theorem pure_draw {K : PySem.W.Frag} {N : List Str} (hN : N.length = 4) (vs : List V) (H : Hp) (Q : VK) (E : XK) (h : spDraw vs H Q E) : t_draw K { nx := fun _ H' => Q .non H', rt := Q } (L2.start N vs) H := by
  obtain ⟨a, i, j, k, n, rfl, ha, j1, j2, n1, n2, q⟩ := h
  have es : L2.start N [.ref a, .int n] = [some (.ref a), some (.int n), none, none] := by
    unfold L2.start; rw [hN]; rfl
  rw [es]
  refine at_ok rfl ha (v := .int i) rfl ?_
  refine ⟨i, 0, rfl, rfl, _, rfl, ?_⟩
  by_cases hi : 0 < i
  · refine pick_t (decide_eq_true hi) ?_
    refine at_ok rfl ha (v := .int i) rfl ?_
    refine ⟨_, rfl, i, n, rfl, rfl, n1, ?_⟩
    refine at_ok rfl ha (v := .int i) rfl ?_
    refine ⟨_, rfl, i, n, rfl, rfl, ⟨n1, n2⟩, ?_⟩
    refine set_ok (j := 0) rfl ha rfl ?_
    refine ⟨_, rfl, ?_⟩
    exact q (i % n) (i / n) j k (Int.emod_nonneg _ (by omega)) (Int.emod_lt_of_pos _ n1) j1 j2
  · refine pick_f (decide_eq_false hi) ?_
    refine at_ok rfl ha (v := .int k) rfl ?_
    refine ⟨k, 1, rfl, rfl, ?_⟩
    refine set_ok (j := 2) rfl ha rfl ?_
    have h1 : upd H a (.lst [.int i, .int j, .int (k + 1)]) a = some (.lst [.int i, .int j, .int (k + 1)]) := upd_same
    refine at_ok rfl h1 (v := .int j) rfl ?_
    refine ⟨j, 48271, rfl, rfl, .inr ⟨by decide, by decide⟩, ?_⟩
    refine at_ok rfl h1 (v := .int (k + 1)) rfl ?_
    refine ⟨1009, k + 1, rfl, rfl, .inl ⟨by decide, by decide⟩, _, _, rfl, rfl, _, _, rfl, rfl, _, _, rfl, rfl, (show (0 : Int) < 2147483647 by decide), ?_⟩
    refine set_ok (j := 1) rfl h1 rfl ?_
    refine draw2_ok (a := a) (i := i) (k := k + 1) (n := n) upd_same (Int.emod_nonneg _ (by decide)) (Int.emod_lt_of_pos _ (by decide)) n1 rfl rfl fun m m1 m2 => ?_
    rw [upd_upd]
    exact q m i _ (k + 1) m1 m2 (Int.emod_nonneg _ (by decide)) (Int.lt_trans (Int.emod_lt_of_pos _ (by decide)) (by decide))
end Py

/-! RH: the facts of a head with the module table's address; the end of a law. -/
namespace Py
open PySem PySem.Spec PyProof.Rows L2
variable [Wd]

theorem RoomG.u1 {n : Nat} {B : Around} (q : RoomG n B) : B.units + 1 < cLine := by have := q.room.un; omega
theorem RoomG.u64 {n : Nat} {B : Around} (q : RoomG n B) : B.units + 64 < cLine := by have := q.room.un; omega
theorem RoomG.u66 {n : Nat} {B : Around} (q : RoomG n B) : B.units + 66 < cLine := by have := q.room.un; omega

def reach (g : Addr → Option Obj) (n : Nat) : List Addr := sysModules :: He.asD g n
abbrev Seen : Type := He.AlD × Bool
def seenIn (fa : List He.Fa) (fn : List He.DefD) (K : PySem.W.Frag) : Seen := (He.obsD fa fn K, (K.lookup sysModules).isSome)
def seenG (n : Nat) (fa : List He.Fa) (fn : List He.DefD) (g : Addr → Option Obj) : Seen := seenIn fa fn (He.frG g (reach g n))
def hookT (n : Nat) (fa : List He.Fa) (fn : List He.DefD) : PySem.W.Hook where
  α := Seen
  val := fun _ => (He.valD fn, true)
  obs := fun s => seenG n fa fn s.heap.get?
  says := fun _ h => ∃ K : PySem.W.Frag, K.In h ∧ seenIn fa fn K = (He.valD fn, true)
  keeps := fun _ _ _ ⟨K, hK, c⟩ k => ⟨K, hK.keeps k, c⟩
  of := fun _ _ e => ⟨_, He.frG_in, e⟩
theorem seenG_eq {n : Nat} {fa : List He.Fa} {fn : List He.DefD} {g : Addr → Option Obj} {s : Shared} (h : ∀ a, g a = s.heap.get? a) : seenG n fa fn g = (hookT n fa fn).obs s := by
  rw [show g = s.heap.get? from funext h]; rfl
theorem seen_says {fa : List He.Fa} {fn : List He.DefD} {K : PySem.W.Frag} (h : seenIn fa fn K = (He.valD fn, true)) : He.SaysD fa fn K ∧ ∃ o, K.lookup sysModules = some o := by
  refine ⟨congrArg (fun z : Seen => z.1) h, ?_⟩
  have e : (K.lookup sysModules).isSome = true := congrArg (fun z : Seen => z.2) h
  exact Option.isSome_iff_exists.mp e
/-- the script as data -/
theorem scr_den {K : PySem.W.Frag} {H : Hp} {a : Addr} {ns : List Int} (h : SqL K H a (ns.map V.int)) : Den K (fun _ => False) H (.ref a) (.scr ns) := by
  rcases h with h | ⟨o, its, n, h1, h2, h3, h4, h5, h6⟩
  · exact .scr (fun z => z) h
  · exact .scrK h1 h2 h3 h4 h5 h6
theorem spD_law {K : PySem.W.Frag} {mg : Str → Option Value} {z : Bool} {F : List D → M D} {H : Hp} {a : Addr} {ns : List Int} (h : SqL K H a (ns.map V.int)) (ht : LamX.Tabs Wd.T H) (w : (F [.scr ns]).wp (fun d => d = .bl true) (fun _ => False)) :
    spD K mg z 1 F [.ref a] H (fun v _ => v = .bl true) fun _ _ _ => False := by
  refine ⟨rfl, fun _ => False, [.scr ns], ⟨fun _ z => z.elim, ht⟩, .cons (scr_den h) .nil, M.wp_mono w (fun d e v H' g x => ?_) fun _ z => z.elim⟩
  subst e
  cases x
  rfl
theorem exc_of {K : PySem.W.Frag} {h : Heap} {mg : Str → Option Value} {x : Str} (X : K.In h) (G : h.Ns mainGlobals mg) (c : (He.Fa.exc x).ok K = true) (c2 : (He.Fa.glo x).ok K = true) : ExcF K mg x (He.ga K x) := by
  obtain ⟨a, b, d, e⟩ := He.exc_ok c
  exact ⟨a, b, d, e, He.glo_ok X G c2⟩
end Py

/-! RH2: a head's facts by a narrow reach (level by level). -/
namespace Py
open PySem PySem.Spec PyProof.Rows L2
variable [Wd]
/-- what a level names: a dict's values; a def's code and defaults; a class's own names; an object's fields -/
def refsS (o : Obj) : List Addr := match o.data with
  | .dict es _ => es.toList.flatMap fun e => He.refV e.val
  | .func fd => He.refV fd.code ++ (He.refV fd.defaults ++ (He.refV fd.kwdefaults ++ fd.closure.map (·.2)))
  | .cls cd => [cd.ns]
  | .fields vs => vs.toList.flatMap He.refV
  | .seq its _ => its.toList.flatMap He.refV
  | _ => []
def nextS (g : Addr → Option Obj) (as : List Addr) : List Addr := as.flatMap fun a => match g a with
  | some o => refsS o
  | none => []
/-- levels: classes ahead (they are looked up most) -/
def isClsG (g : Addr → Option Obj) (a : Addr) : Bool := match g a with
  | some ⟨_, _, .cls _, _⟩ => true
  | _ => false
def levels (g : Addr → Option Obj) : Nat → List Addr → List Addr
  | 0, as => as
  | n + 1, as => as ++ levels g n (nextS g as)
def reach2 (g : Addr → Option Obj) (n : Nat) : List Addr :=
  let l1 := nextS g [mainGlobals]
  mainGlobals :: sysModules :: cStatics :: (l1.filter (isClsG g) ++ levels g n (l1.filter (fun a => isClsG g a) |> nextS g) ++ levels g 2 (l1.filter (fun a => !isClsG g a)))
def seenG2 (n : Nat) (fa : List He.Fa) (fn : List He.DefD) (g : Addr → Option Obj) : Seen := seenIn fa fn (He.frG g (reach2 g n))
def hookT2 (n : Nat) (fa : List He.Fa) (fn : List He.DefD) : PySem.W.Hook where
  α := Seen
  val := fun _ => (He.valD fn, true)
  obs := fun s => seenG2 n fa fn s.heap.get?
  says := fun _ h => ∃ K : PySem.W.Frag, K.In h ∧ seenIn fa fn K = (He.valD fn, true)
  keeps := fun _ _ _ ⟨K, hK, c⟩ k => ⟨K, hK.keeps k, c⟩
  of := fun _ _ e => ⟨_, He.frG_in, e⟩
theorem seenG2_eq {n : Nat} {fa : List He.Fa} {fn : List He.DefD} {g : Addr → Option Obj} {s : Shared} (h : ∀ a, g a = s.heap.get? a) : seenG2 n fa fn g = (hookT2 n fa fn).obs s := by
  rw [show g = s.heap.get? from funext h]; rfl
end Py

/-! RY: heads with tables of code objects and further facts; the end of a law with such. -/
namespace Py
open PySem PySem.Spec PyProof.Rows L2

/-! ### the Hook -/
structure SaysY (fa : List He.Fa) (fn : List He.DefD) (tf : List He.Defn) (ex : PySem.W.Frag → Bool) (h : Heap) (K : PySem.W.Frag) : Prop where
  d : He.SaysD fa fn K
  more : ex K = true
  sys : ∃ o, K.lookup sysModules = some o
  hd : ∀ p ∈ tf, PySem.W.codeHdIn K (He.cT K p).1 (He.cT K p).2 = true
  out : ∀ p ∈ tf, K.lookup (He.cT K p).2 = none
  empty : ∀ p ∈ tf, h.get? (He.cT K p).2 = some { cls := .none, data := .fields #[] }
def obsYK (fa : List He.Fa) (fn : List He.DefD) (tf : List He.Defn) (ex : PySem.W.Frag → Bool) (g : Addr → Option Obj) (K : PySem.W.Frag) : Seen := (He.obsD fa fn K, (K.lookup sysModules).isSome && (ex K && He.tabsB g tf K))
def obsY (n : Nat) (fa : List He.Fa) (fn : List He.DefD) (tf : List He.Defn) (ex : PySem.W.Frag → Bool) (g : Addr → Option Obj) : Seen := obsYK fa fn tf ex g (He.frT g (reach2 g n))
theorem saysY_of {n : Nat} {fa : List He.Fa} {fn : List He.DefD} {tf : List He.Defn} {ex : PySem.W.Frag → Bool} {h : Heap} (e : obsY n fa fn tf ex h.get? = (He.valD fn, true)) : SaysY fa fn tf ex h (He.frT h.get? (reach2 h.get? n)) := by
  unfold obsY at e
  generalize hK : He.frT h.get? (reach2 h.get? n) = K at e ⊢
  have e1 : He.obsD fa fn K = He.valD fn := congrArg (fun z : Seen => z.1) e
  have e2 : ((K.lookup sysModules).isSome && (ex K && He.tabsB h.get? tf K)) = true := congrArg (fun z : Seen => z.2) e
  rw [Bool.and_eq_true, Bool.and_eq_true] at e2
  obtain ⟨s1, s2, s3⟩ := e2
  have key : ∀ p ∈ tf, PySem.W.codeHdIn K (He.cT K p).1 (He.cT K p).2 = true ∧ ∃ o, h.get? (He.cT K p).2 = some o ∧ He.emptyTab o = true := by
    intro p hp
    have q := List.all_eq_true.mp s3 p hp
    rw [Bool.and_eq_true] at q
    refine ⟨q.1, ?_⟩
    have q2 := q.2
    cases z : h.get? (He.cT K p).2 with
    | none => rw [z] at q2; cases q2
    | some o => rw [z] at q2; exact ⟨o, rfl, q2⟩
  refine ⟨e1, s2, Option.isSome_iff_exists.mp s1, fun p hp => (key p hp).1, fun p hp => ?_, fun p hp => ?_⟩
  · obtain ⟨_, o, q, z⟩ := key p hp
    rw [← hK] at q ⊢
    exact He.frT_none q z
  · obtain ⟨_, o, q, z⟩ := key p hp
    rw [q, He.emptyTab_eq z]
def hookY (n : Nat) (fa : List He.Fa) (fn : List He.DefD) (tf : List He.Defn) (ex : PySem.W.Frag → Bool) : PySem.W.Hook where
  α := Seen
  val := fun _ => (He.valD fn, true)
  obs := fun s => obsY n fa fn tf ex s.heap.get?
  says := fun _ h => ∃ K : PySem.W.Frag, K.In h ∧ SaysY fa fn tf ex h K
  keeps := fun _ _ _ ⟨K, hK, c⟩ k => ⟨K, hK.keeps k, ⟨c.d, c.more, c.sys, c.hd, c.out, fun p hp => k _ _ (c.empty p hp)⟩⟩
  of := fun _ _ e => ⟨_, He.frT_in, saysY_of e⟩
theorem obsY_eq {n : Nat} {fa : List He.Fa} {fn : List He.DefD} {tf : List He.Defn} {ex : PySem.W.Frag → Bool} {g : Addr → Option Obj} {s : Shared} (h : ∀ a, g a = s.heap.get? a) : obsY n fa fn tf ex g = (hookY n fa fn tf ex).obs s := by
  rw [show g = s.heap.get? from funext h]; rfl

/-! ### the law's own call, with tables -/
section
variable {P : Program} {w : World} {K : PySem.W.Frag} {mg mb : Str → Option Value} {XT : CXT} {n : Nat} {fa a : Addr} {fd : FuncData} {x : Str} {pr : Sp} {st : Shared} {vs : List Value} {ns : List Int} {ts : List (Addr × Addr)}
/-- the addresses of the tables -/
abbrev tas (ts : List (Addr × Addr)) : List Addr := ts.map (·.2)
abbrev noTab : Obj := { cls := .none, data := .fields #[] }
/-- a heap in which the script and the tables alone are told -/
structure Start (K : PySem.W.Frag) (st : Shared) (ts : List (Addr × Addr)) (a : Addr) (H : Hp) : Prop where
  tab : ∀ b ∈ tas ts, H b = some (.tbl #[])
  only : ∀ b, H b ≠ none → b ∈ tas ts ∨ (b = a ∧ K.lookup a = none ∧ ∃ o xs, H a = some (.frz o (.lst xs)))
theorem law_fromT {H : Hp} (KX : K.In st.heap) (gl : st.heap.Ns mainGlobals mg) (bl : st.heap.Ns builtinsNs mb) (bb : ∀ x : Str, x ≠ "__name__" → mb x = bootBuiltins x) (nl : st.heap.NoLimit) (ng : st.gens = #[])
    (hT : ∀ p ∈ ts, st.heap.get? p.2 = some noTab) (nT : ∀ p ∈ ts, K.lookup p.2 = none) (cd : ∀ p ∈ ts, PySem.W.CodeHd st.heap p.1 p.2)
    (bmod : ∃ (bm : Addr) (ob : Obj), mg "__builtins__" = some (.ref bm) ∧ bm ≠ builtinsNs ∧ st.heap.get? bm = some ob ∧ ob.cls = .type "module" ∧ ob.dict = some builtinsNs ∧ ob.data = .plain)
    (obj : st.heap.get? a = some { cls := .type "list", data := .seq vs.toArray }) (q : Room n callerA) (F : ∀ base : Heap, K.In base → base.Ns mainGlobals mg → (∀ p ∈ ts, LamX.TabB base mg p.1 p.2) → FnG P w K mg base XT n fa fd [x] pr)
    (bn : ∀ (s : Shared) (u : Value), BindsTo s fd ⟨[u], []⟩ [(x, u)]) (noX : ∀ e s', XT [] H st (fun _ _ _ => False) e s' → False) (B : Start K st ts a H) (want : pr [.ref a] H (fun v _ => v = .bl true) fun _ _ _ => False)
    (ok : HOk P w H st.heap) :
    codeAny (model P w) callerA (.call (.ref fa) ⟨[.ref a], []⟩) (fun r s' => r = .ok (.ret (.bool true)) ∧ OldK st.heap s'.heap ∧ s'.os = st.os ∧ AllBare s'.gens) st := by
  have isT : ∀ b ∈ tas ts, st.heap.get? b = some noTab := by
    intro b hb
    obtain ⟨p, hp, e⟩ := List.mem_map.mp hb
    rw [← e]; exact hT p hp
  -- what is neither a list nor empty fields is not told
  have free : ∀ (b : Addr) (o : Obj), st.heap.get? b = some o → (∀ its m, o.data ≠ .seq its m) → o.data ≠ .fields #[] → H b = none := by
    intro b o h1 h2 h3
    refine Classical.byContradiction fun h => ?_
    rcases B.only b h with hb | ⟨hb, _⟩
    · rw [isT b hb] at h1
      cases h1
      exact h3 rfl
    · rw [hb, obj] at h1
      cases h1
      exact h2 _ _ rfl
  have freeD : ∀ (b : Addr) (o : Obj) (es : Array DictEntry) (ep : Nat), st.heap.get? b = some o → o.data = .dict es ep → H b = none := fun b o es ep h1 h2 =>
    free b o h1 (fun its m z => by rw [h2] at z; cases z) fun z => by rw [h2] at z; cases z
  have ns_ : ∀ (b : Addr) (m : Str → Option Value), st.heap.Ns b m → (hidT st.heap H).Ns b m := by
    rintro b m ⟨o, es, ep, h1, h2, h3⟩
    exact ⟨o, es, ep, hidT_get h1 (freeD b o es ep h1 h2), h2, h3⟩
  have kb : K.In (hidT st.heap H) := by
    intro b o h1
    refine hidT_get (KX b o h1) (Classical.byContradiction fun h => ?_)
    rcases B.only b h with hb | ⟨hb, hk, _⟩
    · obtain ⟨p, hp, e⟩ := List.mem_map.mp hb
      rw [← e, nT p hp] at h1
      cases h1
    · rw [hb, hk] at h1
      cases h1
  have md : Mod K mg (hidT st.heap H) := ⟨kb, ns_ _ _ gl, ⟨mb, ns_ _ _ bl, bb⟩, by obtain ⟨mc, c1, c2⟩ := nl; exact ⟨mc, ns_ _ _ c1, c2⟩⟩
  have noF : ∀ b ∈ frs ([] : List Env), H b = none := fun b hb => by simp [frs] at hb
  have env : Env0 P w K mg (hidT st.heap H) callerA [] st H :=
    { hok := ok, bare := .of_eq ng, frf := noF, bs := (fun _ _ h => of_hidT h), funs := trivial, bsz := Nat.le_of_eq (hidT_size _ _), mod := md, frames := rfl }
  have tb : ∀ p ∈ ts, LamX.TabB (hidT st.heap H) mg p.1 p.2 := by
    intro p hp
    have at_ := hT p hp
    refine ⟨?_, ?_, ?_⟩
    · obtain ⟨o, us, f1, f2, f3, f4, f5, f6, f7, e1, e2, e3, e4, e5, e6, e7, e8, e9, e10⟩ := cd p hp
      refine ⟨o, us, f1, f2, f3, f4, f5, f6, f7, hidT_get e1 (free _ o e1 ?_ ?_), e2, e3, e4, e5, e6, e7, e8, e9, e10⟩
      · intro its m z; rw [e3] at z; cases z
      · intro z
        rw [e3] at z
        cases z
        simp at e4
    · obtain ⟨bm, ob, b1, b2, b3, b4, b5, b6⟩ := bmod
      refine ⟨bm, ob, b1, b2, ?_, ?_, hidT_get b3 (free bm ob b3 ?_ ?_), b4, b5, b6⟩
      · intro z
        obtain ⟨o, es, ep, e, d, _⟩ := gl
        rw [z, e] at b3
        cases b3
        rw [d] at b6
        cases b6
      · intro z
        rw [z, at_] at b3
        cases b3
        cases b6
      · intro its m z; rw [b6] at z; cases z
      · intro z; rw [b6] at z; cases z
    · intro z
      obtain ⟨o, es, ep, e, d, _⟩ := gl
      rw [z, at_] at e
      cases e
      cases d
  refine codeAny_mono ((F _ kb (ns_ _ _ gl) tb).run callerA [] st H ⟨[.ref a], []⟩ [.ref a] [.ref a] _ _ (caller_room q) env (bn st (.ref a)) (.cons rfl .nil) want) ?_
  intro r s' c
  match r, c with
  | .error er, c => exact (noX er s' c).elim
  | .ok .next, c => exact c.elim
  | .ok .brk, c => exact c.elim
  | .ok .cont, c => exact c.elim
  | .ok (.ret u), c =>
    obtain ⟨v, H', c1, c2, c3, c4, c5, c6⟩ := c
    have c7 : v = .bl true := c6
    rw [c7] at c5
    have c8 : u = Value.bool true := c5
    rw [c8]
    have keep : ∀ b o, b ∉ tas ts → st.heap.get? b = some o → s'.heap.get? b = some o := by
      intro b o nb h1
      by_cases h2 : H b = none
      · exact c3.keep b o h1 h2 (by intro m; cases m) (by intro m; cases m)
      · rcases B.only b h2 with hb | ⟨hb, _, ob, xs, h3⟩
        · exact absurd hb nb
        · subst hb
          have k1 := (ok b _ h3).1
          have k2 := (c4 b _ (c3.frzs b ob _ h3)).1
          rw [h1] at k1
          cases k1
          exact k2
    have grown : ∀ b ∈ tas ts, ∃ more : Array Value, s'.heap.get? b = some { cls := .none, data := .fields more } := by
      intro b hb
      obtain ⟨more, z⟩ := c3.tbls b #[] (B.tab b hb)
      exact ⟨_, c4 b _ z⟩
    refine ⟨rfl, ⟨fun b o h1 => ?_, fun b o h1 => ?_⟩, c1, c2⟩
    · by_cases hb : b ∈ tas ts
      · obtain ⟨more, hm⟩ := grown b hb
        obtain ⟨p, hp, ep⟩ := List.mem_map.mp hb
        subst ep
        rw [hT p hp] at h1
        cases h1
        exact .inr (.inl ⟨((cd p hp).tab (hT p hp)).isCodeTable, rfl, #[], more, rfl, by rw [Array.empty_append]; exact hm⟩)
      · exact .inl (keep b o hb h1)
    · by_cases hb : b ∈ tas ts
      · obtain ⟨more, hm⟩ := grown b hb
        exact ⟨_, hm⟩
      · exact ⟨o, keep b o hb h1⟩
theorem law_callGT (KX : K.In st.heap) (gl : st.heap.Ns mainGlobals mg) (bl : st.heap.Ns builtinsNs mb) (bb : ∀ x : Str, x ≠ "__name__" → mb x = bootBuiltins x) (nl : st.heap.NoLimit) (ng : st.gens = #[])
    (hT : ∀ p ∈ ts, st.heap.get? p.2 = some noTab) (nT : ∀ p ∈ ts, K.lookup p.2 = none) (cd : ∀ p ∈ ts, PySem.W.CodeHd st.heap p.1 p.2)
    (bmod : ∃ (bm : Addr) (ob : Obj), mg "__builtins__" = some (.ref bm) ∧ bm ≠ builtinsNs ∧ st.heap.get? bm = some ob ∧ ob.cls = .type "module" ∧ ob.dict = some builtinsNs ∧ ob.data = .plain)
    (obj : st.heap.get? a = some { cls := .type "list", data := .seq vs.toArray }) (hints : IntsAre vs ns) (few : ns.length ≤ sizeLine) (q : Room n callerA) (F : ∀ base : Heap, K.In base → base.Ns mainGlobals mg → (∀ p ∈ ts, LamX.TabB base mg p.1 p.2) → FnG P w K mg base XT n fa fd [x] pr)
    (bn : ∀ (s : Shared) (u : Value), BindsTo s fd ⟨[u], []⟩ [(x, u)]) (want : ∀ H : Hp, (∀ p ∈ ts, H p.2 = some (.tbl #[])) → SqL K H a (ns.map V.int) → pr [.ref a] H (fun v _ => v = .bl true) fun _ _ _ => False) (noX : ∀ H e s', XT [] H st (fun _ _ _ => False) e s' → False) :
    codeAny (model P w) callerA (.call (.ref fa) ⟨[.ref a], []⟩) (fun r s' => r = .ok (.ret (.bool true)) ∧ OldK st.heap s'.heap ∧ s'.os = st.os ∧ AllBare s'.gens) st := by
  have rel := vals_ints hints
  have isT : ∀ b ∈ tas ts, st.heap.get? b = some noTab := by
    intro b hb
    obtain ⟨p, hp, e⟩ := List.mem_map.mp hb
    rw [← e]; exact hT p hp
  have aT : a ∉ tas ts := by
    intro z
    have e := isT a z
    rw [obj] at e
    exact Data.noConfusion (show Data.seq vs.toArray _ = Data.fields #[] from congrArg Obj.data (Option.some.inj e))
  have memT : ∀ p ∈ ts, p.2 ∈ tas ts := fun p hp => List.mem_map.mpr ⟨p, hp, rfl⟩
  by_cases hk : ∃ o, K.lookup a = some o
  · obtain ⟨o, hk⟩ := hk
    have e := KX a o hk
    rw [obj] at e
    cases e
    let H : Hp := fun b => if b ∈ tas ts then some (.tbl #[]) else none
    have on_ : ∀ b ∈ tas ts, H b = some (.tbl #[]) := fun b hb => if_pos hb
    have off_ : ∀ b, b ∉ tas ts → H b = none := fun b hb => if_neg hb
    refine law_fromT (H := H) KX gl bl bb nl ng hT nT cd bmod obj q F bn (noX _) ⟨on_, fun b z => .inl (Classical.byContradiction fun hb => z (off_ b hb))⟩ (want H (fun p hp => on_ _ (memT p hp)) ?_) ?_
    · exact Or.inr ⟨_, vs.toArray, _, hk, rfl, rfl, rfl, by rw [List.size_toArray, hints.length]; exact few, by simpa using rel⟩
    · intro b u z
      by_cases hb : b ∈ tas ts
      · rw [on_ b hb] at z
        cases z
        exact isT b hb
      · rw [off_ b hb] at z
        cases z
  · have hk' : K.lookup a = none := by
      cases h : K.lookup a with
      | none => rfl
      | some o => exact absurd ⟨o, h⟩ hk
    let fr : HO := .frz { cls := .type "list", data := .seq vs.toArray } (.lst (ns.map V.int))
    let H : Hp := fun b => if b = a then some fr else if b ∈ tas ts then some (.tbl #[]) else none
    have at_a : H a = some fr := if_pos rfl
    have on_ : ∀ b ∈ tas ts, H b = some (.tbl #[]) := fun b hb => (if_neg (fun z => aT (by rw [← z]; exact hb))).trans (if_pos hb)
    have off_ : ∀ b, b ≠ a → b ∉ tas ts → H b = none := fun b h1 h2 => (if_neg h1).trans (if_neg h2)
    refine law_fromT (H := H) KX gl bl bb nl ng hT nT cd bmod obj q F bn (noX _) ⟨on_, fun b z => ?_⟩ (want H (fun p hp => on_ _ (memT p hp)) (Or.inl (Or.inr ⟨_, at_a⟩))) ?_
    · by_cases hb : b = a
      · exact .inr ⟨hb, hk', _, _, at_a⟩
      · exact .inl (Classical.byContradiction fun h2 => z (off_ b hb h2))
    · intro b u z
      by_cases hb : b = a
      · subst hb
        rw [at_a] at z
        cases z
        exact ⟨obj, by rw [List.length_map]; exact few, vs, _, rel, obj⟩
      · by_cases h2 : b ∈ tas ts
        · rw [on_ b h2] at z
          cases z
          exact isT b h2
        · rw [off_ b hb h2] at z
          cases z
end
/-- the end of a law row, with tables -/
theorem walk_GT {l : PySem.W.OpenLaw} {m n : Nat} {q : Program} {loose : List Str} {XP : (Str → Option Value) → Heap → Prop} {YP : World → Heap → Prop} {d : DefRec} {XT : World → CXT} {x : Str}
    (most : l.most = some m) (few : m ≤ sizeLine) (nodef : d.params.defaults = []) (room : Room n callerA)
    (F : ∀ (w : World) (mg : Str → Option Value) (fa : Addr) (h : Heap), YP w h → h.Ns mainGlobals mg → mg d.name = some (.ref fa) →
      ∃ (K : PySem.W.Frag) (fd : FuncData) (ts : List (Addr × Addr)) (pr : Sp), K.In h ∧ (∀ p ∈ ts, h.get? p.2 = some noTab) ∧ (∀ p ∈ ts, K.lookup p.2 = none) ∧ (∀ p ∈ ts, PySem.W.CodeHd h p.1 p.2) ∧ (∀ (s : Shared) (u : Value), BindsTo s fd ⟨[u], []⟩ [(x, u)]) ∧
        (∀ (H : Hp) (a : Addr) (ns : List Int), ns.length ≤ m → (∀ p ∈ ts, H p.2 = some (.tbl #[])) → SqL K H a (ns.map V.int) → pr [.ref a] H (fun v _ => v = .bl true) fun _ _ _ => False) ∧
        ∀ base : Heap, K.In base → base.Ns mainGlobals mg → (∀ p ∈ ts, LamX.TabB base mg p.1 p.2) → FnG l.prog w K mg base (XT w) n fa fd [x] pr)
    (noX : ∀ (w : World) (H : Hp) (s : Shared) (e : Value) (s' : Shared), XT w [] H s (fun _ _ _ => False) e s' → False) :
    PySem.W.WalkO q loose XP YP l.row.toRowW d [] (fun f vs => PySem.call f vs) := by
  apply Att.attach_call most nodef
  intro w s0 s1 mg mb fa o pm cd doc a vs ns T Y h1 h2 h3 h4 h5 h6 h7 h8
  obtain ⟨K, fd, ts, pr, inK, hT, nT, hC, bn, want, G⟩ := F w mg fa _ Y T.T.g h4
  exact law_callGT inK T.T.g T.T.b T.T.builtins T.T.nolimit h8 hT nT hC T.T.bmain h5 h6 (Nat.le_trans h7 few) room G bn (fun H hO hS => want H a ns h7 hO hS) (fun H e s' => noX w H s1 e s')
end Py

/-! RX: small facts for the printed walks with exceptions and lambdas. -/
namespace Py
open PySem PySem.Spec PyProof.Rows L2
theorem RoomW.u1 {n : Nat} {B : Around} (q : RoomW n B) : B.units + 1 < cLine := by have := q.un; omega
theorem RoomW.u64 {n : Nat} {B : Around} (q : RoomW n B) : B.units + 64 < cLine := by have := q.un; omega
theorem RoomW.u66 {n : Nat} {B : Around} (q : RoomW n B) : B.units + 66 < cLine := by have := q.un; omega
theorem preprW [Wd] {X : Cx} {p pos : Pos} {e : Expr} {es : List Expr} {t : TA} {o : Obj} {n : Nat} (B : Bf X.mg) (KS : X.K.lookup sysModules = some o) (hr : RoomW n X.A) (ha : PA X (e :: es) t) (hu : X.A.units + 64 < cLine) (hg : Gl X "repr" := by rfl) (he : starEach (e :: es) X.env = (false, eval e X.env) :: starEach es X.env := by rfl) (hpl : (backTo pos (starEach es X.env)).any (·.1) = false := by rfl) :
    PE X (.Call (.Name "repr" p) (e :: es) [] pos) (tCB (uCb X.K reprD) t) := pe_callB (u_repr KS hr.bare hu) hg B.repr boot_fns.2.2.2.2.2.2.2 ha (by decide) (by decide) he hpl
theorem sim_callK [Wd] {K : PySem.W.Frag} {z : Bool} {mg : Str → Option Value} {H : Hp} {S : Addr → Prop} {E : XK} {fx : Nat → Option Addr} {ta : TA} {a : CA} {n : Nat} {F : List D → M D} (ha : SimA ⟨K, z, mg, H, S, E, fx⟩ ta a) : SimE ⟨K, z, mg, H, S, E, fx⟩ (tCall (spD K mg z n F) [] E ta) (cCall n F a) := sim_call ha
theorem ps_never {X : Cx} {st : Stmt} : PS X st tNever := ⟨fun _ _ _ _ _ _ h => h.elim⟩
def tNevE : TE := fun _ _ _ => False
def cNevE : CE := fun _ => .stuck
theorem pe_never {X : Cx} {e : Expr} : PE X e tNevE := ⟨fun _ _ _ _ _ _ h => h.elim⟩
theorem sim_neverE [Wd] {f : Cf} : SimE f tNevE cNevE := fun P O σ H ρ Q r w => w
/-- what isinstance asks of an exception class, checked -/
def excCB (K : PySem.W.Frag) (D : Addr) : Bool :=
  decide (PySem.W.findIn K (.ref D) "__getattribute__" = some (some (.builtin "BaseException.__getattribute__"))) && (decide (PySem.W.findIn K (.ref D) "__getattr__" = some none) && (decide (PySem.W.subIn K (.ref D) (.type "BaseException") = some true) && (PySem.W.hasDictIn K D &&
  (decide (PySem.W.findIn K (.ref D) "__class__" = some (some (.builtin "object.__class__"))) && (decide (PySem.W.specialIn K (.builtin "object.__class__") "__get__" = some (some (.builtin "getset_descriptor.__get__"))) && (decide (PySem.W.takesIn K (.builtin "object.__class__") = some true) && decide (PySem.W.mroIn K D (.type "object") = some true)))))))
theorem excCB_ok {K : PySem.W.Frag} {D : Addr} (h : excCB K D = true) : ExcC K D := by
  unfold excCB at h
  simp only [Bool.and_eq_true, decide_eq_true_eq] at h
  obtain ⟨h1, h2, h3, h4, h5, h6, h7, h8⟩ := h
  exact ⟨h1, h2, h3, h4, h5, h6, h7, h8⟩
def xsB (K : PySem.W.Frag) (tv : Value) (cs : List (Str × Bool)) : Bool := cs.all fun p => decide (PySem.W.kitOne K (.ref (He.ga K p.1)) tv = some p.2) && excCB K (He.ga K p.1)
theorem xsB_ok {K : PySem.W.Frag} {tv : Value} {cs : List (Str × Bool)} (h : xsB K tv cs = true) : XsF K tv cs := ⟨fun p hp => by
  have q := List.all_eq_true.mp h p hp
  rw [Bool.and_eq_true, decide_eq_true_eq] at q
  exact ⟨q.1, excCB_ok q.2⟩⟩
def exmB (K : PySem.W.Frag) (t : Str) (cs : List Str) : Bool := cs.all fun c => decide (PySem.W.exmOne K (.ref (He.ga K c)) (.ref (He.ga K t)) = some true)
theorem exmB_ok {K : PySem.W.Frag} {t : Str} {cs : List Str} (h : exmB K t cs = true) : ∀ c ∈ cs, PySem.W.exmOne K (.ref (He.ga K c)) (.ref (He.ga K t)) = some true := fun c hc => by
  have q := List.all_eq_true.mp h c hc
  simpa using q
theorem sim_isX [Wd] {f : Cf} {t : Str} {cs : List (Str × Bool)} {te : TE} {a : CE} (T : XsF f.K (.ref (He.ga f.K t)) cs) (ha : SimC f te a) : SimE f (tCB (rIsX f.K (.ref (He.ga f.K t))) (tCons te (tCons (tC (.ref (He.ga f.K t))) tNil))) (cUn (isExcD cs) a) := sim_isExc T (fun _ h => h) ha
theorem sim_isXv [Wd] {f : Cf} {cs : List (Str × Bool)} {te : TE} {a : CE} (T : XsF f.K (.type "ValueError") cs) (ha : SimC f te a) : SimE f (tCB (rIsX f.K (.type "ValueError")) (tCons te (tCons (tC (.ty "ValueError")) tNil))) (cUn (isExcD cs) a) := sim_isExc T (fun _ h => h) ha
/-- the tables of the defs tf, the names of their lambdas -/
def tabT (K : PySem.W.Frag) (tf : List (He.Defn × Str)) : List (Addr × Str) := tf.map fun p => ((He.cT K p.1).2, p.2)
def tabND (K : PySem.W.Frag) (tf : List (He.Defn × Str)) : Bool := decide ((tf.map fun p => (He.cT K p.1).2).Nodup)
theorem tabT_mem {K : PySem.W.Frag} {tf : List (He.Defn × Str)} {p : He.Defn × Str} (h : p ∈ tf) : ((He.cT K p.1).2, p.2) ∈ tabT K tf := List.mem_map.mpr ⟨p, h, rfl⟩
theorem tabT_uniq {K : PySem.W.Frag} : ∀ {tf : List (He.Defn × Str)} {p : He.Defn × Str}, (tf.map fun p => (He.cT K p.1).2).Nodup → p ∈ tf → ∀ q ∈ tabT K tf, q.1 = (He.cT K p.1).2 → q.2 = p.2
  | [], p, _, h => nomatch h
  | r :: tf, p, nd, h => fun q hq e => by
    rw [List.map_cons, List.nodup_cons] at nd
    rcases List.mem_cons.mp h with h | h
    · subst h
      rcases List.mem_cons.mp hq with hq | hq
      · rw [hq]
      · obtain ⟨r', hr', er⟩ := List.mem_map.mp hq
        exact absurd (List.mem_map.mpr ⟨r', hr', by rw [← e, ← er]⟩) nd.1
    · rcases List.mem_cons.mp hq with hq | hq
      · rw [hq] at e
        exact absurd (List.mem_map.mpr ⟨p, h, e.symm⟩) nd.1
      · exact tabT_uniq nd.2 h q hq e
theorem tabT_tabs {K : PySem.W.Frag} {tf : List (He.Defn × Str)} {H : Hp} (h : ∀ p ∈ tf, H (He.cT K p.1).2 = some (.tbl #[])) : LamX.Tabs (tabT K tf) H := fun q hq => by
  obtain ⟨p, hp, e⟩ := List.mem_map.mp hq
  rw [← e]
  exact LamX.TabS.nil (h p hp)
/-- a def's code object -/
theorem fun_code {K : PySem.W.Frag} {x qual : Str} {params : Arguments} {body : List Stmt} {scope : Scope} {dvs : List V} {kws : List (Str × V)} {fd : FuncData} {p : He.Defn} (F : FunD K x qual params body scope dvs kws (He.fAd K p) fd) : fd.code = .ref (He.cT K p).1 := by
  obtain ⟨_, _, dV, kV, doc, pm, an, cv, ct, _, efd, look, code, _, _⟩ := F.ex
  subst efd
  obtain ⟨c, e⟩ := He.codeIn_ref code
  subst e
  show Value.ref c = _
  have := He.codeOf_eq look rfl
  show Value.ref c = Value.ref (He.codeOf K p)
  rw [this]
/-- a statement that is taken as never reached (its number in the printer's list) -/
def cNevL (n : Nat) : CS := fun _ => .stuck
theorem sim_nevL [Wd] {f : Cf} {n : Nat} : SimS f tNever (cNevL n) := fun P O σ H ρ E r w => w
end Py

/-! RLs: list(x) of lists, tuples and texts. -/
namespace Py
open PySem PySem.Spec PyProof.Rows L2
variable [Wd]
def lsD : List D → Option D
  | [.lst xs] => some (.lst xs)
  | [.tup xs] => some (.lst xs)
  | [.str x] => if x.length ≤ LIM then some (.lst (x.cps.toList.map fun c => .str ⟨#[c]⟩)) else none
  | _ => none
theorem dens_signs {K : PySem.W.Frag} {O : Addr → Prop} {H : Hp} : ∀ cs : List Nat, Dens K O H (cs.map fun c => V.str ⟨#[c]⟩) (cs.map fun c => D.str ⟨#[c]⟩)
  | [] => .nil
  | c :: r => .cons (.str _) (dens_signs r)
theorem u_ls {X : Cx} (hc : X.calm = true) : CallR X (.type "list") (uCb X.K lsD) := by
  intro pins s σ H xs us Q I r h
  obtain ⟨H0, O, ds, z, hd, hx, e, q⟩ := h
  unfold lsD at e
  split at e
  · cases e
    obtain ⟨v, rfl, hv⟩ := hx.one
    obtain ⟨a, vs, rfl, ha, sa⟩ := hv.lst
    exact call_list_of pins s σ H _ us Q I r ⟨a, vs, rfl, .inl (SqL.of ha), fun p hp => q _ _ (Grow.new hp) (.lst (off_new hd hp) upd_same (sa.ext (Grow.new hp).ext))⟩
  · cases e
    obtain ⟨v, rfl, hv⟩ := hx.one
    obtain ⟨a, vs, rfl, ha, sa⟩ := hv.tup
    exact call_list_of pins s σ H _ us Q I r ⟨a, vs, rfl, .inr ha, fun p hp => q _ _ (Grow.new hp) (.lst (off_new hd hp) upd_same (sa.ext (Grow.new hp).ext))⟩
  · rename_i x
    split at e
    · rename_i hl
      cases e
      obtain ⟨v, rfl, hv⟩ := hx.one
      cases hv.str
      obtain ⟨u, rfl, t, rfl⟩ := vals1 r
      have hz : x.cps.size ≤ sizeLine := lim_line hl
      refine call_list_str (I.ok.hd hc) x t (hn := hz) fun h' tk acc' c' hk hS' hacc => ?_
      refine ⟨.ref s.heap.objs.size, upd H s.heap.objs.size (.lst (x.cps.toList.map fun c => V.str ⟨#[c]⟩)), I.laid hk (Nat.le_refl _) (show ObjOk X.prog X.w _ _ _ (.lst (x.cps.toList.map fun c => V.str ⟨#[c]⟩)) from ⟨?_, acc'.toList, c', ?_, ?_⟩), rfl, ?_⟩
      · rw [List.length_map]; simpa using hz
      · refine vals_of_at (by simp [hacc.1]) fun j y v h1 h2 => ?_
        obtain ⟨c, u, hcc, rfl⟩ := hacc.2 j v (by simpa using h2)
        rw [List.getElem?_map] at h1
        have : x.cps.toList[j]? = some c := by simpa using hcc
        rw [this] at h1
        cases h1
        exact ⟨u, rfl⟩
      · simpa using hS'
      · have hp := I.hok.fresh (Nat.le_refl s.heap.objs.size)
        exact q _ _ (Grow.new hp) (.lst (off_new hd hp) upd_same (dens_signs _))
    · cases e
  · cases e
theorem plistS {X : Cx} {p pos : Pos} {e : Expr} {es : List Expr} {t : TA} (B : Bf X.mg) (hc : X.calm = true) (ha : PA X (e :: es) t) (hg : Gl X "list" := by rfl)
    (he : starEach (e :: es) X.env = (false, eval e X.env) :: starEach es X.env := by rfl) (hpl : (backTo pos (starEach es X.env)).any (·.1) = false := by rfl) : PE X (.Call (.Name "list" p) (e :: es) [] pos) (tCB (uCb X.K lsD) t) :=
  pe_callTy (u_ls hc) hg B.list boot_tys.2.2.1 ha (by decide) (by decide) he hpl
end Py

/-! RT: while, a, *b = xs, walks over zip and enumerate. -/
namespace Py
open PySem PySem.Spec PyProof.Rows L2
variable [Wd]

/-! ### while -/
def loopW (t : CT) (b : CS) : Nat → Rho → M Out
  | 0, _ => .stuck
  | n + 1, ρ => (t ρ).bind fun x => if x = true then (b ρ).bind (turnOut (loopW t b n)) else .ret (.next ρ)
def cWhile (n : Nat) (t : CT) (b : CS) : CS := loopW t b n
theorem sim_while {f : Cf} {tt : TT} {tb : TS} {c : CT} {b : CS} (n : Nat) (hc : SimT f tt c) (hb : SimS f tb b) : SimS f (tWhile tt tb) (cWhile n c b) := fun P O σ H ρ E r w => by
  refine ⟨fun m σ' H' => ∃ O' ρ', f.Rel P O' σ' H' ρ' ∧ (loopW c b m ρ').wp (post f P E) (XP f), ⟨n, O, ρ, r, w⟩, ?_⟩
  rintro m σ' H' ⟨O', ρ', r', w'⟩
  cases m with
  | zero => exact w'.elim
  | succ m =>
    refine hc P O' σ' H' ρ' _ r' (M.wp_mono (M.wp_bind.mp w') (fun x w1 H1 g1 => ?_) fun _ z => z)
    cases x with
    | true =>
      rw [if_pos rfl] at w1 ⊢
      refine ⟨fun σ2 H2 => ∃ O2 ρ2, f.Rel P O2 σ2 H2 ρ2 ∧ (loopW c b m ρ2).wp (post f P E) (XP f), fun σ2 H2 h => ⟨m, Nat.lt_succ_self m, h⟩, ?_⟩
      refine hb P O' σ' H1 ρ' _ (r'.growTo g1) (M.wp_mono (M.wp_bind.mp w1) (fun o h => ?_) fun _ z => z)
      cases o with
      | next ρ3 => exact fun O3 σ3 H3 r4 => ⟨O3, ρ3, r4, h⟩
      | cont ρ3 => exact fun O3 σ3 H3 r4 => ⟨O3, ρ3, r4, h⟩
      | brk ρ3 => exact fun O3 σ3 H3 r4 => h O3 σ3 H3 r4
      | ret d3 => exact h
    | false =>
      rw [if_neg Bool.false_ne_true] at w1 ⊢
      exact w1 O' σ' H1 (r'.growTo g1)

/-! ### a, *b = xs -/
section
variable {prog : Program} {w : World} {A : Around} {E : Value → Shared → Prop} {s : Shared}
theorem star_items {l : Addr} {x : Value} {r : List Value} {Q : List Value → Shared → Prop} (hl : s.heap.IsList l (x :: r).toArray) (hh : A.handled = none) (hz : r.length < sizeLine)
    (h : ∀ D h' tk, s.heap.get? D = none → (∀ b o, s.heap.get? b = some o → h'.get? b = some o) → h'.get? D = some { cls := .type "list", data := .seq r.toArray } → Q [x, .ref D] { s with heap := h', toks := tk }) : wpAny (model prog w) A (unpackItems (.ref l) 2 (some 1)) Q E s := by
  have hlt : l ≠ s.heap.objs.size := by obtain ⟨o, ho, _⟩ := hl; exact Nat.ne_of_lt (Heap.lt_size ho)
  have hll : l < s.heap.objs.size := by obtain ⟨o, ho, _⟩ := hl; exact Heap.lt_size ho
  have hsz : (x :: r).toArray.size = r.length + 1 := by simp
  unfold unpackItems
  refine wpAny_bind ?_
  unfold notIterableAtAll
  refine wpAny_bind (wpAny_specialOf hl.typeIs slot_list_iter.lookup ?_)
  refine wpAny_pure ?_
  simp only [Bool.false_eq_true, if_false]
  refine wpAny_bind (wpAny_holding (wpAny_pyIter_list hl ?_))
  refine wpAny_bind (wpAny_holding (PySem.W.kun_draw hlt 1 0 _ _ ⟨_, Heap.get?_push_size _ rfl, rfl, rfl⟩ (hl.push _) (by omega) fun h₁ hit₁ hs₁ => ?_))
  have hl₁ : h₁.IsList l (x :: r).toArray := (hl.push _).extBut hs₁.extBut hlt
  rw [Nat.zero_add] at hit₁
  have hit₁' := hit₁
  obtain ⟨oi, hoi, _⟩ := hit₁'
  have hl₁' := hl₁
  obtain ⟨ol, hol, _⟩ := hl₁'
  show wpAny _ _ (if ([x] : List Value).length < 1 then _ else _) _ _ _
  rw [if_neg (by simp)]
  refine wpAny_bind (wpAny_holding (PySem.W.kun_collect (s := { s with heap := h₁ }) (T := "list_iterator") (.inr (.inr (.inl rfl))) (Walks.list (A := A.in1) hh s.heap.objs.size l hlt (x :: r).toArray) (fun j u st => st.1.typeIs) (k := 1) (by omega) ⟨hit₁, hl₁⟩ (Heap.lt_size hoi) (Heap.lt_size hol) (fun h₂ tk hk => ?_) (by omega)))
  have ed : (x :: r).toArray.toList.drop 1 = r := by simp
  rw [ed]
  show wpAny _ _ (if r.length < 2 - 1 - 1 then _ else _) _ _ _
  rw [if_neg (by simp)]
  show wpAny _ _ (newList (r.take (r.length - (2 - 1 - 1))) >>= fun d => pure ([x] ++ [d] ++ r.drop (r.length - (2 - 1 - 1)))) _ _ _
  have e0 : r.length - (2 - 1 - 1) = r.length := rfl
  rw [e0, List.take_length, List.drop_length]
  refine wpAny_bind (wpAny_newList (wpAny_pure ?_) (Nat.le_of_lt hz))
  have keep : ∀ b o, s.heap.get? b = some o → h₂.get? b = some o := fun b o e => by
    have hb : b ≠ s.heap.objs.size := Nat.ne_of_lt (Heap.lt_size e)
    exact hk b o hb (hs₁.extBut b o hb (Heap.get?_push_of_some _ e))
  have hle : s.heap.get? h₂.objs.size = none := by
    cases e : s.heap.get? h₂.objs.size with
    | none => rfl
    | some o => exact absurd (Heap.lt_size (keep _ o e)) (Nat.lt_irrefl _)
  exact h _ _ tk hle (fun b o e => Heap.get?_push_of_some _ (keep b o e)) (Heap.get?_push_size _ rfl)
end
/-- a name, and the rest in a new list -/
def gStar (K : PySem.W.Frag) (i j : Nat) : TG := fun v σ H Q => ∃ l x xs, v = .ref l ∧ SqL K H l (x :: xs) ∧ xs.length < sizeLine ∧ ∀ p, H p = none → Q ((σ.set i (some x)).set j (some (.ref p))) (upd H p (.lst xs))
theorem pg_star {X : Cx} {i j : Nat} {x y : Str} {p1 p2 p3 pos : Pos} {k : Nat} (hc : X.calm = true) (hN : X.N.Nodup) (hi : X.N[i]? = some x := by rfl) (hj : X.N[j]? = some y := by rfl) (hx : Loc X.env.scope x := by first | exact .inl rfl | exact .inr rfl) (hy : Loc X.env.scope y := by first | exact .inl rfl | exact .inr rfl)
    (hf : X.fn x = true ∨ X.env.scope.names.lookup x = some .local := by first | exact .inl rfl | exact .inr rfl) (hg : X.fn y = true ∨ X.env.scope.names.lookup y = some .local := by first | exact .inl rfl | exact .inr rfl) :
    PG X (.Tuple [.Name x p1, .Starred (.Name y p2) p3] k pos) (gStar X.K i j) := by
  refine ⟨fun pins s σ H v u Q I r h => ?_⟩
  obtain ⟨l, vx, xs, ev, hq, hz, q⟩ := h
  subst ev
  cases r
  obtain ⟨its, rv, p, _⟩ := I.list hq
  cases rv with
  | cons rx rr =>
  rename_i ux ur
  have hl := rr.length
  rw [assign_Tuple]
  refine wpAny_bind (wpAny_standAt ?_)
  unfold unpack
  refine wpAny_bind (wpAny_holding ?_)
  refine star_items (r := ur) p.isList (I.ok.hd hc) (by rw [← hl]; exact hz) fun D h' tk hD keep hDo => ?_
  have hn : H D = none := by
    cases e : H D with
    | none => rfl
    | some o =>
      obtain ⟨ob, eo⟩ := objOk_get (I.hok D o e)
      rw [hD] at eo; cases eo
  have I1 : Inv X pins σ (upd H D (.lst xs)) { s with heap := h', toks := tk } := I.laidN (t' := tk) keep hD hn ⟨Nat.le_of_lt hz, ur, _, rr, hDo⟩
  have G : PGs X [.Name x p1, .Name y p2] (gCons (gName i) (gCons (gName j) gNil)) := pgs_cons (pg_name hN hi hx hf) (pgs_cons (pg_name hN hj hy hg) pgs_nil)
  exact G.run pins _ σ _ [vx, .ref D] [ux, .ref D] Q I1 (.cons rx (.cons rfl .nil)) ⟨vx, _, rfl, .ref D, _, rfl, rfl, q D hn⟩
def cStar (i j : Nat) (a : CE) : CS := fun ρ => (a ρ).bind fun d => match d with
  | .lst (x :: xs) => if xs.length < LIM then .ret (.next ((ρ.set i (some (false, x))).set j (some (true, .lst xs)))) else .stuck
  | _ => .stuck
theorem sim_star {f : Cf} {te : TE} {a : CE} {i j : Nat} (fi : f.fix i = none) (fj : f.fix j = none) (ha : SimC f te a) : SimS f (tAsg te (gStar f.K i j)) (cStar i j a) := fun P O σ H ρ E r w => by
  refine ha P O σ H ρ _ r (M.wp_mono (M.wp_bind.mp w) (fun d w1 v H1 g1 x1 => ?_) fun _ z => z)
  split at w1
  · rename_i x xs
    split at w1
    · rename_i hl
      obtain ⟨b, vs, e, h, s⟩ := x1.lst
      cases s with
      | cons hx s =>
      rename_i vx ws
      refine ⟨b, vx, ws, e, SqL.of h, Nat.lt_of_lt_of_le (by rw [s.length]; exact hl) (by decide), fun p hp => ?_⟩
      have r1 := ((r.growTo g1).setSlot (i := i) fi hx)
      exact w1 _ _ _ (r1.setOwn (i := j) fj (Grow.new hp).gr hp (.lst upd_same ((s.more hp).ext (Grow.new hp).ext)))
    · exact w1.elim
  · exact w1.elim
end Py

/-! RZ: zip and enumerate over lists and tuples. -/
namespace Py
open PySem PySem.Spec PyProof.Rows L2

/-! ### a turn from the library's walks with new tuples -/
theorem turn_of {P : Program} {w : World} {K : PySem.W.Frag} {elts : List Expr} {kk : Nat} {tpos : Pos} {J : It} {z : Addr} {fp : List Addr} {tn : Nat → Heap → Prop} (mem : z ∈ fp)
    (obj : ∀ i h, tn i h → ∀ b ∈ fp, ∃ o, h.get? b = some o ∧ ∀ v, o.data ≠ .cell v) (keep : ∀ i h h', tn i h → (∀ b ∈ fp, ∀ o, h.get? b = some o → h'.get? b = some o) → tn i h')
    (self : ∀ (A : Around) (i : Nat) (s : Shared) (Q : Value → Shared → Prop) (E : Value → Shared → Prop), tn i s.heap → Q (.ref z) s → wpAny (model P w) A (pyIter (.ref z)) Q E s)
    (mk : ∀ (X : Cx), X.prog = P → X.w = w → X.K = K → X.A.handled = none → ∀ (i : Nat) (pins : List (Addr × Obj)) (s : Shared) (σ : L2.St) (H : Hp), Inv X pins σ H s → (J.go i H ∨ J.stop i H) → tn i s.heap →
      ∃ (fpW wr : List Addr) (n : Nat) (Pt : Nat → Array Value → Prop) (St : Nat → Heap → Prop) (Mid : Nat → Addr → Heap → Prop), WalksT P w X.A z fpW wr n Pt St Mid ∧ (∀ b ∈ wr, b ∈ fp) ∧ St i s.heap ∧ (∀ j h', St j h' → tn j h') ∧
        (J.go i H → i < n ∧ ∀ vals, Pt i vals → ∃ vs, Vals vs vals.toList ∧ vs.length ≤ sizeLine ∧ ∀ T, H T = none → J.yld i H (.ref T) (upd H T (.tup vs))) ∧ (J.stop i H → i = n)) :
    Turn P w K (.Tuple elts kk tpos) J fp z tn where
  mem := mem
  obj := obj
  keep := keep
  item := by
    intro X hP hw hK hc i pins s σ H E I hf st hg
    obtain ⟨fpW, wr, n, Pt, St, Mid, W, hwr, hst, back, hgo, _⟩ := mk X hP hw hK (I.ok.hd hc) i pins s σ H I (.inl hg) st
    obtain ⟨hi, hv⟩ := hgo hg
    subst hP hw hK
    refine W.item i s _ E hi hst fun T vals h' tk hp hT htup hm hk => ?_
    refine ⟨_, rfl, W.go elts kk tpos i T _ _ E hm fun h'' hst' hk' => ?_⟩
    obtain ⟨vs, rv, hl, hy⟩ := hv vals hp
    have hTw : T ∉ wr := W.apart i T h' hm
    have htup' : h''.IsTuple T vals := by
      obtain ⟨o, e, r⟩ := htup
      exact ⟨o, hk' T o hTw e, r⟩
    have new : ObjOk X.prog X.w (upd H T (.tup vs)) h'' T (.tup vs) := ⟨hl, vals.toList, rv, by rw [Array.toArray_toList]; exact htup'⟩
    have I1 : Inv X pins σ (upd H T (.tup vs)) { s with heap := h'', toks := tk } :=
      I.turnedNew (t' := tk) (ch := wr) (fun c o hb q => hk' c o hb (hk c o hb q)) (fun b hb => hf b (hwr b hb)) hT new
    have hn : H T = none := I.hok.fresh hT
    refine ⟨.ref T, _, I1, rfl, hy T hn, back _ _ hst', fun b hb => ?_⟩
    have hbT : b ≠ T := fun e => by
      obtain ⟨o, ho, _⟩ := obj i s.heap st b hb
      rw [e] at ho
      exact absurd (Heap.lt_size ho) (Nat.not_lt.mpr hT)
    rw [upd_ne hbT]
    exact (hf b hb).1
  done := by
    intro X hP hw hK hc i pins s σ H E I hf st hg
    obtain ⟨fpW, wr, n, Pt, St, Mid, W, hwr, hst, back, _, hstop⟩ := mk X hP hw hK (I.ok.hd hc) i pins s σ H I (.inr hg) st
    have e := hstop hg
    subst hP hw hK
    subst e
    exact W.done s _ E hst fun h' tk hk => ⟨rfl, I.turnedL (t' := tk) (ch := wr) (fun c o hb q => hk c o hb q) fun b hb => hf b (hwr b hb)⟩
  self := self

/-! ### lists and tuples alike -/
def Sq (K : PySem.W.Frag) (t : Bool) (H : Hp) (a : Addr) (xs : List V) : Prop := if t = true then SqT K H a xs else SqL K H a xs
def SeqIs (t : Bool) (h : Heap) (a : Addr) (xs : Array Value) : Prop := if t = true then h.IsTuple a xs else h.IsList a xs
def SeqIt (t : Bool) (h : Heap) (it a : Addr) (i : Nat) : Prop := if t = true then h.IsTupleIter it a i else h.IsListIter it a i
def itN (t : Bool) : String := if t = true then "tuple_iterator" else "list_iterator"
theorem Sq.is {X : Cx} {pins : List (Addr × Obj)} {σ : L2.St} {H : Hp} {s : Shared} {t : Bool} {a : Addr} {xs : List V} (I : Inv X pins σ H s) (h : Sq X.K t H a xs) : ∃ its : List Value, Vals xs its ∧ SeqIs t s.heap a its.toArray ∧ a < s.heap.objs.size ∧ xs.length ≤ sizeLine := by
  cases t with
  | true =>
    obtain ⟨its, rv, p, hz⟩ := I.tuple (show SqT X.K H a xs from h)
    obtain ⟨o, e, r⟩ := id p
    exact ⟨its, rv, p, Heap.lt_size e, hz⟩
  | false =>
    obtain ⟨its, rv, p, hz⟩ := I.list (show SqL X.K H a xs from h)
    exact ⟨its, rv, p.isList, p.lt, hz⟩
theorem Sq.inj {X : Cx} {pins : List (Addr × Obj)} {σ : L2.St} {H : Hp} {s : Shared} {t : Bool} {a : Addr} {xs ys : List V} (I : Inv X pins σ H s) (h : Sq X.K t H a xs) (h' : Sq X.K t H a ys) : xs = ys := by
  cases t with
  | true => exact I.tuple_inj h h'
  | false => exact I.list_inj h h'
theorem SeqIt.there {t : Bool} {h : Heap} {it a : Addr} {i : Nat} (x : SeqIt t h it a i) : ∃ o, h.get? it = some o ∧ ∀ v, o.data ≠ .cell v := by
  cases t <;> (obtain ⟨o, e, _, d⟩ := x; exact ⟨o, e, fun v q => by rw [d] at q; cases q⟩)
theorem SeqIt.at {t : Bool} {h h' : Heap} {it a : Addr} {i : Nat} (x : SeqIt t h it a i) (k : ∀ o, h.get? it = some o → h'.get? it = some o) : SeqIt t h' it a i := by
  cases t <;> (obtain ⟨o, e, r⟩ := x; exact ⟨o, k o e, r⟩)
theorem seqDraws {P : Program} {w : World} {A : Around} (t : Bool) (hh : A.handled = none) (it l : Addr) (hne : l ≠ it) (items : Array Value) :
    Draws P w A it [it, l] items.size (fun i v => items[i]? = some v) (fun i h => SeqIt t h it l i ∧ SeqIs t h l items) := by
  cases t
  · exact Draws.list hh it l hne items
  · exact Draws.tuple hh it l hne items
theorem pyIter_seq {M : Program} {w : World} {A : Around} {E : Value → Shared → Prop} {t : Bool} {s : Shared} {l : Addr} {xs : Array Value} {Q : Value → Shared → Prop} (h : SeqIs t s.heap l xs)
    (q : Q (.ref s.heap.objs.size) { s with heap := s.heap.push { cls := .type (itN t), data := .fields #[.ref l, .int 0 0] } }) : wpAny (model M w) A (pyIter (.ref l)) Q E s := by
  cases t
  · exact wpAny_pyIter_list h q
  · exact wpAny_pyIter_tuple h q
end Py

/-! RZ2: zip of two and three lists or tuples. -/
namespace Py
open PySem PySem.Spec PyProof.Rows L2

abbrev iterO (t : Bool) (l : Addr) : Obj := { cls := .type (itN t), data := .fields #[.ref l, .int 0 0] }
abbrev zqH1 (t : Bool) (h : Heap) (l : Addr) : Heap := h.push (iterO t l)
abbrev zqH2 (t u : Bool) (h : Heap) (l1 l2 : Addr) : Heap := (zqH1 t h l1).push (iterO u l2)
abbrev zqH3 (t u : Bool) (h : Heap) (l1 l2 : Addr) : Heap := (zqH2 t u h l1 l2).push { cls := .type "tuple", data := .seq #[.ref h.objs.size, .ref (zqH1 t h l1).objs.size] }
abbrev zqH4 (t u : Bool) (h : Heap) (l1 l2 : Addr) : Heap := (zqH3 t u h l1 l2).push { cls := .type "tuple", data := .seq #[.none, .none] }
abbrev zqH5 (t u : Bool) (h : Heap) (l1 l2 : Addr) : Heap := (zqH4 t u h l1 l2).push { cls := .type "zip", data := .fields #[.none, .bool false, .bool false, .ref (zqH2 t u h l1 l2).objs.size, .ref (zqH3 t u h l1 l2).objs.size] }
theorem SeqIs.push {t : Bool} {h : Heap} {l : Addr} {xs : Array Value} (x : SeqIs t h l xs) (o : Obj) : SeqIs t (h.push o) l xs := by
  cases t
  · exact Heap.IsList.push x o
  · exact Heap.IsTuple.push x o
theorem meets_zq (t u : Bool) (l1 l2 : Addr) (xs ys : Array Value) :
    Meets (Builtin.«zip.__new__» ⟨[.type "zip", .ref l1, .ref l2], []⟩) (fun _ R s => SeqIs t s.heap l1 xs ∧ SeqIs u s.heap l2 ys ∧
      R (.ok (.ret (.ref (zqH4 t u s.heap l1 l2).objs.size))) { s with heap := zqH5 t u s.heap l1 l2 }) :=
  .of_wp fun prog w A R s h => by
    obtain ⟨hp, g, d, tk, os⟩ := s; obtain ⟨hl1, hl2, h⟩ := h
    have hsub := sub_zip
    have hL1 : SeqIs t (Shared.heap ⟨hp, g, d, tk, os⟩) l1 xs := hl1
    have hL2 : SeqIs u (Shared.heap ⟨hp.push (iterO t l1), g, d, tk, os⟩) l2 ys := hl2.push _
    wp_walk using pyIter_seq hL1, pyIter_seq hL2
    exact ⟨_, rfl, h⟩
theorem iterO_at {t : Bool} {h : Heap} {it l : Addr} (e : h.get? it = some (iterO t l)) : SeqIt t h it l 0 := by
  cases t
  · exact ⟨_, e, rfl, rfl⟩
  · exact ⟨_, e, rfl, rfl⟩
section
variable {prog : Program} {w : World} {A : Around} {E : Value → Shared → Prop} {s : Shared}
theorem call_zq {t u : Bool} {l1 l2 : Addr} {xs ys : Array Value} {Q : Value → Shared → Prop} (hl1 : SeqIs t s.heap l1 xs) (hl2 : SeqIs u s.heap l2 ys)
    (h : ∀ h', IsZip h' (s.heap.objs.size + 4) (s.heap.objs.size + 2) (s.heap.objs.size + 3) .none → IsTupOf2 h' (s.heap.objs.size + 2) (.ref s.heap.objs.size) (.ref (s.heap.objs.size + 1)) →
      IsTupOf2 h' (s.heap.objs.size + 3) .none .none → SeqIt t h' s.heap.objs.size l1 0 → SeqIt u h' (s.heap.objs.size + 1) l2 0 →
      (∀ c o, s.heap.get? c = some o → h'.get? c = some o) → Q (.ref (s.heap.objs.size + 4)) { s with heap := h' }) :
    wpAny (model prog w) A (call (.type "zip") [.ref l1, .ref l2]) Q E s := by
  refine callType_new F.called_zip (by decide) (F.typeCall_zip_2 _ _) (F.newCall_zip_2 _ _) (fun obj => F.args_object_init_3 obj _ _) F.entry_zip_new
    (meets_zq t u l1 l2 xs ys) ⟨hl1, hl2, ?_⟩
  have z1 : (zqH1 t s.heap l1).objs.size = s.heap.objs.size + 1 := Heap.size_push ..
  have z2 : (zqH2 t u s.heap l1 l2).objs.size = s.heap.objs.size + 2 := by rw [Heap.size_push, z1]
  have z3 : (zqH3 t u s.heap l1 l2).objs.size = s.heap.objs.size + 3 := by rw [Heap.size_push, z2]
  have z4 : (zqH4 t u s.heap l1 l2).objs.size = s.heap.objs.size + 4 := by rw [Heap.size_push, z3]
  have g5 : (zqH5 t u s.heap l1 l2).get? (zqH4 t u s.heap l1 l2).objs.size = some _ := Heap.get?_push_size _ rfl
  have g4 : (zqH5 t u s.heap l1 l2).get? (zqH3 t u s.heap l1 l2).objs.size = some _ := Heap.get?_push_of_some _ (Heap.get?_push_size _ rfl)
  have g3 : (zqH5 t u s.heap l1 l2).get? (zqH2 t u s.heap l1 l2).objs.size = some _ := Heap.get?_push_of_some _ (Heap.get?_push_of_some _ (Heap.get?_push_size _ rfl))
  have g2 : (zqH5 t u s.heap l1 l2).get? (zqH1 t s.heap l1).objs.size = some (iterO u l2) := Heap.get?_push_of_some _ (Heap.get?_push_of_some _ (Heap.get?_push_of_some _ (Heap.get?_push_size _ rfl)))
  have g1 : (zqH5 t u s.heap l1 l2).get? s.heap.objs.size = some (iterO t l1) := Heap.get?_push_of_some _ (Heap.get?_push_of_some _ (Heap.get?_push_of_some _ (Heap.get?_push_of_some _ (Heap.get?_push_size _ rfl))))
  show _ ∧ _
  rw [z2, z3, z4] at g5
  rw [z1, z2] at g3
  rw [z3] at g4
  rw [z1] at g2
  rw [z4]
  exact ⟨⟨_, g5, rfl⟩, h _ g5 g3 g4 (iterO_at g1) (iterO_at g2) fun c o x =>
    Heap.get?_push_of_some _ (Heap.get?_push_of_some _ (Heap.get?_push_of_some _ (Heap.get?_push_of_some _ (Heap.get?_push_of_some _ x))))⟩
end
/-! ### two -/
def Itq (K : PySem.W.Frag) (t u : Bool) (a b : Addr) : It :=
  ⟨fun i H => ∃ (xs ys : List V) (x y : V), Sq K t H a xs ∧ Sq K u H b ys ∧ xs[i]? = some x ∧ ys[i]? = some y,
    fun i H v H' => ∃ T x y, v = .ref T ∧ H T = none ∧ H' = upd H T (.tup [x, y]) ∧ ((∀ xs, Sq K t H a xs → xs[i]? = some x) ∧ ∀ ys, Sq K u H b ys → ys[i]? = some y),
    fun i H => ∃ xs ys : List V, Sq K t H a xs ∧ Sq K u H b ys ∧ i = min xs.length ys.length⟩
theorem vals_at {xs : List V} {us : List Value} {i : Nat} {x : V} {u : Value} (r : Vals xs us) (hx : xs[i]? = some x) (hu : us[i]? = some u) : RelV x u := by
  obtain ⟨u', h1, h2⟩ := r.get hx
  rw [hu] at h1; cases h1; exact h2
theorem turn_zq {P : Program} {w : World} {K : PySem.W.Frag} {elts : List Expr} {kk : Nat} {tpos : Pos} {t u : Bool} {a b z TI TO i1 i2 : Addr} (D : ZipSep2 z TI TO i1 i2 [i1, a] [i2, b]) (ha : a ≠ i1) (hb : b ≠ i2) :
    Turn P w K (.Tuple elts kk tpos) (Itq K t u a b) [z, TI, TO, i1, i2] z (fun i h => IsZip h z TI TO .none ∧ IsTupOf2 h TI (.ref i1) (.ref i2) ∧ (∃ x y, IsTupOf2 h TO x y) ∧ SeqIt t h i1 a i ∧ SeqIt u h i2 b i) := by
  refine turn_of (by simp) (fun i h st c hc => ?_) (fun i h h' st k => ?_) (fun A i s Q E st h => wpAny_pyIter_zip st.1 h) ?_
  · obtain ⟨hz, hTI, ⟨x, y, hTO⟩, h1, h2⟩ := st
    have e' : c = z ∨ c = TI ∨ c = TO ∨ c = i1 ∨ c = i2 := by simpa using hc
    rcases e' with q | q | q | q | q
    · rw [q]; exact ⟨_, hz, fun v q => nomatch q⟩
    · rw [q]; exact ⟨_, hTI, fun v q => nomatch q⟩
    · rw [q]; exact ⟨_, hTO, fun v q => nomatch q⟩
    · rw [q]; exact h1.there
    · rw [q]; exact h2.there
  · obtain ⟨hz, hTI, ⟨x, y, hTO⟩, h1, h2⟩ := st
    exact ⟨k z (by simp) _ hz, k TI (by simp) _ hTI, ⟨x, y, k TO (by simp) _ hTO⟩, h1.at fun o q => k i1 (by simp) o q, h2.at fun o q => k i2 (by simp) o q⟩
  · intro X hP hw hK hh i pins s σ H I hg st
    subst hP hw hK
    obtain ⟨xs, ys, hqx, hqy⟩ : ∃ xs ys : List V, Sq X.K t H a xs ∧ Sq X.K u H b ys := by
      rcases hg with ⟨xs, ys, _, _, h1, h2, _⟩ | ⟨xs, ys, h1, h2, _⟩ <;> exact ⟨xs, ys, h1, h2⟩
    obtain ⟨its, rv, p, _⟩ := hqx.is I
    obtain ⟨its2, rv2, p2, _⟩ := hqy.is I
    have W := WalksT.zipD2 (prog := X.prog) (w := X.w) (A := X.A) D (seqDraws t (A := X.A.in1) hh i1 a ha its.toArray) (seqDraws u (A := X.A.in1) hh i2 b hb its2.toArray)
    obtain ⟨hz, hTI, hTO, h1, h2⟩ := st
    have l1 := rv.length
    have l2 := rv2.length
    refine ⟨_, _, _, _, _, _, W, fun c hc => ?_, ⟨hz, hTI, hTO, ⟨h1, p⟩, ⟨h2, p2⟩⟩, fun j h' q => ⟨q.1, q.2.1, q.2.2.1, q.2.2.2.1.1, q.2.2.2.2.1⟩, fun hgo => ?_, fun hst => ?_⟩
    · have e' : c = z ∨ c = TO ∨ c = i1 ∨ c = i2 := by simpa using hc
      rcases e' with q | q | q | q <;> simp [q]
    · obtain ⟨xs', ys', x, y, q1, q2, q3, q4⟩ := hgo
      rw [q1.inj I hqx] at q3
      rw [q2.inj I hqy] at q4
      have b1 := (List.getElem?_eq_some_iff.mp q3).1
      have b2 := (List.getElem?_eq_some_iff.mp q4).1
      refine ⟨by simp; omega, fun vals hp => ?_⟩
      obtain ⟨x1, x2, p1, p3, ev⟩ := hp
      subst ev
      refine ⟨[x, y], .cons (vals_at rv q3 (by simpa using p1)) (.cons (vals_at rv2 q4 (by simpa using p3)) .nil), by show 2 ≤ sizeLine; decide, fun T hT => ⟨T, x, y, rfl, hT, rfl, fun l hl => by rw [hl.inj I hqx]; exact q3, fun l hl => by rw [hl.inj I hqy]; exact q4⟩⟩
    · obtain ⟨xs', ys', q1, q2, q3⟩ := hst
      rw [q1.inj I hqx, q2.inj I hqy] at q3
      rw [q3]; simp [l1, l2]
theorem sep2 (n a b : Nat) (h1 : a < n) (h2 : b < n) : ZipSep2 (n + 4) (n + 2) (n + 3) n (n + 1) [n, a] [n + 1, b] := by
  have ne : ∀ {x y : Nat}, x < y → (x : Addr) ≠ y := fun h => Nat.ne_of_lt h
  have ne' : ∀ {x y : Nat}, y < x → (x : Addr) ≠ y := fun h => Nat.ne_of_gt h
  have nm : ∀ {x y z : Nat}, x ≠ y → x ≠ z → (x : Addr) ∉ ([y, z] : List Addr) := fun h1 h2 m => by
    rcases List.mem_cons.mp m with e | e
    · exact h1 e
    · exact h2 (List.mem_singleton.mp e)
  exact ⟨ne (by omega), ne (by omega), ne (by omega), ne' (by omega), List.mem_cons_self, nm (by omega) (by omega), nm (by omega) (by omega), ne' (by omega), List.mem_cons_self, nm (by omega) (by omega), nm (by omega) (by omega), nm (by omega) (by omega), nm (by omega) (by omega)⟩
theorem le_of5 {n c : Nat} (h : (c : Addr) ∈ ([n + 4, n + 2, n + 3, n, n + 1] : List Addr)) : n ≤ c := by
  have e' : c = n + 4 ∨ c = n + 2 ∨ c = n + 3 ∨ c = n ∨ c = n + 1 := by simpa using h
  omega
def iZq (K : PySem.W.Frag) (ta : TA) : TI := fun σ H R => ta σ H fun vs H1 => ∃ t u a b xs ys, vs = [.ref a, .ref b] ∧ Sq K t H1 a xs ∧ Sq K u H1 b ys ∧ R (Itq K t u a b) H1
theorem pi_zq {X : Cx} {e e2 : Expr} {ta : TA} {p pos tpos : Pos} {elts : List Expr} {kk : Nat} (hm : X.mg "zip" = none) (ha : PA X [e, e2] ta) (hg : Gl X "zip" := by rfl)
    (hs : starEach [e, e2] X.env = (false, eval e X.env) :: starEach [e2] X.env := by rfl) (hpl : (backTo pos (starEach [e2] X.env)).any (·.1) = false := by rfl) :
    PI X (.Tuple elts kk tpos) (.Call (.Name "zip" p) [e, e2] [] pos) (iZq X.K ta) := by
  refine ⟨fun pins s σ H R I h => ?_⟩
  refine Call_ (ld_blt I hg hm PyProof.Rows.boot_zip (PyProof.Rows.callWith_type1 (thn (ha.run pos pins s σ H _ I h) fun us s1 ⟨vs, H1, I1, r1, q1⟩ => ?_) hs hpl))
  obtain ⟨t, u, a, b, xs, ys, ex, hqx, hqy, q⟩ := q1
  subst ex
  cases r1 with
  | cons r rr =>
  cases rr with
  | cons r' rr =>
  cases rr
  cases r
  cases r'
  obtain ⟨its, rv, p1, la, _⟩ := hqx.is I1
  obtain ⟨its2, rv2, p2, lb, _⟩ := hqy.is I1
  refine call_zq p1 p2 fun h' hz hTI hTO h1 h2 hk => wpAny_pyIter_zip hz ?_
  have I2 : Inv X pins σ H1 { s1 with heap := h' } := I1.kept (t' := s1.toks) hk
  refine ⟨s1.heap.objs.size + 4, [s1.heap.objs.size + 4, s1.heap.objs.size + 2, s1.heap.objs.size + 3, s1.heap.objs.size, s1.heap.objs.size + 1], _, _, H1, rfl, I2, turn_zq (sep2 s1.heap.objs.size a b la lb) (Nat.ne_of_lt la) (Nat.ne_of_lt (Nat.lt_succ_of_lt lb)), ⟨hz, hTI, ⟨_, _, hTO⟩, h1, h2⟩, fun c hcm => ?_, q⟩
  have hle := le_of5 hcm
  exact I1.fpOk hle (I1.hok.fresh hle)
end Py

/-! RZ3: zip of three lists or tuples. -/
namespace Py
open PySem PySem.Spec PyProof.Rows L2

theorem typeCall_zip_3 (a b c : Value) : checkTypeCall "zip" ⟨[a, b, c], []⟩ = pure () := by kernel_rfl
theorem newCall_zip_3 (a b c : Value) : checkBuiltinCall "zip.__new__" ⟨[.type "zip", a, b, c], []⟩ = pure () := by kernel_rfl
theorem args_object_init_4 (a b c d : Value) : argsOk "object.__init__" ⟨[a, b, c, d], []⟩ := by
  unfold argsOk; rw [signature?_of (id := "object.__init__") (n := ['_', '_', 't', 'i', 'n', 'i', '_', '_']) (o := ['t', 'c', 'e', 'j', 'b', 'o']) (by kernel_rfl) F.owner_object]; kernel_rfl
abbrev zrH3 (t u v : Bool) (h : Heap) (l1 l2 l3 : Addr) : Heap := (zqH2 t u h l1 l2).push (iterO v l3)
abbrev zrH4 (t u v : Bool) (h : Heap) (l1 l2 l3 : Addr) : Heap := (zrH3 t u v h l1 l2 l3).push { cls := .type "tuple", data := .seq #[.ref h.objs.size, .ref (zqH1 t h l1).objs.size, .ref (zqH2 t u h l1 l2).objs.size] }
abbrev zrH5 (t u v : Bool) (h : Heap) (l1 l2 l3 : Addr) : Heap := (zrH4 t u v h l1 l2 l3).push { cls := .type "tuple", data := .seq #[.none, .none, .none] }
abbrev zrH6 (t u v : Bool) (h : Heap) (l1 l2 l3 : Addr) : Heap := (zrH5 t u v h l1 l2 l3).push { cls := .type "zip", data := .fields #[.none, .bool false, .bool false, .ref (zrH3 t u v h l1 l2 l3).objs.size, .ref (zrH4 t u v h l1 l2 l3).objs.size] }
theorem meets_zr (t u v : Bool) (l1 l2 l3 : Addr) (xs ys zs : Array Value) :
    Meets (Builtin.«zip.__new__» ⟨[.type "zip", .ref l1, .ref l2, .ref l3], []⟩) (fun _ R s => SeqIs t s.heap l1 xs ∧ SeqIs u s.heap l2 ys ∧ SeqIs v s.heap l3 zs ∧
      R (.ok (.ret (.ref (zrH5 t u v s.heap l1 l2 l3).objs.size))) { s with heap := zrH6 t u v s.heap l1 l2 l3 }) :=
  .of_wp fun prog w A R s h => by
    obtain ⟨hp, g, d, tk, os⟩ := s; obtain ⟨hl1, hl2, hl3, h⟩ := h
    have hsub := sub_zip
    have hL1 : SeqIs t (Shared.heap ⟨hp, g, d, tk, os⟩) l1 xs := hl1
    have hL2 : SeqIs u (Shared.heap ⟨hp.push (iterO t l1), g, d, tk, os⟩) l2 ys := hl2.push _
    have hL3 : SeqIs v (Shared.heap ⟨(hp.push (iterO t l1)).push (iterO u l2), g, d, tk, os⟩) l3 zs := (hl3.push _).push _
    wp_walk using pyIter_seq hL1, pyIter_seq hL2, pyIter_seq hL3
    exact ⟨_, rfl, h⟩
section
variable {prog : Program} {w : World} {A : Around} {E : Value → Shared → Prop} {s : Shared}
theorem call_zr {t u v : Bool} {l1 l2 l3 : Addr} {xs ys zs : Array Value} {Q : Value → Shared → Prop} (hl1 : SeqIs t s.heap l1 xs) (hl2 : SeqIs u s.heap l2 ys) (hl3 : SeqIs v s.heap l3 zs)
    (h : ∀ h', IsZip h' (s.heap.objs.size + 5) (s.heap.objs.size + 3) (s.heap.objs.size + 4) .none → IsTupOf3 h' (s.heap.objs.size + 3) (.ref s.heap.objs.size) (.ref (s.heap.objs.size + 1)) (.ref (s.heap.objs.size + 2)) →
      IsTupOf3 h' (s.heap.objs.size + 4) .none .none .none → SeqIt t h' s.heap.objs.size l1 0 → SeqIt u h' (s.heap.objs.size + 1) l2 0 → SeqIt v h' (s.heap.objs.size + 2) l3 0 →
      (∀ c o, s.heap.get? c = some o → h'.get? c = some o) → Q (.ref (s.heap.objs.size + 5)) { s with heap := h' }) :
    wpAny (model prog w) A (call (.type "zip") [.ref l1, .ref l2, .ref l3]) Q E s := by
  refine callType_new F.called_zip (by decide) (typeCall_zip_3 _ _ _) (newCall_zip_3 _ _ _) (fun obj => args_object_init_4 obj _ _ _) F.entry_zip_new
    (meets_zr t u v l1 l2 l3 xs ys zs) ⟨hl1, hl2, hl3, ?_⟩
  have z1 : (zqH1 t s.heap l1).objs.size = s.heap.objs.size + 1 := Heap.size_push ..
  have z2 : (zqH2 t u s.heap l1 l2).objs.size = s.heap.objs.size + 2 := by rw [Heap.size_push, z1]
  have z3 : (zrH3 t u v s.heap l1 l2 l3).objs.size = s.heap.objs.size + 3 := by rw [Heap.size_push, z2]
  have z4 : (zrH4 t u v s.heap l1 l2 l3).objs.size = s.heap.objs.size + 4 := by rw [Heap.size_push, z3]
  have z5 : (zrH5 t u v s.heap l1 l2 l3).objs.size = s.heap.objs.size + 5 := by rw [Heap.size_push, z4]
  have g6 : (zrH6 t u v s.heap l1 l2 l3).get? (zrH5 t u v s.heap l1 l2 l3).objs.size = some _ := Heap.get?_push_size _ rfl
  have g5 : (zrH6 t u v s.heap l1 l2 l3).get? (zrH4 t u v s.heap l1 l2 l3).objs.size = some _ := Heap.get?_push_of_some _ (Heap.get?_push_size _ rfl)
  have g4 : (zrH6 t u v s.heap l1 l2 l3).get? (zrH3 t u v s.heap l1 l2 l3).objs.size = some _ := Heap.get?_push_of_some _ (Heap.get?_push_of_some _ (Heap.get?_push_size _ rfl))
  have g3 : (zrH6 t u v s.heap l1 l2 l3).get? (zqH2 t u s.heap l1 l2).objs.size = some (iterO v l3) := Heap.get?_push_of_some _ (Heap.get?_push_of_some _ (Heap.get?_push_of_some _ (Heap.get?_push_size _ rfl)))
  have g2 : (zrH6 t u v s.heap l1 l2 l3).get? (zqH1 t s.heap l1).objs.size = some (iterO u l2) := Heap.get?_push_of_some _ (Heap.get?_push_of_some _ (Heap.get?_push_of_some _ (Heap.get?_push_of_some _ (Heap.get?_push_size _ rfl))))
  have g1 : (zrH6 t u v s.heap l1 l2 l3).get? s.heap.objs.size = some (iterO t l1) := Heap.get?_push_of_some _ (Heap.get?_push_of_some _ (Heap.get?_push_of_some _ (Heap.get?_push_of_some _ (Heap.get?_push_of_some _ (Heap.get?_push_size _ rfl)))))
  show _ ∧ _
  rw [z3, z4, z5] at g6
  rw [z4] at g5
  rw [z1, z2, z3] at g4
  rw [z2] at g3
  rw [z1] at g2
  rw [z5]
  exact ⟨⟨_, g6, rfl⟩, h _ g6 g4 g5 (iterO_at g1) (iterO_at g2) (iterO_at g3) fun c o x =>
    Heap.get?_push_of_some _ (Heap.get?_push_of_some _ (Heap.get?_push_of_some _ (Heap.get?_push_of_some _ (Heap.get?_push_of_some _ (Heap.get?_push_of_some _ x)))))⟩
end
def Itr (K : PySem.W.Frag) (t u v : Bool) (a b c : Addr) : It :=
  ⟨fun i H => ∃ (xs ys zs : List V) (x y z : V), Sq K t H a xs ∧ Sq K u H b ys ∧ Sq K v H c zs ∧ xs[i]? = some x ∧ ys[i]? = some y ∧ zs[i]? = some z,
    fun i H e H' => ∃ T x y z, e = .ref T ∧ H T = none ∧ H' = upd H T (.tup [x, y, z]) ∧ ((∀ xs, Sq K t H a xs → xs[i]? = some x) ∧ (∀ ys, Sq K u H b ys → ys[i]? = some y) ∧ ∀ zs, Sq K v H c zs → zs[i]? = some z),
    fun i H => ∃ xs ys zs : List V, Sq K t H a xs ∧ Sq K u H b ys ∧ Sq K v H c zs ∧ i = min (min xs.length ys.length) zs.length⟩
theorem turn_zr {P : Program} {w : World} {K : PySem.W.Frag} {elts : List Expr} {kk : Nat} {tpos : Pos} {t u v : Bool} {a b c z TI TO i1 i2 i3 : Addr} (D : ZipSep3 z TI TO i1 i2 i3 [i1, a] [i2, b] [i3, c]) (ha : a ≠ i1) (hb : b ≠ i2) (hc : c ≠ i3) :
    Turn P w K (.Tuple elts kk tpos) (Itr K t u v a b c) [z, TI, TO, i1, i2, i3] z (fun i h => IsZip h z TI TO .none ∧ IsTupOf3 h TI (.ref i1) (.ref i2) (.ref i3) ∧ (∃ x y q, IsTupOf3 h TO x y q) ∧ SeqIt t h i1 a i ∧ SeqIt u h i2 b i ∧ SeqIt v h i3 c i) := by
  refine turn_of (by simp) (fun i h st c' hc => ?_) (fun i h h' st k => ?_) (fun A i s Q E st h => wpAny_pyIter_zip st.1 h) ?_
  · obtain ⟨hz, hTI, ⟨x, y, q, hTO⟩, h1, h2, h3⟩ := st
    have e' : c' = z ∨ c' = TI ∨ c' = TO ∨ c' = i1 ∨ c' = i2 ∨ c' = i3 := by simpa using hc
    rcases e' with q | q | q | q | q | q
    · rw [q]; exact ⟨_, hz, fun v q => nomatch q⟩
    · rw [q]; exact ⟨_, hTI, fun v q => nomatch q⟩
    · rw [q]; exact ⟨_, hTO, fun v q => nomatch q⟩
    · rw [q]; exact h1.there
    · rw [q]; exact h2.there
    · rw [q]; exact h3.there
  · obtain ⟨hz, hTI, ⟨x, y, q, hTO⟩, h1, h2, h3⟩ := st
    exact ⟨k z (by simp) _ hz, k TI (by simp) _ hTI, ⟨x, y, q, k TO (by simp) _ hTO⟩, h1.at fun o q => k i1 (by simp) o q, h2.at fun o q => k i2 (by simp) o q, h3.at fun o q => k i3 (by simp) o q⟩
  · intro X hP hw hK hh i pins s σ H I hg st
    subst hP hw hK
    obtain ⟨xs, ys, zs, hqx, hqy, hqz⟩ : ∃ xs ys zs : List V, Sq X.K t H a xs ∧ Sq X.K u H b ys ∧ Sq X.K v H c zs := by
      rcases hg with ⟨xs, ys, zs, _, _, _, h1, h2, h3, _⟩ | ⟨xs, ys, zs, h1, h2, h3, _⟩ <;> exact ⟨xs, ys, zs, h1, h2, h3⟩
    obtain ⟨its, rv, p, _⟩ := hqx.is I
    obtain ⟨its2, rv2, p2, _⟩ := hqy.is I
    obtain ⟨its3, rv3, p3, _⟩ := hqz.is I
    have W := WalksT.zipD3 (prog := X.prog) (w := X.w) (A := X.A) D (seqDraws t (A := X.A.in1) hh i1 a ha its.toArray) (seqDraws u (A := X.A.in1) hh i2 b hb its2.toArray) (seqDraws v (A := X.A.in1) hh i3 c hc its3.toArray)
    obtain ⟨hz, hTI, hTO, h1, h2, h3⟩ := st
    have l1 := rv.length
    have l2 := rv2.length
    have l3 := rv3.length
    refine ⟨_, _, _, _, _, _, W, fun c' hc => ?_, ⟨hz, hTI, hTO, ⟨h1, p⟩, ⟨h2, p2⟩, ⟨h3, p3⟩⟩, fun j h' q => ⟨q.1, q.2.1, q.2.2.1, q.2.2.2.1.1, q.2.2.2.2.1.1, q.2.2.2.2.2.1⟩, fun hgo => ?_, fun hst => ?_⟩
    · have e' : c' = z ∨ c' = TO ∨ c' = i1 ∨ c' = i2 ∨ c' = i3 := by simpa using hc
      rcases e' with q | q | q | q | q <;> simp [q]
    · obtain ⟨xs', ys', zs', x, y, zz, q1, q2, q3, q4, q5, q6⟩ := hgo
      rw [q1.inj I hqx] at q4
      rw [q2.inj I hqy] at q5
      rw [q3.inj I hqz] at q6
      have b1 := (List.getElem?_eq_some_iff.mp q4).1
      have b2 := (List.getElem?_eq_some_iff.mp q5).1
      have b3 := (List.getElem?_eq_some_iff.mp q6).1
      refine ⟨by simp; omega, fun vals hp => ?_⟩
      obtain ⟨x1, x2, x3, p4, p5, p6, ev⟩ := hp
      subst ev
      refine ⟨[x, y, zz], .cons (vals_at rv q4 (by simpa using p4)) (.cons (vals_at rv2 q5 (by simpa using p5)) (.cons (vals_at rv3 q6 (by simpa using p6)) .nil)), by show 3 ≤ sizeLine; decide, fun T hT => ⟨T, x, y, zz, rfl, hT, rfl, fun l hl => by rw [hl.inj I hqx]; exact q4, fun l hl => by rw [hl.inj I hqy]; exact q5, fun l hl => by rw [hl.inj I hqz]; exact q6⟩⟩
    · obtain ⟨xs', ys', zs', q1, q2, q3, q4⟩ := hst
      rw [q1.inj I hqx, q2.inj I hqy, q3.inj I hqz] at q4
      rw [q4]; simp [l1, l2, l3]
theorem sep3 (n a b c : Nat) (h1 : a < n) (h2 : b < n) (h3 : c < n) : ZipSep3 (n + 5) (n + 3) (n + 4) n (n + 1) (n + 2) [n, a] [n + 1, b] [n + 2, c] := by
  have ne : ∀ {x y : Nat}, x < y → (x : Addr) ≠ y := fun h => Nat.ne_of_lt h
  have ne' : ∀ {x y : Nat}, y < x → (x : Addr) ≠ y := fun h => Nat.ne_of_gt h
  have nm : ∀ {x y z : Nat}, x ≠ y → x ≠ z → (x : Addr) ∉ ([y, z] : List Addr) := fun h1 h2 m => by
    rcases List.mem_cons.mp m with e | e
    · exact h1 e
    · exact h2 (List.mem_singleton.mp e)
  exact ⟨ne (by omega), ne (by omega), ne (by omega), ne' (by omega), List.mem_cons_self, nm (by omega) (by omega), nm (by omega) (by omega), ne' (by omega), List.mem_cons_self, nm (by omega) (by omega), nm (by omega) (by omega), ne' (by omega), List.mem_cons_self, nm (by omega) (by omega), nm (by omega) (by omega),
    nm (by omega) (by omega), nm (by omega) (by omega), nm (by omega) (by omega), nm (by omega) (by omega), nm (by omega) (by omega), nm (by omega) (by omega)⟩
theorem le_of6 {n c : Nat} (h : (c : Addr) ∈ ([n + 5, n + 3, n + 4, n, n + 1, n + 2] : List Addr)) : n ≤ c := by
  have e' : c = n + 5 ∨ c = n + 3 ∨ c = n + 4 ∨ c = n ∨ c = n + 1 ∨ c = n + 2 := by simpa using h
  omega
def iZr (K : PySem.W.Frag) (ta : TA) : TI := fun σ H R => ta σ H fun vs H1 => ∃ t u v a b c xs ys zs, vs = [.ref a, .ref b, .ref c] ∧ Sq K t H1 a xs ∧ Sq K u H1 b ys ∧ Sq K v H1 c zs ∧ R (Itr K t u v a b c) H1
theorem pi_zr {X : Cx} {e e2 e3 : Expr} {ta : TA} {p pos tpos : Pos} {elts : List Expr} {kk : Nat} (hm : X.mg "zip" = none) (ha : PA X [e, e2, e3] ta) (hg : Gl X "zip" := by rfl)
    (hs : starEach [e, e2, e3] X.env = (false, eval e X.env) :: starEach [e2, e3] X.env := by rfl) (hpl : (backTo pos (starEach [e2, e3] X.env)).any (·.1) = false := by rfl) :
    PI X (.Tuple elts kk tpos) (.Call (.Name "zip" p) [e, e2, e3] [] pos) (iZr X.K ta) := by
  refine ⟨fun pins s σ H R I h => ?_⟩
  refine Call_ (ld_blt I hg hm PyProof.Rows.boot_zip (PyProof.Rows.callWith_type1 (thn (ha.run pos pins s σ H _ I h) fun us s1 ⟨vs, H1, I1, r1, q1⟩ => ?_) hs hpl))
  obtain ⟨t, u, v, a, b, c, xs, ys, zs, ex, hqx, hqy, hqz, q⟩ := q1
  subst ex
  cases r1 with
  | cons r rr =>
  cases rr with
  | cons r' rr =>
  cases rr with
  | cons r'' rr =>
  cases rr
  cases r
  cases r'
  cases r''
  obtain ⟨its, rv, p1, la, _⟩ := hqx.is I1
  obtain ⟨its2, rv2, p2, lb, _⟩ := hqy.is I1
  obtain ⟨its3, rv3, p3, lc, _⟩ := hqz.is I1
  refine call_zr p1 p2 p3 fun h' hz hTI hTO h1 h2 h3 hk => wpAny_pyIter_zip hz ?_
  have I2 : Inv X pins σ H1 { s1 with heap := h' } := I1.kept (t' := s1.toks) hk
  refine ⟨s1.heap.objs.size + 5, [s1.heap.objs.size + 5, s1.heap.objs.size + 3, s1.heap.objs.size + 4, s1.heap.objs.size, s1.heap.objs.size + 1, s1.heap.objs.size + 2], _, _, H1, rfl, I2,
    turn_zr (sep3 s1.heap.objs.size a b c la lb lc) (Nat.ne_of_lt la) (Nat.ne_of_lt (Nat.lt_succ_of_lt lb)) (Nat.ne_of_lt (Nat.lt_succ_of_lt (Nat.lt_succ_of_lt lc))), ⟨hz, hTI, ⟨_, _, _, hTO⟩, h1, h2, h3⟩, fun c hcm => ?_, q⟩
  have hle := le_of6 hcm
  exact I1.fpOk hle (I1.hok.fresh hle)
end Py

/-! RU: what is walked: zip, enumerate, items. -/
namespace Py
open PySem PySem.Spec PyProof.Rows L2
variable [Wd]

def seqOf : D → Option (Bool × List D)
  | .lst xs => some (false, xs)
  | .tup xs => some (true, xs)
  | _ => none
theorem den_sq {K : PySem.W.Frag} {O : Addr → Prop} {H : Hp} {v : V} {d : D} {t : Bool} {ds : List D} (h : Den K O H v d) (e : seqOf d = some (t, ds)) : ∃ a vs, v = .ref a ∧ Sq K t H a vs ∧ Dens K O H vs ds := by
  unfold seqOf at e
  split at e
  · cases e
    obtain ⟨a, vs, ev, ha, s⟩ := (DenC.lst (H0 := H) (.inl h))
    exact ⟨a, vs, ev, SqL.of ha, s⟩
  · cases e
    obtain ⟨a, vs, ev, ha, s⟩ := (DenC.tup (H0 := H) (.inl h))
    exact ⟨a, vs, ev, ha, s⟩
  · cases e
def zip2L (xs ys : List D) : List D := (xs.zip ys).map fun p => .tup [p.1, p.2]
def zip2D : List D → M (List D)
  | [x, y] => (match seqOf x, seqOf y with
    | some (_, xs), some (_, ys) => .ret (zip2L xs ys)
    | _, _ => .stuck)
  | _ => .stuck
def cZip2 (a : CA) : CI := fun ρ => (a ρ).bind zip2D
theorem zip2L_len (xs ys : List D) : (zip2L xs ys).length = min xs.length ys.length := by simp [zip2L]
theorem zip2L_at {xs ys : List D} {i : Nat} {x y : D} (h1 : xs[i]? = some x) (h2 : ys[i]? = some y) : (zip2L xs ys)[i]? = some (.tup [x, y]) := by
  unfold zip2L
  have e : (xs.zip ys)[i]? = some (x, y) := List.getElem?_zip_eq_some.mpr ⟨h1, h2⟩
  rw [List.getElem?_map, e]; rfl
theorem keeps_zq {K : PySem.W.Frag} {a b : Addr} {dx dy : D} {t u : Bool} {xs ys : List D} (ex : seqOf dx = some (t, xs)) (ey : seqOf dy = some (u, ys)) : Keeps K [.den (.ref a) dx, .den (.ref b) dy] (Itq K t u a b) (zip2L xs ys) := fun O H hp i => by
  have h1 : Den K O H (.ref a) dx := hp _ List.mem_cons_self
  have h2 : Den K O H (.ref b) dy := hp _ (List.mem_cons_of_mem _ List.mem_cons_self)
  obtain ⟨a', vs, e1, q1, s1⟩ := den_sq h1 ex
  obtain ⟨b', ws, e2, q2, s2⟩ := den_sq h2 ey
  cases e1; cases e2
  rw [zip2L_len]
  refine ⟨fun hi => ?_, fun hi hi' => ⟨vs, ws, q1, q2, by rw [s1.length, s2.length]; omega⟩⟩
  obtain ⟨v, ev, xv⟩ := s1.get i xs[i] (List.getElem?_eq_getElem (by omega))
  obtain ⟨w, ew, xw⟩ := s2.get i ys[i] (List.getElem?_eq_getElem (by omega))
  refine ⟨⟨vs, ws, v, w, q1, q2, ev, ew⟩, fun x H'' hy => ?_⟩
  obtain ⟨T, x1, y1, e, hT, eH, f1, f2⟩ := hy
  subst e; subst eH
  have c1 := f1 vs q1
  have c2 := f2 ws q2
  rw [ev] at c1; cases c1
  rw [ew] at c2; cases c2
  refine ⟨Grow.new hT, .tup [xs[i], ys[i]], zip2L_at (List.getElem?_eq_getElem (by omega)) (List.getElem?_eq_getElem (by omega)), fun hd => ?_⟩
  exact .tup (off_new hd hT) upd_same (.cons (xv.ext (Grow.new hT).ext) (.cons (xw.ext (Grow.new hT).ext) .nil))
theorem simI_zip2 {f : Cf} {ta : TA} {a : CA} (ha : SimA f ta a) : SimI f (iZq f.K ta) (cZip2 a) := fun P O σ H ρ R r w => by
  refine ha P O σ H ρ _ r (M.wp_mono (M.wp_bind.mp w) (fun ds w1 vs H1 g1 s1 => ?_) fun _ z => z)
  unfold zip2D at w1
  split at w1
  · rename_i dx dy
    split at w1
    · rename_i t xs u ys ex ey
      cases s1 with
      | cons h1 s1 =>
      cases s1 with
      | cons h2 s1 =>
      cases s1
      obtain ⟨a', vs, e1, q1, p1⟩ := den_sq h1 ex
      obtain ⟨b', ws, e2, q2, p2⟩ := den_sq h2 ey
      subst e1; subst e2
      refine ⟨t, u, a', b', vs, ws, rfl, q1, q2, w1 _ H1 [.den (.ref a') dx, .den (.ref b') dy] g1 (fun p hp => ?_) (keeps_zq ex ey)⟩
      rcases List.mem_cons.mp hp with e | e
      · subst e; exact h1
      · rw [List.mem_singleton.mp e]; exact h2
    · exact w1.elim
  · exact w1.elim
/-! three -/
def zip3L (xs ys zs : List D) : List D := (xs.zip (ys.zip zs)).map fun p => .tup [p.1, p.2.1, p.2.2]
def zip3D : List D → M (List D)
  | [x, y, z] => (match seqOf x, seqOf y, seqOf z with
    | some (_, xs), some (_, ys), some (_, zs) => .ret (zip3L xs ys zs)
    | _, _, _ => .stuck)
  | _ => .stuck
def cZip3 (a : CA) : CI := fun ρ => (a ρ).bind zip3D
theorem zip3L_len (xs ys zs : List D) : (zip3L xs ys zs).length = min (min xs.length ys.length) zs.length := by simp [zip3L, Nat.min_assoc]
theorem zip3L_at {xs ys zs : List D} {i : Nat} {x y z : D} (h1 : xs[i]? = some x) (h2 : ys[i]? = some y) (h3 : zs[i]? = some z) : (zip3L xs ys zs)[i]? = some (.tup [x, y, z]) := by
  unfold zip3L
  have e : (ys.zip zs)[i]? = some (y, z) := List.getElem?_zip_eq_some.mpr ⟨h2, h3⟩
  have e' : (xs.zip (ys.zip zs))[i]? = some (x, (y, z)) := List.getElem?_zip_eq_some.mpr ⟨h1, e⟩
  rw [List.getElem?_map, e']; rfl
theorem keeps_zr {K : PySem.W.Frag} {a b c : Addr} {dx dy dz : D} {t u v : Bool} {xs ys zs : List D} (ex : seqOf dx = some (t, xs)) (ey : seqOf dy = some (u, ys)) (ez : seqOf dz = some (v, zs)) : Keeps K [.den (.ref a) dx, .den (.ref b) dy, .den (.ref c) dz] (Itr K t u v a b c) (zip3L xs ys zs) := fun O H hp i => by
  have h1 : Den K O H (.ref a) dx := hp _ List.mem_cons_self
  have h2 : Den K O H (.ref b) dy := hp _ (List.mem_cons_of_mem _ List.mem_cons_self)
  have h3 : Den K O H (.ref c) dz := hp _ (List.mem_cons_of_mem _ (List.mem_cons_of_mem _ List.mem_cons_self))
  obtain ⟨a', vs, e1, q1, s1⟩ := den_sq h1 ex
  obtain ⟨b', ws, e2, q2, s2⟩ := den_sq h2 ey
  obtain ⟨c', us, e3, q3, s3⟩ := den_sq h3 ez
  cases e1; cases e2; cases e3
  rw [zip3L_len]
  refine ⟨fun hi => ?_, fun hi hi' => ⟨vs, ws, us, q1, q2, q3, by rw [s1.length, s2.length, s3.length]; omega⟩⟩
  obtain ⟨v1, ev, xv⟩ := s1.get i xs[i] (List.getElem?_eq_getElem (by omega))
  obtain ⟨w1, ew, xw⟩ := s2.get i ys[i] (List.getElem?_eq_getElem (by omega))
  obtain ⟨u1, eu, xu⟩ := s3.get i zs[i] (List.getElem?_eq_getElem (by omega))
  refine ⟨⟨vs, ws, us, v1, w1, u1, q1, q2, q3, ev, ew, eu⟩, fun x H'' hy => ?_⟩
  obtain ⟨T, x1, y1, z1, e, hT, eH, f1, f2, f3⟩ := hy
  subst e; subst eH
  have c1 := f1 vs q1
  have c2 := f2 ws q2
  have c3 := f3 us q3
  rw [ev] at c1; cases c1
  rw [ew] at c2; cases c2
  rw [eu] at c3; cases c3
  refine ⟨Grow.new hT, .tup [xs[i], ys[i], zs[i]], zip3L_at (List.getElem?_eq_getElem (by omega)) (List.getElem?_eq_getElem (by omega)) (List.getElem?_eq_getElem (by omega)), fun hd => ?_⟩
  exact .tup (off_new hd hT) upd_same (.cons (xv.ext (Grow.new hT).ext) (.cons (xw.ext (Grow.new hT).ext) (.cons (xu.ext (Grow.new hT).ext) .nil)))
theorem simI_zip3 {f : Cf} {ta : TA} {a : CA} (ha : SimA f ta a) : SimI f (iZr f.K ta) (cZip3 a) := fun P O σ H ρ R r w => by
  refine ha P O σ H ρ _ r (M.wp_mono (M.wp_bind.mp w) (fun ds w1 vs H1 g1 s1 => ?_) fun _ z => z)
  unfold zip3D at w1
  split at w1
  · rename_i dx dy dz
    split at w1
    · rename_i t xs u ys v zs ex ey ez
      cases s1 with
      | cons h1 s1 =>
      cases s1 with
      | cons h2 s1 =>
      cases s1 with
      | cons h3 s1 =>
      cases s1
      obtain ⟨a', vs, e1, q1, p1⟩ := den_sq h1 ex
      obtain ⟨b', ws, e2, q2, p2⟩ := den_sq h2 ey
      obtain ⟨c', us, e3, q3, p3⟩ := den_sq h3 ez
      subst e1; subst e2; subst e3
      refine ⟨t, u, v, a', b', c', vs, ws, us, rfl, q1, q2, q3, w1 _ H1 [.den (.ref a') dx, .den (.ref b') dy, .den (.ref c') dz] g1 (fun p hp => ?_) (keeps_zr ex ey ez)⟩
      rcases List.mem_cons.mp hp with e | e
      · subst e; exact h1
      · rcases List.mem_cons.mp e with e | e
        · subst e; exact h2
        · rw [List.mem_singleton.mp e]; exact h3
    · exact w1.elim
  · exact w1.elim
/-! enumerate(list) -/
def enumF : Nat → List D → List D
  | _, [] => []
  | i, x :: xs => .tup [.int (i : Int), x] :: enumF (i + 1) xs
theorem enumF_len : ∀ (xs : List D) (k : Nat), (enumF k xs).length = xs.length
  | [], _ => rfl
  | _ :: xs, k => by show (enumF (k + 1) xs).length + 1 = _; rw [enumF_len xs]; rfl
theorem enumF_at : ∀ (xs : List D) (k i : Nat) {x : D}, xs[i]? = some x → (enumF k xs)[i]? = some (.tup [.int ((k + i : Nat) : Int), x])
  | [], _, i, x, e => by simp at e
  | _ :: xs, k, 0, x, e => by simp at e; subst e; rfl
  | _ :: xs, k, i + 1, x, e => by
    have := enumF_at xs (k + 1) i (x := x) (by simpa using e)
    rw [show k + 1 + i = k + (i + 1) by omega] at this
    exact this
def enumD : List D → M (List D)
  | [.lst xs] => .ret (enumF 0 xs)
  | _ => .stuck
def cEnum (a : CA) : CI := fun ρ => (a ρ).bind enumD
theorem keeps_enum {K : PySem.W.Frag} {a : Addr} {xs : List D} : Keeps K [.den (.ref a) (.lst xs)] (Ite K a) (enumF 0 xs) := fun O H hp i => by
  have h1 : Den K O H (.ref a) (.lst xs) := hp _ List.mem_cons_self
  obtain ⟨b, vs, e, h, s⟩ := (DenC.lst (H0 := H) (.inl h1))
  cases e
  rw [enumF_len]
  refine ⟨fun hi => ?_, fun hi _ => ⟨vs, SqL.of h, by rw [s.length]; exact hi⟩⟩
  obtain ⟨v, ev, xv⟩ := s.get i xs[i] (List.getElem?_eq_getElem hi)
  refine ⟨⟨vs, v, SqL.of h, ev⟩, fun x H'' hy => ?_⟩
  obtain ⟨T, x1, e, hT, eH, f1⟩ := hy
  subst e; subst eH
  have c1 := f1 vs (SqL.of h)
  rw [ev] at c1; cases c1
  have ea := enumF_at xs 0 i (List.getElem?_eq_getElem hi)
  rw [Nat.zero_add] at ea
  exact ⟨Grow.new hT, _, ea, fun hd => .tup (off_new hd hT) upd_same (.cons (.int _) (.cons (xv.ext (Grow.new hT).ext) .nil))⟩
theorem simI_enum {f : Cf} {ta : TA} {a : CA} (ha : SimA f ta a) : SimI f (iEnum f.K ta) (cEnum a) := fun P O σ H ρ R r w => by
  refine ha P O σ H ρ _ r (M.wp_mono (M.wp_bind.mp w) (fun ds w1 vs H1 g1 s1 => ?_) fun _ z => z)
  unfold enumD at w1
  split at w1
  · rename_i xs
    cases s1 with
    | cons h1 s1 =>
    cases s1
    obtain ⟨b, vs, e, h, s⟩ := (DenC.lst (H0 := H) (.inl h1))
    subst e
    refine ⟨b, vs, rfl, SqL.of h, w1 _ H1 [.den (.ref b) (.lst xs)] g1 (fun p hp => ?_) keeps_enum⟩
    rw [List.mem_singleton.mp hp]; exact h1
  · exact w1.elim
/-! d.items() -/
def itemsOf : D → M (List D)
  | .dct es => .ret (es.map fun e => .tup [e.1, e.2])
  | _ => .stuck
def cItemsD (a : CE) : CI := fun ρ => (a ρ).bind itemsOf
theorem keeps_items {K : PySem.W.Frag} {a : Addr} {o : Obj} {kvs : List (Key × V)} {es : List (D × D)} : Keeps K [.frz a o (.dK kvs), .den (.ref a) (.dct es)] (Iti a o kvs) (es.map fun e => .tup [e.1, e.2]) := fun O H hp i => by
  obtain ⟨hn, hf⟩ : ¬ O a ∧ H a = some (.frz o (.dK kvs)) := hp _ List.mem_cons_self
  have hd : Den K O H (.ref a) (.dct es) := hp _ (List.mem_cons_of_mem _ List.mem_cons_self)
  have s := dct_frz hd hf
  rw [List.length_map]
  refine ⟨fun hi => ⟨⟨hf, by rw [s.length]; exact hi⟩, fun x H'' hy => ?_⟩, fun hi _ => ⟨hf, by rw [s.length]; exact hi⟩⟩
  obtain ⟨T, k, v, hk, e, hT, eH⟩ := hy
  subst e; subst eH
  obtain ⟨d, hd, xd⟩ := s.at i k v hk
  refine ⟨Grow.new hT, .tup [keyD k, d], by rw [List.getElem?_map, hd]; rfl, fun hdm => ?_⟩
  exact .tup (off_new hdm hT) upd_same (.cons (den_key k) (.cons (xd.ext (Grow.new hT).ext) .nil))
theorem simI_itemsZ {f : Cf} {te : TE} {a : CE} (hz : f.z = true) (ha : SimE f te a) : SimI f (iItems (tFz te)) (cItemsD a) := fun P O σ H ρ R r w => by
  refine fz_step hz ha r (M.wp_bind.mp w) fun d hd => ?_
  cases d with
  | dct es =>
    refine ⟨es, rfl, fun b o kvs H' g n hf hb => ⟨b, o, kvs, rfl, hf, ?_⟩⟩
    refine hd (Iti b o kvs) H' [.frz b o (.dK kvs), .den (.ref b) (.dct es)] g (fun p hp => ?_) keeps_items
    rcases List.mem_cons.mp hp with e | e
    · subst e; exact ⟨n, hf⟩
    · rw [List.mem_singleton.mp e]; exact hb
  | _ => exact hd.elim
theorem pi_itemsZ {X : Cx} {e : Expr} {te : TE} {apos cpos tpos : Pos} {elts : List Expr} {kk : Nat} (he : PE X e te) (hb : attributeBase e "items" X.env (eval e X.env) = eval e X.env := by rfl) (hl : (apos.endLine == cpos.line) = true := by rfl) : PI X (.Tuple elts kk tpos) (.Call (.Attribute e "items" apos) [] [] cpos) (iItems (tFz te)) := pi_items (pe_fz he) hb hl
end Py

/-! RV: sorted of lists by data. -/
namespace Py
open PySem PySem.Spec PyProof.Rows L2
variable [Wd]

/-! ### a sort that computes -/
section
variable {α : Type} (le : α → α → Bool)
def insB (x : α) : List α → List α
  | [] => [x]
  | y :: ys => if le x y = true then x :: y :: ys else y :: insB x ys
def sortB : List α → List α
  | [] => []
  | x :: xs => insB le x (sortB xs)
variable {le}
theorem insB_mem {x a : α} : ∀ {l : List α}, a ∈ insB le x l → a = x ∨ a ∈ l
  | [], h => by simp [insB] at h; exact .inl h
  | y :: ys, h => by
    unfold insB at h
    split at h
    · rcases List.mem_cons.mp h with e | e
      · exact .inl e
      · exact .inr e
    · rcases List.mem_cons.mp h with e | e
      · exact .inr (by rw [e]; exact List.mem_cons_self)
      · rcases insB_mem e with e | e
        · exact .inl e
        · exact .inr (List.mem_cons_of_mem _ e)
theorem insB_pw (T : PySem.W.TotalLe le) {x : α} : ∀ {l : List α}, l.Pairwise (fun a b => le a b = true) → (insB le x l).Pairwise (fun a b => le a b = true)
  | [], _ => by simp [insB]
  | y :: ys, h => by
    rw [List.pairwise_cons] at h
    unfold insB
    split
    · rename_i hx
      rw [List.pairwise_cons, List.pairwise_cons]
      refine ⟨fun a ha => ?_, h⟩
      rcases List.mem_cons.mp ha with e | e
      · rw [e]; exact hx
      · exact T.trans _ _ _ hx (h.1 a e)
    · rename_i hx
      rw [List.pairwise_cons]
      refine ⟨fun a ha => ?_, insB_pw T h.2⟩
      rcases insB_mem ha with e | e
      · rw [e]
        exact (T.total y x).elim id fun q => absurd q hx
      · exact h.1 a e
theorem insB_filter (T : PySem.W.TotalLe le) {x c : α} : ∀ {l : List α}, (insB le x l).filter (PySem.W.sameRank le c) = (x :: l).filter (PySem.W.sameRank le c)
  | [] => rfl
  | y :: ys => by
    unfold insB
    split
    · rfl
    · rename_i hx
      rw [List.filter_cons, insB_filter T (l := ys)]
      cases hy : PySem.W.sameRank le c y with
      | false => simp [List.filter_cons, hy]
      | true =>
        cases hxc : PySem.W.sameRank le c x with
        | false => simp [List.filter_cons, hy, hxc]
        | true =>
          exfalso
          apply hx
          have h1 : le c y = true ∧ le y c = true := by simpa [PySem.W.sameRank] using hy
          have h2 : le c x = true ∧ le x c = true := by simpa [PySem.W.sameRank] using hxc
          exact T.trans _ _ _ h2.2 h1.1
theorem sortB_pw (T : PySem.W.TotalLe le) : ∀ l : List α, (sortB le l).Pairwise (fun a b => le a b = true)
  | [] => by simp [sortB]
  | x :: xs => insB_pw T (sortB_pw T xs)
theorem sortB_filter (T : PySem.W.TotalLe le) (c : α) : ∀ l : List α, (sortB le l).filter (PySem.W.sameRank le c) = l.filter (PySem.W.sameRank le c)
  | [] => rfl
  | x :: xs => by
    show (insB le x (sortB le xs)).filter _ = _
    rw [insB_filter T, List.filter_cons, sortB_filter T c xs, List.filter_cons]
theorem sortB_eq (T : PySem.W.TotalLe le) (l : List α) : sortB le l = l.mergeSort le := PySem.W.sort_unique T (sortB_pw T l) fun c => sortB_filter T c l
end
/-! ### sorted(list) -/
def leDD (x y : D) : Bool := !PySem.W.dataLt y.toP x.toP
theorem leDD_eq : leDD = PySem.W.dataLe false D.toP := rfl
def alikes : List D → Bool
  | [] => true
  | x :: xs => PySem.W.alike x.toP x.toP && (xs.all fun y => PySem.W.alike x.toP y.toP && PySem.W.alike y.toP x.toP) && alikes xs
def isTup1 : D → Bool
  | .tup (_ :: _) => true
  | _ => false
def isAtom1 : D → Bool
  | .tup _ => false
  | .non => false
  | _ => true
def sortOk (xs : List D) : Bool := xs.all D.pl && (xs.all fun x => decide (x.dp ≤ 60)) && alikes xs && (xs.all isTup1 || xs.all isAtom1)
def sortedD : List D → Option D
  | [.lst xs] => if sortOk xs = true ∧ xs.length ≤ LIM then some (.lst (sortB leDD xs)) else none
  | _ => none
theorem alikes_of : ∀ {xs : List D}, alikes xs = true → PySem.W.AllAlike (xs.map D.toP)
  | [], _ => fun d hd => nomatch hd
  | x :: xs, h => by
    have h' : (PySem.W.alike x.toP x.toP = true ∧ (xs.all fun y => PySem.W.alike x.toP y.toP && PySem.W.alike y.toP x.toP) = true) ∧ alikes xs = true := by simpa [alikes] using h
    have ih := alikes_of h'.2
    have hx : ∀ y ∈ xs, PySem.W.alike x.toP y.toP = true ∧ PySem.W.alike y.toP x.toP = true := fun y hy => by
      have := List.all_eq_true.mp h'.1.2 y hy
      simpa using this
    intro d hd d' hd'
    rw [List.map_cons] at hd hd'
    rcases List.mem_cons.mp hd with e | e
    · rcases List.mem_cons.mp hd' with e' | e'
      · rw [e, e']; exact h'.1.1
      · obtain ⟨y, hy, ey⟩ := List.mem_map.mp e'
        rw [e, ← ey]; exact (hx y hy).1
    · rcases List.mem_cons.mp hd' with e' | e'
      · obtain ⟨y, hy, ey⟩ := List.mem_map.mp e
        rw [e', ← ey]; exact (hx y hy).2
      · exact ih d e d' e'
theorem sortable_of {xs : List D} (h : (xs.all isTup1 || xs.all isAtom1) = true) (hp : xs.all D.pl = true) : PySem.W.Sortable (xs.map D.toP) := by
  rcases Bool.or_eq_true_iff.mp h with h | h
  · refine .inl fun d hd => ?_
    obtain ⟨x, hx, e⟩ := List.mem_map.mp hd
    have := List.all_eq_true.mp h x hx
    unfold isTup1 at this
    split at this
    · rename_i a r
      exact ⟨_, _, by rw [← e, D.toP, D.toPs]⟩
    · cases this
  · refine .inr fun d hd => ?_
    obtain ⟨x, hx, e⟩ := List.mem_map.mp hd
    have h1 := List.all_eq_true.mp h x hx
    have h2 := List.all_eq_true.mp hp x hx
    rw [← e]
    cases x <;> first | (simp [isAtom1] at h1; done) | (simp [D.pl] at h2; done) | (refine ⟨by simp [D.toP], fun xs => by simp [D.toP]⟩)
/-- values and their data, side by side -/
theorem each_of {K : PySem.W.Frag} {O : Addr → Prop} {H : Hp} : ∀ {vs : List V} {us : List Value} {ds : List D}, Vals vs us → Dens K O H vs ds → PySem.W.EachIs (fun u (b : V × D) => RelV b.1 u ∧ Den K O H b.1 b.2) us (vs.zip ds)
  | _, _, _, .nil, .nil => .nil
  | _, _, _, .cons r rr, .cons h s => .cons ⟨r, h⟩ (each_of rr s)
theorem each_reads {X : Cx} {pins : List (Addr × Obj)} {σ : L2.St} {H : Hp} {s : Shared} {O : Addr → Prop} (I : Inv X pins σ H s) : ∀ {vs : List V} {us : List Value} {ds : List D}, Vals vs us → Dens X.K O H vs ds → ds.all D.pl = true → PySem.W.EachIs (fun u (b : V × D) => ∃ as, Reads s.heap u b.2.toP as) us (vs.zip ds)
  | _, _, _, .nil, .nil, _ => .nil
  | _, _, _, .cons r rr, .cons h s, hp => by
    rw [List.all_cons, Bool.and_eq_true] at hp
    exact .cons (h.reads I _ r hp.1) (each_reads I rr s hp.2)
theorem each_back {K : PySem.W.Frag} {O : Addr → Prop} {H : Hp} : ∀ {us : List Value} {bs : List (V × D)}, PySem.W.EachIs (fun u (b : V × D) => RelV b.1 u ∧ Den K O H b.1 b.2) us bs → Vals (bs.map (·.1)) us ∧ Dens K O H (bs.map (·.1)) (bs.map (·.2))
  | _, _, .nil => ⟨.nil, .nil⟩
  | _, _, .cons r rr => let ⟨a, b⟩ := each_back rr; ⟨.cons r.1 a, .cons r.2 b⟩
theorem zip_snd {vs : List V} {ds : List D} (h : vs.length = ds.length) : (vs.zip ds).map (·.2) = ds := by
  rw [List.map_snd_zip]; omega
theorem sortOk_of {xs : List D} (h : sortOk xs = true) : xs.all D.pl = true ∧ (∀ x ∈ xs, x.dp ≤ 60) ∧ alikes xs = true ∧ (xs.all isTup1 || xs.all isAtom1) = true := by
  unfold sortOk at h
  rw [Bool.and_eq_true, Bool.and_eq_true, Bool.and_eq_true] at h
  exact ⟨h.1.1.1, fun x hx => by simpa using List.all_eq_true.mp h.1.1.2 x hx, h.1.2, h.2⟩
theorem sorted_pairs {vs : List V} {ds : List D} (h : vs.length = ds.length) : ((vs.zip ds).mergeSort (PySem.W.dataLe false fun b : V × D => b.2.toP)).map (·.2) = sortB leDD ds := by
  have e : ((vs.zip ds).mergeSort (PySem.W.dataLe false fun b : V × D => b.2.toP)).map (fun b : V × D => b.2) = ((vs.zip ds).map fun b : V × D => b.2).mergeSort leDD := PySem.W.sort_maps (r := PySem.W.dataLe false fun b : V × D => b.2.toP) (s := leDD) (fun b : V × D => b.2) (fun a _ b _ => rfl)
  rw [e, zip_snd h, leDD_eq]
  exact (sortB_eq (PySem.W.sortLe_total _ _ _) ds).symm
theorem u_sorted {X : Cx} (hu : X.A.units + 64 < cLine) : CallR X (.builtin "sorted") (uCb X.K sortedD) := by
  intro pins s σ H xs us Q I r h
  obtain ⟨H0, O, ds, z, hd, hx, e, q⟩ := h
  rcases ds with _ | ⟨d, _ | ⟨d2, r2⟩⟩
  · cases e
  rotate_left
  · cases d <;> cases e
  cases hx with
  | cons h1 h2 =>
  cases h2
  cases d <;> first | (cases e; done) | skip
  rename_i ys
  replace e : (if sortOk ys = true ∧ ys.length ≤ LIM then some (D.lst (sortB leDD ys)) else none) = some z := e
  split at e
  · rename_i hc
    cases e
    obtain ⟨c1, c2, c3, c4⟩ := sortOk_of hc.1
    obtain ⟨a, vs, ev, ha, sa⟩ := h1.lst
    subst ev
    cases r with
    | cons ra rr =>
    cases rr
    cases ra
    obtain ⟨its, rv, p, hz⟩ := I.list (SqL.of ha)
    have hl : vs.length = ys.length := sa.length
    have em : (vs.zip ys).map (fun b : V × D => b.2.toP) = ys.map D.toP := by
      rw [show (fun b : V × D => b.2.toP) = D.toP ∘ (·.2) from rfl, ← List.map_map, zip_snd hl]
    refine PySem.W.sorted_data (enc := fun b : V × D => b.2.toP) p.isList (each_of rv sa) (each_reads I rv sa c1) (by rw [em]; exact alikes_of c3) (by rw [em]; exact sortable_of c4 c1) (by rw [List.length_zip, hl]; simp; rw [← hl]; exact hz) (fun b hb => ?_) fun out ho hE => ?_
    · have hm : b.2 ∈ ys := by
        have := List.mem_map_of_mem (f := fun b : V × D => b.2) hb
        rw [zip_snd hl] at this; exact this
      have := c2 _ hm
      rw [(toP_plain _ (List.all_eq_true.mp c1 _ hm)).2]
      omega
    · obtain ⟨b1, b2⟩ := each_back hE
      rw [sorted_pairs hl] at b2
      obtain ⟨ep, he⟩ := PyProof.Rows.sortedAll_at s.heap its (List.toArray out)
      have hn : H (s.heap.objs.size + 1) = none := I.hok.fresh (Nat.le_succ _)
      have hlen : (((vs.zip ys).mergeSort (PySem.W.dataLe false fun b : V × D => b.2.toP)).map (·.1)).length ≤ sizeLine := by
        rw [List.length_map, List.length_mergeSort, List.length_zip]
        exact Nat.le_trans (Nat.min_le_left _ _) hz
      refine ⟨.ref (s.heap.objs.size + 1), _, I.laid (t' := s.toks) (a := s.heap.objs.size + 1) (o := .lst (((vs.zip ys).mergeSort (PySem.W.dataLe false fun b : V × D => b.2.toP)).map (·.1))) (fun b o eb => PyProof.Rows.sortedAll_old eb) (Nat.le_succ _) ⟨hlen, out, ep, b1, he⟩, rfl, q _ _ (Grow.new hn) ?_⟩
      exact .lst (off_new hd hn) upd_same (b2.ext (Grow.new hn).ext)
  · cases e
end Py

/-! RVD: sorted of dicts. -/
namespace Py
open PySem PySem.Spec PyProof.Rows L2
variable [Wd]

/-- what list.sort does to a new list of such values -/
theorem sort_new {X : Cx} {pins : List (Addr × Obj)} {σ : L2.St} {H : Hp} {s : Shared} {O : Addr → Prop} {vs : List V} {us : List Value} {ds : List D} {E : Value → Shared → Prop} {Q : VK} (hu : X.A.units + 64 < cLine) (I : Inv X pins σ H s) (hd : ∀ a, O a → H a ≠ none) (rv : Vals vs us) (sa : Dens X.K O H vs ds)
    (hc : sortOk ds = true) (hz : vs.length ≤ sizeLine) (q : ∀ v H', Grow H H' → Den X.K O H' v (.lst (sortB leDD ds)) → Q v H') :
    wpAny (model X.prog X.w) X.A.in1 (call (.builtin "list.sort") [.ref s.heap.objs.size]) (fun _ s' => EP X pins σ Q (.ref s.heap.objs.size) s') E { s with heap := s.heap.push { cls := .type "list", data := .seq us.toArray } } := by
  obtain ⟨c1, c2, c3, c4⟩ := sortOk_of hc
  have hl : vs.length = ds.length := sa.length
  have em : (vs.zip ds).map (fun b : V × D => b.2.toP) = ds.map D.toP := by
    rw [show (fun b : V × D => b.2.toP) = D.toP ∘ (·.2) from rfl, ← List.map_map, zip_snd hl]
  have er : PySem.W.EachIs (fun v (b : V × D) => ∃ as, Reads (s.heap.push { cls := .type "list", data := .seq us.toArray }) v b.2.toP as ∧ s.heap.objs.size ∉ as) us (vs.zip ds) :=
    (each_reads I rv sa c1).mono fun v b ⟨as, ra⟩ => ⟨as, PyProof.Rows.Reads.keeps (fun b o e => Heap.get?_push_of_some _ e) ra, fun hm => by
      obtain ⟨o, ho⟩ := PyProof.On.reads_mem_get ra _ hm
      exact absurd (Heap.lt_size ho) (Nat.lt_irrefl _)⟩
  have ho : (s.heap.push { cls := .type "list", data := .seq us.toArray }).get? s.heap.objs.size = some (seqObj "list" us.toArray 0) := Heap.get?_push_size _ rfl
  refine PySem.W.list_sort_data (s := { s with heap := s.heap.push { cls := .type "list", data := .seq us.toArray } }) (enc := fun b : V × D => b.2.toP) ho (each_of rv sa) er (by rw [em]; exact alikes_of c3) (by rw [em]; exact sortable_of c4 c1) (by rw [List.length_zip, hl]; simp; rw [← hl]; exact hz) (fun b hb => ?_) fun out hlo hE => ?_
  · have hm : b.2 ∈ ds := by
      have := List.mem_map_of_mem (f := fun b : V × D => b.2) hb
      rw [zip_snd hl] at this; exact this
    have := c2 _ hm
    rw [(toP_plain _ (List.all_eq_true.mp c1 _ hm)).2]
    show X.A.units + 1 + 1 + _ < cLine
    omega
  · obtain ⟨b1, b2⟩ := each_back hE
    rw [sorted_pairs hl] at b2
    obtain ⟨ep, he⟩ := PyProof.Rows.sortedHeap_at (vs := us) (out := List.toArray out) ho
    have hn : H s.heap.objs.size = none := I.hok.fresh (Nat.le_refl _)
    have hlen : (((vs.zip ds).mergeSort (PySem.W.dataLe false fun b : V × D => b.2.toP)).map (·.1)).length ≤ sizeLine := by
      rw [List.length_map, List.length_mergeSort, List.length_zip]
      exact Nat.le_trans (Nat.min_le_left _ _) hz
    refine ⟨.ref s.heap.objs.size, _, I.laid (t' := s.toks) (a := s.heap.objs.size) (o := .lst (((vs.zip ds).mergeSort (PySem.W.dataLe false fun b : V × D => b.2.toP)).map (·.1))) (fun b o eb => ?_) (Nat.le_refl _) ⟨hlen, out, ep, b1, he⟩, rfl, q _ _ (Grow.new hn) ?_⟩
    · have hb : b < s.heap.objs.size := Heap.lt_size eb
      rw [PyProof.Rows.sortedHeap_old (Nat.ne_of_lt hb) (by rw [size_push']; exact Nat.lt_succ_of_lt hb)]
      exact Heap.get?_push_of_some _ eb
    · exact .lst (off_new hd hn) upd_same (b2.ext (Grow.new hn).ext)
/-! ### the keys of a dict, as values and as data -/
def dkeys : D → Option (List D)
  | .dct es => some (es.map (·.1))
  | .dcu es => some (es.map (·.1))
  | _ => none
def sortedKD : List D → Option D
  | [d] => (dkeys d).bind fun ks => if sortOk ks = true ∧ ks.length ≤ LIM then some (.lst (sortB leDD ks)) else none
  | _ => none
theorem keysV {K : PySem.W.Frag} {O : Addr → Prop} {H : Hp} : ∀ {kvs : List (Key × V)} {es : List (D × D)}, DenKV K O H kvs es → Dens K O H (kvs.map fun p => kV p.1) (es.map (·.1))
  | _, _, .nil => .nil
  | _, _, .cons h s => .cons (den_key _) (keysV s)
theorem keysDv {K : PySem.W.Frag} {O : Addr → Prop} {H : Hp} : ∀ {xs : List E3} {es : List (D × D)}, DenTK K O H xs es → Dens K O H (xs.map fun x => x.2.1) (es.map (·.1))
  | _, _, .nil => .nil
  | _, _, .cons _ e k r h s => .cons k (keysDv s)
theorem du_ok {X : Cx} {pins : List (Addr × Obj)} {σ : L2.St} {H : Hp} {s : Shared} {a : Addr} {xs : List E3} {ep : Nat} (I : Inv X pins σ H s) (h : H a = some (duO a xs ep)) : s.heap.DictRaw a (xs.map duE).toArray ep :=
  (show ObjOk X.prog X.w H s.heap a (duO a xs ep) from I.hok a _ h).1
theorem refs_of {K : PySem.W.Frag} {O : Addr → Prop} {H : Hp} : ∀ {xs : List E3} {es : List (D × D)}, DenTK K O H xs es → Vals (xs.map fun x => x.2.1) (xs.map fun x => x.2.2.1)
  | _, _, .nil => .nil
  | _, _, .cons _ e k r h s => .cons e (refs_of s)
/-- what collecting a dict gives -/
theorem dict_keys {X : Cx} {pins : List (Addr × Obj)} {σ : L2.St} {H H0 : Hp} {s : Shared} {O : Addr → Prop} {v : V} {u : Value} {d : D} {ks : List D} {o : Obj} (KS : X.K.lookup sysModules = some o) (I : Inv X pins σ H s) (ru : RelV v u) (h : DenC X.K H0 O H v d) (e : dkeys d = some ks) :
    ∃ (a : Addr) (E : Array DictEntry) (ep : Nat) (vs : List V), u = .ref a ∧ (a == sysModules) = false ∧ s.heap.DictRaw a E ep ∧ E.size = vs.length ∧ (∀ acc : Array Value, ItemsOf (fun i v => ∃ hi : i < E.size, v = E[i].key) acc E.size → Vals vs acc.toList) ∧ Dens X.K O H vs ks := by
  unfold dkeys at e
  split at e
  · rename_i es
    cases e
    obtain ⟨a, kvs, ev, hr, sk⟩ := h.dct
    subst ev
    cases ru
    obtain ⟨z, lo, vs, rel, dd⟩ := dk_rd I.hok hr
    obtain ⟨E, ep, hraw, hsz, hat⟩ := dd.raw
    have hk := rel.keys
    refine ⟨a, E, ep, kvs.map fun p => kV p.1, rfl, lo, hraw, by rw [hsz, List.length_map, rel.length], fun acc hacc => ?_, keysV sk⟩
    have e1 : (kvs.map fun p => kV p.1) = vs.map fun p => kV p.1 := by
      have : ∀ {l : List (Key × V)} {m : List (Key × Value)}, l.map (·.1) = m.map (·.1) → (l.map fun p => kV p.1) = m.map fun p => kV p.1 := fun {l m} q => by
        rw [show (fun p : Key × V => kV p.1) = kV ∘ (·.1) from rfl, ← List.map_map, q, List.map_map]; rfl
      exact this hk
    rw [e1]
    refine keys_at (by rw [Array.length_toList, hacc.1, hsz]) fun j w hj => ?_
    obtain ⟨hi, ew⟩ := hacc.2 j w (by rw [← Array.getElem?_toList]; exact hj)
    have hjv : j < vs.length := by rw [← hsz]; exact hi
    obtain ⟨q1, _⟩ := hat j hi vs[j].1 vs[j].2 (by rw [List.getElem?_eq_getElem hjv])
    exact ⟨vs[j].1, vs[j].2, by rw [List.getElem?_eq_getElem hjv], by rw [ew]; exact q1⟩
  · rename_i es
    cases e
    obtain ⟨a, xs, ep, ev, hr, sk⟩ := h.dcu
    subst ev
    cases ru
    have hraw := du_ok I hr
    have lo : (a == sysModules) = false := by
      refine beq_eq_false_iff_ne.mpr fun ea => ?_
      subst ea
      have := (I.bs _ _ (I.mod.kin _ _ KS)).2
      rw [hr] at this; cases this
    refine ⟨a, _, ep, xs.map fun x => x.2.1, rfl, lo, hraw, by simp, fun acc hacc => ?_, keysDv sk⟩
    have el : acc.toList = xs.map fun x => x.2.2.1 := by
      apply List.ext_getElem?
      intro j
      rcases Nat.lt_or_ge j acc.size with hj | hj
      · have ej : acc[j]? = some acc[j] := Array.getElem?_eq_getElem hj
        obtain ⟨hi, ew⟩ := hacc.2 j acc[j] ej
        rw [Array.getElem?_toList, ej, ew]
        have hx : j < xs.length := by simpa using hi
        simp [duE, hx]
      · rw [Array.getElem?_toList, Array.getElem?_eq_none hj]
        have : xs.length ≤ j := by have := hacc.1; simp at this; omega
        rw [List.getElem?_eq_none (by simpa using this)]
    rw [el]
    exact refs_of sk
  · cases e
theorem u_sortedK {X : Cx} {o : Obj} (KS : X.K.lookup sysModules = some o) (hc : X.calm = true) (hu : X.A.units + 64 < cLine) : CallR X (.builtin "sorted") (uCb X.K sortedKD) := by
  intro pins s σ H xs us Q I r h
  obtain ⟨H0, O, ds, z, hd, hx, e, q⟩ := h
  rcases ds with _ | ⟨d, _ | ⟨d2, r2⟩⟩
  · cases e
  rotate_left
  · cases e
  cases hx with
  | cons h1 h2 =>
  cases h2
  replace e : ((dkeys d).bind fun ks => if sortOk ks = true ∧ ks.length ≤ LIM then some (D.lst (sortB leDD ks)) else none) = some z := e
  cases hk : dkeys d with
  | none => rw [hk] at e; cases e
  | some ks =>
  rw [hk] at e
  replace e : (if sortOk ks = true ∧ ks.length ≤ LIM then some (D.lst (sortB leDD ks)) else none) = some z := e
  split at e
  · rename_i hcc
    cases e
    cases r with
    | cons ra rr =>
    cases rr
    obtain ⟨a, E, ep, vs, eu, lo, hraw, hsz, hval, sd⟩ := dict_keys KS I ra h1 hk
    subst eu
    have hz : vs.length ≤ sizeLine := by rw [sd.length]; exact lim_line hcc.2
    refine Calls.call_function_entry PyProof.Rows.kind_sorted PyProof.Rows.plain_sorted PyProof.Rows.entry_sorted (PyProof.Rows.args_sorted1 _) ?_
    unfold Builtin.«sorted»
    refine wpAny_bind (m := checkCount "sorted" 1 1 _) (wpAny_pure ?_)
    refine wpAny_bind (PySem.W.kdu_collect (A := X.A.in1) (KdlSrc.rawDict (prog := X.prog) (w := X.w) (es := E) (ep := ep) lo) (I.ok.hd hc) hraw (by rw [hsz]; exact hz) fun h' tk acc hkp hacc => ?_)
    have rv := hval acc hacc
    have I1 : Inv X pins σ H { s with heap := h', toks := tk } := I.kept hkp
    refine wpAny_bind (wpAny_newList ?_ (by rw [← rv.length]; exact hz))
    refine wpAny_bind (wpAny_holding (wpAny_mono (sort_new (s := { s with heap := h', toks := tk }) (E := _) (Q := Q) hu I1 hd rv sd hcc.1 hz q) (fun _ s' x => ?_) fun _ _ e => e))
    exact wpAny_pure ⟨_, rfl, x⟩
  · cases e
end Py

/-! RSet: len(set(xs)) of texts and ints. -/
namespace Py
open PySem PySem.Spec PyProof.Rows L2

def memK (ks : List Key) (q : Key) : Bool := ks.any fun k => decide (q = k)
/-- each key once, in order -/
def addK (ks : List Key) (k : Key) : List Key := if memK ks k = true then ks else ks ++ [k]
def onceK (f : Nat → Key) : Nat → List Key
  | 0 => []
  | i + 1 => addK (onceK f i) (f i)
theorem addK_mem (ks : List Key) (k q : Key) : memK (addK ks k) q = (memK ks q || decide (q = k)) := by
  unfold addK
  by_cases h : memK ks k = true
  · rw [if_pos h]
    by_cases e : q = k
    · subst e; rw [h]; rfl
    · simp [e]
  · rw [if_neg h]
    simp [memK, List.any_append]
theorem addK_len (ks : List Key) (k : Key) : (addK ks k).length = if memK ks k = true then ks.length else ks.length + 1 := by
  unfold addK
  split <;> simp
theorem onceK_le (f : Nat → Key) : ∀ i, (onceK f i).length ≤ i
  | 0 => Nat.le_refl _
  | i + 1 => by
    have z := onceK_le f i
    show (addK (onceK f i) (f i)).length ≤ i + 1
    rw [addK_len]
    split <;> omega
section
variable {P : Program} {w : World} {A : Around} {R : Result → Shared → Prop} {it : Addr} {fp wr : List Addr} {G : Array GenState → Array GenState → Prop} {n : Nat} {Pi : Nat → Value → Prop} {St : Nat → Shared → Prop}
theorem upd_loopK (W : WalksS P w A.in1 it fp wr G n Pi St) (S : Addr) (off : S ∉ fp) (f : Nat → Key) (is : ∀ i v, Pi i v → keyIs (f i) v = true) (few : n + 1 < scanBound) :
    ∀ (k i : Nat) (s : Shared), n - i = k → i ≤ n → St i s → s.heap.SetOf (mixKind P w) S (fun q => memK (onceK f i) q) (onceK f i).length →
      (∀ s', Moved (S :: wr) G s s' → s'.heap.SetOf (mixKind P w) S (fun q => memK (onceK f n) q) (onceK f n).length → R (.ok (.ret .none)) s') → codeAny (model P w) A (.builtin "set.update.loop" ⟨[.ref S, .ref it], []⟩) R s := by
  have offw : S ∉ wr := fun z => off (W.sub _ z)
  have more : ∀ b ∈ wr, b ∈ S :: wr := fun b z => List.mem_cons_of_mem _ z
  intro k
  induction k with
  | zero =>
    intro i s ek le st hS fin
    obtain rfl : i = n := by omega
    refine codeAny_builtin PyProof.Rows.F.entry_set_update_loop ?_
    rw [Around.under_plainId PyProof.Rows.F.plain_set_update_loop _]
    show wpAny _ A.in1 (pyNext (.ref it) >>= _) _ _ s
    refine wpAny_bind (W.done s _ _ st fun s1 mv => ?_)
    show wpAny _ A.in1 (ret Value.none) _ _ s1
    refine wpAny_pure (fin s1 (mv.mono more) ?_)
    obtain ⟨o, es, ep, t, ho, r⟩ := hS
    exact ⟨o, es, ep, t, mv.heap S _ offw ho, r⟩
  | succ k ih =>
    intro i s ek le st hS fin
    have lt : i < n := by omega
    refine codeAny_builtin PyProof.Rows.F.entry_set_update_loop ?_
    rw [Around.under_plainId PyProof.Rows.F.plain_set_update_loop _]
    show wpAny _ A.in1 (pyNext (.ref it) >>= _) _ _ s
    refine wpAny_bind (W.item i s _ _ lt st fun v s1 pv st1 mv => ?_)
    have kv := is i v pv
    have hS1 : s1.heap.SetOf (mixKind P w) S (fun q => memK (onceK f i) q) (onceK f i).length := by
      obtain ⟨o, es, ep, t, ho, r⟩ := hS
      exact ⟨o, es, ep, t, mv.heap S _ offw ho, r⟩
    show wpAny _ A.in1 (holding [v] (setAdd S v) >>= _) _ _ s1
    refine wpAny_bind (wpAny_holding ?_)
    unfold setAdd
    refine wpAny_holding (wpAny_bind ((mixKind P w).pyHash (k := f i) kv ?_))
    have room : (onceK f i).length + 1 < scanBound := by have := onceK_le f i; omega
    have sc : v.scannable = true := by rcases keyIs_shape kv with ⟨_, _, _, rfl⟩ | ⟨_, _, _, rfl⟩ <;> rfl
    refine wpAny_setAddHashed_of (knd := mixKind P w) (s := { s1 with toks := s1.toks + 1 }) kv sc hS1 room fun h2 sb hS2 => ?_
    have hS3 : h2.SetOf (mixKind P w) S (fun q => memK (onceK f (i + 1)) q) (onceK f (i + 1)).length := by
      have e1 : (fun q => memK (onceK f i) q || decide (q = f i)) = fun q => memK (onceK f (i + 1)) q := funext fun q => (addK_mem (onceK f i) (f i) q).symm
      have e2 : (if memK (onceK f i) (f i) = true then (onceK f i).length else (onceK f i).length + 1) = (onceK f (i + 1)).length := (addK_len (onceK f i) (f i)).symm
      rw [← e1, ← e2]; exact hS2
    refine wpAny_pure ⟨plainId_quiet PyProof.Rows.F.plain_set_update_loop _, ih (i + 1) _ (by omega) lt (W.frame _ s1 _ _ st1 (Nat.le_succ _) fun b hb o e => ?_) hS3 fun s2 mv2 fS => ?_⟩
    · rw [sb.2 b (fun z : b = S => off (by rw [← z]; exact hb))]; exact e
    · refine fin s2 (Moved.trans W.gtrans ((mv.mono more).then_heap (Nat.le_succ _) fun b o hb e => ?_) mv2) fS
      rw [sb.2 b (fun z : b = S => hb (by rw [z]; exact List.mem_cons_self))]; exact e
end
/-- an empty set, new -/
abbrev set0 (led : Bool) : Obj := { cls := .type "set", dict := none, data := .set #[] 0 (.fresh 0 0 led) }
def keyAt (ks : List Key) (i : Nat) : Key := ks.getD i (.inl 0)
section
variable {P : Program} {w : World} {A : Around} {E : Value → Shared → Prop} {s : Shared}
/-- set.__init__(new, list) -/
theorem init_setK {l : Addr} {items : Array Value} {ks : List Key} {led : Bool} (hh : A.handled = none) (hl : s.heap.IsList l items) (hi : ∀ i v, items[i]? = some v → keyIs (keyAt ks i) v = true) (few : items.size + 1 < scanBound) :
    codeAny (model P w) A (.call (.builtin "set.__init__") ⟨[.ref s.heap.objs.size, .ref l], []⟩) (wants (fun r s2 => r = .none ∧ ∃ h2 tk, s2 = { s with heap := h2, toks := tk } ∧
      h2.SetOf (mixKind P w) s.heap.objs.size (fun q => memK (onceK (keyAt ks) items.size) q) (onceK (keyAt ks) items.size).length ∧ (∀ b o, b < s.heap.objs.size → s.heap.get? b = some o → h2.get? b = some o)) E) { s with heap := s.heap.push (set0 led) } := by
  have hS : (s.heap.push (set0 led)).get? s.heap.objs.size = some (set0 led) := Heap.get?_push_size _ rfl
  have hT : Shared.TypeIs { s with heap := s.heap.push (set0 led) } (.ref s.heap.objs.size) "set" := ⟨_, hS, rfl⟩
  refine codeAny_call_builtin PySem.F.called_set.init.plain PySem.F.entry_set_init (check_set_init_1 hT ?_)
  obtain ⟨⟨ocls, odict, odata, oslots⟩, hol, hcl, nl, hdl⟩ := hl
  simp only at hcl hdl
  subst hcl; subst hdl
  have hol1 : (s.heap.push (set0 led)).get? l = some { cls := .type "list", dict := odict, data := .seq items nl, slots := oslots } := Heap.get?_push_of_some _ hol
  have q1 := PySem.F.sub_list_set
  have q2 := PySem.F.sub_list_frozenset
  have q3 : (Value.type "list" == Value.type "dict") = false := by decide
  have hl1 : (s.heap.push (set0 led)).IsList l items := ⟨_, hol1, rfl, nl, rfl⟩
  unfold Builtin.«set.__init__» noKeywords Builtin.Frozenset.updateFrom
  generalize hPI : pyIter = PI
  wp_walk
  subst hPI
  refine wpAny_pyIter_list hl1 (wpAny_bind (wpAny_runValue ?_))
  have lS : l < s.heap.objs.size := Heap.lt_size hol
  have hh3 : A.in1.in1.handled = none := by simp [hh]
  have ne1 : l ≠ (s.heap.push (set0 led)).objs.size := by
    rw [Heap.size_push]; exact Nat.ne_of_lt (Nat.lt_succ_of_lt lS)
  have offS : s.heap.objs.size ∉ [(s.heap.push (set0 led)).objs.size, l] := by
    rw [Heap.size_push]; simp only [List.mem_cons, List.mem_singleton, List.not_mem_nil, or_false, not_or]
    exact ⟨Nat.ne_of_lt (Nat.lt_succ_self _), Nat.ne_of_gt lS⟩
  refine upd_loopK ((Walks.list hh3 _ l ne1 items).toS) s.heap.objs.size offS (keyAt ks) hi few (items.size - 0) 0 _ (by omega) (Nat.zero_le _) ⟨⟨_, Heap.get?_push_size _ rfl, rfl, rfl⟩, (hl1.push _)⟩ ?first0 ?last0
  case first0 =>
    have hg : ((s.heap.push (set0 led)).push { cls := .type "list_iterator", data := .fields #[.ref l, .int 0 0] }).get? s.heap.objs.size = some (set0 led) := Heap.get?_push_of_some _ hS
    exact ⟨_, #[], 0, _, hg, ⟨rfl, rfl, rfl⟩, rfl, (fun e he => by simp at he), (fun k => by simp [memK, onceK]), (by decide), (by rfl), rfl⟩
  case last0 =>
    intro s1 mv hS1
    obtain ⟨h1, g1, d1, tk1, os1⟩ := s1
    have e1 : g1 = s.gens := mv.gens
    have e2 : d1 = s.drawn := mv.drawn
    have e3 : os1 = s.os := mv.os
    subst e1; subst e2; subst e3
    show wpAny _ _ _ _ _ _
    refine wpAny_pure ?_
    show wpAny _ _ (ret Value.none) _ _ _
    refine wpAny_pure ⟨rfl, h1, tk1, rfl, hS1, fun b o hb e => ?_⟩
    have b1 : b ≠ s.heap.objs.size := Nat.ne_of_lt hb
    have b2 : b ≠ (s.heap.push (set0 led)).objs.size := by
      rw [Heap.size_push]; exact Nat.ne_of_lt (Nat.lt_succ_of_lt hb)
    exact mv.heap b o (by simp only [List.mem_cons, List.mem_singleton, List.not_mem_nil, or_false, not_or]; exact ⟨b1, b2⟩) (Heap.get?_push_of_some _ (Heap.get?_push_of_some _ e))
/-- set(list) -/
theorem call_setK {l : Addr} {items : Array Value} {ks : List Key} {Q : Value → Shared → Prop} (hh : A.handled = none) (hl : s.heap.IsList l items) (hi : ∀ i v, items[i]? = some v → keyIs (keyAt ks i) v = true) (few : items.size + 1 < scanBound)
    (h : ∀ (h2 : Heap) (tk : Nat), h2.SetOf (mixKind P w) s.heap.objs.size (fun q => memK (onceK (keyAt ks) items.size) q) (onceK (keyAt ks) items.size).length → (∀ b o, b < s.heap.objs.size → s.heap.get? b = some o → h2.get? b = some o) → Q (.ref s.heap.objs.size) { s with heap := h2, toks := tk }) :
    wpAny (model P w) A (call (.type "set") [.ref l]) Q E s := by
  obtain ⟨c, tl, m1⟩ := PySem.F.called_set.mro
  have m2 := PySem.F.called_set.made
  have m3 := PySem.F.called_set.sub
  refine wpAny_call (codeAny_of_tree ?_)
  show wpAny _ _ (callAny (.type "set") _) _ _ _
  refine wpAny_pure ⟨Code.quiet_builtin _ (by decide +kernel), codeAny_builtin PySem.F.entry_type_call ?_⟩
  rw [Around.under_plain (weight_type_call_type "set" [.ref l] []) rfl]
  have m4 := PySem.F.called_set.notType
  have m5 := PySem.F.called_set.canCreate
  have m6 := PySem.F.typeCall_set_1 (.ref l)
  repeat (any_goals (first | assumption | wp_step))
  refine codeAny_mono (code_set_new_1 (.ref l) (E := E) (Q₁ := fun ob s1 => ∃ led : Bool, ob = .ref s.heap.objs.size ∧ s1 = { s with heap := s.heap.push (set0 led) }) fun led => ⟨led, rfl, rfl⟩) fun r s1 hr => ?_
  cases r with
  | error e => exact hr
  | ok fl =>
    cases fl with
    | ret ob =>
      obtain ⟨led, rfl, rfl⟩ := hr
      have hS : (s.heap.push (set0 led)).get? s.heap.objs.size = some (set0 led) := Heap.get?_push_size _ rfl
      have hT : Shared.TypeIs { s with heap := s.heap.push (set0 led) } (.ref s.heap.objs.size) "set" := ⟨_, hS, rfl⟩
      have m7 := PySem.F.called_set.init.lookup
      have m8 := PySem.F.called_set.init.bind (.ref s.heap.objs.size)
      repeat (any_goals (first | assumption | wp_step))
      refine codeAny_mono (init_setK (E := E) (led := led) (by simp [hh]) hl hi few) fun r2 s2 hr2 => ?_
      cases r2 with
      | error e => exact hr2
      | ok fl2 =>
        cases fl2 with
        | ret r =>
          obtain ⟨rfl, h2, tk, rfl, hS2, hk2⟩ := hr2
          repeat (any_goals (first | assumption | wp_step))
          exact h _ _ hS2 hk2
        | _ => exact hr2.elim
    | _ => exact hr.elim
end
/-! ### len(set(xs)) -/
def keysOf : List D → Option (List Key)
  | [] => some []
  | d :: r => (keyOf d).bind fun k => (keysOf r).bind fun ks => some (k :: ks)
/-- how many different ones -/
def diffK : List Key → Nat
  | [] => 0
  | k :: r => if memK r k = true then diffK r else diffK r + 1
variable [Wd]
def lenSetD : List D → Option D
  | [.lst xs] => (keysOf xs).bind fun ks => if ks.length ≤ 4000 then some (.int (onceK (keyAt ks) ks.length).length) else none
  | _ => none
theorem keysOf_v {K : PySem.W.Frag} {O : Addr → Prop} {H : Hp} : ∀ {vs : List V} {ds : List D} {ks : List Key}, Dens K O H vs ds → keysOf ds = some ks → vs = ks.map kV
  | _, _, _, .nil, e => by cases e; rfl
  | _, _, _, .cons (d := d) (ds := ds) h s, e => by
    replace e : ((keyOf d).bind fun k => (keysOf ds).bind fun ks => some (k :: ks)) = some _ := e
    cases hk : keyOf d with
    | none => rw [hk] at e; cases e
    | some k =>
      rw [hk] at e
      replace e : ((keysOf ds).bind fun ks => some (k :: ks)) = some _ := e
      cases hr : keysOf ds with
      | none => rw [hr] at e; cases e
      | some kr =>
        rw [hr] at e; cases e
        rw [keyOf_v h hk, keysOf_v s hr]; rfl
def tLenSetK (K : PySem.W.Frag) (ta : TE) : TE := fun σ H Q => ta σ H fun x H1 => ∃ (l : Addr) (ks : List Key), x = .ref l ∧ SqL K H1 l (ks.map kV) ∧ ks.length ≤ 4000 ∧ Q (.int (onceK (keyAt ks) ks.length).length) H1
theorem pe_lenSetK {X : Cx} {a : Expr} {ta : TE} {p p2 q pos : Pos} (B : Bf X.mg) (hc : X.calm = true) (ha : PE X a ta) (hg : Gl X "len" := by rfl) (hg2 : Gl X "set" := by rfl)
    (na : starEach [a] X.env = (false, eval a X.env) :: starEach [] X.env := by rfl) : PE X (.Call (.Name "len" p) [.Call (.Name "set" p2) [a] [] q] [] pos) (tLenSetK X.K ta) := by
  refine ⟨fun pins s σ H Q I h => ?_⟩
  refine Call_ (ld_blt I hg B.len boot_len ?_)
  refine PyProof.Rows.callWith_builtin1 (PyProof.Rows.args_cons ?_ rfl) rfl rfl
  refine Call_ (ld_blt I hg2 B.set boot_set ?_)
  refine PyProof.Rows.callWith_type1 (PyProof.Rows.args_cons (thn (ha.run pins s σ H _ I h) fun v s1 ⟨x, H1, I1, r1, q1⟩ => PyProof.Rows.args_nil ?_) na) na rfl
  obtain ⟨l, ks, rfl, hq, hl, q1⟩ := q1
  cases r1
  obtain ⟨its, r, pl, hz⟩ := I1.list hq
  have hlen : its.toArray.size = ks.length := by rw [List.size_toArray, ← r.length, List.length_map]
  refine call_setK (ks := ks) (I1.ok.hd hc) pl.isList (fun i u hu => ?_) (by rw [hlen]; unfold scanBound; omega) fun h2 tk hS hk => ?_
  · have hu' : its[i]? = some u := by simpa using hu
    have hi : i < ks.length := by rw [← hlen]; simpa using (List.getElem?_eq_some_iff.mp hu').1
    have rk := vals_at r (x := kV ks[i]) (by rw [List.getElem?_map, List.getElem?_eq_getElem hi]; rfl) hu'
    have ek : keyAt ks i = ks[i] := by unfold keyAt; rw [List.getD_eq_getElem?_getD, List.getElem?_eq_getElem hi]; rfl
    rw [ek]
    exact kV_is (P := X.prog) (w := X.w) rk
  refine PyProof.Rows.args_nil ?_
  rw [hlen] at hS
  obtain ⟨o, es, ep, t, ho, hex, hd, _, _, _, hf, hn⟩ := hS
  have I2 : Inv X pins σ H1 { s1 with heap := h2, toks := tk } := I1.kept fun b o e => hk b o (Heap.lt_size e) e
  have small := onceK_le (keyAt ks) ks.length
  exact call_len_set ho hex hd hf (by rw [hn]; omega) ⟨.int (onceK (keyAt ks) ks.length).length, H1, I2.tok _, ⟨_, by rw [hn]⟩, q1⟩
def cLenSet (a : CE) : CE := fun ρ => (a ρ).bind fun d => liftN lenSetD [d]
theorem sim_lenSet {f : Cf} {te : TE} {a : CE} (ha : SimC f te a) : SimE f (tLenSetK f.K te) (cLenSet a) := fun P O σ H ρ Q r w => by
  refine ha P O σ H ρ _ r (M.wp_mono (M.wp_bind.mp w) (fun d w1 v H1 g1 x1 => ?_) fun _ z => z)
  unfold liftN at w1
  split at w1
  · rename_i z e
    cases d <;> first | (cases e; done) | skip
    rename_i xs
    replace e : ((keysOf xs).bind fun ks => if ks.length ≤ 4000 then some (D.int (onceK (keyAt ks) ks.length).length) else none) = some z := e
    cases hk : keysOf xs with
    | none => rw [hk] at e; cases e
    | some ks =>
    rw [hk] at e
    replace e : (if ks.length ≤ 4000 then some (D.int (onceK (keyAt ks) ks.length).length) else none) = some z := e
    split at e
    · rename_i hl
      cases e
      obtain ⟨b, vs, ev, hb, sb⟩ := x1.lst
      have evs := keysOf_v sb hk
      subst evs
      exact ⟨b, ks, ev, SqL.of hb, hl, w1 _ H1 g1 (.int _)⟩
    · cases e
  · exact w1.elim
end Py

/-! RDc: dict comprehensions (keys ints, texts). -/
namespace Py
open PySem PySem.Spec PyProof.Rows L2
variable [Wd]

def loopDc (g : CG) (t : CT) (k v : CE) (ρ : Rho) : List D → List (D × D) → M (List (D × D))
  | [], acc => .ret acc
  | d :: r, acc => (g d ρ).bind fun ρ1 => (t ρ1).bind fun b => if b = true then (k ρ1).bind fun kd => (v ρ1).bind fun vd => (match keyOf kd with
    | some key => if acc.length < LIM then loopDc g t k v ρ r (dPut acc key vd) else .stuck
    | none => .stuck) else loopDc g t k v ρ r acc
def cDc (vs : List Nat) (g : CG) (c : CI) (t : CT) (k v : CE) : CE := fun ρ => (c ρ).bind fun ds => (noErr (loopDc g t k v (wipeR ρ vs) ds [])).bind fun es => .ret (.dct es)
theorem simN_dc {f : Cf} {wi : TI} {g : TG} {tt : TT} {tk tv : TE} {vs : List Nat} {cg : CG} {ci : CI} {ct : CT} {ck cv : CE} (hi : SimI f wi ci) (hg : SimG f.calm g cg) (ht : SimT f.calm tt ct) (hkk : SimE f.calm tk ck) (hv : SimE f.calm tv cv)
    (hwp : Wp vs g) (hfx : ∀ v ∈ vs, f.fix v = none) : SimN f (tDc wi g tt tk tv vs) (cDc vs cg ci ct ck cv) := fun P O σ H ρ Q r w => by
  refine hi P O σ H ρ _ r (M.wp_mono (M.wp_bind.mp w) (fun ds w1 J H1 P' g1 hp hk => ?_) fun _ z => z)
  intro Dl hD
  have w2 := noErr_wp (E' := fun _ => False) (M.wp_bind.mp w1)
  have r1 : f.Rel (P' ++ P) O σ H1 ρ := (r.growTo g1).pin hp
  have h0 : f.H0 Dl = none := r1.grow.fresh hD
  have hne : ∀ (i : Nat) d a, ρ[i]? = some (some (true, d)) → σ[i]? = some (some (.ref a)) → a ≠ Dl := fun i d a h2 h3 => by
    obtain ⟨b, e, ob, _⟩ := r1.mine i d h2
    rw [h3] at e; cases e
    exact fun z => r1.dom a ob (z ▸ hD)
  let Fin : List (D × D) → Prop := fun es => ∀ p H2, Gr f.z O H H2 → H p = none → Top f.K (also O p) H2 p (.dct es) → Q (.ref p) H2
  let St : Nat → Hp → Prop := fun i H' => i ≤ ds.length ∧ ∃ acc, Gr f.z O H1 H' ∧ f.Rel (P' ++ P) (also O Dl) σ H' ρ ∧ (∃ kvs, H' Dl = some (.dK kvs) ∧ DenKV f.K (also O Dl) H' kvs acc) ∧ (loopDc cg ct ck cv (wipeR ρ vs) (ds.drop i) acc).wp Fin (fun _ => False)
  refine ⟨fun i m H' => m = ds.length - i ∧ St i H', ⟨ds.length, by simp, Nat.zero_le _, [], (Grow.new hD).gr, r1.guard hD, ⟨[], upd_same, .nil⟩, by rw [List.drop_zero]; exact w2⟩, ?_⟩
  rintro i m H' ⟨rfl, hle, acc, gH, rH, ⟨kvs, hus, sus⟩, w'⟩
  have kp := hk (also O Dl) H' (fun p hp => rH.held p (List.mem_append_left _ hp)) i
  by_cases hi : i < ds.length
  · refine .inr ⟨(kp.1 hi).1, fun H2 => St (i + 1) H2, fun H2 h => ⟨ds.length - (i + 1), by omega, rfl, h⟩, ?_⟩
    intro x H'' hy
    obtain ⟨gg, d, hd, xd⟩ := (kp.1 hi).2 x H'' hy
    have r2 : f.Rel (P' ++ P) (also O Dl) σ H'' ρ := rH.growTo gg.gr
    have ed : ds.drop i = d :: ds.drop (i + 1) := by
      obtain ⟨h1, h2⟩ := List.getElem?_eq_some_iff.mp hd
      rw [List.drop_eq_getElem_cons h1, h2]
    rw [ed] at w'
    have gH2 : Gr f.z O H1 H'' := gH.trans gg.gr
    have hus2 : H'' Dl = some (.dK kvs) := gg Dl _ hus
    have sus2 : DenKV f.K (also O Dl) H'' kvs acc := sus.ext gg.ext
    refine hwp σ (wipe σ vs) x H'' _ (wipe_wipe σ vs) (hg (P' ++ P) (also O Dl) (wipe σ vs) H'' (wipeR ρ vs) x d _ (r2.wipe vs hfx) (xd rH.dom) (M.wp_mono (M.wp_bind.mp w') (fun ρ1 w3 σ1 r3 => ?_) fun _ z => z.elim))
    refine ht (P' ++ P) (also O Dl) σ1 H'' ρ1 _ r3 (M.wp_mono (M.wp_bind.mp w3) (fun b w4 H3 g3 => ?_) fun _ z => z.elim)
    have gH3 : Gr f.z O H1 H3 := gH2.trans (g3.less fun _ z => .inl z)
    have hus3 : H3 Dl = some (.dK kvs) := g3.onO (.inr rfl) _ hus2
    have sus3 : DenKV f.K (also O Dl) H3 kvs acc := sus2.ext g3.ext
    have rr3 : f.Rel (P' ++ P) (also O Dl) σ H3 ρ := r2.growTo g3
    cases b with
    | true =>
      rw [if_pos rfl] at w4 ⊢
      refine hkk (P' ++ P) (also O Dl) σ1 H3 ρ1 _ (r3.growTo g3) (M.wp_mono (M.wp_bind.mp w4) (fun kd w5 y H4 g4 x4 => ?_) fun _ z => z.elim)
      refine hv (P' ++ P) (also O Dl) σ1 H4 ρ1 _ ((r3.growTo g3).growTo g4) (M.wp_mono (M.wp_bind.mp w5) (fun vd w6 z H5 g5 x5 => ?_) fun _ z => z.elim)
      split at w6
      · rename_i key hkey
        split at w6
        · rename_i hlen
          have hus5 : H5 Dl = some (.dK kvs) := g5.onO (.inr rfl) _ (g4.onO (.inr rfl) _ hus3)
          have gH5 : Gr f.z O H1 H5 := (gH3.trans (g4.less fun _ z => .inl z)).trans (g5.less fun _ z => .inl z)
          have rr5 : f.Rel (P' ++ P) (also O Dl) σ H5 ρ := (rr3.growTo g4).growTo g5
          have sus5 := (sus3.ext g4.ext).ext g5.ext
          refine ⟨kvs, key, keyOf_v x4 hkey, hus5, Nat.lt_of_lt_of_le (by rw [sus.length]; exact hlen) (by decide), by omega, _, gH5.updNew (nc_dK hus5) hD, rr5.touch (nc_dK hus5) (.inr rfl) h0 hne, ⟨_, upd_same, (sus5.put key x5).ext (Ext.write (.inr rfl))⟩, w6⟩
        · exact w6.elim
      · exact w6.elim
    | false =>
      rw [if_neg Bool.false_ne_true] at w4 ⊢
      exact ⟨by omega, acc, gH3, rr3, ⟨kvs, hus3, sus3⟩, w4⟩
  · refine .inl ⟨kp.2 (by omega) hle, ?_⟩
    rw [List.drop_eq_nil_of_le (by omega)] at w'
    exact (show Fin acc from w') Dl H' (g1.trans gH) (g1.fresh hD) (.dct hus sus)
/-! dict(list of pairs), an own dict -/
theorem simN_dict {f : Cf} {ta : TA} {a : CA} (ha : SimB f ta a) : SimN f (tCB (fun xs H Q => ∃ (a : Addr) (ps : List Addr) (kvs : List (Key × V)), xs = [.ref a] ∧ SqL f.K H a (ps.map V.ref) ∧ Paired (fun p kv => SqT f.K H p [kV kv.1, kv.2]) ps kvs ∧ ∀ p, H p = none → Q (.ref p) (upd H p (.dK (mergeK [] kvs)))) ta) (cCb dictD a) := fun P O σ H ρ Q rl w => by
  refine ha P O σ H ρ _ rl (M.wp_mono (M.wp_bind.mp w) (fun ds w1 vs H1 g1 s1 => ?_) fun _ z => z)
  unfold liftN at w1
  split at w1
  · rename_i z e
    rcases ds with _ | ⟨d, _ | ⟨d2, r2⟩⟩
    · cases e
    rotate_left
    · cases d <;> cases e
    cases d <;> first | (cases e; done) | skip
    rename_i es
    replace e : ((pairsOf es).bind fun ps => (keyed ps).bind fun ks => some (.dct (dMerge [] ks))) = some z := e
    cases hp : pairsOf es with
    | none => rw [hp] at e; cases e
    | some ps =>
    rw [hp] at e
    replace e : ((keyed ps).bind fun ks => some (.dct (dMerge [] ks))) = some z := e
    cases hk : keyed ps with
    | none => rw [hk] at e; cases e
    | some ks =>
    rw [hk] at e
    cases e
    obtain ⟨v, rfl, hv⟩ := s1.one
    obtain ⟨b, ws, rfl, hb, sb⟩ := hv.lst
    obtain ⟨qs, kvs, f1, f2, f3⟩ := pairs_den sb hp hk
    subst f1
    exact ⟨b, qs, kvs, rfl, SqL.of hb, f2, fun p hpn => w1 p _ (g1.trans (Grow.new hpn).gr) (g1.fresh hpn) (.dct upd_same (((f3 [] [] .nil).more hpn).ext (Grow.new hpn).ext))⟩
  · exact w1.elim
theorem pdictN {X : Cx} {p pos : Pos} {e : Expr} {es : List Expr} {t : TA} (B : Bf X.mg) (hc : X.calm = true) (ha : PA X (e :: es) t) (hg : Gl X "dict" := by rfl) (he : starEach (e :: es) X.env = (false, eval e X.env) :: starEach es X.env := by rfl) (hpl : (backTo pos (starEach es X.env)).any (·.1) = false := by rfl) :
    PE X (.Call (.Name "dict" p) (e :: es) [] pos) (tCB (fun xs H Q => ∃ (a : Addr) (ps : List Addr) (kvs : List (Key × V)), xs = [.ref a] ∧ SqL X.K H a (ps.map V.ref) ∧ Paired (fun p kv => SqT X.K H p [kV kv.1, kv.2]) ps kvs ∧ ∀ p, H p = none → Q (.ref p) (upd H p (.dK (mergeK [] kvs)))) t) :=
  pe_callTy (call_dictP hc) hg B.dict boot_tys.2.2.2.1 ha (by decide) (by decide) he hpl
end Py

/-! RV2: sorted(x) as a reading. -/
namespace Py
open PySem PySem.Spec PyProof.Rows L2
variable [Wd]
theorem boot_sorted' : PySem.bootBuiltins (Str.ofString "sorted") = some (.builtin "sorted") := by kernel_rfl
theorem psorted {X : Cx} {p pos : Pos} {e : Expr} {es : List Expr} {t : TA} (B : Bf X.mg) (hu : X.A.units + 64 < cLine) (ha : PA X (e :: es) t) (hg : Gl X "sorted" := by rfl) (he : starEach (e :: es) X.env = (false, eval e X.env) :: starEach es X.env := by rfl) (hpl : (backTo pos (starEach es X.env)).any (·.1) = false := by rfl) : PE X (.Call (.Name "sorted" p) (e :: es) [] pos) (tCB (uCb X.K sortedD) t) :=
  pe_callB (u_sorted hu) hg B.sorted boot_sorted' ha (by decide) (by decide) he hpl
end Py

/-! RQ: own exceptions whose __init__ says super().__init__(x) and keeps its arguments as fields. -/
namespace Py
open PySem PySem.Spec PySem.W PySem.Calls PyProof.Rows L2

/-- self.f = f, one behind another -/
inductive SetsB : List Str → List Stmt → Prop
  | nil : SetsB [] []
  | cons {f fs r q1 q2 q3 q4} : SetsB fs r → SetsB (f :: fs) (.Assign [.Attribute (.Name "self" q1) f q2] (.Name f q3) q4 :: r)
/-- what the written part says of such a class: its __init__ (fI, its data fd), the cell of __class__, the code object -/
structure XI (prog : Program) (K : PySem.W.Frag) (C : Addr) (ps : List Str) (fI : Addr) (fd : FuncData) (cc cda : Addr) : Prop where
  ox : OexC K C
  ini : PySem.W.findIn K (.ref C) "__init__" = some (some (.ref fI))
  ty : PySem.W.typeIn K (.ref fI) = some (.type "function")
  fn : ∃ oc od osl, K.lookup fI = some ⟨oc, od, .func fd, osl⟩
  clo : fd.closure = [(("__class__" : Str), cc)]
  cd : fd.code = .ref cda
  gl : fd.globals = mainGlobals
  bl : fd.builtins = builtinsNs
  rec_ : PySem.W.codeIn K fd.code fd.qualname = true
  code : ∃ ccl cdd vs ccs file tf, K.lookup cda = some ⟨ccl, cdd, .fields vs, ccs⟩ ∧ vs[2]? = some (.str file tf) ∧ ((prog.main.file : Str) == file) = true
  cell : ∃ cl cld csl, K.lookup cc = some ⟨cl, cld, .cell (some (.ref C)), csl⟩
  cls : ∃ cd, PySem.W.clsIn K C = some cd
  sub : PySem.W.mroIn K C (.ref C) = some true
  ve : PySem.W.subIn K (.ref C) (.type "ValueError") = some true
  opq : PySem.W.nsIn K cStatics "thirdparty.any" = some none
  sup : PySem.W.ks_superIn K C C "__init__" = some (some (.builtin "ValueError.__init__"))
  flds : ∀ f ∈ ps, PySem.W.findIn K (.ref C) f = some none
  shape : ∃ x fs sts p0 p1 p2 p3 p4 p5, ps = x :: fs ∧ fd.body = .stmts (.Expr (.Call (.Attribute (.Call (.Name "super" p0) [] [] p1) "__init__" p2) [.Name x p3] [] p4) p5 :: sts) ∧ SetsB ps sts ∧ (p2.endLine == p4.line) = true
  par : ∃ ar, (fd.params.posonlyargs ++ fd.params.args).head? = some ar ∧ ar.arg = "self"
  kind : fd.scope.kind = .function
  nSup : fd.scope.names.lookup ("super" : Str) = some .globalImplicit
  nCls : fd.scope.names.lookup ("__class__" : Str) = some .free
  nSelf : fd.scope.names.lookup ("self" : Str) = some .local
  nPs : ∀ f ∈ ps, fd.scope.names.lookup f = some .local ∧ (f == ("__debug__" : Str)) = false
  nd : (("self" : Str) :: ps).Nodup
  few : ps.length ≤ 900
  nCell : ∀ x ∈ fd.scope.names, x.2 ≠ .cell
  noCo : fd.scope.isCoroutine = false
  noGen : fd.scope.isGenerator = false
  binds : ∀ us : List Value, us.length = ps.length + 1 → bindArgs fd ⟨us, []⟩ = pure ((("self" : Str) :: ps).zip us)
  top : (prog.main.scope.names.lookup ("super" : Str)).isSome = false
  parms : ∃ as, as.map (·.arg) = ("self" : Str) :: ps ∧ fd.params = ⟨[], as, none, [], [], none, []⟩ ∧ fd.defaults = .none

section
variable {prog : Program} {w : World} {A : Around} {E : Value → Shared → Prop} {K : PySem.W.Frag} {C a : Addr}
/-- self.f = u, the first one -/
theorem xset_new {f : Str} {u : Value} {t1 : Addr} {Q : Unit → Shared → Prop} {h : Heap} {g : Array GenState} {d : Drawn} {t : Nat} {os : OsState} (T : OexC K C) (X : K.In h) (ha : h.get? a = some (HandSPX.excO C t1)) (hno : findIn K (.ref C) f = some none)
    (hq : ∀ h' tk' dx, (∀ b o, b ≠ a → h.get? b = some o → h'.get? b = some o) → h.objs.size ≤ dx → dx ≠ a → h'.get? a = some ({ cls := .ref C, dict := some dx, data := .fields #[.ref t1, .none, .none, .none, .bool false, .none] } : Obj) →
      h'.Ns1 dx (fun y => if y = f then some u else none) → Q () ⟨h', g, d, tk', os⟩) : wpAny (model prog w) A (setAttr (.ref a) f u) Q E ⟨h, g, d, t, os⟩ := by
  obtain ⟨nm, q, N, bs, bm, sn, sub, ab, col, dd, k0, k1, k2, k3, k5, hC, hbm⟩ := T.cls
  have hcl : PySem.W.clsIn K C = some { name := nm, bases := bs, mro := .ref C :: bm, ns := N, qualname := q, hasDict := true, slotNames := sn, subclasses := sub, abstract := ab, collection := col, hasDel := false } := by unfold PySem.W.clsIn; rw [hC] <;> rfl
  refine PySem.W.set_plain X (ox := { cls := .ref C, dict := none, data := .fields #[.ref t1, .none, .none, .none, .bool false, .none] }) (od := none) ⟨ha, rfl, rfl, trivial⟩ T.sa ?_
  exact PySem.HandSPX.exc_osa X ha hcl (show PySem.HandSPX.refsVE (.ref C :: bm) = true from hbm) rfl hno (fun h' tk' dx k dn dne hx hn => hq h' tk' dx k dn dne hx hn)
theorem xset_old {f : Str} {u : Value} {t1 dx : Addr} {m0 : Str → Option Value} {nl : List Str} {Q : Unit → Shared → Prop} {h : Heap} {g : Array GenState} {d : Drawn} {t : Nat} {os : OsState} (T : OexC K C) (X : K.In h)
    (ha : h.get? a = some ({ cls := .ref C, dict := some dx, data := .fields #[.ref t1, .none, .none, .none, .bool false, .none] } : Obj)) (hns : h.Ns1 dx m0) (hw : Within m0 nl) (hz : nl.length ≤ 1000) (hno : findIn K (.ref C) f = some none)
    (hq : ∀ h' tk', (∀ b o, b ≠ dx → h.get? b = some o → h'.get? b = some o) → h'.Ns1 dx (fun y => if y = f then some u else m0 y) → Q () ⟨h', g, d, tk', os⟩) : wpAny (model prog w) A (setAttr (.ref a) f u) Q E ⟨h, g, d, t, os⟩ := by
  obtain ⟨nm, q, N, bs, bm, sn, sub, ab, col, dd, k0, k1, k2, k3, k5, hC, hbm⟩ := T.cls
  have hcl : PySem.W.clsIn K C = some { name := nm, bases := bs, mro := .ref C :: bm, ns := N, qualname := q, hasDict := true, slotNames := sn, subclasses := sub, abstract := ab, collection := col, hasDel := false } := by unfold PySem.W.clsIn; rw [hC] <;> rfl
  obtain ⟨oD, _, _, hoD, _, _⟩ := hns.count hw
  refine PySem.W.set_plain X (ox := { cls := .ref C, dict := some dx, data := .fields #[.ref t1, .none, .none, .none, .bool false, .none] }) (od := some oD) ⟨ha, rfl, rfl, hoD⟩ T.sa ?_
  exact PySem.OEX.osa_old X ha hns hw hz hcl (show PySem.HandSPX.refsVE (.ref C :: bm) = true from hbm) rfl hno (fun h' tk' k hn => hq h' tk' k hn)

/-- the bound ValueError.__init__ called -/
theorem xcall_mw {u t0 : Addr} {rest : List Value} {Q : Value → Shared → Prop} {h : Heap} {g : Array GenState} {d : Drawn} {t : Nat} {os : OsState} (T : OexC K C) (X : K.In h) (he : h.get? a = some (HandSPX.excO C t0)) (hu : h.get? u = some (kxs_mw "ValueError.__init__" a)) (hz : rest.length ≤ sizeLine)
    (hq : ∀ h' t1, (∀ b o, b ≠ a → h.get? b = some o → h'.get? b = some o) → h'.get? a = some (HandSPX.excO C t1) → Q .none ⟨h', g, d, t, os⟩) : wpAny (model prog w) A (call (.ref u) rest) Q E ⟨h, g, d, t, os⟩ := by
  obtain ⟨nm, q, N, bs, bm, sn, sub, ab, col, dd, k0, k1, k2, k3, k5, hC, hbm⟩ := T.cls
  refine wpAny_call (codeAny_of_tree ?_)
  show wpAny _ A.in1 (callAny (.ref u) ⟨rest, []⟩) _ _ _
  simp only [callAny]
  refine wpAny_bind (wpAny_load hu ?_)
  simp only [kxs_mw, show (Value.type "method-wrapper" == Value.type "method" || Value.type "method-wrapper" == Value.type "builtin_function_or_method" || Value.type "method-wrapper" == Value.type "method-wrapper") = true by decide, if_true]
  refine KFB.if_so (by decide) ?_
  refine wpAny_bind (check_bound_init F.excBase_ValueError.toExcCallFacts (X _ _ hC) he rfl ?_)
  refine wpAny_bind (wpAny_pure (wpAny_pure ?_))
  refine ⟨plainId_quiet F.excBase_ValueError.init.plain _, codeAny_builtin F.excBase_ValueError.initEntry ?_⟩
  exact exc_init_tree (cls := .ref C) (t0 := t0) (dv := none) (c2 := .none) (c3 := .none) (b4 := .bool false) he hz fun h' k e' t' => hq h' _ k e'

/-- super().__init__(x) as a statement of __init__ -/
theorem xsuper {ps : List Str} {fI : Addr} {fd : FuncData} {cc cda L t0 : Addr} {mg : Str → Option Value} {base : Heap} {body : List Stmt} {ar : Arg} {x : Str} {v : Value} {m : Str → Option Value} {p0 p1 p2 p3 p4 p5 : Pos} {Q : Flow → Shared → Prop} {h : Heap} {g : Array GenState} {d : Drawn} {t : Nat} {os : OsState}
    (T : XI prog K C ps fI fd cc cda) (md : Mod K mg base) (hsup : mg "super" = none) (kb : ∀ b o, base.get? b = some o → h.get? b = some o) (hL : h.Ns L m)
    (hp : (fd.params.posonlyargs ++ fd.params.args).head? = some ar) (hself : m ar.arg = some (.ref a)) (hx : m x = some v) (he : h.get? a = some (HandSPX.excO C t0))
    (hk : fd.scope.kind = .function) (hks : fd.scope.names.lookup ("super" : Str) = some .globalImplicit) (hkc : fd.scope.names.lookup ("__class__" : Str) = some .free) (hka : fd.scope.names.lookup ar.arg = some .local) (hkx : fd.scope.names.lookup x = some .local)
    (hdb : (x == ("__debug__" : Str)) = false) (hi : interactive (callEnv fd L fI) = false)
    (hs : swapsWith (.Call (.Attribute (.Call (.Name "super" p0) [] [] p1) "__init__" p2) [.Name x p3] [] p4) none p5.line (callEnv fd L fI) = pure false) {pl : Sem Bool}
    (hev : eval (.Call (.Attribute (.Call (.Name "super" p0) [] [] p1) "__init__" p2) [.Name x p3] [] p4) (callEnv fd L fI) = (do
      let ov ← attributeBase (.Call (.Name "super" p0) [] [] p1) "__init__" (callEnv fd L fI) (eval (.Call (.Name "super" p0) [] [] p1) (callEnv fd L fI))
      standAt p2.atName
      let (f, first) ← holding [ov] (getMethod ov "__init__" pl)
      callWith p4 f first (backTo p4 (starEach [.Name x p3] (callEnv fd L fI))) []))
    (hst : starEach [.Name x p3] (callEnv fd L fI) = (false, eval (.Name x p3) (callEnv fd L fI)) :: starEach [] (callEnv fd L fI))
    (hpl : (backTo p4 (starEach [] (callEnv fd L fI))).any (·.1) = false)
    (hq : ∀ h' t1 tk, (∀ b o, b ≠ a → h.get? b = some o → h'.get? b = some o) → h'.get? a = some (HandSPX.excO C t1) → Q .next ⟨h', g, d, tk, os⟩) :
    _root_.PySem.wpAt (model prog w) A (.func body (callEnv fd L fI)) (exec (.Expr (.Call (.Attribute (.Call (.Name "super" p0) [] [] p1) "__init__" p2) [.Name x p3] [] p4) p5) (callEnv fd L fI)) Q E ⟨h, g, d, t, os⟩ := by
  have X : K.In h := md.kin.keeps kb
  obtain ⟨oc, od, osl, hf⟩ := T.fn
  obtain ⟨ccl, cdd, vs, ccs, file, tf, hcode, hvs, hfile⟩ := T.code
  obtain ⟨cl, cld, csl, hcell⟩ := T.cell
  obtain ⟨cdD, hD⟩ := T.cls
  obtain ⟨mb, b1, b2⟩ := md.blt
  obtain ⟨oD, hD1, hD2⟩ : ∃ oD, h.get? C = some oD ∧ oD.data = .cls cdD := by
    have hD' := hD
    unfold clsIn at hD'
    split at hD'
    · rename_i c d cd' sl ho
      cases hD'
      exact ⟨_, X _ _ ho, rfl⟩
    · cases hD'
  refine ks_wpAt_Expr_any (ks_wpAt_MethodCall (ks_wpAt_super_base (env := callEnv fd L fI) hks hkc (by decide) rfl (X _ _ hf) rfl hp T.cd (X _ _ hcode) rfl hvs hfile T.top ?_) hev) hi hs
  refine ks_loadName_global hk hks (loadGlobal_builtin (env := callEnv fd L fI) (by show Heap.Ns _ fd.globals _; rw [T.gl]; exact md.glob.keeps kb) hsup (by show Heap.Ns _ fd.builtins _; rw [T.bl]; exact b1.keeps kb) ((b2 "super" (by decide)).trans PyProof.Rows.Boot.«super») ⟨rfl, ?_⟩)
  refine wpAny_loadName_free hk hkc (by show fd.closure.lookup _ = _; rw [T.clo]; rfl) ⟨_, X _ _ hcell, rfl⟩ ?_
  refine wpAny_loadName_local hk hka hL hself ?_
  refine ks_wpAny_isType_cls hD1 hD2 ⟨rfl, ?_⟩
  refine ks_wpAny_call_super hD1 hD2 he rfl (fun c e => by cases e) (looks_mroIn X T.sub) (fun h1 e1 k1 => ?_)
  have X1 : K.In h1 := X.keeps k1
  have I : InstAt h1 a (HandSPX.excO C t0) C none := ⟨k1 _ _ he, rfl, rfl, trivial⟩
  have hI : Looks (model prog w) h1 (isInstance (.ref a) (.type "ValueError")) true := I.type.andThen (looks_subIn X1 T.ve)
  have hsupC := T.sup
  unfold ks_superIn at hsupC
  rw [hD] at hsupC
  refine kxs_getMethod kxs_ValueError e1 (looks_opaque X1 T.opq) (l₀ := cdD.mro) ?_ rfl X1 hsupC hI (ks_ne X1 I hD) (by decide) ?_
  · exact fun A Q E s k q => wpAny_bind ((looks_clsIn X1 hD) A _ E s k (wpAny_pure q))
  have k2 : ∀ b o, h1.get? b = some o → (h1.push (kxs_mw "ValueError.__init__" a)).get? b = some o := fun b o e => Heap.get?_push_of_some _ e
  rw [hst]
  refine kxs_callWith (i := "ValueError.__init__") (x := a) (by show (false || (backTo p4 (starEach [] (callEnv fd L fI))).any (·.1)) = false; rw [hpl]; rfl) ?_
  refine evalArgs_plain (Calls.spliced_cons ?_)
  refine wpAny_Name (wpAny_loadName_local hk hkx ((hL.keeps k1).keeps k2) hx ?_) hdb
  refine spliced_none ⟨Heap.get?_push_at rfl rfl, ?_⟩
  refine xcall_mw T.ox (X1.keeps k2) (k2 _ _ (k1 _ _ he)) (Heap.get?_push_at rfl rfl) (by show 1 ≤ sizeLine; rw [sizeLine_eq]; omega) fun h' t1 k3 e3 => ?_
  exact hq h' t1 _ (fun b o hb e => k3 b o hb (k2 _ _ (k1 _ _ e))) e3
end
end Py
namespace Py
open PySem PySem.Spec PySem.W PySem.Calls PyProof.Rows L2
def putAll : List (Str × Value) → (Str → Option Value) → Str → Option Value
  | [], m => m
  | p :: r, m => putAll r fun y => if y = p.1 then some p.2 else m y
section
variable {prog : Program} {w : World} {A : Around} {E : Value → Shared → Prop} {K : PySem.W.Frag} {C a : Addr}
theorem xsets {fd : FuncData} {fI L t1 dx : Addr} {m : Str → Option Value} {g : Array GenState} {d : Drawn} {os : OsState} (T : OexC K C) (hk : fd.scope.kind = .function) (hks : fd.scope.names.lookup ("self" : Str) = some .local) (hself : m "self" = some (.ref a)) :
    ∀ {l : List (Str × Value)} {sts : List Stmt} {m0 : Str → Option Value} {nl : List Str} {h : Heap} {t : Nat} {Q : Flow → Shared → Prop}, SetsB (l.map (·.1)) sts →
    (∀ p ∈ l, m p.1 = some p.2 ∧ fd.scope.names.lookup p.1 = some .local ∧ (p.1 == ("__debug__" : Str)) = false ∧ findIn K (.ref C) p.1 = some none) → K.In h → h.Ns L m → L ≠ dx → a ≠ dx → (∀ b o, K.lookup b = some o → b ≠ dx) →
    h.get? a = some ({ cls := .ref C, dict := some dx, data := .fields #[.ref t1, .none, .none, .none, .bool false, .none] } : Obj) → h.Ns1 dx m0 → Within m0 nl → nl.length + l.length ≤ 1000 →
    (∀ h' tk, (∀ b o, b ≠ dx → h.get? b = some o → h'.get? b = some o) → h'.Ns1 dx (putAll l m0) → Q .next ⟨h', g, d, tk, os⟩) →
    wpAny (model prog w) A (execs sts (callEnv fd L fI)) Q E ⟨h, g, d, t, os⟩
  | [], _, m0, nl, h, t, Q, .nil, hl, X, hL, nL, na, nK, ha, hn, hw, hz, hq => by
    rw [execs_nil]
    exact wpAny_pure (hq h t (fun _ _ _ e => e) hn)
  | p :: l, _, m0, nl, h, t, Q, .cons (r := r) sb, hl, X, hL, nL, na, nK, ha, hn, hw, hz, hq => by
    rw [execs_cons]
    obtain ⟨e1, e2, e3, e4⟩ := hl p (List.mem_cons_self ..)
    refine wpAny_bind (plainObj_wpAny_Assign_Attribute ?_ rfl)
    refine wpAny_Name (wpAny_loadName_local hk e2 hL e1 ?_) e3
    refine wpAny_Name (wpAny_loadName_local hk hks hL hself ?_) (by decide)
    refine xset_old T X ha hn hw (by simp only [List.length_cons] at hz; omega) e4 fun h' tk' k hn' => ?_
    refine xsets T hk hks hself sb (fun p' hp' => hl p' (List.mem_cons_of_mem _ hp')) (fun b o e => k b o (nK b o e) (X b o e)) (hL.at fun o e => k L o nL e) nL na nK (k a _ na ha) hn' (Within.cons p.1 p.2 hw) (by simp only [List.length_cons] at hz ⊢; omega) fun h2 tk2 k2 hn2 => ?_
    exact hq h2 tk2 (fun b o hb e => k2 b o hb (k b o hb e)) hn2
theorem hev_super {env : Env} {x : Str} {p0 p1 p2 p3 p4 : Pos} (hp : (p2.endLine == p4.line) = true) : eval (.Call (.Attribute (.Call (.Name "super" p0) [] [] p1) "__init__" p2) [.Name x p3] [] p4) env = (do
      let ov ← attributeBase (.Call (.Name "super" p0) [] [] p1) "__init__" env (eval (.Call (.Name "super" p0) [] [] p1) env)
      standAt p2.atName
      let (f, first) ← holding [ov] (getMethod ov "__init__" (do return (← importBound (.Call (.Name "super" p0) [] [] p1) env).getD true))
      callWith p4 f first (backTo p4 (starEach [.Name x p3] env)) []) := by
  rw [eval]
  have e : methodCallPos (methodCallForm ([Expr.Name x p3].length + ([] : List Keyword).length) (backTo p4 (starEach [Expr.Name x p3] env)) (backToKw p4 (keywordEach [] env))) (.Call (.Name "super" p0) [] [] p1) env p2 p4 = pure p4 := by
    unfold methodCallPos
    rw [hp, Bool.or_true, if_pos rfl]
  unfold methodCall
  rw [e]
  rfl
theorem lk_of {β : Type} : ∀ {l : List (Str × β)}, (l.map (·.1)).Nodup → ∀ {p : Str × β}, p ∈ l → l.lookup p.1 = some p.2
  | [], _, p, h => by cases h
  | q :: l, nd, p, h => by
    rw [List.map_cons, List.nodup_cons] at nd
    rcases List.mem_cons.mp h with e | h
    · rw [e]; simp [List.lookup]
    · have ne : p.1 ≠ q.1 := fun z => nd.1 (by rw [← z]; exact List.mem_map_of_mem h)
      have e : (p.1 == q.1) = false := by simpa using ne
      simp only [List.lookup, e]
      exact lk_of nd.2 h
theorem zip_get {ps : List Str} {us : List Value} (nd : ps.Nodup) (hl : us.length = ps.length) {p : Str × Value} (hp : p ∈ ps.zip us) : (ps.zip us).reverse.lookup p.1 = some p.2 := by
  refine lk_of ?_ (List.mem_reverse.mpr hp)
  rw [List.map_reverse, List.map_fst_zip (by omega)]
  exact List.pairwise_reverse.mpr (nd.imp fun h => Ne.symm h)
/-- __init__(self, ..) called: the fields are kept in a new dict -/
theorem xinitA {ag : Args} {ps : List Str} {fI : Addr} {fd : FuncData} {cc cda t0 : Addr} {mg : Str → Option Value} {base : Heap} {us : List Value} {R : Result → Shared → Prop} {h : Heap} {g : Array GenState} {d : Drawn} {t : Nat} {os : OsState}
    (T : XI prog K C ps fI fd cc cda) (md : Mod K mg base) (hsup : mg "super" = none) (kb : ∀ b o, base.get? b = some o → h.get? b = some o) (room : A.depth < recursionLimit) (he : h.get? a = some (HandSPX.excO C t0)) (nb : base.get? a = none) (hl : us.length = ps.length) (bd : BindsTo ⟨h, g, d, t, os⟩ fd ag ((("self" : Str) :: ps).zip (Value.ref a :: us)))
    (hq : ∀ h' tk dx t1, (∀ b o, b ≠ a → h.get? b = some o → h'.get? b = some o) → h.objs.size ≤ dx → dx ≠ a → h'.get? a = some ({ cls := .ref C, dict := some dx, data := .fields #[.ref t1, .none, .none, .none, .bool false, .none] } : Obj) →
      h'.Ns1 dx (putAll (ps.zip us) fun _ => none) → R (.ok (.ret .none)) ⟨h', g, d, tk, os⟩) :
    codeAny (model prog w) A (.call (.ref fI) ag) R ⟨h, g, d, t, os⟩ := by
  have X : K.In h := md.kin.keeps kb
  have Xb : K.In base := md.kin
  obtain ⟨oc, od, osl, hf⟩ := T.fn
  obtain ⟨x, fs, sts, p0, p1, p2, p3, p4, p5, hps, hbody, sb, hpos⟩ := T.shape
  obtain ⟨ar, har, hself⟩ := T.par
  have hlen : (Value.ref a :: us).length = ((("self" : Str) :: ps)).length := by simp [hl]
  have aL : a < h.objs.size := Heap.lt_size he
  have mem : ∀ p ∈ (("self" : Str) :: ps).zip (Value.ref a :: us), fd.scope.names.lookup p.1 = some .local := fun p hp => by
    rcases List.mem_cons.mp (show p ∈ (("self" : Str), Value.ref a) :: ps.zip us from hp) with e | e
    · rw [e]; exact T.nSelf
    · exact (T.nPs _ (List.of_mem_zip e).1).1
  refine ks_codeAny_call_defAt (fd := fd) (binds := (("self" : Str) :: ps).zip (Value.ref a :: us)) room (X _ _ hf) rfl (md.nolimit.keeps kb) (codeRec_of X T.rec_) hbody bd T.nCell mem (fun h1 hns k1 => ?_) T.noCo T.noGen T.kind
  have lk : ∀ p ∈ (("self" : Str) :: ps).zip (Value.ref a :: us), ((("self" : Str) :: ps).zip (Value.ref a :: us)).reverse.lookup p.1 = some p.2 := fun p hp => zip_get T.nd hlen hp
  have lkS : ((("self" : Str) :: ps).zip (Value.ref a :: us)).reverse.lookup ("self" : Str) = some (.ref a) := lk ("self", .ref a) (List.mem_cons_self ..)
  obtain ⟨v, vs, hus⟩ : ∃ v vs, us = v :: vs := by
    rw [hps] at hl
    cases us with
    | nil => simp at hl
    | cons v vs => exact ⟨v, vs, rfl⟩
  have lkx : ((("self" : Str) :: ps).zip (Value.ref a :: us)).reverse.lookup x = some v := lk (x, v) (by rw [hps, hus]; exact List.mem_cons_of_mem _ (List.mem_cons_self ..))
  have hx : x ∈ ps := by rw [hps]; exact List.mem_cons_self ..
  have nL : h.objs.size ≠ a := (Nat.ne_of_lt aL).symm
  have kb1 : ∀ b o, base.get? b = some o → h1.get? b = some o := fun b o e => k1 b o (kb b o e)
  refine ks_wpAt_execs_cons ?_
  refine xsuper (ar := ar) T md hsup kb1 hns har (by rw [hself]; exact lkS) lkx (k1 _ _ he) T.kind T.nSup T.nCls (by rw [hself]; exact T.nSelf) (T.nPs x hx).1 (T.nPs x hx).2 (by unfold interactive; show (fd.scope.kind == _ && _) = false; rw [T.kind]; rfl) rfl (hev_super hpos) rfl rfl fun h2 t1 tk k2 e2 => ?_
  dsimp only
  refine wpAt_of_wpAny ?_
  have X2 : K.In h2 := fun b o e => k2 b o (fun z => by have := Xb b o e; rw [z, nb] at this; cases this) (k1 _ _ (X b o e))
  -- the first field
  rw [hps] at sb
  cases sb with
  | cons sb =>
  rw [execs_cons]
  have lt : ∀ {b : Addr} {o : Obj}, h.get? b = some o → b ≠ h.objs.size := fun {b o} e => Nat.ne_of_lt (Heap.lt_size e)
  have hL2 : h2.Ns h.objs.size (fun y => ((("self" : Str) :: ps).zip (Value.ref a :: us)).reverse.lookup y) := hns.at fun o e => k2 _ o nL e
  refine wpAny_bind (plainObj_wpAny_Assign_Attribute ?_ rfl)
  refine wpAny_Name (wpAny_loadName_local T.kind (T.nPs x hx).1 hL2 lkx ?_) (T.nPs x hx).2
  refine wpAny_Name (wpAny_loadName_local T.kind T.nSelf hL2 lkS ?_) (by decide)
  refine xset_new T.ox X2 e2 (T.flds x hx) fun h3 tk3 dx k3 dn dne ha3 hn3 => ?_
  have dL0 : h.objs.size < dx := by
    obtain ⟨o, _, _, e, _⟩ := hL2
    exact Nat.lt_of_lt_of_le (Heap.lt_size e) dn
  have dL : h.objs.size ≠ dx := Nat.ne_of_lt dL0
  have nd3 : ∀ {b : Addr} {o : Obj}, h2.get? b = some o → b ≠ dx := fun {b o} e => Nat.ne_of_lt (Nat.lt_of_lt_of_le (Heap.lt_size e) dn)
  have nK : ∀ b o, K.lookup b = some o → b ≠ dx := fun b o e => nd3 (X2 b o e)
  have nKa : ∀ b o, K.lookup b = some o → b ≠ a := fun b o e z => by have := Xb b o e; rw [z, nb] at this; cases this
  have hsz : h.objs.size ≤ dx := Nat.le_of_lt dL0
  refine xsets T.ox T.kind T.nSelf lkS (l := fs.zip vs) (m0 := fun y => if y = x then some v else none) (nl := [x]) ?_ (fun p hp => ?_) (fun b o e => k3 b o (nKa b o e) (X2 b o e)) (hL2.at fun o e => k3 _ o nL e) dL (Ne.symm dne) nK ha3 hn3 (Within.cons x v Within.nil) ?_ fun h4 tk4 k4 hn4 => ?_
  · rw [List.map_fst_zip (by rw [hps, hus] at hl; simp at hl; omega)]
    exact sb
  · have hp' : p ∈ ps.zip us := by rw [hps, hus]; exact List.mem_cons_of_mem _ hp
    have hpm := (List.of_mem_zip hp').1
    exact ⟨lk p (List.mem_cons_of_mem _ hp'), (T.nPs _ hpm).1, (T.nPs _ hpm).2, T.flds _ hpm⟩
  · have z := T.few
    rw [hps] at z
    simp only [List.length_cons, List.length_nil, List.length_zip] at z ⊢
    omega
  · refine hq h4 tk4 dx t1 (fun b o hb e => ?_) hsz dne (k4 a _ (Ne.symm dne) ha3) ?_
    · have e1 := k1 b o e
      have e2 := k2 b o hb e1
      exact k4 b o (nd3 e2) (k3 b o hb e2)
    · rw [hps, hus]
      exact hn4
theorem xinit {ps : List Str} {fI : Addr} {fd : FuncData} {cc cda t0 : Addr} {mg : Str → Option Value} {base : Heap} {us : List Value} {R : Result → Shared → Prop} {h : Heap} {g : Array GenState} {d : Drawn} {t : Nat} {os : OsState}
    (T : XI prog K C ps fI fd cc cda) (md : Mod K mg base) (hsup : mg "super" = none) (kb : ∀ b o, base.get? b = some o → h.get? b = some o) (room : A.depth < recursionLimit) (he : h.get? a = some (HandSPX.excO C t0)) (nb : base.get? a = none) (hl : us.length = ps.length)
    (hq : ∀ h' tk dx t1, (∀ b o, b ≠ a → h.get? b = some o → h'.get? b = some o) → h.objs.size ≤ dx → dx ≠ a → h'.get? a = some ({ cls := .ref C, dict := some dx, data := .fields #[.ref t1, .none, .none, .none, .bool false, .none] } : Obj) →
      h'.Ns1 dx (putAll (ps.zip us) fun _ => none) → R (.ok (.ret .none)) ⟨h', g, d, tk, os⟩) :
    codeAny (model prog w) A (.call (.ref fI) ⟨.ref a :: us, []⟩) R ⟨h, g, d, t, os⟩ :=
  xinitA T md hsup kb room he nb hl (BindsTo.of_eq (T.binds _ (by simp [hl]))) hq
end
end Py

/-! RQ2: such exceptions made and raised. -/
namespace Py
open PySem PySem.Spec PySem.W PySem.Calls PyProof.Rows L2

theorem putAll_lk {f : Str} : ∀ {l : List (Str × Value)} {m : Str → Option Value}, (l.map (·.1)).Nodup → putAll l m f = match l.lookup f with | some v => some v | none => m f
  | [], m, _ => rfl
  | p :: l, m, nd => by
    rw [List.map_cons, List.nodup_cons] at nd
    rw [putAll, putAll_lk nd.2]
    by_cases e : f = p.1
    · have n : l.lookup f = none := by
        cases z : l.lookup f with
        | none => rfl
        | some v => exact absurd (List.mem_map_of_mem (PySem.mem_of_lookup z)) (by rw [e]; exact nd.1)
      rw [n, e]
      simp [List.lookup]
    · have e' : (f == p.1) = false := by simpa using e
      simp only [List.lookup, e', if_neg e]
theorem relO_zip {f : Str} : ∀ {ps : List Str} {vs : List V} {us : List Value}, Vals vs us → RelO ((ps.zip vs).lookup f) ((ps.zip us).lookup f)
  | [], _, _, _ => trivial
  | _ :: _, _, _, .nil => trivial
  | p :: ps, _, _, .cons r t => by
    simp only [List.zip_cons_cons, List.lookup]
    by_cases e : (f == p) = true
    · rw [e]; exact r
    · rw [Bool.not_eq_true] at e
      rw [e]; exact relO_zip t

/-- C(e, ..) -/
def tMkX (C : Addr) (ps : List Str) (ta : TA) : L2.St → Hp → XK → Prop := fun σ H Q => ta σ H fun vs H1 => vs.length = ps.length ∧ ∀ d, H1 d = none → Q (.ref C) (some d) (upd H1 d (.xd (ps.zip vs)))
theorem run_xi {X : Cx} {ps : List Str} {C fI : Addr} {fd : FuncData} {cc cda : Addr} {k : Nat} {pins : List (Addr × Obj)} {σ : L2.St} {H1 : Hp} {s1 : Shared} {us : List Value} {vs : List V} {Q : XK} {E : Value → Shared → Prop}
    (T : XI X.prog X.K C ps fI fd cc cda) (hsup : X.mg "super" = none) (hr : RoomG k X.A) (I1 : Inv X pins σ H1 s1) (r1 : Vals vs us) (hl : vs.length = ps.length) (hq : ∀ d, H1 d = none → Q (.ref C) (some d) (upd H1 d (.xd (ps.zip vs)))) :
    wpAny (model X.prog X.w) X.A (call (.ref C) us) (MkP X pins σ Q) E s1 := by
  obtain ⟨nm, q, N, bs, bm, sn, sub, ab, col, dd, k0, k1, k2, k3, k5, hC, hbm⟩ := T.ox.cls
  obtain ⟨hp, g, dr, tk, os⟩ := s1
  have hus : us.length = ps.length := (Paired.length r1).symm.trans hl
  have hsz : us.length ≤ sizeLine := by
    have := T.few
    rw [hus, sizeLine_eq]; omega
  have kk : ∀ b o, hp.get? b = some o → ((hp.push (PySem.W.kdv_tup us)).push (PySem.HandSPX.excO C hp.objs.size)).get? b = some o := fun b o e => Heap.get?_push_of_some _ (Heap.get?_push_of_some _ e)
  have hget : ((hp.push (PySem.W.kdv_tup us)).push (PySem.HandSPX.excO C hp.objs.size)).get? (hp.objs.size + 1) = some (PySem.HandSPX.excO C hp.objs.size) := by heap_get
  have na : ∀ {b : Addr} {o : Obj}, hp.get? b = some o → b ≠ hp.objs.size + 1 := fun {b o} e => Nat.ne_of_lt (Nat.lt_succ_of_lt (Heap.lt_size e))
  have szz : hp.objs.size ≤ ((hp.push (PySem.W.kdv_tup us)).push (PySem.HandSPX.excO C hp.objs.size)).objs.size := Nat.le_of_lt (Nat.lt_of_succ_lt (Heap.lt_size hget))
  refine wpAny_call (PySem.HandSPX.call_own F.excBase_ValueError (fun Y => PySem.HandSPX.refsVE_contains Y bm hbm) (I1.kIn _ _ hC) (PySem.W.looks_findIn I1.kIn T.ini) (fun self => PySem.W.bind_fn I1.kIn self T.ty) hsz ?_)
  refine xinit T I1.mod hsup (fun b o e => kk b o (I1.bk b o e)) (by rw [make_depth]; have := hr.room.dp; omega) hget ?_ hus fun h' tk' dx t1 keep dn dne ha hn => ?_
  · cases z : X.base.get? (hp.objs.size + 1) with
    | none => rfl
    | some o => exact absurd rfl (na (I1.bk _ _ z))
  refine ⟨rfl, ?_⟩
  have hnd : H1 dx = none := I1.hok.fresh (Nat.le_trans szz dn)
  obtain ⟨G, g1', g2'⟩ := restrict h' fun b => decide (b ≠ hp.objs.size + 1)
  have gk : ∀ b, b ≠ hp.objs.size + 1 → G.get? b = h'.get? b := fun b hb => g1' b (decide_eq_true hb)
  have ge : G.get? (hp.objs.size + 1) = none := g2' _ (by simp)
  have J := I1.laid (t' := tk') (a := dx) (o := .xd (ps.zip vs)) (h' := G) (fun b o e => by rw [gk b (na e)]; exact keep b o (na e) (kk b o e)) (Nat.le_trans szz dn) ⟨_, hn.at fun o e => by rw [gk dx dne]; exact e, fun f => by
    have nd := T.nd
    rw [List.nodup_cons] at nd
    rw [putAll_lk (by rw [List.map_fst_zip (by omega)]; exact nd.2)]
    have z := relO_zip (f := f) (ps := ps) r1
    cases q : (ps.zip us).lookup f with
    | none => rw [q] at z; exact z
    | some v => rw [q] at z; exact z⟩
  exact ⟨hp.objs.size + 1, _, _, ⟨G, g, dr, tk', os⟩, _, .ref C, some dx, rfl, J, fun b o z => by
    by_cases hb : b = hp.objs.size + 1
    · rw [hb, ge] at z; cases z
    · rw [← gk b hb]; exact z, ge, ha, ⟨rfl, rfl⟩, rfl, rfl, by rw [upd_ne (Ne.symm dne)]; exact I1.hok.fresh (Nat.le_succ _), rfl, I1.bare, raises_own T.ox.exC T.ox.tyC, hq dx hnd⟩
theorem pmk_xi {X : Cx} {x : Str} {ps : List Str} {C fI : Addr} {fd : FuncData} {cc cda : Addr} {k : Nat} {e : Expr} {es : List Expr} {ta : TA} {p pos : Pos} (T : XI X.prog X.K C ps fI fd cc cda) (hsup : X.mg "super" = none) (hr : RoomG k X.A) (hm : X.mg x = some (.ref C)) (ha : PA X (e :: es) ta) (hg : Gl X x := by rfl)
    (hdb : (x == ("__debug__" : Str)) = false := by decide) (he : starEach (e :: es) X.env = (false, eval e X.env) :: starEach es X.env := by rfl) (hpl : (backTo pos (starEach es X.env)).any (·.1) = false := by rfl) :
    PMk X (.Call (.Name x p) (e :: es) [] pos) (tMkX C ps ta) := by
  intro pins s σ H Q I h
  refine wpAny_Call_Name_kw (ld_glob I hg hm ?_ hdb)
  refine PySem.W.callWith_K (h₀ := X.base) I.ok.mod.kin T.ox.kC (thn (ha.run pos pins s σ H _ I h) fun us s1 ⟨vs, H1, I1, r1, hz, q1⟩ => ⟨I1.kIn, ?_⟩) he hpl
  exact run_xi T hsup hr I1 r1 hz q1
variable [Wd]
/-- raise C(e, ..) -/
theorem praiseX {X : Cx} {x : Str} {ps : List Str} {C fI : Addr} {fd : FuncData} {cc cda : Addr} {k : Nat} {e : Expr} {es : List Expr} {ta : TA} {p pos pos2 : Pos} {E : XK} (T : XI X.prog X.K C ps fI fd cc cda) (hsup : X.mg "super" = none) (hr : RoomG k X.A) (hm : X.mg x = some (.ref C)) (hc : X.calm = true) (tk : Takes X (fun cls d _ H => E cls d H)) (ha : PA X (e :: es) ta)
    (hg : Gl X x := by rfl) (hdb : (x == ("__debug__" : Str)) = false := by decide) (he : starEach (e :: es) X.env = (false, eval e X.env) :: starEach es X.env := by rfl) (hpl : (backTo pos (starEach es X.env)).any (·.1) = false := by rfl) :
    PS X (.Raise (some (.Call (.Name x p) (e :: es) [] pos)) none pos2) (fun _ σ H => tMkX C ps ta σ H fun cls d H' => E cls d H') :=
  ps_raise (W := fun cls d _ H => E cls d H) hc tk (pmk_xi T hsup hr hm ha hg hdb he hpl)
def cRaiseX (n : Str) (ps : List Str) (a : CA) : CS := fun ρ => (a ρ).bind fun ds => if ds.length = ps.length ∧ ds ≠ [] then .err ⟨n, ps.zip ds⟩ else .stuck
theorem DenFs.zip {K : PySem.W.Frag} {O : Addr → Prop} {H : Hp} : ∀ {ps : List Str} {vs : List V} {ds : List D}, Dens K O H vs ds → DenFs K O H (ps.zip vs) (ps.zip ds)
  | [], _, _, _ => .nil
  | _ :: _, _, _, .nil => .nil
  | p :: ps, _, _, .cons h s => .cons h (DenFs.zip s)
theorem Dens.len {K : PySem.W.Frag} {O : Addr → Prop} {H : Hp} : ∀ {vs : List V} {ds : List D}, Dens K O H vs ds → vs.length = ds.length
  | _, _, .nil => rfl
  | _, _, .cons h s => by rw [List.length_cons, List.length_cons, Dens.len s]
theorem sim_raiseX {f : Cf} {n : Str} {C : Addr} {ps : List Str} {ta : TA} {a : CA} (hm : f.mg n = some (.ref C)) (ha : SimA f ta a) : SimS f (fun _ σ H => tMkX C ps ta σ H fun cls d H' => f.E cls d H') (cRaiseX n ps a) := fun P O σ H ρ E r w => by
  refine ha P O σ H ρ _ r (M.wp_mono (M.wp_bind.mp w) (fun ds w1 vs H1 g1 s1 => ?_) fun _ z => z)
  replace w1 : (if ds.length = ps.length ∧ ds ≠ [] then M.err ⟨n, ps.zip ds⟩ else M.stuck : M Out).wp _ _ := w1
  split at w1
  · rename_i hl
    refine ⟨s1.len.trans hl.1, fun d hd => ?_⟩
    have g2 : Gr f.z O H1 (upd H1 d (.xd (ps.zip vs))) := (Grow.new hd).gr
    refine w1 (.ref C) (some d) _ (((r.growTo g1).growTo g2)).grow ⟨C, hm, rfl, .inr ⟨?_, d, _, rfl, fun z => (r.growTo g1).dom d (r.sub d z) hd, upd_same, ?_⟩⟩
    · intro z
      have := congrArg List.length z
      have e1 : ds.length ≠ 0 := fun z => hl.2 (List.length_eq_zero_iff.mp z)
      simp only [List.length_zip, List.length_nil] at this
      omega
    · exact DenFs.zip ((s1.ext g2.ext).less r.sub)
  · exact w1.elim
end Py

/-! RQ3: what a head tells of such exceptions. -/
namespace Py
open PySem PySem.Spec PySem.W PySem.Calls PyProof.Rows L2

def oexB (K : PySem.W.Frag) (C : Addr) : Bool := (match K.lookup C with
  | some ⟨.type t, _, .cls cd, sl⟩ => (match cd.mro, sl.toList with
    | .ref C' :: bm, [_, _, _, _, some (.builtin n), _] => decide (t = "type") && (decide (C' = C) && (decide (n = "ValueError.__new__") && (!cd.hasDel && (cd.hasDict && HandSPX.refsVE bm))))
    | _, _ => false)
  | _ => false) && (decide (findIn K (.ref C) "__setattr__" = some (some (.builtin "object.__setattr__"))) && (decide (subIn K (.ref C) (.type "BaseException") = some true) && (decide (typeIn K (.ref C) = some (.type "type")) && keepIn K (.ref C))))
theorem oexB_ok {K : PySem.W.Frag} {C : Addr} (h : oexB K C = true) : OexC K C := by
  unfold oexB at h
  simp only [Bool.and_eq_true, decide_eq_true_eq] at h
  obtain ⟨h1, h2, h3, h4, h5⟩ := h
  refine ⟨?_, h2, h3, h4, h5⟩
  split at h1
  · rename_i t dd cd sl ho
    split at h1
    · rename_i C' bm k0 k1 k2 k3 n k5 hm hs
      simp only [Bool.and_eq_true, decide_eq_true_eq, Bool.not_eq_true'] at h1
      obtain ⟨rfl, rfl, rfl, hdel, hdict, hb⟩ := h1
      obtain ⟨nm, bs, mro, ns, qn, hd, sn, sub, ab, col, del⟩ := cd
      dsimp only at hm hdel hdict
      subst hm hdel hdict
      obtain ⟨l⟩ := sl
      dsimp only at hs
      subst hs
      exact ⟨nm, qn, ns, bs, bm, sn, sub, ab, col, dd, k0, k1, k2, k3, k5, ho, hb⟩
    · cases h1
  · cases h1
/-- the statements self.f = f -/
def setsB : List Str → List Stmt → Bool
  | [], [] => true
  | f :: fs, .Assign [.Attribute (.Name s _) g _] (.Name y _) _ :: r => decide (s = "self") && (decide (g = f) && (decide (y = f) && setsB fs r))
  | _, _ => false
theorem setsB_ok : ∀ {ps : List Str} {sts : List Stmt}, setsB ps sts = true → SetsB ps sts
  | [], [], _ => .nil
  | [], _ :: _, h => by simp [setsB] at h
  | f :: fs, sts, h => by
    unfold setsB at h
    split at h
    · rename_i e; cases e
    · simp only [Bool.and_eq_true, decide_eq_true_eq] at h
      obtain ⟨h1, h2, h3, h4⟩ := h
      rename_i e
      cases e
      subst h1 h2 h3
      exact .cons (setsB_ok h4)
    · cases h
def shapeB (ps : List Str) : FuncBody → Bool
  | .stmts (.Expr (.Call (.Attribute (.Call (.Name s _) [] [] _) i p2) [.Name x _] [] p4) _ :: sts) => (match ps with
    | y :: _ => decide (s = "super") && (decide (i = "__init__") && (decide (x = y) && (setsB ps sts && (p2.endLine == p4.line))))
    | [] => false)
  | _ => false
theorem shapeB_ok {ps : List Str} {b : FuncBody} (h : shapeB ps b = true) : ∃ x fs sts p0 p1 p2 p3 p4 p5, ps = x :: fs ∧ b = .stmts (.Expr (.Call (.Attribute (.Call (.Name "super" p0) [] [] p1) "__init__" p2) [.Name x p3] [] p4) p5 :: sts) ∧ SetsB ps sts ∧ (p2.endLine == p4.line) = true := by
  unfold shapeB at h
  split at h
  · split at h
    · simp only [Bool.and_eq_true, decide_eq_true_eq] at h
      obtain ⟨rfl, rfl, rfl, h4, h5⟩ := h
      exact ⟨_, _, _, _, _, _, _, _, _, rfl, rfl, setsB_ok h4, h5⟩
    · cases h
  · cases h
/-- the parameters are self and ps, by places -/
def parB (ps : List Str) (a : Arguments) : Bool := match a with
  | ⟨[], as, none, [], [], none, []⟩ => decide (as.map (·.arg) = ("self" : Str) :: ps)
  | _ => false
/-- what binds such parameters (by rfl at given names) -/
def BindsPs (ps : List Str) : Prop := ∀ (fd : FuncData) (as : List Arg), as.map (·.arg) = ("self" : Str) :: ps → fd.params = ⟨[], as, none, [], [], none, []⟩ → fd.defaults = .none → ∀ us : List Value, us.length = ps.length + 1 → bindArgs fd ⟨us, []⟩ = pure ((("self" : Str) :: ps).zip us)
def fdB (prog : Program) (K : PySem.W.Frag) (C : Addr) (ps : List Str) (fd : FuncData) : Bool := match fd.closure, fd.code with
  | [(n, cc)], .ref cda => decide (n = "__class__") && (codeIn K fd.code fd.qualname && (decide (fd.globals = mainGlobals) && (decide (fd.builtins = builtinsNs) && (decide (fd.defaults = .none) && (parB ps fd.params && (shapeB ps fd.body &&
    ((match K.lookup cda with
      | some ⟨_, _, .fields vs, _⟩ => (match (vs[2]? : Option Value) with
        | some (Value.str file _) => (prog.main.file : Str) == file
        | _ => false)
      | _ => false) &&
    ((match K.lookup cc with
      | some ⟨_, _, .cell (some (.ref D)), _⟩ => decide (D = C)
      | _ => false) &&
    (decide (fd.scope.kind = .function) && (decide (fd.scope.names.lookup ("super" : Str) = some .globalImplicit) && (decide (fd.scope.names.lookup ("__class__" : Str) = some .free) && (decide (fd.scope.names.lookup ("self" : Str) = some .local) &&
    (ps.all (fun f => decide (fd.scope.names.lookup f = some .local)) && (fd.scope.names.all (fun x => decide (x.2 ≠ .cell)) && (!fd.scope.isCoroutine && !fd.scope.isGenerator)))))))))))))))
  | _, _ => false
def xiB (prog : Program) (K : PySem.W.Frag) (x : Str) (ps : List Str) : Bool := oexB K (He.ga K x) && ((match findIn K (.ref (He.ga K x)) "__init__" with
  | some (some (.ref fI)) => decide (typeIn K (.ref fI) = some (.type "function")) && (match K.lookup fI with
    | some ⟨_, _, .func fd, _⟩ => fdB prog K (He.ga K x) ps fd
    | _ => false)
  | _ => false) && ((clsIn K (He.ga K x)).isSome && (decide (mroIn K (He.ga K x) (.ref (He.ga K x)) = some true) && (decide (subIn K (.ref (He.ga K x)) (.type "ValueError") = some true) && (decide (nsIn K cStatics "thirdparty.any" = some none) &&
    (decide (ks_superIn K (He.ga K x) (He.ga K x) "__init__" = some (some (.builtin "ValueError.__init__"))) && (ps.all (fun f => decide (findIn K (.ref (He.ga K x)) f = some none)) && !(prog.main.scope.names.lookup ("super" : Str)).isSome)))))))
theorem xiB_ok {prog : Program} {K : PySem.W.Frag} {x : Str} {ps : List Str} (hb : BindsPs ps) (nd : (("self" : Str) :: ps).Nodup) (few : ps.length ≤ 900) (hdb : ∀ f ∈ ps, (f == ("__debug__" : Str)) = false) (h : xiB prog K x ps = true) : ∃ fI fd cc cda, XI prog K (He.ga K x) ps fI fd cc cda := by
  unfold xiB at h
  simp only [Bool.and_eq_true, decide_eq_true_eq, Bool.not_eq_true'] at h
  obtain ⟨h1, h2, h3, h4, h5, h6, h7, h8, h9⟩ := h
  split at h2
  · rename_i fI hf
    rw [Bool.and_eq_true, decide_eq_true_eq] at h2
    obtain ⟨ht, h2⟩ := h2
    split at h2
    · rename_i oc od fd osl hk
      unfold fdB at h2
      split at h2
      · rename_i n cc cda hc hcode
        simp only [Bool.and_eq_true, decide_eq_true_eq, Bool.not_eq_true'] at h2
        obtain ⟨rfl, c1, c2, c3, c4, c5, c6, c7, c8, c9, c10, c11, c12, c13, c14, c15, c16⟩ := h2
        have c5' := c5
        unfold parB at c5'
        split at c5'
        · rename_i as hp
          have hp2 : as.map (·.arg) = ("self" : Str) :: ps := of_decide_eq_true c5'
          refine ⟨fI, fd, cc, cda, ⟨oexB_ok h1, hf, ht, ⟨oc, od, osl, hk⟩, hc, hcode, c2, c3, c1, ?_, ?_, Option.isSome_iff_exists.mp h3, h4, h5, h6, h7, fun f hf => of_decide_eq_true (List.all_eq_true.mp h8 f hf), shapeB_ok c6, ?_, c9, c10, c11, c12, fun f hf => ⟨of_decide_eq_true (List.all_eq_true.mp c13 f hf), hdb f hf⟩, nd, few,
            fun y hy => of_decide_eq_true (List.all_eq_true.mp c14 y hy), c15, c16, hb fd as hp2 hp c4, h9, as, hp2, hp, c4⟩⟩
          · split at c7
            · rename_i a b vs c hq
              split at c7
              · rename_i file tf hv
                exact ⟨_, _, _, _, _, _, hq, hv, c7⟩
              · cases c7
            · cases c7
          · split at c8
            · rename_i a b D c hq
              have e : D = He.ga K x := of_decide_eq_true c8
              subst e
              exact ⟨_, _, _, hq⟩
            · cases c8
          · rw [hp]
            cases as with
            | nil => cases hp2
            | cons a as => exact ⟨a, rfl, (List.cons.inj hp2).1⟩
        · cases c5'
      · cases h2
    · cases h2
  · cases h2
theorem bindsPs1 {x : Str} (h : ∀ (fd : FuncData) (a1 a2 : Option Expr) (p1 p2 : Pos) (u v : Value), fd.params = ⟨[], [⟨"self", a1, p1⟩, ⟨x, a2, p2⟩], none, [], [], none, []⟩ → fd.defaults = .none → bindArgs fd ⟨[u, v], []⟩ = pure [(("self" : Str), u), (x, v)]) : BindsPs [x] := by
  intro fd as e hp hd us hl
  match as, e, us, hl with
  | [⟨n1, a1, p1⟩, ⟨n2, a2, p2⟩], e, [u, v], _ =>
    simp only [List.map_cons, List.map_nil, List.cons.injEq, and_true] at e
    obtain ⟨rfl, rfl⟩ := e
    exact h fd a1 a2 p1 p2 u v hp hd
theorem bindsPs2 {x y : Str} (h : ∀ (fd : FuncData) (a1 a2 a3 : Option Expr) (p1 p2 p3 : Pos) (u v z : Value), fd.params = ⟨[], [⟨"self", a1, p1⟩, ⟨x, a2, p2⟩, ⟨y, a3, p3⟩], none, [], [], none, []⟩ → fd.defaults = .none → bindArgs fd ⟨[u, v, z], []⟩ = pure [(("self" : Str), u), (x, v), (y, z)]) : BindsPs [x, y] := by
  intro fd as e hp hd us hl
  match as, e, us, hl with
  | [⟨n1, a1, p1⟩, ⟨n2, a2, p2⟩, ⟨n3, a3, p3⟩], e, [u, v, z], _ =>
    simp only [List.map_cons, List.map_nil, List.cons.injEq, and_true] at e
    obtain ⟨rfl, rfl, rfl⟩ := e
    exact h fd a1 a2 a3 p1 p2 p3 u v z hp hd
theorem bp_name : BindsPs ["name"] := bindsPs1 fun fd a1 a2 p1 p2 u v hp hd => by
  obtain ⟨n1, n2, n3, n4, n5, n6, n7, n8, n9, n10, n11, n12, n13, n14, n15⟩ := fd
  dsimp only at hp hd
  subst hp hd
  rfl
theorem bp_cycle : BindsPs ["cycle"] := bindsPs1 fun fd a1 a2 p1 p2 u v hp hd => by
  obtain ⟨n1, n2, n3, n4, n5, n6, n7, n8, n9, n10, n11, n12, n13, n14, n15⟩ := fd
  dsimp only at hp hd
  subst hp hd
  rfl
theorem bp_name_letter : BindsPs ["name", "letter"] := bindsPs2 fun fd a1 a2 a3 p1 p2 p3 u v z hp hd => by
  obtain ⟨n1, n2, n3, n4, n5, n6, n7, n8, n9, n10, n11, n12, n13, n14, n15⟩ := fd
  dsimp only at hp hd
  subst hp hd
  rfl
theorem bp_name_member : BindsPs ["name", "member"] := bindsPs2 fun fd a1 a2 a3 p1 p2 p3 u v z hp hd => by
  obtain ⟨n1, n2, n3, n4, n5, n6, n7, n8, n9, n10, n11, n12, n13, n14, n15⟩ := fd
  dsimp only at hp hd
  subst hp hd
  rfl
end Py
namespace Py
open PySem PySem.Spec PySem.W PySem.Calls PyProof.Rows L2
variable [Wd]
/-- such a class, as the text's facts tell it -/
def XIs (prog : Program) (K : PySem.W.Frag) (x : Str) (ps : List Str) : Prop := ∃ fI fd cc cda, XI prog K (He.ga K x) ps fI fd cc cda
theorem praiseXs {X : Cx} {x : Str} {ps : List Str} {k : Nat} {e : Expr} {es : List Expr} {ta : TA} {p pos pos2 : Pos} {E : XK} (T : XIs X.prog X.K x ps) (hsup : X.mg "super" = none) (hr : RoomG k X.A) (hm : X.mg x = some (.ref (He.ga X.K x))) (hc : X.calm = true) (tk : Takes X (fun cls d _ H => E cls d H)) (ha : PA X (e :: es) ta)
    (hg : Gl X x := by rfl) (hdb : (x == ("__debug__" : Str)) = false := by decide) (he : starEach (e :: es) X.env = (false, eval e X.env) :: starEach es X.env := by rfl) (hpl : (backTo pos (starEach es X.env)).any (·.1) = false := by rfl) :
    PS X (.Raise (some (.Call (.Name x p) (e :: es) [] pos)) none pos2) (fun _ σ H => tMkX (He.ga X.K x) ps ta σ H fun cls d H' => E cls d H') := by
  obtain ⟨fI, fd, cc, cda, t⟩ := T
  exact praiseX t hsup hr hm hc tk ha hg hdb he hpl
end Py

/-! RO: instances: made, read; defs with a star parameter; properties. -/
namespace Py
open PySem PySem.Spec PyProof.Rows L2 StX

/-! ### defs by their arguments alone -/
def FnA (P : Program) (w : World) (K : PySem.W.Frag) (mg : Str → Option Value) (base : Heap) (XT : CXT) (n : Nat) (at_ : Addr) (pr : Sp) : Prop :=
  ∀ (B : Around) (out : List Env) (st : Shared) (H : Hp) (us : List Value) (vs : List V) (Q : VK) (E : XK), RoomG n B → Env0 P w K mg base B out st H → Vals vs us → pr vs H Q E → codeAny (model P w) B (.call (.ref at_) ⟨us, []⟩) (CR XT out P w H st Q E) st
section
variable {P : Program} {w : World} {K : PySem.W.Frag} {mg : Str → Option Value} {base : Heap} {XT : CXT}
theorem FnG.a {n : Nat} {at_ : Addr} {fd : FuncData} {ps : List Str} {pr : Sp} (G : FnG P w K mg base XT n at_ fd ps pr) (bn : Binds K fd ps []) : FnA P w K mg base XT n at_ pr := fun B out st H us vs Q E q e v z => by
  have inK : K.In st.heap := e.mod.kin.keeps fun c o h => (e.bs c o h).1
  have hl : (us ++ []).length = ps.length := by rw [List.append_nil, ← v.length]; exact G.len _ _ _ _ z
  have b := bn st us inK hl
  rw [List.append_nil] at b
  exact G.run B out st H ⟨us, []⟩ us vs Q E q e b v z
theorem FnA.imp {n : Nat} {at_ : Addr} {pr pr' : Sp} (G : FnA P w K mg base XT n at_ pr) (le : ∀ vs H Q E, pr' vs H Q E → pr vs H Q E) : FnA P w K mg base XT n at_ pr' :=
  fun B out st H us vs Q E q e v z => G B out st H us vs Q E q e v (le _ _ _ _ z)
/-- def f(a, .., *v) -/
theorem FnA.star {n : Nat} {at_ : Addr} {nm qn : Str} {par : Arguments} {body : List Stmt} {sc : Scope} {fd : FuncData} {N ps : List Str} {pv : Str} {pr : Sp} (F : FunD K nm qn par body sc [] [] at_ fd) (S : FnScope N (ps ++ [pv]) sc) (up : CXUp XT)
    (hb : ∀ (kV doc pm cv ct : Value) (an : Option Addr) (us rest : List Value), us.length = ps.length → bindArgs (PySem.W.fnOf nm qn par body sc .none kV doc pm an cv ct) ⟨us ++ rest, []⟩ = (newTuple rest >>= fun t => pure (ps.zip us ++ [(pv, t)])))
    (go : ∀ (cv : Value) (B : Around) (out : List Env) (st : Shared) (H : Hp) (vs : List V) (Q : VK) (E : XK), RoomG n (B.deeper (envOfC qn sc st.heap.objs.size at_ cv)) → pr vs H Q E →
      ∃ t, PSs (cxOf XT P w K mg base N qn sc at_ cv B out st H E) body t ∧ t { nx := fun _ H' => Q .non H', rt := Q } (L2.start N vs) H) :
    FnA P w K mg base XT (n + 1) at_ (fun vs H Q E => ∃ ws rest, vs = ws ++ rest ∧ ws.length = ps.length ∧ rest.length ≤ sizeLine ∧ ∀ p, H p = none → pr (ws ++ [V.ref p]) (upd H p (.tup rest)) Q E) := by
  obtain ⟨_, _, dV, kV, doc, pm, an, cv, ct, _, efd, look, code, hD, _⟩ := F.ex
  have hd : dV = .none := by
    rcases hD with ⟨_, e⟩ | ⟨e, _⟩
    · exact e
    · exact absurd rfl e
  subst hd
  intro B out st H us vs Q E q env rv hs
  obtain ⟨ws, rest, ev, hl, hz, hq⟩ := hs
  subst ev
  obtain ⟨u1, u2, eu, r1, r2⟩ := vals_split rv
  subst eu
  have inK : K.In st.heap := env.mod.kin.keeps fun c o e => (env.bs c o e).1
  have n0 : H st.heap.objs.size = none := env.hok.fresh (Nat.le_refl _)
  have l1 : u1.length = ps.length := by rw [← r1.length]; exact hl
  subst efd
  refine codeAny_call_function q.room.depth (inK _ _ look) rfl S.co S.gen rfl (PySem.W.codeRec_of inK code) ?_
  rw [hb kV doc pm cv ct an u1 u2 l1]
  refine wpAny_bind (wpAny_newTuple (wpAny_pure ?_) (by rw [← r2.length]; exact hz))
  have new : ObjOk P w (upd H st.heap.objs.size (.tup rest)) (st.heap.push ({ cls := .type "tuple", data := .seq u2.toArray } : Obj)) st.heap.objs.size (.tup rest) := ⟨hz, u2, r2, ⟨_, Heap.get?_push_size _ rfl, rfl, _, rfl⟩⟩
  have un := un_laid (fs := frs out) (s := st) (o := ({ cls := .type "tuple", data := .seq u2.toArray } : Obj)) (u := .tup rest) n0
  have env2 := env0_laid env new
  have lim := env2.mod.nolimit.keeps fun c o e => (env2.bs c o e).1
  have rr : Vals (ws ++ [V.ref st.heap.objs.size]) (u1 ++ [Value.ref st.heap.objs.size]) := r1.append (.cons rfl .nil)
  have ez : ps.zip u1 ++ [(pv, Value.ref st.heap.objs.size)] = (ps ++ [pv]).zip (u1 ++ [Value.ref st.heap.objs.size]) := by rw [List.zip_append l1.symm]; rfl
  rw [ez]
  have kinds : ∀ y ∈ (ps ++ [pv]).zip (u1 ++ [Value.ref st.heap.objs.size]), sc.names.lookup y.1 = some .local ∨ (sc.names.lookup y.1 = some .cell ∧ ((cellsFrom ((st.heap.push ({ cls := .type "tuple", data := .seq u2.toArray } : Obj)).objs.size + 1) sc.names []).lookup y.1).isSome = true) := by
    rintro ⟨y, u⟩ hy
    exact (S.par y (List.of_mem_zip hy).1).imp id fun c => ⟨c, PySem.W.cellsFrom_some _ _ _ (Or.inl c)⟩
  refine wpAny_newFunctionEnv_cells (s := { st with heap := st.heap.push ({ cls := .type "tuple", data := .seq u2.toArray } : Obj) }) S.kind kinds fun en en_eq st1 x => ?_
  subst en_eq
  refine ⟨lim.keeps x.toInCall.keep, codeAny_func ?_⟩
  obtain ⟨t, pt, tz⟩ := go cv B out { st with heap := st.heap.push ({ cls := .type "tuple", data := .seq u2.toArray } : Obj) } _ _ Q E (q.inner _) (hq _ n0)
  have len2 : (ws ++ [V.ref st.heap.objs.size]).length = (ps ++ [pv]).length := by rw [List.length_append, List.length_append, hl]; rfl
  have J0 := inv_start (CX := XT) (E := E) (cd := cv) (qual := qn) (f := at_) S q.room.hd env2 len2 rr x
  have up1 : ∀ e3 s3, XT out (upd H st.heap.objs.size (.tup rest)) { st with heap := st.heap.push ({ cls := .type "tuple", data := .seq u2.toArray } : Obj) } E e3 s3 → XT out H st E e3 s3 := fun e3 s3 z => up out st H { st with heap := st.heap.push ({ cls := .type "tuple", data := .seq u2.toArray } : Obj) } (upd H st.heap.objs.size (.tup rest)) E e3 s3 un (fun b o q => Heap.get?_push_of_some _ q) rfl z
  refine wpAny_mono (pt.run [] st1 _ _ _ J0 tz) ?_ fun e s2 u => wpAny_mono u (fun _ s3 z => up1 e s3 z) fun e3 s3 z => up1 e3 s3 z
  intro fl st2 done
  cases fl with
  | next => obtain ⟨_, H', J, u⟩ := done; exact ⟨V.non, H', J.os, J.bare, un.trans J.base, J.hok, rfl, u⟩
  | ret r => obtain ⟨v, _, H', J, rv', u⟩ := done; exact ⟨v, H', J.os, J.bare, un.trans J.base, J.hok, rv', u⟩
  | brk => obtain ⟨_, _, _, u⟩ := done; exact u.elim
  | cont => obtain ⟨_, _, _, u⟩ := done; exact u.elim
theorem RoomG.make {k : Nat} {A : Around} (r : RoomG (k + 1) A) (C : Addr) (us : List Value) (kw : List (Str × Value)) : RoomG k (A.under (.builtin "type.__call__" ⟨.ref C :: us, kw⟩)) := ⟨r.room.make C us kw, by
  have := r.bare
  first | exact this | (simpa [Around.under] using this)⟩
theorem RoomG.in1 {k : Nat} {A : Around} (r : RoomG (k + 1) A) : RoomG k A.in1 := ⟨r.room.in1, r.bare⟩
end
section
variable {X : Cx} {XT : CXT} {k : Nat} {f C : Addr} {pr : Sp} {E : XK} {x : Str} {e : Expr} {es : List Expr} {t : TA} {p pos : Pos}
theorem run_makeG {pins : List (Addr × Obj)} {σ : L2.St} {H : Hp} {s : Shared} {Q : VK} {us : List Value} {vs : List V} (M : Mk X.K C f) (G : FnA X.prog X.w X.K X.mg X.base XT k f pr) (hr : RoomG (k + 1) X.A) (hx : Passes XT X E) (I : Inv X pins σ H s) (r : Vals vs us)
    (h : ∀ x dx, H x = none → H dx = none → dx ≠ x → pr (V.ref x :: vs) (upd (upd H dx (.own x)) x (.ins C dx [])) (fun v H2 => v = .non ∧ Q (.ref x) H2) E) :
    wpAny (model X.prog X.w) X.A (call (.ref C) us) (EP X pins σ Q) X.xe s := by
  have hq := h (s.heap.objs.size + 1) s.heap.objs.size (I.hok.fresh (Nat.le_succ _)) (I.hok.fresh (Nat.le_refl _)) (Nat.ne_of_lt (Nat.lt_succ_self _))
  have J := Inv.made (C := C) I
  have rr : Vals (V.ref (s.heap.objs.size + 1) :: vs) (Value.ref (s.heap.objs.size + 1) :: us) := .cons rfl r
  refine wpAny_call (make_map (f := f) I.kIn M.makes M.init (beq_iff_eq.mp M.fn) (codeAny_mono (G _ X.stack _ _ (Value.ref (s.heap.objs.size + 1) :: us) _ _ E (hr.make C us []) (J.env0.make C us []) rr hq) fun r s1 c => ?_))
  match r, c with
  | .error er, c => exact hx pins σ _ _ er s1 J c
  | .ok (.ret u), c =>
    obtain ⟨v, H1, J1, rv, ev, q1⟩ := J.after c
    subst ev
    exact ⟨rv, ⟨V.ref (s.heap.objs.size + 1), H1, J1, rfl, q1⟩⟩
  | .ok .next, c => exact c.elim
  | .ok .brk, c => exact c.elim
  | .ok .cont, c => exact c.elim
theorem pe_makeG (M : Mk X.K C f) (G : FnA X.prog X.w X.K X.mg X.base XT k f pr) (hr : RoomG (k + 1) X.A) (hm : X.mg x = some (.ref C)) (hx : Passes XT X E) (ha : PA X (e :: es) t) (hg : Gl X x := by rfl) (hdb : (x == ("__debug__" : Str)) = false := by decide)
    (he : starEach (e :: es) X.env = (false, eval e X.env) :: starEach es X.env := by rfl) (hpl : (backTo pos (starEach es X.env)).any (·.1) = false := by rfl) : PE X (.Call (.Name x p) (e :: es) [] pos) (tMakeR C pr E t) := by
  constructor
  intro pins s σ H Q I h
  refine wpAny_Call_Name_kw (ld_glob I hg hm (PySem.W.callWith_K (h₀ := X.base) I.ok.mod.kin M.kp (thn (ha.run pos pins s σ H _ I h) ?_) he hpl) hdb)
  rintro us s1 ⟨vs, H1, I1, r, q⟩
  exact ⟨I1.kIn, run_makeG M G hr hx I1 r q⟩
end
variable [Wd]
/-! ### __init__ by data: the fields that it leaves -/
def without (H : Hp) (x : Addr) : Hp := fun a => if a = x then none else H a
theorem without_ne {H : Hp} {x a : Addr} (h : a ≠ x) : without H x a = H a := if_neg h
theorem without_at {H : Hp} {x : Addr} : without H x x = none := if_pos rfl
def spI (K : PySem.W.Frag) (mg : Str → Option Value) (z : Bool) (c : Str) (F : List D → M (List (Str × D))) : Sp := fun vs H Q E => ∃ (x dx : Addr) (ws : List V) (O : Addr → Prop) (ds : List D), vs = .ref x :: ws ∧ H x = some (.ins (He.ga K c) dx []) ∧ ¬ O x ∧ ((∀ a, O a → H a ≠ none) ∧ LamX.Tabs Wd.T H) ∧ Dens K (also O x) H ws ds ∧
  (F ds).wp (fun fs => ∀ H', Gr z O (without H x) H' → Top K (also O x) H' x (.obj c fs) → Q .non H') (fun e => ∀ cls dd H', Gr z O (without H x) H' → XRel K mg O H' cls dd e → E cls dd H')
def finI (c : Str) : Out → M (List (Str × D))
  | .next ρ => (match ρ[0]? with
    | some (some (true, D.obj c' fs)) => if c' = c then .ret fs else .stuck
    | _ => .stuck)
  | _ => .stuck
def startI (n : Nat) (c : Str) (ds : List D) : Rho := some (true, .obj c []) :: startR (n - 1) ds
/-- the frame of __init__ -/
theorem rel_init {K : PySem.W.Frag} {z : Bool} {H : Hp} {O : Addr → Prop} {N : List Str} {x dx : Addr} {c : Str} {ws : List V} {ds : List D} (hx : H x = some (.ins (He.ga K c) dx [])) (ox : ¬ O x) (hd : (∀ a, O a → H a ≠ none) ∧ LamX.Tabs Wd.T H) (s : Dens K (also O x) H ws ds) (hN : 0 < N.length) :
    Rel K z (fun i => if i = 0 then some x else none) (without H x) O [] (also O x) (L2.start N (.ref x :: ws)) H (startI N.length c ds) where
  len := by unfold L2.start startI startR; simp [s.length]; omega
  sdom := fun a h => by
    have e : a ≠ x := fun e => ox (by rw [← e]; exact h)
    rw [without_ne e]; exact hd.1 a h
  dom := fun a h => by
    rcases h with h | h
    · exact hd.1 a h
    · rw [h, hx]; intro z; cases z
  sub := fun _ h => .inl h
  new := fun a h => by
    rcases h with h | h
    · exact .inl h
    · rw [h]; exact .inr without_at
  grow := ⟨fun a o h => by
    by_cases e : a = x
    · rw [e, without_at] at h; cases h
    · rw [without_ne e] at h; exact .inl h, fun t => t.ext fun b o e => by
    by_cases eb : b = x
    · rw [eb, without_at] at e; cases e
    · rw [without_ne eb] at e; exact e⟩
  slot := fun i d h1 => by
    cases i with
    | zero => simp [startI] at h1
    | succ i =>
      obtain ⟨v, ev, xv⟩ := s.get i d (startR_get (by simpa [startI] using h1)).2
      have : (L2.start N (V.ref x :: ws))[i + 1]? = some (some v) := by
        unfold L2.start
        rw [List.map_cons, List.cons_append, List.getElem?_cons_succ]
        exact start_put ev
      exact ⟨v, this, xv⟩
  mine := fun i d h1 => by
    cases i with
    | zero =>
      have e : d = .obj c [] := by simp [startI] at h1; exact h1.symm
      subst e
      exact ⟨x, rfl, .inr rfl, without_at, .obj hx .nil⟩
    | succ i => cases (startR_get (show (startR (N.length - 1) ds)[i]? = some (some (true, d)) by simpa [startI] using h1)).1
  inj := fun i j a d d' h3 h4 h5 h6 => by
    cases i with
    | zero => cases j with
      | zero => rfl
      | succ j => cases (startR_get (show (startR (N.length - 1) ds)[j]? = some (some (true, d')) by simpa [startI] using h4)).1
    | succ i => cases (startR_get (show (startR (N.length - 1) ds)[i]? = some (some (true, d)) by simpa [startI] using h3)).1
  held := fun p hp => nomatch hp
  fix := fun i a h => by
    split at h
    · rename_i e; subst e; cases h; rfl
    · cases h
  tab := hd.2
/-- def __init__(self, a, ..) -/
theorem init_ok {P : Program} {w : World} {K : PySem.W.Frag} {mg : Str → Option Value} {base : Heap} {x qual cn : Str} {params : Arguments} {body : List Stmt} {scope : Scope} {f : Addr} {fd : FuncData} {k : Nat} {N ps : List Str} {z : Bool} {c : CS}
    (F : FunD K x qual params body scope [] [] f fd) (S : FnScope N ps scope) (bn : Binds K fd ps []) (hN : 0 < N.length) (n : Nat) (hn : ps.length = n + 1)
    (hb : ∀ (cdv : Value) (A : Around) (outer : List Env) (s : Shared) (H : Hp) (E : XK) (O : Addr → Prop) (a : Addr), RoomG k (A.deeper (envOfC qual scope s.heap.objs.size f cdv)) →
      ∃ t, PSs (cxOf (L2.CX P w) P w K mg base N qual scope f cdv A outer s H E) body t ∧ SimS ⟨K, z, mg, without H a, O, E, fun i => if i = 0 then some a else none⟩ t c) :
    FnA P w K mg base (L2.CX P w) (k + 1) f (spI K mg z cn (fun ds => if ds.length = n then (c (startI N.length cn ds)).bind (finI cn) else .stuck)) := by
  have G : FnG P w K mg base (L2.CX P w) (k + 1) f fd ps (fun vs H Q E => vs.length = ps.length ∧ spI K mg z cn (fun ds => if ds.length = n then (c (startI N.length cn ds)).bind (finI cn) else .stuck) vs H Q E) := by
    refine FnG.of_body F S (fun vs H Q E h => h.1) (fun cdv A outer s H vs Q E hr h => ?_)
    obtain ⟨hl, a, dx, ws, O, ds, ev, hx, ox, hd, sd, w'⟩ := h
    subst ev
    obtain ⟨t, ht, hs⟩ := hb cdv A outer s H E O a hr
    refine ⟨t, ht, ?_⟩
    replace w' : M.wp (if ds.length = n then (c (startI N.length cn ds)).bind (finI cn) else .stuck) _ _ := w'
    split at w'
    · refine hs [] (also O a) _ H (startI N.length cn ds) _ (rel_init hx ox hd sd hN) (M.wp_mono (M.wp_bind.mp w') (fun o h => ?_) fun _ z => z)
      cases o with
      | next ρ =>
        intro O' σ' H' r
        replace h : M.wp (match ρ[0]? with
          | some (some (true, D.obj c' fs)) => if c' = cn then M.ret fs else M.stuck
          | _ => M.stuck) _ _ := h
        split at h
        · rename_i c' fs e
          obtain ⟨b, eb, ob, nb, tb⟩ := r.mine 0 _ e
          have ea := r.fix 0 a rfl
          rw [eb] at ea; cases ea
          split at h
          · rename_i ec
            subst ec
            exact h H' r.grow (tb.map (fun _ q _ => q) fun v d y => y.less fun q hq => hq.elim (r.sub q) fun e => by rw [e]; exact ob)
          · exact h.elim
        · exact h.elim
      | ret d => exact h.elim
      | brk ρ => exact h.elim
      | cont ρ => exact h.elim
    · exact w'.elim
  refine (G.a bn).imp fun vs H Q E h => ⟨?_, h⟩
  obtain ⟨a, dx, ws, O, ds, ev, hx, ox, hd, sd, w'⟩ := h
  replace w' : M.wp (if ds.length = n then (c (startI N.length cn ds)).bind (finI cn) else .stuck) _ _ := w'
  split at w'
  · rename_i hl
    rw [ev, List.length_cons, sd.length, hl, hn]
  · exact w'.elim
/-- def __init__(self, *v) -/
theorem initStar_ok {P : Program} {w : World} {K : PySem.W.Frag} {mg : Str → Option Value} {base : Heap} {x qual cn sf pv : Str} {params : Arguments} {body : List Stmt} {scope : Scope} {f : Addr} {fd : FuncData} {k : Nat} {N : List Str} {z : Bool} {c : CS}
    (F : FunD K x qual params body scope [] [] f fd) (S : FnScope N ([sf] ++ [pv]) scope) (hN : 0 < N.length)
    (bn : ∀ (kV doc pm cv ct : Value) (an : Option Addr) (us rest : List Value), us.length = [sf].length → bindArgs (PySem.W.fnOf x qual params body scope .none kV doc pm an cv ct) ⟨us ++ rest, []⟩ = (newTuple rest >>= fun t => pure ([sf].zip us ++ [(pv, t)])))
    (hb : ∀ (cdv : Value) (A : Around) (outer : List Env) (s : Shared) (H : Hp) (E : XK) (O : Addr → Prop) (a : Addr), RoomG k (A.deeper (envOfC qual scope s.heap.objs.size f cdv)) →
      ∃ t, PSs (cxOf (L2.CX P w) P w K mg base N qual scope f cdv A outer s H E) body t ∧ SimS ⟨K, z, mg, without H a, O, E, fun i => if i = 0 then some a else none⟩ t c) :
    FnA P w K mg base (L2.CX P w) (k + 1) f (spI K mg z cn (fun ds => if ds.length ≤ LIM then (c (startI N.length cn [.tup ds])).bind (finI cn) else .stuck)) := by
  refine (FnA.star (XT := L2.CX P w) (n := k) (pr := spI K mg z cn (fun ds => (c (startI N.length cn ds)).bind (finI cn))) F S cxUp bn (fun cdv A outer s H vs Q E hr h => ?_)).imp fun vs H Q E h => ?_
  · obtain ⟨a, dx, ws, O, ds, ev, hx, ox, hd, sd, w'⟩ := h
    subst ev
    obtain ⟨t, ht, hs⟩ := hb cdv A outer s H E O a hr
    refine ⟨t, ht, hs [] (also O a) _ H (startI N.length cn ds) _ (rel_init hx ox hd sd hN) (M.wp_mono (M.wp_bind.mp w') (fun o h => ?_) fun _ z => z)⟩
    cases o with
    | next ρ =>
      intro O' σ' H' r
      replace h : M.wp (match ρ[0]? with
        | some (some (true, D.obj c' fs)) => if c' = cn then M.ret fs else M.stuck
        | _ => M.stuck) _ _ := h
      split at h
      · rename_i c' fs e
        obtain ⟨b, eb, ob, nb, tb⟩ := r.mine 0 _ e
        have ea := r.fix 0 a rfl
        rw [eb] at ea; cases ea
        split at h
        · rename_i ec
          subst ec
          exact h H' r.grow (tb.map (fun _ q _ => q) fun v d y => y.less fun q hq => hq.elim (r.sub q) fun e => by rw [e]; exact ob)
        · exact h.elim
      · exact h.elim
    | ret d => exact h.elim
    | brk ρ => exact h.elim
    | cont ρ => exact h.elim
  · obtain ⟨a, dx, ws, O, ds, ev, hx, ox, hd, sd, w'⟩ := h
    replace w' : M.wp (if ds.length ≤ LIM then (c (startI N.length cn [.tup ds])).bind (finI cn) else .stuck) _ _ := w'
    split at w'
    · rename_i hl
      refine ⟨[.ref a], ws, ev, rfl, lim_line (by rw [sd.length]; exact hl), fun p hp => ?_⟩
      have pa : p ≠ a := fun e => by rw [e, hx] at hp; cases hp
      have np : ¬ O p := fun q => hd.1 p q hp
      have gw : Gr z O (without H a) (without (upd H p (.tup ws)) a) := Grow.gr fun b o h => by
        by_cases e : b = a
        · rw [e, without_at] at h; cases h
        · rw [without_ne e] at h ⊢
          have : b ≠ p := fun e => by rw [e, hp] at h; cases h
          rw [upd_ne this]; exact h
      refine ⟨a, dx, [.ref p], O, [.tup ds], rfl, by rw [upd_ne (Ne.symm pa)]; exact hx, ox, ⟨fun b hb => ?_, tabs_upd (nc_none hp) hd.2⟩, .cons (.tup (fun q => q.elim np pa) upd_same (sd.ext (Grow.new hp).ext)) .nil, M.wp_mono w' (fun fs q H' g t => q H' (gw.trans g) t) fun e q cls dd H' g xr => q cls dd H' (gw.trans g) xr⟩
      by_cases e : b = p
      · rw [e, upd_same]; intro z; cases z
      · rw [upd_ne e]; exact hd.1 b hb
    · exact w'.elim
end Py

/-! RO2: C(..), e.f, self.f = e, properties, isinstance of own classes, by data. -/
namespace Py
open PySem PySem.Spec PyProof.Rows L2 StX
variable [Wd]

/-! ### C(a, ..) -/
def cMake (c : Str) (F : List D → M (List (Str × D))) (a : CA) : CE := fun ρ => (a ρ).bind fun ds => (F ds).bind fun fs => .ret (.obj c fs)
theorem simN_make {f : Cf} {c : Str} {F : List D → M (List (Str × D))} {ta : TA} {a : CA} (ha : SimA f ta a) : SimN f (tMakeR (He.ga f.K c) (spI f.K f.mg f.z c F) f.E ta) (cMake c F a) := fun P O σ H ρ Q r w => by
  refine ha P O σ H ρ _ r (M.wp_mono (M.wp_bind.mp w) (fun ds w1 vs H1 g1 s1 => ?_) fun _ z => z)
  intro x dx hx hdx ne
  have rr := r.growTo g1
  have hdx' : upd H1 dx (.own x) x = none := by rw [upd_ne (Ne.symm ne)]; exact hx
  have gr : Grow H1 (upd (upd H1 dx (.own x)) x (.ins (He.ga f.K c) dx [])) := (Grow.new hdx).trans (Grow.new hdx')
  have gw : Gr f.z O H1 (without (upd (upd H1 dx (.own x)) x (.ins (He.ga f.K c) dx [])) x) := Grow.gr fun b o h => by
    have e : b ≠ x := fun e => by rw [e, hx] at h; cases h
    rw [without_ne e]
    exact gr b o h
  refine ⟨x, dx, vs, O, ds, rfl, upd_same, fun q => rr.dom x q hx, ⟨fun b hb => (gr.gr (z := f.z) (O := O)).there (rr.dom b hb), (gr.gr (z := f.z) (O := O)).tab rr.tab⟩, (s1.more hx).ext gr.ext, M.wp_mono (M.wp_bind.mp w1) (fun fs w2 H' g t => ⟨rfl, w2 x H' ((g1.trans gw).trans g) (g1.fresh hx) t⟩) fun e q cls dd H' g xr => ?_⟩
  exact q cls dd H' (rr.grow.trans ((gw.trans g).less r.sub)) (xr.less r.sub)

/-! ### e.f -/
theorem DenFs.look {K : PySem.W.Frag} {O : Addr → Prop} {H : Hp} (n : Str) : ∀ {fvs : List (Str × V)} {fs : List (Str × D)} {d : D}, DenFs K O H fvs fs → fs.lookup n = some d → ∃ v, fvs.lookup n = some v ∧ Den K O H v d
  | _, _, _, .nil, e => by cases e
  | _, _, d, .cons (n := m) (fs := fs) (gs := gs) h s, e => by
    rw [List.lookup_cons] at e ⊢
    cases q : (n == m) with
    | true => rw [q] at e; cases e; exact ⟨_, rfl, h⟩
    | false => rw [q] at e; exact DenFs.look n s e
structure InsF (K : PySem.W.Frag) (c : Str) : Prop where
  cl : Cls K (He.ga K c)
  cls : PySem.W.findIn K (.ref (He.ga K c)) "__class__" = some (some (.builtin "object.__class__"))
  get : PySem.W.specialIn K (.builtin "object.__class__") "__get__" = some (some (.builtin "getset_descriptor.__get__"))
  tak : PySem.W.takesIn K (.builtin "object.__class__") = some true
  mro : PySem.W.mroIn K (He.ga K c) (.type "object") = some true
def cFld (c n : Str) (a : CE) : CE := fun ρ => (a ρ).bind fun d => match d with
  | .obj c' fs => if c' = c then (match fs.lookup n with
    | some d => .ret d
    | none => .stuck) else .stuck
  | _ => .stuck
theorem sim_fld {f : Cf} {c n : Str} {te : TE} {a : CE} (T : InsF f.K c) (hn : NoAttr f.K (He.ga f.K c) n) (ha : SimC f te a) : SimE f (tFld f.K te n) (cFld c n a) := fun P O σ H ρ Q r w => by
  refine ha P O σ H ρ _ r (M.wp_mono (M.wp_bind.mp w) (fun d w1 v H1 g1 x1 => ?_) fun _ z => z)
  split at w1
  · rename_i c' fs
    split at w1
    · rename_i ec
      subst ec
      split at w1
      · rename_i d hd
        obtain ⟨a', dx, fvs, ev, h, s⟩ := x1.obj
        obtain ⟨u, eu, xu⟩ := s.look n hd
        exact ⟨a', _, dx, fvs, u, ev, h, T.cl, hn, eu, w1 u H1 g1 xu⟩
      · exact w1.elim
    · exact w1.elim
  · exact w1.elim
/-! ### x.f = e, x an own object -/
def putFd (n : Str) (d : D) : List (Str × D) → List (Str × D)
  | [] => [(n, d)]
  | (g, x) :: r => if g = n then (g, d) :: r else (g, x) :: putFd n d r
theorem DenFs.put {K : PySem.W.Frag} {O : Addr → Prop} {H : Hp} (n : Str) {v : V} {d : D} (x : Den K O H v d) : ∀ {fvs : List (Str × V)} {fs : List (Str × D)}, DenFs K O H fvs fs → DenFs K O H (putF n v fvs) (putFd n d fs)
  | _, _, .nil => .cons x .nil
  | _, _, .cons (n := m) h s => by
    unfold putF putFd
    split
    · exact .cons x s
    · exact .cons h (DenFs.put n x s)
def cSetF (i : Nat) (c n : Str) (a : CE) : CS := fun ρ => (a ρ).bind fun d => match ρ[i]? with
  | some (some (true, D.obj c' fs)) => if c' = c ∧ fs.length < 1000 then .ret (.next (ρ.set i (some (true, .obj c (putFd n d fs))))) else .stuck
  | _ => .stuck
theorem sim_setF {f : Cf} {i : Nat} {c n : Str} {te : TE} {a : CE} (T : InsF f.K c) (hn : NoAttr f.K (He.ga f.K c) n) (ha : SimE f te a) : SimS f (sFld f.K (tVar i) te n) (cSetF i c n a) := fun P O σ H ρ E r w => by
  refine ha P O σ H ρ _ r (M.wp_mono (M.wp_bind.mp w) (fun d w1 v H1 g1 x1 => ?_) fun _ z => z)
  have rr := r.growTo g1
  split at w1
  · rename_i c' fs hi
    split at w1
    · rename_i hc
      obtain ⟨ec, hl⟩ := hc
      subst ec
      obtain ⟨b, eb, ob, nb, tb⟩ := rr.mine i _ hi
      cases tb with
      | @obj _ dx fvs _ h s =>
      refine ⟨.ref b, eb, b, _, dx, fvs, rfl, h, T.cl, hn, by rw [s.length]; exact hl, ?_⟩
      exact w1 O σ _ (rr.change hi eb ob nb (.obj upd_same ((s.put n x1).ext (Ext.write ob))))
    · exact w1.elim
  · exact w1.elim

/-! ### properties -/
section
variable {X : Cx} {XT : CXT} {k : Nat} {C p g a dx : Addr} {fs : List (Str × V)} {n : Str} {pr : Sp} {E : XK} {e : Expr} {pos : Pos} {ta : TE}
theorem pe_propG (he : PE X e ta) (c : Cls X.K C) (hp : PropOf X.K C n p g) (G : FnA X.prog X.w X.K X.mg X.base XT k g pr) (hr : RoomG (k + 1) X.A) (hx : Passes XT X.nox E)
    (hab : attributeBase e n X.env (eval e X.env) = eval e X.env := by rfl) : PE X (.Attribute e n pos) (tProp C pr [] E ta) := by
  constructor
  intro pins s0 σ H0 Q I0 h0
  refine attr_of hab (thn (he.run pins s0 σ H0 _ I0 h0) fun u s ⟨x, H, I, rx, a, dx, fs, ex, ea, q⟩ => ?_)
  subst ex
  obtain rfl : u = Value.ref a := rx
  obtain ⟨mA, O, _, _, _, _⟩ := ins_get I.hok ea
  obtain ⟨od, J, _⟩ := O.look
  obtain ⟨rest, rec⟩ := hp.rec_
  have I1 := I.tok (s.toks + 1)
  have isC : (PySem.W.clsIn X.K C).isSome = true := by
    obtain ⟨cd, z, _⟩ := PySem.W.any_some c.hd
    rw [z]; rfl
  have pg := PySem.W.plainGet_of (c.get n)
  refine PySem.W.get_bind I.kIn J pg.1 (PySem.W.findObj_data isC hp.at_ hp.get hp.tak) pg.2 (wpAny_call (PySem.W.prop_get (s := { s with toks := s.toks + 1 }) I.kIn rec ?_))
  refine codeAny_mono (G X.A.in1 X.stack { s with toks := s.toks + 1 } H [.ref a] [.ref a] Q E hr.in1 I1.env0.in1 (.cons rfl .nil) q) fun r s1 c1 => ?_
  match r, c1 with
  | .error er, c1 => exact (hx pins σ H { s with toks := s.toks + 1 } er s1 (I1.wish _) c1).elim
  | .ok (.ret u), c1 =>
    obtain ⟨v, H1, I3, rv, q3⟩ := I1.after c1
    show wpAny _ _ (handedOut u) _ _ _
    rw [PySem.W.handedOut_of (handed_of rv)]
    exact wpAny_pure ⟨v, H1, I3, rv, q3⟩
  | .ok .next, c1 => exact c1.elim
  | .ok .brk, c1 => exact c1.elim
  | .ok .cont, c1 => exact c1.elim
end
def cProp (c : Str) (F : List D → M D) (a : CE) : CE := fun ρ => (a ρ).bind fun d => match d with
  | .obj c' fs => if c' = c then noErr (F [.obj c' fs]) else .stuck
  | _ => .stuck
theorem sim_prop {f : Cf} {c : Str} {F : List D → M D} {te : TE} {a : CE} (ha : SimE f te a) : SimE f (tProp (He.ga f.K c) (spD f.K f.mg f.z 1 F) [] E0 te) (cProp c F a) := fun P O σ H ρ Q r w => by
  refine ha P O σ H ρ _ r (M.wp_mono (M.wp_bind.mp w) (fun d w1 v H1 g1 x1 => ?_) fun _ z => z)
  split at w1
  · rename_i c' fs
    split at w1
    · rename_i ec
      subst ec
      obtain ⟨a', dx, fvs, ev, h, s⟩ := (DenC.obj (H0 := H) (.inl x1))
      subst ev
      exact ⟨a', dx, fvs, rfl, h, rfl, O, [.obj c' fs], ⟨(r.growTo g1).dom, (r.growTo g1).tab⟩, .cons x1 .nil, M.wp_mono (noErr_wp (E' := fun _ => False) w1) (fun d w2 v H2 g2 x2 => w2 v H2 (g1.trans g2) x2) fun _ (z : False) => z.elim⟩
    · exact w1.elim
  · exact w1.elim

/-! ### isinstance(x, C) -/
structure IsF (K : PySem.W.Frag) (t : Str) (cs : List (Str × Bool)) : Prop where
  bt : ∀ n ∈ ["NoneType", "bool", "int", "str", "tuple", "list", "dict"], PySem.W.kitOne K (.type n) (.ref (He.ga K t)) = some false
  ow : ∀ p ∈ cs, PySem.W.kitOne K (.ref (He.ga K p.1)) (.ref (He.ga K t)) = some p.2 ∧ InsF K p.1
def isOwnD (cs : List (Str × Bool)) (d : D) : Option D := match d with
  | .obj c _ => (cs.lookup c).map .bl
  | d => (tyN d).map fun _ => .bl false
theorem tyN_mem {d : D} {t : String} (h : tyN d = some t) : t ∈ ["NoneType", "bool", "int", "str", "tuple", "list", "dict"] := by
  cases d <;> simp only [tyN] at h <;> first | (cases h; simp) | cases h
theorem sim_isOwn {f : Cf} {t : Str} {cs : List (Str × Bool)} {te : TE} {a : CE} (T : IsF f.K t cs) (ha : SimC f te a) : SimE f (tCB (rIsi f.K) (tCons te (tCons (tC (.ref (He.ga f.K t))) tNil))) (cUn (isOwnD cs) a) := fun P O σ H ρ Q rl w => by
  refine ha P O σ H ρ _ rl (M.wp_mono (M.wp_bind.mp w) (fun d w1 v H1 g1 x1 => ?_) fun _ z => z)
  unfold lift1 at w1
  split at w1
  · rename_i z e
    unfold isOwnD at e
    split at e
    · rename_i c fs
      cases hl : cs.lookup c with
      | none => rw [hl] at e; cases e
      | some b =>
        rw [hl] at e
        cases e
        obtain ⟨k1, k2⟩ := T.ow _ (lookup_mem hl)
        obtain ⟨a', dx, fvs, ev, h, s⟩ := x1.obj
        subst ev
        exact ⟨_, .ref (He.ga f.K t), .ref (He.ga f.K c), .ref (He.ga f.K t), b, rfl, .own _, .base (.ins h k2.cl k2.cls k2.get k2.tak k2.mro), k1, w1 _ H1 g1 (.bl _)⟩
    · cases ht : tyN d with
      | none => rw [ht] at e; cases e
      | some ty =>
        rw [ht] at e
        cases e
        exact ⟨v, .ref (He.ga f.K t), .type ty, .ref (He.ga f.K t), false, rfl, .own _, tyX_of x1.bare ht, T.bt ty (tyN_mem ht), w1 _ H1 g1 (.bl _)⟩
  · exact w1.elim
theorem pisOwn {X : Cx} {e : Expr} {te : TE} {p p2 pos : Pos} {x : Str} (B : Bf X.mg) (hm : X.mg x = some (.ref (He.ga X.K x))) (he : PE X e te) (hg : Gl X "isinstance" := by rfl) (hg2 : Gl X x := by rfl) (hdb : (x == ("__debug__" : Str)) = false := by decide) (hst : starEach [e, .Name x p2] X.env = (false, eval e X.env) :: starEach [.Name x p2] X.env := by rfl) (hst2 : starEach [.Name x p2] X.env = (false, eval (.Name x p2) X.env) :: starEach [] X.env := by rfl)
    (hpl : (backTo pos (starEach [.Name x p2] X.env)).any (·.1) = false := by rfl) :
    PE X (.Call (.Name "isinstance" p) [e, .Name x p2] [] pos) (tCB (rIsi X.K) (tCons te (tCons (tC (.ref (He.ga X.K x))) tNil))) := by
  have hb : PE X (.Name x p2) (tC (.ref (He.ga X.K x))) := pe_glob hg2 hm rfl hdb
  exact pe_callB call_isi hg B.isinstance boot_fns.2.1 (pa_cons he (pa_cons hb pa_nil hst2) hst) (by decide) (by decide) hst hpl
end Py

/-! RR: methods on an own object: their promise, their frame, their call. -/
namespace Py
open PySem PySem.Spec PyProof.Rows L2 StX
section
variable {X : Cx} {XT : CXT} {k : Nat} {f C : Addr} {pr : Sp} {E : XK} {m : Str} {o e : Expr} {es : List Expr} {ta : TE} {t : TA} {apos pos : Pos}
theorem FnA.goes {pins : List (Addr × Obj)} {σ : L2.St} {H : Hp} {st : Shared} {Q : VK} {us : List Value} {vs : List V} (G : FnA X.prog X.w X.K X.mg X.base XT k f pr) (q : RoomG k X.A) (pass : Passes XT X E)
    (J : Inv X pins σ H st) (rel : Vals vs us) (z : pr vs H Q E) : wpAny (model X.prog X.w) X.A (call (.ref f) us) (EP X pins σ Q) X.xe st := by
  refine wpAny_call (codeAny_mono (G X.A X.stack st H us vs Q E q J.env0 rel z) ?_)
  intro r st' c
  match r, c with
  | .error er, c => exact pass pins σ H st er st' J c
  | .ok (.ret u), c => exact J.after c
  | .ok .next, c => exact c.elim
  | .ok .brk, c => exact c.elim
  | .ok .cont, c => exact c.elim
theorem pe_methG {pl : Sem Bool} (he : PE X o ta) (c : Cls X.K C) (hm : Meth X.K C m f) (G : FnA X.prog X.w X.K X.mg X.base XT k f pr) (hr : RoomG k X.A) (hx : Passes XT X E) (ha : PA X (e :: es) t)
    (s1 : starEach (e :: es) X.env = (false, eval e X.env) :: starEach es X.env := by rfl) (s2 : (backTo pos (starEach es X.env)).any (·.1) = false := by rfl)
    (ht : eval (.Call (.Attribute o m apos) (e :: es) [] pos) X.env = (eval o X.env >>= fun ov => standAt apos.atName >>= fun _ => holding [ov] (getMethod ov m pl) >>= fun p =>
      callWith pos p.1 p.2 (backTo pos (starEach (e :: es) X.env)) (backToKw pos (keywordEach [] X.env))) := by rfl) :
    PE X (.Call (.Attribute o m apos) (e :: es) [] pos) (tMethR C m pr E ta t) := by
  constructor
  intro pins s σ H Q I h
  refine PySem.W.methodCall_KW (pl := pl) (thn (he.run pins s σ H _ I h) ?_) ht
  rintro u st1 ⟨x, H1, I1, rx, a, dx, fs, ex, ea, l, q⟩
  subst ex
  obtain rfl : u = Value.ref a := rx
  refine getmeth_ok I1 ea c hm l (PySem.W.callWith_K (first := [.ref a]) (h₀ := X.base) I.ok.mod.kin hm.kp (thn (ha.run pos pins st1 σ H1 _ I1 q) ?_) s1 s2)
  rintro us st2 ⟨vs, H2, I2, r, q2⟩
  exact ⟨I2.kIn, G.goes (us := .ref a :: us) (vs := .ref a :: vs) hr hx I2 (.cons rfl r) q2⟩
theorem pe_methG0 {pl : Sem Bool} (he : PE X o ta) (c : Cls X.K C) (hm : Meth X.K C m f) (G : FnA X.prog X.w X.K X.mg X.base XT k f pr) (hr : RoomG k X.A) (hx : Passes XT X E)
    (ht : eval (.Call (.Attribute o m apos) [] [] pos) X.env = (eval o X.env >>= fun ov => standAt apos.atName >>= fun _ => holding [ov] (getMethod ov m pl) >>= fun p =>
      callWith pos p.1 p.2 (backTo pos (starEach [] X.env)) (backToKw pos (keywordEach [] X.env))) := by rfl) :
    PE X (.Call (.Attribute o m apos) [] [] pos) (tMethR C m pr E ta tNil) := by
  constructor
  intro pins s σ H Q I h
  refine PySem.W.methodCall_KW (pl := pl) (thn (he.run pins s σ H _ I h) ?_) ht
  rintro u st1 ⟨x, H1, I1, rx, a, dx, fs, ex, ea, l, q⟩
  subst ex
  obtain rfl : u = Value.ref a := rx
  exact getmeth_ok I1 ea c hm l (PySem.W.callWith_K0 (first := [.ref a]) I1.kIn hm.kp (G.goes (us := [.ref a]) (vs := [.ref a]) hr hx I1 (.cons rfl .nil) q))
end
variable [Wd]
/-! ### the promise of a method, its frame -/
def spM (K : PySem.W.Frag) (mg : Str → Option Value) (z : Bool) (c : Str) (F : List (Str × D) → List D → M (D × List (Str × D))) : Sp := fun vs H Q E => ∃ (x dx : Addr) (fvs : List (Str × V)) (ws : List V) (O : Addr → Prop) (fs : List (Str × D)) (ds : List D),
  vs = .ref x :: ws ∧ H x = some (.ins (He.ga K c) dx fvs) ∧ ¬ O x ∧ ((∀ a, O a → H a ≠ none) ∧ LamX.Tabs Wd.T H) ∧ DenFs K (also O x) H fvs fs ∧ Dens K (also O x) H ws ds ∧
  (F fs ds).wp (fun p => ∀ v H', Gr z O (without H x) H' → Top K (also O x) H' x (.obj c p.2) → Den K (also O x) H' v p.1 → Q v H') (fun e => ∀ cls dd H', Gr z O (without H x) H' → XRel K mg O H' cls dd e → E cls dd H')
def finM (c : Str) : Out → M (D × List (Str × D))
  | .ret (.tup [d, .obj c' fs]) => if c' = c then .ret (d, fs) else .stuck
  | _ => .stuck
def startM (n : Nat) (c : Str) (fs : List (Str × D)) (ds : List D) : Rho := some (true, .obj c fs) :: startR (n - 1) ds
theorem rel_meth {K : PySem.W.Frag} {z : Bool} {H : Hp} {O : Addr → Prop} {N : List Str} {x dx : Addr} {c : Str} {fvs : List (Str × V)} {fs : List (Str × D)} {ws : List V} {ds : List D} (hx : H x = some (.ins (He.ga K c) dx fvs)) (ox : ¬ O x) (hd : (∀ a, O a → H a ≠ none) ∧ LamX.Tabs Wd.T H) (sf : DenFs K (also O x) H fvs fs) (s : Dens K (also O x) H ws ds) (hN : 0 < N.length) :
    Rel K z (fun i => if i = 0 then some x else none) (without H x) O [] (also O x) (L2.start N (.ref x :: ws)) H (startM N.length c fs ds) where
  len := by unfold L2.start startM startR; simp [s.length]; omega
  sdom := fun a h => by
    have e : a ≠ x := fun e => ox (by rw [← e]; exact h)
    rw [without_ne e]; exact hd.1 a h
  dom := fun a h => by
    rcases h with h | h
    · exact hd.1 a h
    · rw [h, hx]; intro z; cases z
  sub := fun _ h => .inl h
  new := fun a h => by
    rcases h with h | h
    · exact .inl h
    · rw [h]; exact .inr without_at
  grow := ⟨fun a o h => by
    by_cases e : a = x
    · rw [e, without_at] at h; cases h
    · rw [without_ne e] at h; exact .inl h, fun t => t.ext fun b o e => by
    by_cases eb : b = x
    · rw [eb, without_at] at e; cases e
    · rw [without_ne eb] at e; exact e⟩
  slot := fun i d h1 => by
    cases i with
    | zero => simp [startM] at h1
    | succ i =>
      obtain ⟨v, ev, xv⟩ := s.get i d (startR_get (by simpa [startM] using h1)).2
      have : (L2.start N (V.ref x :: ws))[i + 1]? = some (some v) := by
        unfold L2.start
        rw [List.map_cons, List.cons_append, List.getElem?_cons_succ]
        exact start_put ev
      exact ⟨v, this, xv⟩
  mine := fun i d h1 => by
    cases i with
    | zero =>
      have e : d = .obj c fs := by simp [startM] at h1; exact h1.symm
      subst e
      exact ⟨x, rfl, .inr rfl, without_at, .obj hx sf⟩
    | succ i => cases (startR_get (show (startR (N.length - 1) ds)[i]? = some (some (true, d)) by simpa [startM] using h1)).1
  inj := fun i j a d d' h3 h4 h5 h6 => by
    cases i with
    | zero => cases j with
      | zero => rfl
      | succ j => cases (startR_get (show (startR (N.length - 1) ds)[j]? = some (some (true, d')) by simpa [startM] using h4)).1
    | succ i => cases (startR_get (show (startR (N.length - 1) ds)[i]? = some (some (true, d)) by simpa [startM] using h3)).1
  held := fun p hp => nomatch hp
  fix := fun i a h => by
    split at h
    · rename_i e; subst e; cases h; rfl
    · cases h
  tab := hd.2
def runM (n : Nat) (cn : Str) (c : CS) (ar : Nat) (fs : List (Str × D)) (ds : List D) : M (D × List (Str × D)) := if ds.length = ar then (c (startM n cn fs ds)).bind (finM cn) else .stuck
/-- def m(self, a, ..), every way out of it a return -/
theorem meth_ok {P : Program} {w : World} {K : PySem.W.Frag} {mg : Str → Option Value} {base : Heap} {x qual cn : Str} {params : Arguments} {body : List Stmt} {scope : Scope} {f : Addr} {fd : FuncData} {k : Nat} {N ps : List Str} {z : Bool} {c : CS}
    (F : FunD K x qual params body scope [] [] f fd) (S : FnScope N ps scope) (bn : Binds K fd ps []) (hN : 0 < N.length) (n : Nat) (hn : ps.length = n + 1)
    (hb : ∀ (cdv : Value) (A : Around) (outer : List Env) (s : Shared) (H : Hp) (E : XK) (O : Addr → Prop) (a : Addr), RoomG k (A.deeper (envOfC qual scope s.heap.objs.size f cdv)) →
      ∃ t, PSs (cxOf (L2.CX P w) P w K mg base N qual scope f cdv A outer s H E) body t ∧ SimS ⟨K, z, mg, without H a, O, E, fun i => if i = 0 then some a else none⟩ t c) :
    FnA P w K mg base (L2.CX P w) (k + 1) f (spM K mg z cn (runM N.length cn c n)) := by
  have G : FnG P w K mg base (L2.CX P w) (k + 1) f fd ps (fun vs H Q E => vs.length = ps.length ∧ spM K mg z cn (runM N.length cn c n) vs H Q E) := by
    refine FnG.of_body F S (fun vs H Q E h => h.1) (fun cdv A outer s H vs Q E hr h => ?_)
    obtain ⟨hl, a, dx, fvs, ws, O, fs, ds, ev, hx, ox, hd, sf, sd, w'⟩ := h
    subst ev
    obtain ⟨t, ht, hs⟩ := hb cdv A outer s H E O a hr
    refine ⟨t, ht, ?_⟩
    unfold runM at w'
    split at w'
    · refine hs [] (also O a) _ H (startM N.length cn fs ds) _ (rel_meth hx ox hd sf sd hN) (M.wp_mono (M.wp_bind.mp w') (fun o h => ?_) fun _ z => z)
      unfold finM at h
      split at h
      · rename_i d c' fs'
        split at h
        · rename_i ec
          subst ec
          refine ⟨d, .obj c' fs', rfl, fun P' O' σ' H' ρ v r hr0 xv => ?_⟩
          obtain ⟨b, eb, ob, nb, tb⟩ := r.mine 0 _ hr0
          have ea := r.fix 0 a rfl
          rw [eb] at ea; cases ea
          have lo : ∀ q, also O a q → O' q := fun q hq => hq.elim (r.sub q) fun e => by rw [e]; exact ob
          exact h v H' r.grow (tb.map (fun _ q _ => q) fun v d y => y.less lo) (xv.less lo)
        · exact h.elim
      · exact h.elim
    · exact w'.elim
  refine (G.a bn).imp fun vs H Q E h => ⟨?_, h⟩
  obtain ⟨a, dx, fvs, ws, O, fs, ds, ev, hx, ox, hd, sf, sd, w'⟩ := h
  unfold runM at w'
  split at w'
  · rename_i hl
    rw [ev, List.length_cons, sd.length, hl, hn]
  · exact w'.elim
/-! ### expressions that change the frame -/
abbrev CXe := Rho → M (D × Rho)
def SimX (f : Cf) (te : TE) (c : CXe) : Prop := ∀ (P : List Pin) (O : Addr → Prop) (σ : L2.St) (H : Hp) (ρ : Rho) (Q : VK), f.Rel P O σ H ρ →
  (c ρ).wp (fun p => ∀ v H', Ext O H H' → f.Rel P O σ H' p.2 → Den f.K O H' v p.1 → Q v H') (XP f) → te σ H Q
theorem tab_without {T : List (Addr × Str)} {H : Hp} {a : Addr} (n : Nc (H a)) (h : LamX.Tabs T H) : LamX.Tabs T (without H a) := fun p hp => by
  obtain ⟨ps, h1, h2, h3⟩ := h p hp
  have np : p.1 ≠ a := fun z => n.1 ps (by rw [← z]; exact h1)
  refine ⟨ps, by rw [without_ne np]; exact h1, h2, fun pos cv hc => ?_⟩
  obtain ⟨c, e1, e2⟩ := h3 pos cv hc
  exact ⟨c, e1, by rw [without_ne (fun z => n.2 c p.2 (by rw [← z]; exact e2))]; exact e2⟩
/-- an own object is changed by a method -/
theorem Rel.swap {f : Cf} {P : List Pin} {O : Addr → Prop} {σ : L2.St} {H H' : Hp} {ρ : Rho} (r : f.Rel P O σ H ρ) {i : Nat} {x : Addr} {d e : D} (hi : ρ[i]? = some (some (true, e))) (hx : σ[i]? = some (some (.ref x))) (ox : O x) (nx : f.H0 x = none)
    (g : Gr f.z (less1 O x) (without H x) H') (t : Top f.K O H' x d) : f.Rel P O σ H' (ρ.set i (some (true, d))) ∧ Ext O H H' := by
  have nc : Nc (H x) := by
    obtain ⟨a2, ea, _, _, t0⟩ := r.mine i e hi
    rw [hx] at ea
    cases ea
    exact t0.nc
  have ne : ∀ {b : Addr} {u : HO}, b ≠ x → H b = some u → without H x b = some u := fun h q => by rw [without_ne h]; exact q
  have xt : Ext O H H' := fun b u nb hb => by
    have hne : b ≠ x := fun e => nb (by rw [e]; exact ox)
    rcases g.at_ b u (ne hne hb) with q | ⟨_, _, q⟩ | q
    · exact .inl q
    · exact .inr (.inl q)
    · exact .inr (.inr q)
  refine ⟨⟨by rw [List.length_set]; exact r.len, r.sdom, ?_, r.sub, r.new, ?_, ?_, ?_, ?_, fun q hq => (r.held q hq).ext xt, r.fix, g.tab (tab_without nc r.tab)⟩, xt⟩
  · intro b hb
    by_cases e : b = x
    · subst e; exact t.there
    · refine g.there ?_
      rw [without_ne e]; exact r.dom b hb
  · have g0 : Gr f.z f.S f.H0 (without H x) := ⟨fun b u hb => by
      have hne : b ≠ x := fun e => by rw [e, nx] at hb; cases hb
      rw [without_ne hne]
      exact r.grow.at_ b u hb, fun tq => tab_without nc (r.grow.tab tq)⟩
    exact g0.trans (g.less fun b hb => ⟨r.sub b hb, fun e => r.sdom b hb (by rw [e]; exact nx)⟩)
  · intro j e' h1
    rcases get_set h1 with ⟨q1, q2⟩ | ⟨q1, q2⟩
    · cases q2
    · obtain ⟨w, ew, xw⟩ := r.slot j e' q2
      exact ⟨w, ew, xw.ext xt⟩
  · intro j e' h1
    rcases get_set h1 with ⟨q1, q2⟩ | ⟨q1, q2⟩
    · subst q1; cases q2
      exact ⟨x, hx, ox, nx, t⟩
    · obtain ⟨b, ew, ob, nb, tb⟩ := r.mine j e' q2
      have hne : b ≠ x := fun z => by subst z; exact q1 (r.inj i j b e e' hi q2 hx ew)
      refine ⟨b, ew, ob, nb, tb.ext xt fun u hu nt => ?_⟩
      rcases g.at_ b u (ne hne hu) with q | ⟨_, q, _⟩ | ⟨ps, qs, q, _⟩
      · exact q
      · exact absurd ⟨ob, hne⟩ q
      · exact absurd q (nt ps)
  · intro j k b d1 d2 h3 h4 h5 h6
    have back : ∀ j d1, (ρ.set i (some (true, d)))[j]? = some (some (true, d1)) → ∃ d0, ρ[j]? = some (some (true, d0)) := fun j d1 h => by
      rcases get_set h with ⟨q1, _⟩ | ⟨_, q⟩
      · subst q1; exact ⟨e, hi⟩
      · exact ⟨_, q⟩
    obtain ⟨x1, y1⟩ := back j d1 h3
    obtain ⟨x2, y2⟩ := back k d2 h4
    exact r.inj j k b x1 x2 y1 y2 h5 h6
theorem DenFs.none {K : PySem.W.Frag} {O : Addr → Prop} {H : Hp} (n : Str) : ∀ {fvs : List (Str × V)} {fs : List (Str × D)}, DenFs K O H fvs fs → fs.lookup n = none → fvs.lookup n = none
  | _, _, .nil, _ => rfl
  | _, _, .cons (n := m) h s, e => by
    rw [List.lookup_cons] at e ⊢
    cases q : (n == m) with
    | true => rw [q] at e; cases e
    | false => rw [q] at e; exact DenFs.none n s e
theorem DenFs.less' {K : PySem.W.Frag} {O O' : Addr → Prop} {H : Hp} (ho : ∀ a, O' a → O a) : ∀ {fvs : List (Str × V)} {fs : List (Str × D)}, DenFs K O H fvs fs → DenFs K O' H fvs fs
  | _, _, .nil => .nil
  | _, _, .cons h s => .cons (h.less ho) (DenFs.less' ho s)
/-- x.m(..) of the own object in slot i -/
def cMeth (i : Nat) (c m : Str) (F : List (Str × D) → List D → M (D × List (Str × D))) (a : CA) : CXe := fun ρ => match ρ[i]? with
  | some (some (true, D.obj c' fs)) => if c' = c ∧ fs.lookup m = none then (a ρ).bind fun ds => (F fs ds).bind fun p => .ret (p.1, ρ.set i (some (true, .obj c p.2))) else .stuck
  | _ => .stuck
theorem simX_meth {f : Cf} {i : Nat} {c m : Str} {F : List (Str × D) → List D → M (D × List (Str × D))} {ta : TA} {a : CA} (ha : SimA f ta a) : SimX f (tMethR (He.ga f.K c) m (spM f.K f.mg f.z c F) f.E (tVar i) ta) (cMeth i c m F a) := fun P O σ H ρ Q r w => by
  unfold cMeth at w
  split at w
  · rename_i c' fs hi
    split at w
    · rename_i hc
      obtain ⟨ec, hl⟩ := hc
      subst ec
      obtain ⟨x, ex, ox, nx, tx⟩ := r.mine i _ hi
      cases tx with
      | @obj _ dx fvs _ h s =>
      refine ⟨.ref x, ex, x, dx, fvs, rfl, h, s.none m hl, ?_⟩
      refine ha P O σ H ρ _ r (M.wp_mono (M.wp_bind.mp w) (fun ds w1 vs H1 g1 s1 => ?_) fun _ z => z)
      have rr := r.growTo g1
      obtain ⟨x', ex', _, _, tx'⟩ := rr.mine i _ hi
      rw [ex] at ex'
      cases ex'
      cases tx' with
      | @obj _ dx' fvs' _ h' s' =>
      have al : ∀ b, also (less1 O x) x b → O b := fun b hb => hb.elim (·.1) fun e => by rw [e]; exact ox
      have la : ∀ b, O b → also (less1 O x) x b := fun b hb => by
        by_cases e : b = x
        · exact .inr e
        · exact .inl ⟨hb, e⟩
      have nc : Nc (H1 x) := nc_ins h'
      refine ⟨x, dx', fvs', vs, less1 O x, fs, ds, rfl, h', fun z => z.2 rfl, ⟨fun b hb => rr.dom b hb.1, rr.tab⟩, s'.less' al, s1.less al, M.wp_mono (M.wp_bind.mp w1) (fun p w2 v H' g t xv => ?_) fun e q cls dd H' g xr => ?_⟩
      · obtain ⟨r2, x2⟩ := rr.swap hi ex ox nx g (t.map (fun _ q _ => q) fun v d y => y.less la)
        exact w2 v H' (g1.ext.trans x2) r2 (xv.less la)
      · have g0 : Gr f.z f.S f.H0 (without H1 x) := ⟨fun b u hb => by
          have hne : b ≠ x := fun e => by rw [e, nx] at hb; cases hb
          rw [without_ne hne]
          exact rr.grow.at_ b u hb, fun tq => tab_without nc (rr.grow.tab tq)⟩
        have sl : ∀ b, f.S b → less1 O x b := fun b hb => ⟨rr.sub b hb, fun e => rr.sdom b hb (by rw [e]; exact nx)⟩
        exact q cls dd H' (g0.trans (g.less sl)) (xr.less sl)
    · exact w.elim
  · exact w.elim
/-! what may stand around -/
def cXtup (c : CXe) : CXe := fun ρ => (c ρ).bind fun p => .ret (.tup [p.1], p.2)
theorem simX_tup1 {f : Cf} {te : TE} {c : CXe} (hc : SimX f te c) : SimX f (tTup (tCons te tNil)) (cXtup c) := fun P O σ H ρ Q r w => by
  refine hc P O σ H ρ _ r (M.wp_mono (M.wp_bind.mp w) (fun p w1 v H1 x1 r1 d1 => ?_) fun _ z => z)
  refine ⟨lim_line (by simp [LIM]), fun q hq => ?_⟩
  exact w1 _ _ (x1.trans (Grow.new hq).ext) (r1.growTo (Grow.new hq).gr) (.tup (off_new r1.dom hq) upd_same (.cons (d1.ext (Grow.new hq).ext) .nil))
def cXop (G : D → D → Option D) (a : CE) (c : CXe) : CXe := fun ρ => (a ρ).bind fun x => (c ρ).bind fun p => (lift2 G x p.1).bind fun z => .ret (z, p.2)
theorem simX_op {f : Cf} {g : R2} {G : D → D → Option D} {ta te : TE} {a : CE} {c : CXe} (hg : OpS g f.K G) (ha : SimE f ta a) (hc : SimX f te c) : SimX f (tOp g ta te) (cXop G a c) := fun P O σ H ρ Q r w => by
  refine ha P O σ H ρ _ r (M.wp_mono (M.wp_bind.mp w) (fun x w1 v H1 g1 d1 => ?_) fun _ z => z)
  refine hc P O σ H1 ρ _ (r.growTo g1) (M.wp_mono (M.wp_bind.mp w1) (fun p w2 u H2 x2 r2 d2 => ?_) fun _ z => z)
  unfold lift2 at w2
  split at w2
  · rename_i z e
    exact hg f.H0 O H2 v u x p.1 z Q r2.dom (.inl (d1.ext x2)) (.inl d2) e fun v' H' g3 v3 => w2 v' H' ((g1.ext.trans x2).trans g3.ext) (r2.growTo g3.gr) v3
  · exact w2.elim
def cXasg (i : Nat) (c : CXe) : CS := fun ρ => (c ρ).bind fun p => .ret (.next (p.2.set i (some (false, p.1))))
theorem simX_asg {f : Cf} {te : TE} {c : CXe} {i : Nat} (hf : f.fix i = none) (hc : SimX f te c) : SimS f (tAsg te (gName i)) (cXasg i c) := fun P O σ H ρ E r w =>
  hc P O σ H ρ _ r (M.wp_mono (M.wp_bind.mp w) (fun p w1 v H1 x1 r1 d1 => w1 O _ H1 (r1.setSlot hf d1)) fun _ z => z)
abbrev CXt := Rho → M (Bool × Rho)
def SimTX (f : Cf) (tt : TT) (c : CXt) : Prop := ∀ (P : List Pin) (O : Addr → Prop) (σ : L2.St) (H : Hp) (ρ : Rho) (Q : Bool → Hp → Prop), f.Rel P O σ H ρ →
  (c ρ).wp (fun p => ∀ H', Ext O H H' → f.Rel P O σ H' p.2 → Q p.1 H') (XP f) → tt σ H Q
def cXtest (c : CXe) : CXt := fun ρ => (c ρ).bind fun p => (truth p.1).bind fun b => .ret (b, p.2)
theorem simX_test {f : Cf} {te : TE} {c : CXe} (hc : SimX f te c) : SimTX f (tB te) (cXtest c) := fun P O σ H ρ Q r w => by
  refine hc P O σ H ρ _ r (M.wp_mono (M.wp_bind.mp w) (fun p w1 v H1 x1 r1 d1 => ?_) fun _ z => z)
  obtain ⟨d, ρ1⟩ := p
  cases d <;> first | exact w1.elim | skip
  cases d1
  exact ⟨_, rfl, w1 H1 x1 r1⟩
def cXnot (c : CXt) : CXt := fun ρ => (c ρ).bind fun p => .ret (!p.1, p.2)
theorem simX_not {f : Cf} {tt : TT} {c : CXt} (hc : SimTX f tt c) : SimTX f (tNot tt) (cXnot c) := fun P O σ H ρ Q r w =>
  hc P O σ H ρ _ r (M.wp_mono (M.wp_bind.mp w) (fun p w1 H1 x1 r1 => w1 H1 x1 r1) fun _ z => z)
def cXif (t : CXt) (a b : CS) : CS := fun ρ => (t ρ).bind fun p => if p.1 = true then a p.2 else b p.2
theorem simX_if {f : Cf} {tt : TT} {c : CXt} {t u : TS} {a b : CS} (hc : SimTX f tt c) (ha : SimS f t a) (hb : SimS f u b) : SimS f (tIfS tt t u) (cXif c a b) := fun P O σ H ρ E r w => by
  refine hc P O σ H ρ _ r (M.wp_mono (M.wp_bind.mp w) (fun p w1 H1 x1 r1 => ?_) fun _ z => z)
  obtain ⟨x, ρ1⟩ := p
  cases x with
  | true =>
    rw [if_pos rfl] at w1 ⊢
    exact ha P O σ H1 ρ1 E r1 w1
  | false =>
    rw [if_neg Bool.false_ne_true] at w1 ⊢
    exact hb P O σ H1 ρ1 E r1 w1
end Py

/-! RR2: methods and __init__ in the table of calls; fields of own objects. -/
namespace Py
open PySem PySem.Spec PyProof.Rows L2 StX
variable [Wd]
/-! ### a method as a function on data: self first, self last -/
def methF (c : Str) (F : List D → M D) (fs : List (Str × D)) (ds : List D) : M (D × List (Str × D)) := (F (.obj c fs :: ds)).bind fun r => match r with
  | .tup [d, .obj c' fs'] => if c' = c then .ret (d, fs') else .stuck
  | _ => .stuck
def encM (c : Str) (G : List (Str × D) → List D → M (D × List (Str × D))) (ds : List D) : M D := match ds with
  | .obj c' fs :: r => if c' = c then (G fs r).bind fun p => .ret (.tup [p.1, .obj c p.2]) else .stuck
  | _ => .stuck
theorem M.bind_id {α : Type} : ∀ m : M α, (m.bind fun a => .ret a) = m
  | .ret a => rfl
  | .err x => rfl
  | .stuck => rfl
  | .draw n k => by show M.draw n (fun i => (k i).bind fun a => .ret a) = _; congr 1; funext i; exact M.bind_id (k i)
theorem methF_enc (c : Str) (G : List (Str × D) → List D → M (D × List (Str × D))) : methF c (encM c G) = G := by
  funext fs ds
  unfold methF encM
  simp only [if_true]
  rw [M.bind_assoc]
  simp only [M.bind, if_true]
  exact M.bind_id _
def initF (c : Str) (F : List D → M D) (ds : List D) : M (List (Str × D)) := (F ds).bind fun r => match r with
  | .obj c' fs' => if c' = c then .ret fs' else .stuck
  | _ => .stuck
def encI (c : Str) (G : List D → M (List (Str × D))) (ds : List D) : M D := (G ds).bind fun fs => .ret (.obj c fs)
theorem initF_enc (c : Str) (G : List D → M (List (Str × D))) : initF c (encI c G) = G := by
  funext ds
  unfold initF encI
  rw [M.bind_assoc]
  simp only [M.bind, if_true]
  exact M.bind_id _
structure MethOk (P : Program) (w : World) (K : PySem.W.Frag) (mg : Str → Option Value) (base : Heap) (k : Nat) (c m : Str) (z : Bool) (F : List D → M D) : Prop where
  ex : ∃ f : Addr, Meth K (He.ga K c) m f ∧ FnA P w K mg base (L2.CX P w) k f (spM K mg z c (methF c F))
structure InitOk (P : Program) (w : World) (K : PySem.W.Frag) (mg : Str → Option Value) (base : Heap) (k : Nat) (c : Str) (z : Bool) (F : List D → M D) : Prop where
  ex : ∃ f : Addr, Mk K (He.ga K c) f ∧ mg c = some (.ref (He.ga K c)) ∧ FnA P w K mg base (L2.CX P w) k f (spI K mg z c (initF c F))
theorem meth_zero {P : Program} {w : World} {K : PySem.W.Frag} {mg : Str → Option Value} {base : Heap} {XT : CXT} {f : Addr} {c : Str} {z : Bool} : FnA P w K mg base XT 0 f (spM K mg z c (methF c fun _ => .stuck)) := fun B out st H us vs Q E q e v h => by
  obtain ⟨_, _, _, _, _, _, _, _, _, _, _, _, _, w⟩ := h
  exact w.elim
theorem init_zero {P : Program} {w : World} {K : PySem.W.Frag} {mg : Str → Option Value} {base : Heap} {XT : CXT} {f : Addr} {c : Str} {z : Bool} : FnA P w K mg base XT 0 f (spI K mg z c (initF c fun _ => .stuck)) := fun B out st H us vs Q E q e v h => by
  obtain ⟨_, _, _, _, _, _, _, _, _, _, w⟩ := h
  exact w.elim
section
variable {X : Cx} {x : Str} {p apos pos : Pos} {o e : Expr} {es : List Expr} {t : TA} {ta : TE} {k : Nat} {z : Bool} {F : List D → M D} {E : XK} {c m : Str}
theorem pe_methD {pl : Sem Bool} (he : PE X o ta) (cl : Cls X.K (He.ga X.K c)) (C : MethOk X.prog X.w X.K X.mg X.base k c m z F) (hr : RoomG k X.A) (hx : Passes (L2.CX X.prog X.w) X E) (ha : PA X (e :: es) t)
    (s1 : starEach (e :: es) X.env = (false, eval e X.env) :: starEach es X.env := by rfl) (s2 : (backTo pos (starEach es X.env)).any (·.1) = false := by rfl)
    (ht : eval (.Call (.Attribute o m apos) (e :: es) [] pos) X.env = (eval o X.env >>= fun ov => standAt apos.atName >>= fun _ => holding [ov] (getMethod ov m pl) >>= fun p =>
      callWith pos p.1 p.2 (backTo pos (starEach (e :: es) X.env)) (backToKw pos (keywordEach [] X.env))) := by rfl) :
    PE X (.Call (.Attribute o m apos) (e :: es) [] pos) (tMethR (He.ga X.K c) m (spM X.K X.mg z c (methF c F)) E ta t) := by
  obtain ⟨f, hm, G⟩ := C.ex
  exact pe_methG he cl hm G hr hx ha s1 s2 ht
theorem pe_methD0 {pl : Sem Bool} (he : PE X o ta) (cl : Cls X.K (He.ga X.K c)) (C : MethOk X.prog X.w X.K X.mg X.base k c m z F) (hr : RoomG k X.A) (hx : Passes (L2.CX X.prog X.w) X E)
    (ht : eval (.Call (.Attribute o m apos) [] [] pos) X.env = (eval o X.env >>= fun ov => standAt apos.atName >>= fun _ => holding [ov] (getMethod ov m pl) >>= fun p =>
      callWith pos p.1 p.2 (backTo pos (starEach [] X.env)) (backToKw pos (keywordEach [] X.env))) := by rfl) :
    PE X (.Call (.Attribute o m apos) [] [] pos) (tMethR (He.ga X.K c) m (spM X.K X.mg z c (methF c F)) E ta tNil) := by
  obtain ⟨f, hm, G⟩ := C.ex
  exact pe_methG0 he cl hm G hr hx ht
/-! ### C(..) with a little room -/
theorem RoomK.make {s : Nat} {A : Around} (r : RoomK (s + 1) k A) (C : Addr) (us : List Value) (kw : List (Str × Value)) : RoomG k (A.under (.builtin "type.__call__" ⟨.ref C :: us, kw⟩)) :=
  ⟨⟨r.hd, by have := r.dp; rw [make_depth]; omega, by have := r.un; rw [make_units]; omega⟩, by
    have := r.bare
    first | exact this | (simpa [Around.under] using this)⟩
theorem run_makeK {XT : CXT} {f C : Addr} {pr : Sp} {pins : List (Addr × Obj)} {σ : L2.St} {H : Hp} {s : Shared} {Q : VK} {us : List Value} {vs : List V} {n : Nat} (M : Mk X.K C f) (G : FnA X.prog X.w X.K X.mg X.base XT k f pr) (hr : RoomK (n + 1) k X.A) (hx : Passes XT X E) (I : Inv X pins σ H s) (r : Vals vs us)
    (h : ∀ x dx, H x = none → H dx = none → dx ≠ x → pr (V.ref x :: vs) (upd (upd H dx (.own x)) x (.ins C dx [])) (fun v H2 => v = .non ∧ Q (.ref x) H2) E) :
    wpAny (model X.prog X.w) X.A (call (.ref C) us) (EP X pins σ Q) X.xe s := by
  have hq := h (s.heap.objs.size + 1) s.heap.objs.size (I.hok.fresh (Nat.le_succ _)) (I.hok.fresh (Nat.le_refl _)) (Nat.ne_of_lt (Nat.lt_succ_self _))
  have J := Inv.made (C := C) I
  have rr : Vals (V.ref (s.heap.objs.size + 1) :: vs) (Value.ref (s.heap.objs.size + 1) :: us) := .cons rfl r
  refine wpAny_call (make_map (f := f) I.kIn M.makes M.init (beq_iff_eq.mp M.fn) (codeAny_mono (G _ X.stack _ _ (Value.ref (s.heap.objs.size + 1) :: us) _ _ E (hr.make C us []) (J.env0.make C us []) rr hq) fun r s1 c => ?_))
  match r, c with
  | .error er, c => exact hx pins σ _ _ er s1 J c
  | .ok (.ret u), c =>
    obtain ⟨v, H1, J1, rv, ev, q1⟩ := J.after c
    subst ev
    exact ⟨rv, ⟨V.ref (s.heap.objs.size + 1), H1, J1, rfl, q1⟩⟩
  | .ok .next, c => exact c.elim
  | .ok .brk, c => exact c.elim
  | .ok .cont, c => exact c.elim
theorem pe_makeD {n : Nat} (C : InitOk X.prog X.w X.K X.mg X.base k c z F) (hr : RoomK (n + 1) k X.A) (hx : Passes (L2.CX X.prog X.w) X E) (ha : PA X (e :: es) t) (hg : Gl X c := by rfl) (hdb : (c == ("__debug__" : Str)) = false := by decide)
    (he : starEach (e :: es) X.env = (false, eval e X.env) :: starEach es X.env := by rfl) (hpl : (backTo pos (starEach es X.env)).any (·.1) = false := by rfl) : PE X (.Call (.Name c p) (e :: es) [] pos) (tMakeR (He.ga X.K c) (spI X.K X.mg z c (initF c F)) E t) := by
  obtain ⟨f, M, hm, G⟩ := C.ex
  constructor
  intro pins s σ H Q I h
  refine wpAny_Call_Name_kw (ld_glob I hg hm (PySem.W.callWith_K (h₀ := X.base) I.ok.mod.kin M.kp (thn (ha.run pos pins s σ H _ I h) ?_) he hpl) hdb)
  rintro us s1 ⟨vs, H1, I1, r, q⟩
  exact ⟨I1.kIn, run_makeK M G hr hx I1 r q⟩
end
/-! ### fields -/
theorem sim_fldC {f : Cf} {c n : Str} {te : TE} {a : CE} (cl : Cls f.K (He.ga f.K c)) (hn : NoAttr f.K (He.ga f.K c) n) (ha : SimC f te a) : SimE f (tFld f.K te n) (cFld c n a) := fun P O σ H ρ Q r w => by
  refine ha P O σ H ρ _ r (M.wp_mono (M.wp_bind.mp w) (fun d w1 v H1 g1 x1 => ?_) fun _ z => z)
  split at w1
  · rename_i c' fs
    split at w1
    · rename_i ec
      subst ec
      split at w1
      · rename_i d hd
        obtain ⟨a', dx, fvs, ev, h, s⟩ := x1.obj
        obtain ⟨u, eu, xu⟩ := s.look n hd
        exact ⟨a', _, dx, fvs, u, ev, h, cl, hn, eu, w1 u H1 g1 xu⟩
      · exact w1.elim
    · exact w1.elim
  · exact w1.elim
theorem sim_setC {f : Cf} {i : Nat} {c n : Str} {te : TE} {a : CE} (cl : Cls f.K (He.ga f.K c)) (hn : NoAttr f.K (He.ga f.K c) n) (ha : SimE f te a) : SimS f (sFld f.K (tVar i) te n) (cSetF i c n a) := fun P O σ H ρ E r w => by
  refine ha P O σ H ρ _ r (M.wp_mono (M.wp_bind.mp w) (fun d w1 v H1 g1 x1 => ?_) fun _ z => z)
  have rr := r.growTo g1
  split at w1
  · rename_i c' fs hi
    split at w1
    · rename_i hc
      obtain ⟨ec, hl⟩ := hc
      subst ec
      obtain ⟨b, eb, ob, nb, tb⟩ := rr.mine i _ hi
      cases tb with
      | @obj _ dx fvs _ h s =>
      refine ⟨.ref b, eb, b, _, dx, fvs, rfl, h, cl, hn, by rw [s.length]; exact hl, ?_⟩
      exact w1 O σ _ (rr.change hi eb ob nb (.obj upd_same ((s.put n x1).ext (Ext.write ob))))
    · exact w1.elim
  · exact w1.elim
/-! ### a, b = a list -/
def cgLst (n : Nat) (gs : CGs) : CG := fun d ρ => match d with
  | .lst ds => if ds.length = n then gs ds ρ else .stuck
  | _ => .stuck
theorem simG_lst {f : Cf} {n : Nat} {gs : TGs} {cs : CGs} (hs : SimGs f gs cs) : SimG f (gLst f.K n gs) (cgLst n cs) := fun P O σ H ρ v d Q r x w => by
  cases d with
  | lst ds =>
    have w' : (if ds.length = n then cs ds ρ else M.stuck).wp (fun ρ' => ∀ σ', f.Rel P O σ' H ρ' → Q σ' H) (XP f) := w
    split at w'
    · rename_i hl
      obtain ⟨a, vs, e, ha, sa⟩ := (DenC.lst (H0 := f.H0) (.inl x))
      exact ⟨a, vs, e, SqL.of ha, by rw [sa.length]; exact hl, hs P O σ H ρ _ _ Q r sa w'⟩
    · exact w'.elim
  | _ => exact w.elim
end Py

/-! RP: calls with keywords and defaults; constants of the module; properties; pairs with own objects. -/
namespace Py
open PySem PySem.Spec PyProof.Rows L2 StX

/-! ### the order of a call's values: by places, defaults, keywords -/
def srcAt {α : Type} (us its ws : List α) (p : Nat × Nat) : Option α := if p.1 = 0 then us[p.2]? else if p.1 = 1 then its[p.2]? else ws[p.2]?
def arrG {α : Type} (arr : List (Nat × Nat)) (us its ws : List α) : List α := arr.filterMap (srcAt us its ws)
theorem vals_get {vs : List V} {us : List Value} (r : Vals vs us) (i : Nat) : (vs[i]? = none ∧ us[i]? = none) ∨ ∃ v u, vs[i]? = some v ∧ us[i]? = some u ∧ RelV v u := by
  cases e : vs[i]? with
  | none =>
    refine .inl ⟨rfl, ?_⟩
    rw [List.getElem?_eq_none_iff] at e ⊢
    rw [← r.length]; exact e
  | some v =>
    obtain ⟨u, hu, rv⟩ := r.get e
    exact .inr ⟨v, u, rfl, hu, rv⟩
theorem vals_arr {vs dvs zs : List V} {us its ws : List Value} (r1 : Vals vs us) (r2 : Vals dvs its) (r3 : Vals zs ws) : ∀ arr : List (Nat × Nat), Vals (arrG arr vs dvs zs) (arrG arr us its ws)
  | [] => .nil
  | p :: arr => by
    have ih := vals_arr r1 r2 r3 arr
    unfold arrG at ih ⊢
    have key : (srcAt vs dvs zs p = none ∧ srcAt us its ws p = none) ∨ ∃ v u, srcAt vs dvs zs p = some v ∧ srcAt us its ws p = some u ∧ RelV v u := by
      unfold srcAt
      split
      · exact vals_get r1 _
      · split
        · exact vals_get r2 _
        · exact vals_get r3 _
    rcases key with ⟨e1, e2⟩ | ⟨v, u, e1, e2, rv⟩
    · rw [List.filterMap_cons_none e1, List.filterMap_cons_none e2]; exact ih
    · rw [List.filterMap_cons_some e1, List.filterMap_cons_some e2]; exact .cons rv ih
/-- a def without defaults, called with keywords -/
theorem FunD.kbn0 {K : PySem.W.Frag} {x qual : Str} {params : Arguments} {body : List Stmt} {scope : Scope} {f : Addr} {fd : FuncData} {ps : List Str} (F : FunD K x qual params body scope [] [] f fd) (n : Nat) (ks : List Str) (arr : List (Nat × Nat))
    (h : ∀ (kV doc pm : Value) (an : Option Addr) (cdv ct : Value) (us ws : List Value), us.length = n → ws.length = ks.length → bindArgs (PySem.W.fnOf x qual params body scope .none kV doc pm an cdv ct) ⟨us, ks.zip ws⟩ = pure (ps.zip (arrG arr us [] ws))) :
    KBn K fd ps n ks (fun us ws => arrG arr us [] ws) (fun vs zs => arrG arr vs [] zs) := by
  obtain ⟨oc, od, dV, kV, doc, pm, an, cdv, ct, osl, rfl, lk, hcd, hD, hK⟩ := F.ex
  rcases hD with ⟨_, rfl⟩ | ⟨e, _⟩
  · exact ⟨fun s us ws X l1 l2 => BindsTo.of_eq (h kV doc pm an cdv ct us ws l1 l2), fun r1 r2 => vals_arr r1 .nil r2 arr⟩
  · exact absurd rfl e
/-- a def with defaults -/
theorem FunD.kbn1 {K : PySem.W.Frag} {x qual : Str} {params : Arguments} {body : List Stmt} {scope : Scope} {dvs : List V} {f : Addr} {fd : FuncData} {ps : List Str} (F : FunD K x qual params body scope dvs [] f fd) (hd : dvs ≠ []) (n : Nat) (ks : List Str) (arr : List (Nat × Nat))
    (h : ∀ (T : Addr) (kV doc pm : Value) (an : Option Addr) (cdv ct : Value) (us its ws : List Value), us.length = n → its.length = dvs.length → ws.length = ks.length →
      ∃ k, bindArgs (PySem.W.fnOf x qual params body scope (.ref T) kV doc pm an cdv ct) ⟨us, ks.zip ws⟩ = seqItems? (.ref T) >>= k ∧ k (some its.toArray) = pure (ps.zip (arrG arr us its ws))) :
    ∃ g, KBn K fd ps n ks g (fun vs zs => arrG arr vs dvs zs) := by
  obtain ⟨oc, od, dV, kV, doc, pm, an, cdv, ct, osl, rfl, lk, hcd, hD, hK⟩ := F.ex
  rcases hD with ⟨e, _⟩ | ⟨_, T, o, its, m, rfl, lT, oT, rT⟩
  · exact absurd e hd
  · refine ⟨fun us ws => arrG arr us its ws, fun s us ws X l1 l2 => ?_, fun r1 r2 => vals_arr r1 rT r2 arr⟩
    obtain ⟨k, e1, e2⟩ := h T kV doc pm an cdv ct us its ws l1 rT.length.symm l2
    refine BindsTo.of_looks fun M => ?_
    rw [e1]
    exact looks_items X lT oT (.of_pure e2)
/-- all by places, defaults left -/
theorem FunD.bindsAll {K : PySem.W.Frag} {x qual : Str} {params : Arguments} {body : List Stmt} {scope : Scope} {dvs : List V} {f : Addr} {fd : FuncData} {ps : List Str} (F : FunD K x qual params body scope dvs [] f fd) (hd : dvs ≠ [])
    (h : ∀ (T : Addr) (kV doc pm : Value) (an : Option Addr) (cdv ct : Value) (us its : List Value), us.length = ps.length → its.length = dvs.length →
      ∃ k, bindArgs (PySem.W.fnOf x qual params body scope (.ref T) kV doc pm an cdv ct) ⟨us, []⟩ = seqItems? (.ref T) >>= k ∧ k (some its.toArray) = pure (ps.zip us)) : Binds K fd ps [] := by
  obtain ⟨oc, od, dV, kV, doc, pm, an, cdv, ct, osl, rfl, lk, hcd, hD, hK⟩ := F.ex
  rcases hD with ⟨e, _⟩ | ⟨_, T, o, its, m, rfl, lT, oT, rT⟩
  · exact absurd e hd
  · intro s us X hlen
    rw [List.append_nil] at hlen ⊢
    obtain ⟨k, e1, e2⟩ := h T kV doc pm an cdv ct us its hlen rT.length.symm
    refine BindsTo.of_looks fun M => ?_
    rw [e1]
    exact looks_items X lT oT (.of_pure e2)

variable [Wd]
theorem dens_get {K : PySem.W.Frag} {O : Addr → Prop} {H : Hp} : ∀ {vs : List V} {ds : List D}, Dens K O H vs ds → ∀ i : Nat, (vs[i]? = none ∧ ds[i]? = none) ∨ ∃ v d, vs[i]? = some v ∧ ds[i]? = some d ∧ Den K O H v d
  | _, _, .nil, i => .inl ⟨rfl, rfl⟩
  | _, _, .cons h s, 0 => .inr ⟨_, _, rfl, rfl, h⟩
  | _, _, .cons h s, i + 1 => by simpa using dens_get s i
theorem dens_arr {K : PySem.W.Frag} {O : Addr → Prop} {H : Hp} {vs dvs zs : List V} {ds dd es : List D} (r1 : Dens K O H vs ds) (r2 : Dens K O H dvs dd) (r3 : Dens K O H zs es) : ∀ arr : List (Nat × Nat), Dens K O H (arrG arr vs dvs zs) (arrG arr ds dd es)
  | [] => .nil
  | p :: arr => by
    have ih := dens_arr r1 r2 r3 arr
    unfold arrG at ih ⊢
    have key : (srcAt vs dvs zs p = none ∧ srcAt ds dd es p = none) ∨ ∃ v d, srcAt vs dvs zs p = some v ∧ srcAt ds dd es p = some d ∧ Den K O H v d := by
      unfold srcAt
      split
      · exact dens_get r1 _
      · split
        · exact dens_get r2 _
        · exact dens_get r3 _
    rcases key with ⟨e1, e2⟩ | ⟨v, u, e1, e2, rv⟩
    · rw [List.filterMap_cons_none e1, List.filterMap_cons_none e2]; exact ih
    · rw [List.filterMap_cons_some e1, List.filterMap_cons_some e2]; exact .cons rv ih
/-- a def of the text called by such a form: n places, keywords ks -/
structure CallKw (P : Program) (w : World) (K : PySem.W.Frag) (mg : Str → Option Value) (base : Heap) (k : Nat) (x : Str) (z : Bool) (n : Nat) (ks : List Str) (arr : List (Nat × Nat)) (dvs : List V) (np : Nat) (F : List D → M D) : Prop where
  ex : ∃ (f : Addr) (fd : FuncData) (ps : List Str) (g : List Value → List Value → List Value), mg x = some (.ref f) ∧ PySem.W.keepIn K (.ref f) = true ∧ KBn K fd ps n ks g (fun vs zs => arrG arr vs dvs zs) ∧ FnG P w K mg base (L2.CX P w) k f fd ps (spD K mg z np F)
section
variable {X : Cx} {x : Str} {p pos : Pos} {e : Expr} {es : List Expr} {kws : List Keyword} {t tk : TA} {k n np : Nat} {ks : List Str} {arr : List (Nat × Nat)} {dvs : List V} {z : Bool} {F : List D → M D} {E : XK}
theorem goesK {f : Addr} {fd : FuncData} {ps : List Str} {g : List Value → List Value → List Value} {gV : List V → List V → List V} {pr : Sp} {pins : List (Addr × Obj)} {σ : L2.St} {H : Hp} {s : Shared} {Q : VK} {us ws : List Value} {vs zs : List V} (G : FnG X.prog X.w X.K X.mg X.base (L2.CX X.prog X.w) k f fd ps pr) (hr : RoomG k X.A) (hb : KBn X.K fd ps n ks g gV) (hx : Passes (L2.CX X.prog X.w) X E)
    (I : Inv X pins σ H s) (r : Vals vs us) (rz : Vals zs ws) (l1 : vs.length = n) (l2 : zs.length = ks.length) (h : pr (gV vs zs) H Q E) : wpAny (model X.prog X.w) X.A (call (.ref f) us (ks.zip ws)) (EP X pins σ Q) X.xe s := by
  refine wpAny_call (codeAny_mono (G.run X.A X.stack s H ⟨us, ks.zip ws⟩ (g us ws) (gV vs zs) Q E hr I.env0 (hb.to s us ws I.kIn (r.length.symm.trans l1) (rz.length.symm.trans l2)) (hb.rel r rz) h) fun r s' c => ?_)
  match r, c with
  | .error er, c => exact hx pins σ H s er s' I c
  | .ok (.ret u), c => exact I.after c
  | .ok .next, c => exact c.elim
  | .ok .brk, c => exact c.elim
  | .ok .cont, c => exact c.elim
theorem pe_callKw (C : CallKw X.prog X.w X.K X.mg X.base k x z n ks arr dvs np F) (hr : RoomG k X.A) (hx : Passes (L2.CX X.prog X.w) X E) (ha : PA X (e :: es) t) (hkw : PK X kws tk) (hg : Gl X x := by rfl)
    (hall : (backToKw pos (keywordEach kws X.env)).all (·.1.isSome) = true := by rfl) (hks : (backToKw pos (keywordEach kws X.env)).filterMap (·.1) = ks := by rfl)
    (hdb : (x == ("__debug__" : Str)) = false := by decide) (he : starEach (e :: es) X.env = (false, eval e X.env) :: starEach es X.env := by rfl)
    (hpl : ((backTo pos (starEach (e :: es) X.env)).any (·.1) || (backToKw pos (keywordEach kws X.env)).any (·.1.isNone)) = false := by rfl) :
    PE X (.Call (.Name x p) (e :: es) kws pos) (tCallN n ks.length (spD X.K X.mg z np F) (fun vs zs => arrG arr vs dvs zs) E t tk) := by
  obtain ⟨f, fd, ps, g, hm, hk, hb, G⟩ := C.ex
  refine ⟨fun pins s σ H Q I h => ?_⟩
  refine wpAny_Call_Name_kw (ld_glob I hg hm ?_ hdb)
  refine PySem.W.callWith_KW (h₀ := X.base) I.ok.mod.kin hk hall (thn (ha.run pos pins s σ H _ I h) fun us s1 ⟨vs, H1, I1, r, q⟩ => ?_) hpl he
  refine thn (hkw.run pos pins s1 σ H1 _ I1 q) fun ws s2 ⟨zs, H2, I2, rz, l1, l2, q2⟩ => ⟨I2.kIn, ?_⟩
  rw [hks]
  exact goesK G hr hb hx I2 r rz l1 l2 q2
theorem pe_callKw0 (C : CallKw X.prog X.w X.K X.mg X.base k x z 0 ks arr dvs np F) (hr : RoomG k X.A) (hx : Passes (L2.CX X.prog X.w) X E) (hkw : PK X kws tk) (hg : Gl X x := by rfl)
    (hall : (backToKw pos (keywordEach kws X.env)).all (·.1.isSome) = true := by rfl) (hks : (backToKw pos (keywordEach kws X.env)).filterMap (·.1) = ks := by rfl)
    (hdb : (x == ("__debug__" : Str)) = false := by decide)
    (hpl : ((backTo pos (starEach [] X.env)).any (·.1) || (backToKw pos (keywordEach kws X.env)).any (·.1.isNone)) = false := by rfl) :
    PE X (.Call (.Name x p) [] kws pos) (tCallN 0 ks.length (spD X.K X.mg z np F) (fun vs zs => arrG arr vs dvs zs) E tNil tk) := by
  obtain ⟨f, fd, ps, g, hm, hk, hb, G⟩ := C.ex
  refine ⟨fun pins s σ H Q I h => ?_⟩
  refine wpAny_Call_Name_kw (ld_glob I hg hm ?_ hdb)
  refine PySem.W.callWith_KW0 (h₀ := X.base) I.ok.mod.kin hk hall (thn (hkw.run pos pins s σ H _ I h) fun ws s2 ⟨zs, H2, I2, rz, l1, l2, q2⟩ => ⟨I2.kIn, ?_⟩) hpl
  rw [hks]
  exact goesK (us := []) G hr hb hx I2 .nil rz l1 l2 q2
end
def cCallK (n m : Nat) (arr : List (Nat × Nat)) (dd : List D) (np : Nat) (F : List D → M D) (a b : CA) : CE := fun ρ => (a ρ).bind fun ds => (b ρ).bind fun es => if ds.length = n ∧ es.length = m ∧ (arrG arr ds dd es).length = np then F (arrG arr ds dd es) else .stuck
theorem sim_callKw {K : PySem.W.Frag} {zb : Bool} {mg : Str → Option Value} {H0 : Hp} {S : Addr → Prop} {E : XK} {fx : Nat → Option Addr} {ta tb : TA} {a b : CA} {n m np : Nat} {arr : List (Nat × Nat)} {dvs : List V} {dd : List D} {F : List D → M D} (hd : ∀ O H, Dens K O H dvs dd) (ha : SimA ⟨K, zb, mg, H0, S, E, fx⟩ ta a) (hb : SimA ⟨K, zb, mg, H0, S, E, fx⟩ tb b) :
    SimE ⟨K, zb, mg, H0, S, E, fx⟩ (tCallN n m (spD K mg zb np F) (fun vs zs => arrG arr vs dvs zs) E ta tb) (cCallK n m arr dd np F a b) := fun P O σ H ρ Q r w => by
  refine ha P O σ H ρ _ r (M.wp_mono (M.wp_bind.mp w) (fun ds w1 vs H1 g1 s1 => ?_) fun _ z => z)
  refine hb P O σ H1 ρ _ (r.growTo g1) (M.wp_mono (M.wp_bind.mp w1) (fun es w2 zs H2 g2 s2 => ?_) fun _ z => z)
  split at w2
  · rename_i hl
    have g3 := g1.trans g2
    have s1' := s1.ext g2.ext
    have sa := dens_arr s1' (hd O H2) s2 arr
    refine ⟨s1.length.trans hl.1, s2.length.trans hl.2.1, sa.length.trans hl.2.2, O, _, ⟨(r.growTo g3).dom, (r.growTo g3).tab⟩, sa, M.wp_mono w2 (fun d w3 v H3 g4 x3 => w3 v H3 (g3.trans g4) x3) fun x hx cls dd H3 g4 xr => ?_⟩
    exact hx cls dd H3 ((r.growTo g3).grow.trans (g4.less r.sub)) (xr.less r.sub)
  · exact w2.elim

/-! ### constants of the module -/
/-- a tuple of texts -/
theorem sim_tupC {f : Cf} {c : Str} {ss : List Str} (h : He.tupB f.K c (ss.map He.Dv.str) = true) : SimE f (tC (.ref (He.ga f.K c))) (cK (.tup (ss.map D.str))) := sim_k fun O H => by
  have := He.tupB_ok h (fun _ => none)
  rcases this with h1 | ⟨o, its, n, h1, h2, h3, h4, h5⟩
  · rcases h1 with h1 | ⟨_, h1⟩ <;> cases h1
  · refine .tupK h1 h2 h3 h4 h5 ?_
    clear h h5 h4 h3
    induction ss with
    | nil => exact .nil
    | cons s ss ih => exact .cons (.str s) ih
theorem pglobT {X : Cx} {x : Str} {pos : Pos} (hm : X.mg x = some (.ref (He.ga X.K x))) (hg : Gl X x := by rfl) (hd : (x == ("__debug__" : Str)) = false := by decide) : PE X (.Name x pos) (tC (.ref (He.ga X.K x))) := pe_glob hg hm rfl hd
/-- a dict of texts by texts: its items -/
def kdB (K : PySem.W.Frag) (c : Str) (kvs : List (Str × Str)) : Bool := kvs.all fun p => match PySem.W.nsIn K (He.ga K c) p.1 with
  | some (some (.str y _)) => decide (y = p.2)
  | _ => false
theorem kdB_ok {K : PySem.W.Frag} {c : Str} {kvs : List (Str × Str)} (h : kdB K c kvs = true) {z y : Str} (e : kvs.lookup z = some y) : ∃ t, PySem.W.nsIn K (He.ga K c) z = some (some (.str y t)) := by
  have q := List.all_eq_true.mp h (z, y) (PySem.mem_of_lookup e)
  dsimp only at q
  split at q
  · rename_i y' t hq
    rw [of_decide_eq_true q] at hq
    exact ⟨t, hq⟩
  · cases q
def cKd (kvs : List (Str × Str)) (a : CE) : CE := fun ρ => (a ρ).bind fun d => match d with
  | .str z => (match kvs.lookup z with
    | some y => .ret (.str y)
    | none => .stuck)
  | _ => .stuck
theorem pkd {X : Cx} {x : Str} {b : Expr} {tb : TE} {p pos : Pos} {w : World} (hw : X.w = w) (hm : X.mg x = some (.ref (He.ga X.K x))) (hb : PE X b tb) (hg : Gl X x := by rfl) (hdb : (x == ("__debug__" : Str)) = false := by decide) (hs : PlainIx b := by exact fun _ _ => rfl) :
    PE X (.Subscript (.Name x p) b pos) (tOp (rIxD X.K w) (tC (.ref (He.ga X.K x))) tb) := by
  subst hw
  exact pe_ix ix_kdict (pe_glob hg hm rfl hdb) hb hs
theorem sim_kd {f : Cf} {w : World} {c : Str} {kvs : List (Str × Str)} {te : TE} {a : CE} (D : ∃ es n, KDict f.K w (He.ga f.K c) es n) (h : kdB f.K c kvs = true) (ha : SimC f te a) : SimE f (tOp (rIxD f.K w) (tC (.ref (He.ga f.K c))) te) (cKd kvs a) := fun P O σ H ρ Q r w1 => by
  show te σ H _
  refine ha P O σ H ρ _ r (M.wp_mono (M.wp_bind.mp w1) (fun d w2 v H1 g1 x1 => ?_) fun _ z => z)
  split at w2
  · rename_i z
    split at w2
    · rename_i y e
      obtain ⟨t, hn⟩ := kdB_ok h e
      have ev : v = .str z := by cases x1.bare; rfl
      subst ev
      obtain ⟨es, n, kd⟩ := D
      exact ⟨_, z, .str y, rfl, rfl, ⟨_, _, _, kd.at_, kd.lit, hn, ⟨t, rfl⟩⟩, w2 _ H1 g1 (.str y)⟩
    · exact w2.elim
  · exact w2.elim
end Py

/-! RQ4: exceptions as values: C(), C(x), C(f=x); their fields read. -/
namespace Py
open PySem PySem.Spec PySem.W PySem.Calls PyProof.Rows L2

/-! ### C(f=x): the class called with keywords alone -/
section
variable {prog : Program} {w : World} {A : Around} {E : Value → Shared → Prop} {R : Result → Shared → Prop} {h : Heap} {g : Array GenState} {d : Drawn} {t : Nat} {os : OsState}
variable {nm q : Str} {C N : Addr} {bs bm bmB : List Value} {hdct : Bool} {sn : List Str} {sub : List Value} {ab : Bool} {col : Option Bool} {dd : Option Addr} {k0 k1 k2 k3 k5 : Option Value} {B newId initId : String} {kw : List (Str × Value)}
theorem kwCheck (F : ExcBaseFacts B newId initId bmB) (hT : ∀ X : String, bm.contains (.type X) = bmB.contains (.type X)) {Q : Unit → Shared → Prop} {M : Model}
    (hC : h.get? C = some (excClassObj nm q C N bs bm hdct sn sub ab col dd k0 k1 k2 k3 k5 newId)) (hq : Q () ⟨h, g, d, t, os⟩) : wpAny M A (checkBuiltinCall newId ⟨[.ref C], kw⟩) Q E ⟨h, g, d, t, os⟩ := by
  have c1 : (Value.ref C :: bm).contains (.type B) = true := by rw [List.contains_cons, hT, F.hasB, Bool.or_true]
  have c2 := F.noStar
  simp only [checkBuiltinCall, F.newKind, F.newSplit, F.newRow]
  repeat (first | refine wpAny_loadPart_at hC ?_ | (refine wpAny_isSubtype_exc hC ?_; rw [c1]) | refine wpAny_staticBase_exc hC ?_ | refine wpAny_madeBy_exc hC ?_ | simp only [bne_self_eq_false, Bool.false_eq_true, if_false] | wp_step)
  exact hq
theorem kwNew (F : ExcBaseFacts B newId initId bmB) (hT : ∀ X : String, bm.contains (.type X) = bmB.contains (.type X))
    (hC : h.get? C = some (excClassObj nm q C N bs bm hdct sn sub ab col dd k0 k1 k2 k3 k5 newId))
    (hq : R (.ok (.ret (.ref (h.objs.size + 1)))) ⟨(h.push (kdv_tup [])).push (HandSPX.excO C h.objs.size), g, d, t, os⟩) :
    codeAny (model prog w) A (.builtin newId ⟨[.ref C], kw⟩) R ⟨h, g, d, t, os⟩ := by
  have c0 := F.ends
  have c1 : (Value.ref C :: bm).contains (.type B) = true := by rw [List.contains_cons, hT, F.hasB, Bool.or_true]
  have c2 : (Value.ref C :: bm).contains (.type "AttributeError") = false := by rw [List.contains_cons, hT, F.noAttr]; rfl
  have c3 : (Value.ref C :: bm).contains (.type "NameError") = false := by rw [List.contains_cons, hT, F.noName]; rfl
  refine codeAny_builtinAt F.entry ?_
  unfold Builtin.«BaseException.__new__»
  refine PySem.wpAt_bind ?_
  show PySem.wpAt _ _ _ (stack >>= _) _ _ _
  refine PySem.wpAt_bind (PySem.wpAt_stack fun p below => PySem.wpAt_of_wpAny ?_)
  wp_walk
  refine PySem.wpAt_of_wpAny ?_
  rw [F.owner]
  repeat (first | with_reducible refine wpAny_madeHere_exc F.canon hC ?_ | with_reducible refine wpAny_loadPart_at hC ?_ | (with_reducible refine wpAny_isSubtype_exc hC ?_; first | rw [c1] | rw [c2] | rw [c3]) | wp_step)
  show R _ _
  rw [Heap.size_push]
  exact hq
theorem kwType (F : ExcBaseFacts B newId initId bmB) (hT : ∀ X : String, bm.contains (.type X) = bmB.contains (.type X)) {fI : Addr} {Q : Fin → Shared → Prop}
    (hC : h.get? C = some (excClassObj nm q C N bs bm hdct sn sub ab col dd k0 k1 k2 k3 k5 newId))
    (hi : W.Looks (model prog w) h (typeLookup (.ref C) "__init__") (some (.ref fI))) (hb : ∀ self, W.Looks (model prog w) h (bindSpecial (.ref fI) self) (.ref fI, [self]))
    (hq : codeAny (model prog w) A (.call (.ref fI) ⟨[.ref (h.objs.size + 1)], kw⟩)
      (fun r s' => match r with | .ok (.ret v) => v = .none ∧ Q (.done (.ret (.ref (h.objs.size + 1)))) s' | .ok _ => False | .error e => E e s')
      ⟨(h.push (kdv_tup [])).push (HandSPX.excO C h.objs.size), g, d, t, os⟩) :
    wpAny (model prog w) A (Builtin.«type.__call__» ⟨[.ref C], kw⟩) Q E ⟨h, g, d, t, os⟩ := by
  repeat (first | with_reducible refine wpAny_loadPart_at hC ?_ | with_reducible refine wpAny_madeBy_exc hC ?_ | wp_step)
  refine codeAny_call_builtin_code (Code.quiet_builtin _ F.quiet) (kwCheck F hT hC (kwNew F hT hC ?_))
  show wpAny _ _ _ _ _ _
  have kk : ∀ b o, h.get? b = some o → ((h.push (kdv_tup [])).push (HandSPX.excO C h.objs.size)).get? b = some o := fun b o e => Heap.get?_push_of_some _ (Heap.get?_push_of_some _ e)
  have at1 : ((h.push (kdv_tup [])).push (HandSPX.excO C h.objs.size)).get? (h.objs.size + 1) = some (HandSPX.excO C h.objs.size) := by heap_get
  have own : (Value.ref C :: bm).contains (.ref C) = true := by simp
  have cls1 := kk _ _ hC
  unfold isInstance
  repeat (first | with_reducible refine wpAny_loadPart_at at1 ?_ | (with_reducible refine wpAny_isSubtype_exc cls1 ?_; rw [own]) | wp_step)
  show wpAny _ _ (typeLookup (.ref C) _) _ _ _
  refine (hi.keeps kk).at (wpAny_holding (wpAny_bind (((hb (.ref (h.objs.size + 1))).keeps kk).at ?_)))
  refine wpAny_bind (wpAny_call (codeAny_mono hq fun r s' z => ?_))
  rcases r with e | (v | _ | _ | _) <;> first | exact z | exact z.elim | skip
  obtain ⟨rfl, z⟩ := z
  first
    | exact wpAny_pure (wpAny_pure z)
    | (wp_walk; exact z)
theorem kwTc {M : Model} {Q : Unit → Shared → Prop} (hC : h.get? C = some (excClassObj nm q C N bs bm hdct sn sub ab col dd k0 k1 k2 k3 k5 newId))
    (hq : Q () ⟨h, g, d, t, os⟩) : wpAny M A (checkBuiltinCall "type.__call__" ⟨[.ref C], kw⟩) Q E ⟨h, g, d, t, os⟩ := by
  have f1 := tc_sub
  have f2 : (⟨h, g, d, t, os⟩ : Shared).TypeIs (.ref C) "type" := ⟨_, hC, rfl⟩
  simp only [checkBuiltinCall, tc_kind, tc_split]
  repeat (any_goals (first | assumption | with_reducible refine wpAny_loadPart_at hC ?_ | with_reducible refine wpAny_onRaise ?_ | with_reducible refine wpAny_map ?_ | wp_step))
theorem kwCall (F : ExcBaseFacts B newId initId bmB) (hT : ∀ X : String, bm.contains (.type X) = bmB.contains (.type X)) {fI : Addr}
    (hC : h.get? C = some (excClassObj nm q C N bs bm hdct sn sub ab col dd k0 k1 k2 k3 k5 newId))
    (hi : W.Looks (model prog w) h (typeLookup (.ref C) "__init__") (some (.ref fI))) (hb : ∀ self, W.Looks (model prog w) h (bindSpecial (.ref fI) self) (.ref fI, [self]))
    (hq : codeAny (model prog w) (A.under (.builtin "type.__call__" ⟨[.ref C], kw⟩)) (.call (.ref fI) ⟨[.ref (h.objs.size + 1)], kw⟩) (W.InitBack (h.objs.size + 1) R)
      ⟨(h.push (kdv_tup [])).push (HandSPX.excO C h.objs.size), g, d, t, os⟩) :
    codeAny (model prog w) A (.call (.ref C) ⟨[], kw⟩) R ⟨h, g, d, t, os⟩ := by
  have f1 := tc_lookup
  have f2 := tc_bind (.ref C)
  have ty : (⟨h, g, d, t, os⟩ : Shared).TypeIs (.ref C) "type" := ⟨_, hC, rfl⟩
  refine codeAny_of_tree ?_
  show wpAny _ _ (callAny (.ref C) _) _ _ _
  repeat (any_goals (first | assumption | with_reducible refine wpAny_loadPart_at hC ?_ | wp_step))
  refine ⟨rfl, ?_⟩
  refine codeAny_call_builtin_at (Code.quiet_builtin _ (by decide +kernel)) entry_typeCall ?_
  refine kwTc hC (kwType F hT hC hi hb (codeAny_mono hq fun r s' z => ?_))
  rcases r with e | (v | _ | _ | _) <;> exact z
end
end Py

/-! RQ5: exceptions as values: the readings and the computations. -/
namespace Py
open PySem PySem.Spec PySem.W PySem.Calls PyProof.Rows L2

/-- what is made as an exception is a value -/
theorem pe_of_mk {X : Cx} {e : Expr} {t : L2.St → Hp → XK → Prop} (he : PMk X e t) : PE X e (fun σ H Q => t σ H fun cls d H' => ∃ C, cls = .ref C ∧ ∀ a, H' a = none → Q (.ref a) (upd H' a (.ext (XcAt a C d)))) := by
  refine ⟨fun pins s σ H Q I h => ?_⟩
  refine wpAny_mono (he pins s σ H _ I h) (fun u s1 hu => ?_) fun _ _ x => x
  obtain ⟨a, oe, vs, sI, H', cls, d, rfl, J, k, hne, ha, hz, hd, h1, na, os, ag, r, C, rfl, q⟩ := hu
  have L := J.laidN (t' := s1.toks) (h' := s1.heap) (o := .ext (XcAt a C d)) k hne na (xc_ok ⟨oe, vs, ha, hz, hd⟩)
  refine ⟨.ref a, _, ⟨L.ok, ?_, ag, L.base, L.loc, L.cell, L.free, L.freeC, L.pin, L.hok, L.len⟩, rfl, q a na⟩
  rw [os]; exact L.os

/-- the keywords ks bind the parameters ps so -/
def KBp (ps ks : List Str) (arr : List (Nat × Nat)) : Prop := ∀ (fd : FuncData) (as : List Arg), as.map (·.arg) = ("self" : Str) :: ps → fd.params = ⟨[], as, none, [], [], none, []⟩ → fd.defaults = .none →
  ∀ (u : Value) (ws : List Value), ws.length = ks.length → bindArgs fd ⟨[u], ks.zip ws⟩ = pure ((("self" : Str) :: ps).zip (u :: arrG arr [] [] ws))
theorem kbp1 {x : Str} (h : ∀ (fd : FuncData) (a1 a2 : Option Expr) (p1 p2 : Pos) (u v : Value), fd.params = ⟨[], [⟨"self", a1, p1⟩, ⟨x, a2, p2⟩], none, [], [], none, []⟩ → fd.defaults = .none → bindArgs fd ⟨[u], [(x, v)]⟩ = pure [(("self" : Str), u), (x, v)]) : KBp [x] [x] [(2, 0)] := by
  intro fd as e hp hd u ws hl
  match as, e, ws, hl with
  | [⟨n1, a1, p1⟩, ⟨n2, a2, p2⟩], e, [v], _ =>
    simp only [List.map_cons, List.map_nil, List.cons.injEq, and_true] at e
    obtain ⟨rfl, rfl⟩ := e
    exact h fd a1 a2 p1 p2 u v hp hd
theorem kbp2 {x y : Str} (h : ∀ (fd : FuncData) (a1 a2 a3 : Option Expr) (p1 p2 p3 : Pos) (u v z : Value), fd.params = ⟨[], [⟨"self", a1, p1⟩, ⟨x, a2, p2⟩, ⟨y, a3, p3⟩], none, [], [], none, []⟩ → fd.defaults = .none → bindArgs fd ⟨[u], [(y, z), (x, v)]⟩ = pure [(("self" : Str), u), (x, v), (y, z)]) : KBp [x, y] [y, x] [(2, 1), (2, 0)] := by
  intro fd as e hp hd u ws hl
  match as, e, ws, hl with
  | [⟨n1, a1, p1⟩, ⟨n2, a2, p2⟩, ⟨n3, a3, p3⟩], e, [z, v], _ =>
    simp only [List.map_cons, List.map_nil, List.cons.injEq, and_true] at e
    obtain ⟨rfl, rfl, rfl⟩ := e
    exact h fd a1 a2 a3 p1 p2 p3 u v z hp hd
theorem kb_name : KBp ["name"] ["name"] [(2, 0)] := kbp1 fun fd a1 a2 p1 p2 u v hp hd => by
  obtain ⟨n1, n2, n3, n4, n5, n6, n7, n8, n9, n10, n11, n12, n13, n14, n15⟩ := fd
  dsimp only at hp hd
  subst hp hd
  rfl
theorem kb_cycle : KBp ["cycle"] ["cycle"] [(2, 0)] := kbp1 fun fd a1 a2 p1 p2 u v hp hd => by
  obtain ⟨n1, n2, n3, n4, n5, n6, n7, n8, n9, n10, n11, n12, n13, n14, n15⟩ := fd
  dsimp only at hp hd
  subst hp hd
  rfl
theorem kb_name_letter : KBp ["name", "letter"] ["letter", "name"] [(2, 1), (2, 0)] := kbp2 fun fd a1 a2 a3 p1 p2 p3 u v z hp hd => by
  obtain ⟨n1, n2, n3, n4, n5, n6, n7, n8, n9, n10, n11, n12, n13, n14, n15⟩ := fd
  dsimp only at hp hd
  subst hp hd
  rfl
theorem kb_name_member : KBp ["name", "member"] ["member", "name"] [(2, 1), (2, 0)] := kbp2 fun fd a1 a2 a3 p1 p2 p3 u v z hp hd => by
  obtain ⟨n1, n2, n3, n4, n5, n6, n7, n8, n9, n10, n11, n12, n13, n14, n15⟩ := fd
  dsimp only at hp hd
  subst hp hd
  rfl
/-- C(f=e, ..) -/
def tMkXK (C : Addr) (ps : List Str) (m : Nat) (arr : List (Nat × Nat)) (ta : TA) : L2.St → Hp → XK → Prop := fun σ H Q => ta σ H fun zs H1 => zs.length = m ∧ (arrG arr [] [] zs).length = ps.length ∧ ∀ d, H1 d = none → Q (.ref C) (some d) (upd H1 d (.xd (ps.zip (arrG arr [] [] zs))))
theorem run_xiK {X : Cx} {ps ks : List Str} {arr : List (Nat × Nat)} {C fI : Addr} {fd : FuncData} {cc cda : Addr} {k : Nat} {pins : List (Addr × Obj)} {σ : L2.St} {H1 : Hp} {s1 : Shared} {ws : List Value} {zs : List V} {Q : XK} {E : Value → Shared → Prop}
    (T : XI X.prog X.K C ps fI fd cc cda) (hkb : KBp ps ks arr) (hsup : X.mg "super" = none) (hr : RoomG k X.A) (I1 : Inv X pins σ H1 s1) (r0 : Vals zs ws) (l0 : zs.length = ks.length) (hl : (arrG arr [] [] zs).length = ps.length) (hq : ∀ d, H1 d = none → Q (.ref C) (some d) (upd H1 d (.xd (ps.zip (arrG arr [] [] zs))))) :
    wpAny (model X.prog X.w) X.A (call (.ref C) [] (ks.zip ws)) (MkP X pins σ Q) E s1 := by
  obtain ⟨nm, q, N, bs, bm, sn, sub, ab, col, dd, k0, k1, k2, k3, k5, hC, hbm⟩ := T.ox.cls
  obtain ⟨hp, g, dr, tk, os⟩ := s1
  have r1 : Vals (arrG arr [] [] zs) (arrG arr [] [] ws) := vals_arr .nil .nil r0 arr
  have hus : (arrG arr [] [] ws).length = ps.length := (Paired.length r1).symm.trans hl
  have kk : ∀ b o, hp.get? b = some o → ((hp.push (PySem.W.kdv_tup [])).push (PySem.HandSPX.excO C hp.objs.size)).get? b = some o := fun b o e => Heap.get?_push_of_some _ (Heap.get?_push_of_some _ e)
  have hget : ((hp.push (PySem.W.kdv_tup [])).push (PySem.HandSPX.excO C hp.objs.size)).get? (hp.objs.size + 1) = some (PySem.HandSPX.excO C hp.objs.size) := by heap_get
  have na : ∀ {b : Addr} {o : Obj}, hp.get? b = some o → b ≠ hp.objs.size + 1 := fun {b o} e => Nat.ne_of_lt (Nat.lt_succ_of_lt (Heap.lt_size e))
  have szz : hp.objs.size ≤ ((hp.push (PySem.W.kdv_tup [])).push (PySem.HandSPX.excO C hp.objs.size)).objs.size := Nat.le_of_lt (Nat.lt_of_succ_lt (Heap.lt_size hget))
  obtain ⟨as, m1, m2, m3⟩ := T.parms
  refine wpAny_call (kwCall F.excBase_ValueError (fun Y => PySem.HandSPX.refsVE_contains Y bm hbm) (I1.kIn _ _ hC) (PySem.W.looks_findIn I1.kIn T.ini) (fun self => PySem.W.bind_fn I1.kIn self T.ty) ?_)
  refine xinitA T I1.mod hsup (fun b o e => kk b o (I1.bk b o e)) (by rw [make_depth]; have := hr.room.dp; omega) hget ?_ hus (BindsTo.of_eq (hkb fd as m1 m2 m3 _ ws (r0.length.symm.trans l0))) fun h' tk' dx t1 keep dn dne ha hn => ?_
  · cases z : X.base.get? (hp.objs.size + 1) with
    | none => rfl
    | some o => exact absurd rfl (na (I1.bk _ _ z))
  refine ⟨rfl, ?_⟩
  have hnd : H1 dx = none := I1.hok.fresh (Nat.le_trans szz dn)
  obtain ⟨G, g1', g2'⟩ := restrict h' fun b => decide (b ≠ hp.objs.size + 1)
  have gk : ∀ b, b ≠ hp.objs.size + 1 → G.get? b = h'.get? b := fun b hb => g1' b (decide_eq_true hb)
  have ge : G.get? (hp.objs.size + 1) = none := g2' _ (by simp)
  have J := I1.laid (t' := tk') (a := dx) (o := .xd (ps.zip (arrG arr [] [] zs))) (h' := G) (fun b o e => by rw [gk b (na e)]; exact keep b o (na e) (kk b o e)) (Nat.le_trans szz dn) ⟨_, hn.at fun o e => by rw [gk dx dne]; exact e, fun f => by
    have nd := T.nd
    rw [List.nodup_cons] at nd
    rw [putAll_lk (by rw [List.map_fst_zip (by omega)]; exact nd.2)]
    have z := relO_zip (f := f) (ps := ps) r1
    cases q : (ps.zip (arrG arr [] [] ws)).lookup f with
    | none => rw [q] at z; exact z
    | some v => rw [q] at z; exact z⟩
  exact ⟨hp.objs.size + 1, _, _, ⟨G, g, dr, tk', os⟩, _, .ref C, some dx, rfl, J, fun b o z => by
    by_cases hb : b = hp.objs.size + 1
    · rw [hb, ge] at z; cases z
    · rw [← gk b hb]; exact z, ge, ha, ⟨rfl, rfl⟩, rfl, rfl, by rw [upd_ne (Ne.symm dne)]; exact I1.hok.fresh (Nat.le_succ _), rfl, I1.bare, raises_own T.ox.exC T.ox.tyC, hq dx hnd⟩
theorem pmk_xiK {X : Cx} {x : Str} {ps ks : List Str} {arr : List (Nat × Nat)} {C fI : Addr} {fd : FuncData} {cc cda : Addr} {k : Nat} {kws : List Keyword} {tk : TA} {p pos : Pos} (T : XI X.prog X.K C ps fI fd cc cda) (hkb : KBp ps ks arr) (hsup : X.mg "super" = none) (hr : RoomG k X.A) (hm : X.mg x = some (.ref C)) (hkw : PK X kws tk) (hg : Gl X x := by rfl)
    (hall : (backToKw pos (keywordEach kws X.env)).all (·.1.isSome) = true := by rfl) (hks : (backToKw pos (keywordEach kws X.env)).filterMap (·.1) = ks := by rfl)
    (hdb : (x == ("__debug__" : Str)) = false := by decide)
    (hpl : ((backTo pos (starEach [] X.env)).any (·.1) || (backToKw pos (keywordEach kws X.env)).any (·.1.isNone)) = false := by rfl) :
    PMk X (.Call (.Name x p) [] kws pos) (tMkXK C ps ks.length arr tk) := by
  intro pins s σ H Q I h
  refine wpAny_Call_Name_kw (ld_glob I hg hm ?_ hdb)
  refine PySem.W.callWith_KW0 (h₀ := X.base) I.ok.mod.kin T.ox.kC hall (thn (hkw.run pos pins s σ H _ I h) fun ws s2 ⟨zs, H2, I2, rz, l1, l2, q2⟩ => ⟨I2.kIn, ?_⟩) hpl
  rw [hks]
  exact run_xiK T hkb hsup hr I2 rz l1 l2 q2
/-- C() -/
theorem pmk_own0 {X : Cx} {C : Addr} {bmB : List Value} {B newId initId : String} {x : Str} {p pos : Pos} (F : ExcBaseFacts B newId initId bmB) (q : PySem.W.excIn X.K C bmB newId = true) (gC : X.mg x = some (.ref C)) (kC : PySem.W.keepIn X.K (.ref C) = true) (r : Raises X (.ref C)) (hg : Gl X x)
    (hdb : (x == ("__debug__" : Str)) = false := by decide) : PMk X (.Call (.Name x p) [] [] pos) (fun σ H Q => Q (.ref C) none H) := by
  intro pins s σ H Q I h
  refine wpAny_Call_Name_kw (ld_glob I hg gC ?_ hdb)
  refine PySem.W.callWith_K0 I.kIn kC ?_
  obtain ⟨bm, N, nm, qn, bs, hdct, sn, sub, ab, col, dd, k0, k1, k2, k3, k5, mN, hC, hN, hni, T⟩ := exc_obj I.kIn q
  refine wpAny_call_exc_subT F T hC hN hni (fun h' e hm => ?_) (by show 0 ≤ sizeLine; omega)
  exact mk_of I hm r h (I.hok.gone hm.new)
end Py

/-! RQ6: exceptions as values: fields, computations. -/
namespace Py
open PySem PySem.Spec PySem.W PySem.Calls PyProof.Rows L2

theorem look_dict {h : Heap} {dx : Addr} {mA : Str → Option Value} (n : h.Ns dx mA) : ∃ od, h.get? dx = some od ∧ ∀ name, PySem.W.lookIn name od = some (mA name) := by
  obtain ⟨o, es, ep, ho, hd, hk, hm⟩ := n
  have plain : ¬ es.toList.any (·.refKey) = true := fun z => by
    obtain ⟨y, hy, r⟩ := List.any_eq_true.mp z
    obtain ⟨x, t, hkey⟩ := hk y (Array.mem_toList_iff.mp hy)
    simp [DictEntry.refKey, hkey] at r
  refine ⟨o, ho, fun name => ?_⟩
  rw [← hm name]
  unfold nsFind findBy PySem.W.lookIn
  rw [← Array.find?_toList, hd]
  dsimp only
  rw [if_neg plain]
  split
  · rename_i y q
    rw [q]; rfl
  · rename_i q
    rw [q]; rfl
/-- what a class of exceptions must have for the field n of its instances to be read -/
structure XFd (K : PySem.W.Frag) (C : Addr) (n : Str) : Prop where
  xf : XfC K C
  no : PySem.W.findIn K (.ref C) n = some none
def xfdB (K : PySem.W.Frag) (C : Addr) (ns : List Str) : Bool := xfB K C && ns.all fun n => decide (PySem.W.findIn K (.ref C) n = some none)
theorem xfdB_ok {K : PySem.W.Frag} {C : Addr} {ns : List Str} (h : xfdB K C ns = true) (n : Str) (hn : n ∈ ns) : XFd K C n := by
  unfold xfdB at h
  rw [Bool.and_eq_true] at h
  exact ⟨xfB_ok h.1, of_decide_eq_true (List.all_eq_true.mp h.2 n hn)⟩
def xfsB (K : PySem.W.Frag) (cs : List Str) (n : Str) : Bool := cs.all fun y => xfdB K (He.ga K y) [n]
theorem xfsB_ok {K : PySem.W.Frag} {cs : List Str} {n : Str} (h : xfsB K cs n = true) : ∀ y ∈ cs, XFd K (He.ga K y) n := fun y hy => xfdB_ok (List.all_eq_true.mp h y hy) n (List.mem_singleton.mpr rfl)
/-- e.n -/
def tXfV (K : PySem.W.Frag) (n : Str) (te : TE) : TE := fun σ H Q => te σ H fun x H1 => ∃ (a C dx : Addr) (φ : Heap → Prop) (fvs : List (Str × V)) (o : HO) (v : V), x = .ref a ∧ H1 a = some (.ext φ) ∧ (∀ h, φ h → XcAt a C (some dx) h) ∧ XFd K C n ∧ H1 dx = some o ∧ XdO dx fvs o ∧ fvs.lookup n = some v ∧ Q v H1
theorem pe_xfV {X : Cx} {e : Expr} {te : TE} {pos : Pos} {n : Str} (he : PE X e te) (hb : attributeBase e n X.env (eval e X.env) = eval e X.env := by rfl) : PE X (.Attribute e n pos) (tXfV X.K n te) := by
  refine ⟨fun pins s σ H Q I h => ?_⟩
  refine attr_of hb (thn (he.run pins s σ H _ I h) fun u s1 hh => ?_)
  obtain ⟨x, H1, I1, rx, a, C, dx, φ, fvs, o, v, rfl, ha, hφ, T, hdx, ho, hl, q⟩ := hh
  cases rx
  obtain ⟨hh, _, _⟩ := (show ObjOk X.prog X.w H1 s1.heap a (.ext φ) from I1.hok a _ ha)
  obtain ⟨oe, vs, hget, hz, hv⟩ := hφ _ hh
  obtain ⟨mA, hns, hr⟩ : ∃ mA, s1.heap.Ns dx mA ∧ ∀ f, RelO (fvs.lookup f) (mA f) := by
    rcases ho with ho | ⟨ψ, ho, hψ⟩
    · subst ho
      obtain ⟨mA, z, y⟩ := (show ObjOk X.prog X.w H1 s1.heap dx (.xd fvs) from I1.hok dx _ hdx)
      exact ⟨mA, z.ns, y⟩
    · subst ho
      obtain ⟨z, _, _⟩ := (show ObjOk X.prog X.w H1 s1.heap dx (.ext ψ) from I1.hok dx _ hdx)
      exact hψ _ z
  obtain ⟨od, hod, lk⟩ := look_dict hns
  obtain ⟨u, hu, ru⟩ := RelO.some_of (v := v) (o := mA n) (by rw [← hl]; exact hr n)
  have J : PySem.W.InstAt s1.heap a oe C (some od) := ⟨hget, hz.1, by unfold PySem.W.notCls; rw [hv] <;> rfl, by rw [hz.2]; exact hod⟩
  exact HandSPX.exc_get I1.kIn J T.xf.ga T.xf.gg T.xf.exC (PySem.W.findObj_own T.xf.hdC T.no rfl (by rw [lk, hu])) (handed_of ru) ⟨v, H1, I1.tok _, ru, q⟩

variable [Wd]
/-! ### computations -/
def cExc0 (n : Str) : CE := fun _ => .ret (.exc n [])
def cExc1 (n : Str) (a : CE) : CE := fun ρ => (a ρ).bind fun _ => .ret (.exc n [])
def excX (n : Str) (ps : List Str) (ds : List D) : M D := if ds.length = ps.length ∧ ds ≠ [] then .ret (.exc n (ps.zip ds)) else .stuck
def cExcX (n : Str) (ps : List Str) (a : CA) : CE := fun ρ => (a ρ).bind fun ds => excX n ps ds
def cExcK (n : Str) (ps : List Str) (m : Nat) (arr : List (Nat × Nat)) (a : CA) : CE := fun ρ => (a ρ).bind fun ds => if ds.length = m then excX n ps (arrG arr [] [] ds) else .stuck
def tVal (t : L2.St → Hp → XK → Prop) : TE := fun σ H Q => t σ H fun cls d H' => ∃ C, cls = .ref C ∧ ∀ a, H' a = none → Q (.ref a) (upd H' a (.ext (XcAt a C d)))
section
variable {f : Cf} {n : Str} {ps : List Str}
theorem sim_exc0 : SimE f (tVal fun σ H Q => Q (.ref (He.ga f.K n)) none H) (cExc0 n) := fun P O σ H ρ Q r w =>
  ⟨_, rfl, fun a ha => w (.ref a) _ (Grow.new ha).gr (.exc (off_new r.dom ha) upd_same fun _ z => z)⟩
theorem sim_exc1 {te : TE} {c : CE} (hc : SimC f te c) : SimE f (tVal fun σ H Q => te σ H fun _ H1 => Q (.ref (He.ga f.K n)) none H1) (cExc1 n c) := fun P O σ H ρ Q r w =>
  hc P O σ H ρ _ r (M.wp_mono (M.wp_bind.mp w) (fun d w1 v H1 g1 s1 => ⟨_, rfl, fun a ha => w1 (.ref a) _ (g1.trans (Grow.new ha).gr) (.exc (off_new (r.growTo g1).dom ha) upd_same fun _ z => z)⟩) fun _ z => z)
theorem den_new {P : List Pin} {O : Addr → Prop} {σ : L2.St} {H : Hp} {ρ : Rho} {d a : Addr} {vs : List V} {ds : List D} (r : f.Rel P O σ H ρ) (s : Dens f.K O H vs ds) (hl : ds.length = ps.length ∧ ds ≠ []) (hd : H d = none) (ha : upd H d (.xd (ps.zip vs)) a = none) :
    Den f.K O (upd (upd H d (.xd (ps.zip vs))) a (.ext (XcAt a (He.ga f.K n) (some d)))) (.ref a) (.exc n (ps.zip ds)) := by
  have ne : d ≠ a := fun z => by rw [z, upd_same] at ha; cases ha
  have ha' : H a = none := by rw [upd_ne (Ne.symm ne)] at ha; exact ha
  have g1 : Gr f.z O H (upd H d (.xd (ps.zip vs))) := (Grow.new hd).gr
  have g2 : Gr f.z O (upd H d (.xd (ps.zip vs))) (upd (upd H d (.xd (ps.zip vs))) a (.ext (XcAt a (He.ga f.K n) (some d)))) := (Grow.new ha).gr
  have fs : DenFs f.K O (upd (upd H d (.xd (ps.zip vs))) a (.ext (XcAt a (He.ga f.K n) (some d)))) (ps.zip vs) (ps.zip ds) := DenFs.zip ((s.ext g1.ext).ext g2.ext)
  cases e : ps.zip ds with
  | nil =>
    have := congrArg List.length e
    have e1 : ds.length ≠ 0 := fun z => hl.2 (List.length_eq_zero_iff.mp z)
    simp only [List.length_zip, List.length_nil] at this
    omega
  | cons p l =>
    rw [e] at fs
    exact .excF (off_new r.dom ha') upd_same (fun _ z => z) (off_new r.dom hd) (by rw [upd_ne ne]; exact upd_same) (.inl rfl) fs
theorem sim_excX {ta : TA} {c : CA} (hc : SimA f ta c) : SimE f (tVal (tMkX (He.ga f.K n) ps ta)) (cExcX n ps c) := fun P O σ H ρ Q r w => by
  refine hc P O σ H ρ _ r (M.wp_mono (M.wp_bind.mp w) (fun ds w1 vs H1 g1 s1 => ?_) fun _ z => z)
  unfold excX at w1
  split at w1
  · rename_i hl
    refine ⟨s1.len.trans hl.1, fun d hd => ⟨_, rfl, fun a ha => ?_⟩⟩
    exact w1 (.ref a) _ ((g1.trans (Grow.new hd).gr).trans (Grow.new ha).gr) (den_new (r.growTo g1) s1 hl hd ha)
  · exact w1.elim
theorem sim_excK {m : Nat} {arr : List (Nat × Nat)} {ta : TA} {c : CA} (hc : SimA f ta c) : SimE f (tVal (tMkXK (He.ga f.K n) ps m arr ta)) (cExcK n ps m arr c) := fun P O σ H ρ Q r w => by
  refine hc P O σ H ρ _ r (M.wp_mono (M.wp_bind.mp w) (fun ds w1 vs H1 g1 s1 => ?_) fun _ z => z)
  split at w1
  · rename_i hm
    unfold excX at w1
    split at w1
    · rename_i hl
      have s2 : Dens f.K O H1 (arrG arr [] [] vs) (arrG arr [] [] ds) := dens_arr .nil .nil s1 arr
      refine ⟨s1.len.trans hm, s2.len.trans hl.1, fun d hd => ⟨_, rfl, fun a ha => ?_⟩⟩
      exact w1 (.ref a) _ ((g1.trans (Grow.new hd).gr).trans (Grow.new ha).gr) (den_new (r.growTo g1) s2 hl hd ha)
    · exact w1.elim
  · exact w1.elim
/-- e.n, e one of the classes cs -/
def fldX (cs : List Str) (n : Str) (d : D) : Option D := match d with
  | .exc c fs => if cs.contains c then fs.lookup n else none
  | _ => none
theorem sim_fldX {te : TE} {c : CE} {cs : List Str} (T : ∀ y ∈ cs, XFd f.K (He.ga f.K y) n) (hc : SimE f te c) : SimE f (tXfV f.K n te) (cUn (fldX cs n) c) := fun P O σ H ρ Q r w => by
  refine hc P O σ H ρ _ r (M.wp_mono (M.wp_bind.mp w) (fun d w1 v H1 g1 s1 => ?_) fun _ z => z)
  unfold lift1 at w1
  cases e : fldX cs n d with
  | none => rw [e] at w1; exact w1.elim
  | some z =>
    rw [e] at w1
    unfold fldX at e
    split at e
    · rename_i c fs
      split at e
      · rename_i hm
        cases s1 with
        | exc h1 h2 h3 => cases e
        | excF h1 h2 h3 h4 h5 h6 h7 =>
          obtain ⟨v, l, dn⟩ := DenFs.look _ h7 e
          exact ⟨_, _, _, _, _, _, v, rfl, h2, h3, T c (List.contains_iff_mem.mp hm), h5, h6, l, w1 v H1 g1 dn⟩
      · cases e
    · cases e
end
/-! ### the readings, by the text's facts -/
section
variable {X : Cx} {x : Str} {ps : List Str} {k : Nat} {p pos : Pos}
theorem pe_exc0V (G : ExcF X.K X.mg x (He.ga X.K x)) (hg : Gl X x := by rfl) (hdb : (x == ("__debug__" : Str)) = false := by decide) : PE X (.Call (.Name x p) [] [] pos) (tVal fun σ H Q => Q (.ref (He.ga X.K x)) none H) :=
  pe_of_mk (pmk_own0 PySem.F.excBase_ValueError G.ex G.gC G.kp (raises_own G.sub G.ty) hg hdb)
theorem pe_exc1V {e : Expr} {te : TE} (G : ExcF X.K X.mg x (He.ga X.K x)) (he : PE X e te) (hg : Gl X x := by rfl) (hs : starEach [e] X.env = (false, eval e X.env) :: starEach [] X.env := by rfl) (hdb : (x == ("__debug__" : Str)) = false := by decide) :
    PE X (.Call (.Name x p) [e] [] pos) (tVal fun σ H Q => te σ H fun _ H1 => Q (.ref (He.ga X.K x)) none H1) :=
  pe_of_mk (SkE.pmk_own1 PySem.F.excBase_ValueError G.ex G.gC G.kp (raises_own G.sub G.ty) hg he hs hdb)
theorem pe_excXV {e : Expr} {es : List Expr} {ta : TA} (T : XIs X.prog X.K x ps) (hsup : X.mg "super" = none) (hr : RoomG k X.A) (hm : X.mg x = some (.ref (He.ga X.K x))) (ha : PA X (e :: es) ta) (hg : Gl X x := by rfl)
    (hdb : (x == ("__debug__" : Str)) = false := by decide) (he : starEach (e :: es) X.env = (false, eval e X.env) :: starEach es X.env := by rfl) (hpl : (backTo pos (starEach es X.env)).any (·.1) = false := by rfl) :
    PE X (.Call (.Name x p) (e :: es) [] pos) (tVal (tMkX (He.ga X.K x) ps ta)) := by
  obtain ⟨fI, fd, cc, cda, t⟩ := T
  exact pe_of_mk (pmk_xi t hsup hr hm ha hg hdb he hpl)
theorem pe_excKV {ks : List Str} {arr : List (Nat × Nat)} {kws : List Keyword} {tk : TA} (T : XIs X.prog X.K x ps) (hkb : KBp ps ks arr) (hsup : X.mg "super" = none) (hr : RoomG k X.A) (hm : X.mg x = some (.ref (He.ga X.K x))) (hkw : PK X kws tk) (hg : Gl X x := by rfl)
    (hall : (backToKw pos (keywordEach kws X.env)).all (·.1.isSome) = true := by rfl) (hks : (backToKw pos (keywordEach kws X.env)).filterMap (·.1) = ks := by rfl)
    (hdb : (x == ("__debug__" : Str)) = false := by decide)
    (hpl : ((backTo pos (starEach [] X.env)).any (·.1) || (backToKw pos (keywordEach kws X.env)).any (·.1.isNone)) = false := by rfl) :
    PE X (.Call (.Name x p) [] kws pos) (tVal (tMkXK (He.ga X.K x) ps ks.length arr tk)) := by
  obtain ⟨fI, fd, cc, cda, t⟩ := T
  exact pe_of_mk (pmk_xiK t hkb hsup hr hm hkw hg hall hks hdb hpl)
end
end Py

/-! RCat: a list from two lists, an own object; a text many times. -/
namespace Py
open PySem PySem.Spec PyProof.Rows L2
variable [Wd]
/-! ### a list from two, an own object -/
def catD : D → D → Option D
  | .lst xs, .lst ys => if xs.length + ys.length ≤ LIM then some (.lst (xs ++ ys)) else none
  | _, _ => none
def uCatN (K : PySem.W.Frag) : R2 := fun x y H Q => ∃ (H0 : Hp) (O : Addr → Prop) (xs ys : List D), (∀ a, O a → H a ≠ none) ∧ DenC K H0 O H x (.lst xs) ∧ DenC K H0 O H y (.lst ys) ∧ xs.length + ys.length ≤ LIM ∧ ∀ p H', Grow H H' → H p = none → Top K (also O p) H' p (.lst (xs ++ ys)) → Q (.ref p) H'
theorem u_catN {X : Cx} : OpR X (binaryOp .Add) (uCatN X.K) := by
  intro pins s σ H x y v u Q I rx ry h
  obtain ⟨H0, O, xs, ys, hd, hx, hy, hl, q⟩ := h
  obtain ⟨a, vs, rfl, ha, sa⟩ := hx.lst
  obtain ⟨b, ws, rfl, hb, sb⟩ := hy.lst
  refine op_cat pins s σ H _ _ v u Q I rx ry ⟨a, b, vs, ws, rfl, rfl, ha, hb, lim_line (by rw [sa.length, sb.length]; exact hl), fun p hp => ?_⟩
  exact q p _ (Grow.new hp) hp (.lst upd_same (((sa.append sb).more hp).ext (Grow.new hp).ext))
theorem simN_cat {f : Cf} {ta tb : TE} {a b : CE} (ha : SimC f ta a) (hb : SimC f tb b) : SimN f (tOp (uCatN f.K) ta tb) (cOp catD a b) := fun P O σ H ρ Q rl w => by
  refine ha P O σ H ρ _ rl (M.wp_mono (M.wp_bind.mp w) (fun dx w1 x H1 g1 x1 => ?_) fun _ z => z)
  refine hb P O σ H1 ρ _ (rl.growTo g1) (M.wp_mono (M.wp_bind.mp w1) (fun dy w2 y H2 g2 y2 => ?_) fun _ z => z)
  unfold lift2 at w2
  split at w2
  · rename_i z e
    unfold catD at e
    split at e
    · split at e
      · rename_i hl
        cases e
        refine ⟨f.H0, O, _, _, ((rl.growTo g1).growTo g2).dom, x1.grow g2, y2, hl, fun p H' g3 hp t => ?_⟩
        exact w2 p H' ((g1.trans g2).trans g3.gr) ((g1.trans g2).fresh hp) t
      · cases e
    · cases e
  · exact w2.elim
/-! ### text * n -/
def mulS (x y : D) : Option D := match x, y with
  | .str a, .int n => if a.length ≤ 1000 ∧ 0 ≤ n ∧ n ≤ 1000 then some (.str (Txt.mul a n)) else none
  | _, _ => mulD x y
theorem mul_ok {a : Str} {n : Int} (h : a.length ≤ 1000 ∧ 0 ≤ n ∧ n ≤ 1000) : MulOk a n := by
  obtain ⟨h1, h2, h3⟩ := h
  refine ⟨by simp; omega, fun n1 _ z => ?_, fun n1 _ => ?_⟩
  · have h5 : (1000 : Int) ≤ (2 ^ 63 - 1) / n := by
      rw [Int.le_ediv_iff_mul_le (by omega)]
      omega
    omega
  · have h4 : a.length * n.toNat ≤ 1000 * 1000 := Nat.mul_le_mul h1 (by omega)
    unfold Builtin.Str.tooLong
    have := lim_line h4
    simpa using this
theorem u_mulS {X : Cx} : OpR X (binaryOp .Mult) (uOp X.K mulS) := by
  intro pins s σ H x y v u Q I rx ry h
  obtain ⟨H0, O, dx, dy, z, hd, hx, hy, e, q⟩ := h
  unfold mulS at e
  split at e
  · split at e
    · rename_i hc
      cases e; cases hx.str; cases hy.int
      obtain ⟨t, rfl⟩ := rx
      obtain ⟨t2, rfl⟩ := ry
      exact SB.mul (mul_ok hc) fun t' k => ⟨.str (Txt.mul _ _), H, I.tok _, ⟨_, rfl⟩, q _ _ (Grow.refl _) (.str _)⟩
    · cases e
  · exact u_mul pins s σ H x y v u Q I rx ry ⟨H0, O, _, _, z, hd, hx, hy, e, q⟩
end Py

/-! RP2: pairs with own objects; properties with little room. -/
namespace Py
open PySem PySem.Spec PyProof.Rows L2 StX
variable [Wd]
section
variable {f : Cf} {P : List Pin} {O : Addr → Prop} {σ : L2.St} {H H' : Hp} {ρ : Rho} {p : Addr}
theorem Rel.guardN (r : f.Rel P O σ H ρ) (g : Gr f.z O H H') (hp : H p = none) (ht : H' p ≠ none) : f.Rel P (also O p) σ H' ρ := by
  have x : Ext (also O p) H H' := fun a o n h => g.ext a o (fun z => n (.inl z)) h
  have mr : ∀ v e, Den f.K O H v e → Den f.K (also O p) H' v e := fun v e y => (y.more hp).ext x
  have h0p : f.H0 p = none := r.grow.fresh hp
  refine ⟨r.len, r.sdom, ?_, fun a h => .inl (r.sub a h), ?_, r.grow.trans (g.less r.sub), ?_, ?_, r.inj, fun q hq => ((r.held q hq).more hp).ext x, r.fix, g.tab r.tab⟩
  · intro a h
    rcases h with h | h
    · exact g.there (r.dom a h)
    · subst h; exact ht
  · intro a h
    rcases h with h | h
    · exact r.new a h
    · subst h; exact .inr h0p
  · intro j e h1
    obtain ⟨w, ew, xw⟩ := r.slot j e h1
    exact ⟨w, ew, mr _ _ xw⟩
  · intro j e h1
    obtain ⟨a, ew, oa, na, ta⟩ := r.mine j e h1
    exact ⟨a, ew, .inl oa, na, ta.map (g.onT oa) mr⟩
theorem Rel.apart (r : f.Rel P O σ H ρ) (hp : H p = none) : ∀ (j : Nat) (e : D), ρ[j]? = some (some (true, e)) → σ[j]? = some (some (V.ref p)) → False := fun j e q z => by
  obtain ⟨a, ew, oa, _⟩ := r.mine j e q
  rw [z] at ew; cases ew
  exact r.dom p oa hp
theorem Rel.setG (r : f.Rel P O σ H ρ) {i : Nat} {d : D} (fi : f.fix i = none) (op : O p) (h0 : f.H0 p = none) (t : Top f.K O H p d) (np : ∀ (j : Nat) (e : D), ρ[j]? = some (some (true, e)) → σ[j]? = some (some (V.ref p)) → False) : f.Rel P O (σ.set i (some (.ref p))) H (ρ.set i (some (true, d))) := by
  refine ⟨by rw [List.length_set, List.length_set]; exact r.len, r.sdom, r.dom, r.sub, r.new, r.grow, ?_, ?_, ?_, r.held, fun j a h => set_fix fi h (r.fix j a h), r.tab⟩
  · intro j e h1
    rcases get_set h1 with ⟨q1, q2⟩ | ⟨q1, q2⟩
    · cases q2
    · obtain ⟨w, ew, xw⟩ := r.slot j e q2
      exact ⟨w, by rw [List.getElem?_set_ne q1]; exact ew, xw⟩
  · intro j e h1
    rcases get_set h1 with ⟨q1, q2⟩ | ⟨q1, q2⟩
    · subst q1; cases q2
      exact ⟨p, set_at r.len h1, op, h0, t⟩
    · obtain ⟨a, ew, oa, na, ta⟩ := r.mine j e q2
      exact ⟨a, by rw [List.getElem?_set_ne q1]; exact ew, oa, na, ta⟩
  · intro j k a d1 d2 h3 h4 h5 h6
    have old : ∀ j e, i ≠ j → ρ[j]? = some (some (true, e)) → (σ.set i (some (.ref p)))[j]? = some (some (.ref p)) → False := fun j e n q z => by
      rw [List.getElem?_set_ne n] at z
      exact np j e q z
    rcases get_set h3 with ⟨q1, _⟩ | ⟨q1, q3⟩
    · rcases get_set h4 with ⟨p1, _⟩ | ⟨p1, p3⟩
      · rw [← q1, ← p1]
      · subst q1
        have : a = p := by
          rw [set_at r.len h3] at h5
          cases h5; rfl
        subst this
        exact (old k d2 p1 p3 h6).elim
    · rcases get_set h4 with ⟨p1, _⟩ | ⟨p1, p3⟩
      · subst p1
        have : a = p := by
          rw [set_at r.len h4] at h6
          cases h6; rfl
        subst this
        exact (old j d1 q1 q3 h5).elim
      · rw [List.getElem?_set_ne q1] at h5
        rw [List.getElem?_set_ne p1] at h6
        exact r.inj j k a d1 d2 q3 p3 h5 h6
end
/-- a, b = x, y; mi, mj: a new own object -/
def cPar2 (mi mj : Bool) (i j : Nat) (a b : CE) : CS := fun ρ => (a ρ).bind fun d => (b ρ).bind fun e => .ret (.next ((ρ.set i (some (mi, d))).set j (some (mj, e))))
section
variable {f : Cf} {i j : Nat} {t1 t2 : TE} {a b : CE}
theorem sim_parVN (fi : f.fix i = none) (fj : f.fix j = none) (ha : SimE f t1 a) (hb : SimN f t2 b) : SimS f (tPar i j (tCons t1 (tCons t2 tNil))) (cPar2 false true i j a b) := fun P O σ H ρ E r w => by
  refine ha P O σ H ρ _ r (M.wp_mono (M.wp_bind.mp w) (fun d w1 v H1 g1 x1 => ?_) fun _ z => z)
  refine hb P O σ H1 ρ _ (r.growTo g1) (M.wp_mono (M.wp_bind.mp w1) (fun e w2 p H2 g2 hp t => ?_) fun _ z => z)
  refine ⟨v, .ref p, rfl, ?_⟩
  exact w2 _ _ H2 (((r.growTo g1).setSlot fi x1).setOwn fj g2 hp t)
theorem sim_parNV (fi : f.fix i = none) (fj : f.fix j = none) (ha : SimN f t1 a) (hb : SimE f t2 b) : SimS f (tPar i j (tCons t1 (tCons t2 tNil))) (cPar2 true false i j a b) := fun P O σ H ρ E r w => by
  refine ha P O σ H ρ _ r (M.wp_mono (M.wp_bind.mp w) (fun d w1 p H1 g1 hp t => ?_) fun _ z => z)
  have r1 := r.guardN g1 hp t.there
  refine hb P (also O p) σ H1 ρ _ r1 (M.wp_mono (M.wp_bind.mp w1) (fun e w2 v H2 g2 x2 => ?_) fun _ z => z)
  have r2 := (r1.growTo g2).setG fi (.inr rfl) (r.grow.fresh hp) (t.map (g2.onT (.inr rfl)) fun v e y => y.ext g2.ext) (r.apart hp)
  exact ⟨.ref p, v, rfl, w2 _ _ H2 (r2.setSlot fj x2)⟩
theorem sim_parNN (fi : f.fix i = none) (fj : f.fix j = none) (ha : SimN f t1 a) (hb : SimN f t2 b) : SimS f (tPar i j (tCons t1 (tCons t2 tNil))) (cPar2 true true i j a b) := fun P O σ H ρ E r w => by
  refine ha P O σ H ρ _ r (M.wp_mono (M.wp_bind.mp w) (fun d w1 p H1 g1 hp t => ?_) fun _ z => z)
  have r1 := r.guardN g1 hp t.there
  refine hb P (also O p) σ H1 ρ _ r1 (M.wp_mono (M.wp_bind.mp w1) (fun e w2 q H2 g2 hq t2 => ?_) fun _ z => z)
  have r2 := r1.setG fi (.inr rfl) (r.grow.fresh hp) t (r.apart hp)
  exact ⟨.ref p, .ref q, rfl, w2 _ _ H2 (r2.setOwn fj g2 hq t2)⟩
end
/-! ### properties -/
theorem RoomK.in1 {s k : Nat} {A : Around} (r : RoomK (s + 1) k A) : RoomG k A.in1 :=
  ⟨⟨r.hd, by have := r.dp; show A.depth + 3 * k + 5 < _; omega, by have := r.un; show A.units + 1 + 16 * k + 200 < _; omega⟩, r.bare⟩
structure PropOk (P : Program) (w : World) (K : PySem.W.Frag) (mg : Str → Option Value) (base : Heap) (k : Nat) (c n : Str) (z : Bool) (F : List D → M D) : Prop where
  ex : ∃ p g, PropOf K (He.ga K c) n p g ∧ FnA P w K mg base (L2.CX P w) k g (spD K mg z 1 F)
section
variable {X : Cx} {k m : Nat} {c n : Str} {z : Bool} {F : List D → M D} {e : Expr} {pos : Pos} {ta : TE} {E : XK}
theorem pe_propD (he : PE X e ta) (cl : Cls X.K (He.ga X.K c)) (C : PropOk X.prog X.w X.K X.mg X.base k c n z F) (hr : RoomK (m + 1) k X.A) (hx : Passes (L2.CX X.prog X.w) X.nox E)
    (hab : attributeBase e n X.env (eval e X.env) = eval e X.env := by rfl) : PE X (.Attribute e n pos) (tProp (He.ga X.K c) (spD X.K X.mg z 1 F) [] E ta) := by
  obtain ⟨p, g, hp, G⟩ := C.ex
  constructor
  intro pins s0 σ H0 Q I0 h0
  refine attr_of hab (thn (he.run pins s0 σ H0 _ I0 h0) fun u s ⟨x, H, I, rx, a, dx, fs, ex, ea, q⟩ => ?_)
  subst ex
  obtain rfl : u = Value.ref a := rx
  obtain ⟨mA, O, _, _, _, _⟩ := ins_get I.hok ea
  obtain ⟨od, J, _⟩ := O.look
  obtain ⟨rest, rec⟩ := hp.rec_
  have I1 := I.tok (s.toks + 1)
  have isC : (PySem.W.clsIn X.K (He.ga X.K c)).isSome = true := by
    obtain ⟨cd, z, _⟩ := PySem.W.any_some cl.hd
    rw [z]; rfl
  have pg := PySem.W.plainGet_of (cl.get n)
  refine PySem.W.get_bind I.kIn J pg.1 (PySem.W.findObj_data isC hp.at_ hp.get hp.tak) pg.2 (wpAny_call (PySem.W.prop_get (s := { s with toks := s.toks + 1 }) I.kIn rec ?_))
  refine codeAny_mono (G X.A.in1 X.stack { s with toks := s.toks + 1 } H [.ref a] [.ref a] Q E hr.in1 I1.env0.in1 (.cons rfl .nil) q) fun r s1 c1 => ?_
  match r, c1 with
  | .error er, c1 => exact (hx pins σ H { s with toks := s.toks + 1 } er s1 (I1.wish _) c1).elim
  | .ok (.ret u), c1 =>
    obtain ⟨v, H1, I3, rv, q3⟩ := I1.after c1
    show wpAny _ _ (handedOut u) _ _ _
    rw [PySem.W.handedOut_of (handed_of rv)]
    exact wpAny_pure ⟨v, H1, I3, rv, q3⟩
  | .ok .next, c1 => exact c1.elim
  | .ok .brk, c1 => exact c1.elim
  | .ok .cont, c1 => exact c1.elim
end
end Py

/-! RY2: heads with properties and dicts of texts. -/
namespace Py
open PySem PySem.Spec PyProof.Rows L2

/-! ### properties -/
def pgA (K : PySem.W.Frag) (c n : Str) : Addr := match PySem.W.findIn K (.ref (He.ga K c)) n with
  | some (some (.ref p)) => (match PySem.W.recIn K p "property" with
    | some (.ref g :: _) => g
    | _ => 0)
  | _ => 0
def propB (K : PySem.W.Frag) (c n : Str) : Bool := match PySem.W.findIn K (.ref (He.ga K c)) n with
  | some (some (.ref p)) => decide (PySem.W.specialIn K (.ref p) "__get__" = some (some (.builtin "property.__get__"))) && (decide (PySem.W.takesIn K (.ref p) = some true) && (match PySem.W.recIn K p "property" with
    | some (.ref _ :: _) => true
    | _ => false))
  | _ => false
theorem propB_ok {K : PySem.W.Frag} {c n : Str} (h : propB K c n = true) : ∃ p, PropOf K (He.ga K c) n p (pgA K c n) := by
  unfold propB at h
  unfold pgA
  split at h
  · rename_i p hp
    simp only [Bool.and_eq_true, decide_eq_true_eq] at h
    obtain ⟨h1, h2, h3⟩ := h
    split at h3
    · rename_i g rest hr
      exact ⟨p, hp, h1, h2, rest, hr⟩
    · cases h3
  · cases h
/-! ### defs by their addresses -/
def fnWa (K : PySem.W.Frag) (a : Addr) : He.FnW := match K.lookup a with
  | some ⟨_, _, .func fd, _⟩ => some (fd.name, fd.qualname, fd.params, fd.body, fd.scope, fd.globals, fd.closure, fd.builtins)
  | _ => none
def okA (K : PySem.W.Frag) (a : Addr) (d : He.DefD) : Bool := PySem.W.keepIn K (.ref a) && (match K.lookup a with
  | some ⟨_, _, .func fd, _⟩ => PySem.W.codeIn K fd.code d.qual && (He.dflB K fd.defaults (d.dvs K) && He.kwdB K fd.kwdefaults (d.kws K))
  | _ => false)
theorem funD_at {K : PySem.W.Frag} {a : Addr} {d : He.DefD} (e : fnWa K a = d.val) (c : okA K a d = true) : ∃ fd, FunD K d.name d.qual d.params d.body d.scope (d.dvs K) (d.kws K) a fd := by
  obtain ⟨kp, c2⟩ := He.ba c
  unfold fnWa at e
  cases q : K.lookup a with
  | none =>
    rw [q] at c2
    cases c2
  | some o =>
    obtain ⟨oc, od, dt, osl⟩ := o
    rw [q] at c2 e
    cases dt with
    | func fd =>
      obtain ⟨n1, n2, n3, n4, n5, n6, n7, n8, n9, n10, n11, n12, n13, n14, n15⟩ := fd
      have e2 : (some (n1, n2, n3, n4, n5, n6, n7, n15) : He.FnW) = some (d.name, d.qual, d.params, .stmts d.body, d.scope, mainGlobals, [], builtinsNs) := e
      simp only [Option.some.injEq, Prod.mk.injEq] at e2
      obtain ⟨h1, h2, h3, h4, h5, h6, h7, h8⟩ := e2
      subst h1 h2 h3 h4 h5 h6 h7 h8
      have c3 : (PySem.W.codeIn K n13 d.qual && (He.dflB K n8 (d.dvs K) && He.kwdB K n9 (d.kws K))) = true := c2
      obtain ⟨k1, k2⟩ := He.ba c3
      obtain ⟨k3, k4⟩ := He.ba k2
      exact ⟨_, ⟨oc, od, n8, n9, n10, n11, n12, n13, n14, osl, rfl, q, k1, He.dflB_ok k3, He.kwdB_ok k4⟩, kp⟩
    | _ => cases c2
/-! ### the Hook -/
abbrev SeenW : Type := Seen × (Bool × List He.FnW) × List (Option (List (Option (Str × Int))))
/-- pf: getters (their place: class, name); ts: dicts, their keys -/
structure SaysW (fa : List He.Fa) (fn : List He.DefD) (tf : List He.Defn) (ex : PySem.W.Frag → Bool) (pf : List (Str × Str × He.DefD)) (ts : List (Str × List Str)) (w : World) (h : Heap) (K : PySem.W.Frag) : Prop where
  y : SaysY fa fn tf ex h K
  pg : ∀ (i : Nat) c n d, pf[i]? = some (c, n, d) → ∃ p fd, PropOf K (He.ga K c) n p (pgA K c n) ∧ FunD K d.name d.qual d.params d.body d.scope (d.dvs K) (d.kws K) (pgA K c n) fd
  kd : ∀ (i : Nat) c ks, ts[i]? = some (c, ks) → ∃ es n, KDict K w (He.ga K c) es n
def obsWK (fa : List He.Fa) (fn : List He.DefD) (tf : List He.Defn) (ex : PySem.W.Frag → Bool) (pf : List (Str × Str × He.DefD)) (ts : List (Str × List Str)) (g : Addr → Option Obj) (K : PySem.W.Frag) : SeenW :=
  (obsYK fa fn tf ex g K, (pf.all (fun p => propB K p.1 p.2.1 && okA K (pgA K p.1 p.2.1) p.2.2), pf.map fun p => fnWa K (pgA K p.1 p.2.1)), ts.map fun t => He.dicW K (He.ga K t.1))
def valW (fn : List He.DefD) (pf : List (Str × Str × He.DefD)) (ts : List (Str × List Str)) (w : World) : SeenW := ((He.valD fn, true), (true, pf.map fun p => p.2.2.val), ts.map fun t => some (He.keysIn w.params t.2))
def obsW (n : Nat) (fa : List He.Fa) (fn : List He.DefD) (tf : List He.Defn) (ex : PySem.W.Frag → Bool) (pf : List (Str × Str × He.DefD)) (ts : List (Str × List Str)) (g : Addr → Option Obj) : SeenW := obsWK fa fn tf ex pf ts g (He.frT g (reach2 g n))
theorem saysW_of {n : Nat} {fa : List He.Fa} {fn : List He.DefD} {tf : List He.Defn} {ex : PySem.W.Frag → Bool} {pf : List (Str × Str × He.DefD)} {ts : List (Str × List Str)} {w : World} {h : Heap} (e : obsW n fa fn tf ex pf ts h.get? = valW fn pf ts w) : SaysW fa fn tf ex pf ts w h (He.frT h.get? (reach2 h.get? n)) := by
  have e1 : obsY n fa fn tf ex h.get? = (He.valD fn, true) := congrArg (fun z : SeenW => z.1) e
  have y := saysY_of e1
  unfold obsW at e
  generalize He.frT h.get? (reach2 h.get? n) = K at e y ⊢
  have e2 : pf.all (fun p => propB K p.1 p.2.1 && okA K (pgA K p.1 p.2.1) p.2.2) = true := congrArg (fun z : SeenW => z.2.1.1) e
  have e3 : (pf.map fun p => fnWa K (pgA K p.1 p.2.1)) = pf.map fun p => p.2.2.val := congrArg (fun z : SeenW => z.2.1.2) e
  have e4 : (ts.map fun t => He.dicW K (He.ga K t.1)) = ts.map fun t => some (He.keysIn w.params t.2) := congrArg (fun z : SeenW => z.2.2) e
  refine ⟨y, fun i c n d hi => ?_, fun i c ks hi => ?_⟩
  · have q := List.all_eq_true.mp e2 _ (List.mem_of_getElem? hi)
    rw [Bool.and_eq_true] at q
    obtain ⟨p, hp⟩ := propB_ok q.1
    have z : (pf.map fun p => fnWa K (pgA K p.1 p.2.1))[i]? = (pf.map fun p => p.2.2.val)[i]? := by rw [e3]
    rw [List.getElem?_map, List.getElem?_map, hi] at z
    obtain ⟨fd, hf⟩ := funD_at (Option.some.inj z) q.2
    exact ⟨p, fd, hp, hf⟩
  · have z : (ts.map fun t => He.dicW K (He.ga K t.1))[i]? = (ts.map fun t => some (He.keysIn w.params t.2))[i]? := by rw [e4]
    rw [List.getElem?_map, List.getElem?_map, hi] at z
    exact He.dicW_ok (Option.some.inj z)
def hookW (n : Nat) (fa : List He.Fa) (fn : List He.DefD) (tf : List He.Defn) (ex : PySem.W.Frag → Bool) (pf : List (Str × Str × He.DefD)) (ts : List (Str × List Str)) : PySem.W.Hook where
  α := SeenW
  val := fun w => valW fn pf ts w
  obs := fun s => obsW n fa fn tf ex pf ts s.heap.get?
  says := fun w h => ∃ K : PySem.W.Frag, K.In h ∧ SaysW fa fn tf ex pf ts w h K
  keeps := fun _ _ _ ⟨K, hK, c⟩ k => ⟨K, hK.keeps k, ⟨⟨c.y.d, c.y.more, c.y.sys, c.y.hd, c.y.out, fun p hp => k _ _ (c.y.empty p hp)⟩, c.pg, c.kd⟩⟩
  of := fun _ _ e => ⟨_, He.frT_in, saysW_of e⟩
theorem obsW_eq {n : Nat} {fa : List He.Fa} {fn : List He.DefD} {tf : List He.Defn} {ex : PySem.W.Frag → Bool} {pf : List (Str × Str × He.DefD)} {ts : List (Str × List Str)} {g : Addr → Option Obj} {s : Shared} (h : ∀ a, g a = s.heap.get? a) : obsW n fa fn tf ex pf ts g = (hookW n fa fn tf ex pf ts).obs s := by
  rw [show g = s.heap.get? from funext h]; rfl
/-! ### instances, isinstance of own classes -/
def instB (K : PySem.W.Frag) (c : Str) : Bool := (He.Fa.cls c).ok K && (decide (PySem.W.findIn K (.ref (He.ga K c)) "__class__" = some (some (.builtin "object.__class__"))) && (decide (PySem.W.specialIn K (.builtin "object.__class__") "__get__" = some (some (.builtin "getset_descriptor.__get__"))) &&
  (decide (PySem.W.takesIn K (.builtin "object.__class__") = some true) && decide (PySem.W.mroIn K (He.ga K c) (.type "object") = some true))))
theorem instB_ok {K : PySem.W.Frag} {c : Str} (h : instB K c = true) : InsF K c := by
  unfold instB at h
  simp only [Bool.and_eq_true, decide_eq_true_eq] at h
  exact ⟨He.cls_ok h.1, h.2.1, h.2.2.1, h.2.2.2.1, h.2.2.2.2⟩
def isOB (K : PySem.W.Frag) (t : Str) (cs : List (Str × Bool)) : Bool := ["NoneType", "bool", "int", "str", "tuple", "list", "dict"].all (fun n => decide (PySem.W.kitOne K (.type n) (.ref (He.ga K t)) = some false)) && cs.all fun p => decide (PySem.W.kitOne K (.ref (He.ga K p.1)) (.ref (He.ga K t)) = some p.2) && instB K p.1
theorem isOB_ok {K : PySem.W.Frag} {t : Str} {cs : List (Str × Bool)} (h : isOB K t cs = true) : IsF K t cs := by
  unfold isOB at h
  rw [Bool.and_eq_true] at h
  refine ⟨fun n hn => of_decide_eq_true (List.all_eq_true.mp h.1 n hn), fun p hp => ?_⟩
  have q := List.all_eq_true.mp h.2 p hp
  rw [Bool.and_eq_true] at q
  exact ⟨of_decide_eq_true q.1, instB_ok q.2⟩
end Py

/-! RE2: != of dicts by data. -/
namespace Py
open PySem PySem.Spec PyProof.Rows L2 PySem.W
section
variable {prog : Program} {w : World} {A : Around} {E : Value → Shared → Prop} {s : Shared}
theorem ne_dict_none {a : Addr} {Q : Value → Shared → Prop} (ha : s.TypeIs (.ref a) "dict") (hu : A.units + 4 < cLine) (h : Q (.bool true) s) : wpAny (model prog w) A (compareOp .NotEq (.ref a) .none) Q E s := by
  show wpAny _ A (richCompare .NotEq _ _) Q E s
  have hb : s.TypeIs .none "NoneType" := rfl
  rcases hi : cmpInfo CmpOp.NotEq with ⟨sym, f, r⟩
  have h1 := PySem.F.slot_dict_ne
  have h2 := PySem.F.slot_NoneType_ne_refl
  rw [hi] at h1 h2
  simp only [richCompare, hi, ha.oneThing_none]
  try with_reducible refine wpAny_holding ?_
  refine wpAny_bind (wpAny_cRoomFor_or (.inr (by omega)) ?_)
  refine wpAny_bind (wpAny_typeOf ha (wpAny_bind (wpAny_typeOf hb ?_)))
  have hne : (Value.type "dict" != Value.type "NoneType") = true := by decide
  have hsub : isSubtype (.type "NoneType") (.type "dict") = pure false := by rw [isSubtype_type]; kernel_rfl
  simp only [hne, if_true]
  refine wpAny_bind (wpAny_of_eq hsub ?_)
  simp only [Bool.false_eq_true, if_false, Bool.not_false, if_true]
  have c1 : ∀ {Q' : Value → Shared → Prop} {E' : Value → Shared → Prop}, Q' .notImplemented s → wpAny (model prog w) A (call (.builtin "dict.__ne__") [.ref a, .none]) Q' E' s := fun {Q' E'} q => by
    refine wpAny_call_entry PySem.F.slot_dict_ne ha PySem.F.entry_dict_ne ?_ (PySem.F.args_dict_ne_2 _ _)
    show wpAny _ _ (Builtin.Dict.dictSlotArgs "__ne__" ⟨[.ref a, .none], []⟩ >>= _) _ _ s
    refine wpAny_bind ?_
    unfold Builtin.Dict.dictSlotArgs
    refine wpAny_bind (wpAny_notOrdered_dict ha ?_)
    show wpAny _ _ (pure (Value.ref a, Value.none)) _ _ s
    refine wpAny_pure ?_
    refine wpAny_bind (wpAny_isInstance (T := "NoneType") hb hsub ?_)
    simp only [Bool.not_false, if_true]
    exact wpAny_bind (wpAny_rule (wpAny_pure ⟨_, rfl, q⟩))
  have c2 : ∀ {Q' : Value → Shared → Prop} {E' : Value → Shared → Prop}, Q' .notImplemented s → wpAny (model prog w) A (call (.builtin "NoneType.__ne__") [.none, .ref a]) Q' E' s := fun {Q' E'} q => by
    refine wpAny_call_entry PySem.F.slot_NoneType_ne hb PySem.F.entry_NoneType_ne ?_ (PySem.F.args_NoneType_ne_2 _ _)
    obtain ⟨hp, g, d, tk, os⟩ := s
    wp_walk
    exact ⟨_, rfl, q⟩
  refine wpAny_bind (m := tryCompare _ _ _) (wpAny_tryCompare_declines ha h1 (c1 ⟨rfl, ?_⟩))
  refine wpAny_bind (m := tryCompare _ _ _) (wpAny_tryCompare_declines hb h2 (c2 ⟨rfl, ?_⟩))
  exact wpAny_bind (wpAny_rule (wpAny_bind (wpAny_of_eq (show isSame (.ref a) .none = pure false from rfl) (wpAny_pure h))))
end
variable [Wd]
/-- each key's value is there and the same -/
def hitsD (es : List (D × D)) : List (D × D) → Option Bool
  | [] => some true
  | (k, d) :: r => match keyOf k with
    | some k => (match dGet es k with
      | none => some false
      | some e => if okEq d e = true then (hitsD es r).map fun b => eqB d e && b else none)
    | none => none
def neE (x y : D) : Option D := match x, y with
  | .dct xs, .dct ys => if xs.length = ys.length then (hitsD ys xs).map fun b => .bl (!b) else some (.bl true)
  | .dct _, .non => some (.bl true)
  | x, y => neD x y
section
variable {X : Cx} {pins : List (Addr × Obj)} {σ : L2.St} {H : Hp} {s : Shared} {O O' : Addr → Prop}
theorem hits_of (I : Inv X pins σ H s) {A : Around} (hu : A.in1.units + 64 < cLine) {ls : List (Key × V)} {ys : List (D × D)} {vb : List (Key × Value)} (sy : DenKV X.K O' H ls ys) (rb : KV ls vb) :
    ∀ {ks : List (Key × V)} {xs : List (D × D)} {va : List (Key × Value)} {b : Bool}, DenKV X.K O H ks xs → KV ks va → hitsD ys xs = some b → KeqHits A.in1 s vb va b
  | _, _, _, b, .nil, .nil, e => by cases e; exact .nil
  | _, _, _, b, .cons (k := k) (v := v) (d := d) (es := es) hd sx, .cons (b := q) h t, e => by
    obtain ⟨h1, h2⟩ := h
    obtain ⟨key, u⟩ := q
    have h1' : k = key := h1
    subst h1'
    simp only [hitsD, keyOf_keyD] at e
    have rr : RelO (valV ls k) (valueAt vb k) := rb.val k
    cases g : dGet ys k with
    | none =>
      rw [g] at e
      cases e
      rw [(sy.get k).2 g] at rr
      refine .miss ?_
      cases z : valueAt vb k with
      | none => rfl
      | some y => rw [z] at rr; exact rr.elim
    | some ed =>
      rw [g] at e
      dsimp only at e
      split at e
      · rename_i hc
        obtain ⟨x, ex, dx⟩ := (sy.get k).1 ed g
        rw [ex] at rr
        obtain ⟨y, hy, ry⟩ := rr.some_of
        cases z : hitsD ys es with
        | none => rw [z] at e; cases e
        | some b' =>
          rw [z] at e
          cases e
          obtain ⟨p1, p2, p3⟩ := okEq_of hc
          obtain ⟨as, ra⟩ := hd.reads I u h2 p1
          obtain ⟨bs, rb2⟩ := dx.reads I y ry p2
          have d1 := toP_plain d p1
          have d2 := toP_plain ed p2
          exact .hit hy (SeqAt.eqAt_plain _ _ A.in1 s _ _ _ _ ra rb2 d1.1 d2.1 (by rw [d1.2, d2.2]; omega)) (hits_of I hu sy rb sx t z)
      · cases e
end
theorem u_neE {X : Cx} (hu : X.A.units + 66 < cLine) : OpR X (compareOp .NotEq) (uOp X.K neE) := by
  intro pins s σ H x y v u Q I rx ry h
  obtain ⟨H0, O, dx, dy, z, hd, hx, hy, e, q⟩ := h
  unfold neE at e
  split at e
  · rename_i xs ys
    obtain ⟨a, ks, ex, ha, sa⟩ := hx.dct
    obtain ⟨b, ls, ey, hb, sb⟩ := hy.dct
    subst ex ey
    cases (show v = Value.ref a from rx)
    cases (show u = Value.ref b from ry)
    obtain ⟨_, ya, va, ra, da⟩ := dk_rd I.hok ha
    obtain ⟨_, yb, vb, rb, db⟩ := dk_rd I.hok hb
    split at e
    · rename_i hl
      cases hh : hitsD ys xs with
      | none => rw [hh] at e; cases e
      | some r =>
        rw [hh] at e
        cases e
        refine keq_ne (knd := mixKind X.prog X.w) (r := r) ya yb da db (by omega) (fun _ => hits_of I (A := X.A) (by show X.A.units + 1 + 64 < cLine; omega) sb rb sa ra hh) ?_
        have el : va.length = vb.length := by rw [← ra.length, ← rb.length, sa.length, sb.length]; exact hl
        rw [show (va.length == vb.length && r) = r from by rw [el]; simp]
        exact ⟨.bl _, H, I, rfl, q _ _ (Grow.refl _) (.bl _)⟩
    · rename_i hl
      cases e
      refine keq_ne (knd := mixKind X.prog X.w) (r := true) ya yb da db (by omega) (fun el => ?_) ?_
      · exact absurd (by rw [← sa.length, ← sb.length, ra.length, rb.length]; exact el) hl
      · have el : (va.length == vb.length) = false := by
          rw [beq_eq_false_iff_ne]
          intro el
          exact hl (by rw [← sa.length, ← sb.length, ra.length, rb.length]; exact el)
        rw [el]
        exact ⟨.bl true, H, I, rfl, q _ _ (Grow.refl _) (.bl _)⟩
  · cases e
    obtain ⟨a, ks, ex, ha, sa⟩ := hx.dct
    subst ex
    cases (show v = Value.ref a from rx)
    have ey : y = .non := by cases hy.bare; rfl
    subst ey
    cases (show u = Value.none from ry)
    obtain ⟨_, ya, va, ra, da⟩ := dk_rd I.hok ha
    exact ne_dict_none da.typeIs (by omega) ⟨.bl true, H, I, rfl, q _ _ (Grow.refl _) (.bl _)⟩
  · exact u_ne (by omega) pins s σ H x y v u Q I rx ry ⟨H0, O, dx, dy, z, hd, hx, hy, e, q⟩
end Py

/-! RD2: x = {.. for ..}, x a local name. -/
namespace Py
open PySem PySem.Spec PyProof.Rows L2
theorem sw_trueD {kx vx : Expr} {gs : List Comprehension} {scope : Scope} {pos py : Pos} {y : Str} {l : Nat} {env : Env} (hk : env.scope.kind = .function) (hy : env.scope.names.lookup y = some .local) (hl : (py.line == pos.line) = true)
    (ha : (scope.names.any fun (n, k) => n == y && (k == .local || k == .cell)) = false) : swapsWith (.DictComp kx vx gs scope pos) (some (.Name y py)) l env = pure true := by
  have ky : env.kindOf y = some .local := hy
  have hb : env.blockKind = .function := by unfold Env.blockKind; rw [hk]; rfl
  unfold swapsWith
  simp only [hb, ky, ha, Expr.pos, hl]
  rfl
theorem ps_setDc {X : Cx} {i : Nat} {y : Str} {py : Pos} {kx vx tg iter : Expr} {ifs : List Expr} {scope : Scope} {own : List (Str × Nat)} {pos spos : Pos} {wi : TI} {g : TG} {tt : TT} {tk tv : TE} (hc : X.calm = true) (hN : X.N.Nodup) (hy : X.N[i]? = some y) (hyl : X.env.scope.names.lookup y = some .local)
    (hsw : swapsWith (.DictComp kx vx [⟨tg, iter, ifs, 0⟩] scope pos) (some (.Name y py)) spos.line X.env = pure true) (hi : PI X tg iter wi) (ok : BlkOk X.N X.env.scope scope own)
    (hg : ∀ (s : Shared) (H : Hp) (C : Addr) (cl : List (Str × Addr)) (fp : List Addr), PG (X.blk s H scope (compEnvC scope cl C X.env) fp) tg g) (ht : ∀ (s : Shared) (H : Hp) (C : Addr) (cl : List (Str × Addr)) (fp : List Addr), PTs (X.blk s H scope (compEnvC scope cl C X.env) fp) ifs tt)
    (hk : ∀ (s : Shared) (H : Hp) (C : Addr) (cl : List (Str × Addr)) (fp : List Addr), PE (X.blk s H scope (compEnvC scope cl C X.env) fp) kx tk)
    (he : ∀ (s : Shared) (H : Hp) (C : Addr) (cl : List (Str × Addr)) (fp : List Addr), PE (X.blk s H scope (compEnvC scope cl C X.env) fp) vx tv) (hs : ∀ x, foldedSetIterable iter X.env x = pure x := by intro _; rfl) :
    PS X (.Assign [.Name y py] (.DictComp kx vx [⟨tg, iter, ifs, 0⟩] scope pos) spos) (tAsg (tDc wi g tt tk tv (own.map (·.2))) (gName i)) := by
  refine ⟨fun pins s σ H D I h => ?_⟩
  rw [exec_Assign_Name_used _ _ _ _ hsw]
  refine wpAny_bind (wpAny_standAt (wpAny_bind ?_))
  show wpAny _ X.A (do let _ ← comprehension (.DictComp kx vx [⟨tg, iter, ifs, 0⟩] scope pos) scope X.env (firstIterPos [⟨tg, iter, ifs, 0⟩] pos) newDict false (eval iter X.env) (some (assign (.Name y py) X.env))) _ _ s
  have h : tDc wi g tt tk tv (own.map (·.2)) σ H (fun x H1 => gName i x σ H1 D.nx) := h
  refine wpAny_bind (thn (dc_core (Qf := fun _ s' => SP X pins D .next s') hc hN I hi ok hg ht hk he hs h fun L C s' m H' I' q hn f => ?_) fun _ s' hq => wpAny_pure (wpAny_pure hq))
  show wpAny _ _ (assign (.Name y py) X.env (.ref L)) _ _ _
  refine wpAny_assign_Name (store_ok2 (v := V.ref L) I' hN hy (.inl hyl) rfl (fun s2 I2 ⟨a, sb, ha⟩ => ?_) (.inr hyl))
  obtain ⟨f0, f1, f2, f3, f4, f5⟩ := f
  have haC : C ≠ a := by
    rcases ha with z | z
    · rw [z]; exact f1
    · exact fun e => f4 y a z e.symm
  refine ⟨m, hn.sameBut sb haC, fun h3 sb3 => ?_⟩
  exact ⟨_, H', I2.turned (t' := s2.toks) (fun b o hb e => (sb3.2 b hb).trans e) f0 f1 f3 f4 f5, q⟩
end Py

/-! RM2: computing with computations (framework 2). -/
namespace Py
open PySem L2
variable [Wd]

/-- no error, and Q of every end -/
@[irreducible] def Ok {α : Type} (m : M α) (Q : α → Prop) : Prop := m.wp Q (fun _ => False)
theorem Ok.wp {α : Type} {m : M α} {Q : α → Prop} (h : Ok m Q) : m.wp Q (fun _ => False) := by unfold Ok at h; exact h
theorem Ok.of {α : Type} {m : M α} {Q : α → Prop} (h : m.wp Q (fun _ => False)) : Ok m Q := by unfold Ok; exact h
theorem ok_ret {α : Type} {a : α} {Q : α → Prop} (h : Q a) : Ok (M.ret a) Q := .of h
theorem ok_draw {α : Type} {n : Nat} {k : Nat → M α} {Q : α → Prop} (h : ∀ i, i < n → Ok (k i) Q) : Ok (M.draw n k) Q := .of fun i hi => (h i hi).wp
theorem ok_mono {α : Type} {m : M α} {Q Q' : α → Prop} (h : Ok m Q) (k : ∀ a, Q a → Q' a) : Ok m Q' := .of (M.wp_mono h.wp k fun _ z => z)
theorem ok_then {α β : Type} {m : M α} {f : α → M β} {R : α → Prop} {Q : β → Prop} (h : Ok m R) (k : ∀ a, R a → Ok (f a) Q) : Ok (m.bind f) Q := .of (M.wp_bind.mpr (M.wp_mono h.wp (fun a ha => (k a ha).wp) fun _ z => z))
theorem noErr_keep {α : Type} {m : M α} {Q : α → Prop} (h : Ok m Q) : Ok (noErr m) Q := by
  refine .of ?_
  replace h := h.wp
  induction m with
  | ret a => exact h
  | err x => exact h.elim
  | stuck => exact h
  | draw n k ih => exact fun i hi => ih i (h i hi)
theorem isi_ss (x : Str) : isiD .str (.str x) = some (.bl true) := rfl
theorem isi_st (x : List D) : isiD .str (.tup x) = some (.bl false) := rfl
theorem isi_tt (x : List D) : isiD .tuple (.tup x) = some (.bl true) := rfl
theorem isi_ts (x : Str) : isiD .tuple (.str x) = some (.bl false) := rfl
theorem isi_dd (x : List (D × D)) : isiD .dict (.dct x) = some (.bl true) := rfl
theorem len_lst (x : List D) : lenD [.lst x] = some (.int x.length) := rfl
theorem len_tup (x : List D) : lenD [.tup x] = some (.int x.length) := rfl
theorem len_scr (x : List Int) : lenD [.scr x] = some (.int x.length) := rfl
theorem len_txt {x : Str} (h : x.length ≤ LIM) : lenD [.str x] = some (.int x.length) := by
  show (if x.length ≤ LIM then some (D.int x.length) else none) = _
  rw [if_pos h]
theorem lt_int' (i j : Int) : ltD (.int i) (.int j) = some (.bl (decide (i < j))) := rfl
theorem le_int' (i j : Int) : leD (.int i) (.int j) = some (.bl (decide (i ≤ j))) := rfl
theorem add_int' (i j : Int) : addD (.int i) (.int j) = some (.int (i + j)) := rfl
theorem sub_int' (i j : Int) : subD (.int i) (.int j) = some (.int (i - j)) := rfl
/-! ### equality of texts and ints -/
theorem eq_int (i j : Int) : eqD (.int i) (.int j) = some (.bl (decide (i = j))) := by
  unfold eqD okEq eqB
  simp [D.pl, D.dp, D.toP, PyData.eqv]
  rw [Bool.eq_iff_iff]; simp
theorem eq_str (i j : Str) : eqD (.str i) (.str j) = some (.bl (decide (i = j))) := by
  unfold eqD okEq eqB
  simp [D.pl, D.dp, D.toP, PyData.eqv]
  rw [Bool.eq_iff_iff]; simp
/-! ### letters, names, kinds -/
def Letter (x : Str) : Prop := ∃ c, x = ⟨#[c]⟩ ∧ 65 ≤ c ∧ c ≤ 90
def Name (x : Str) : Prop := 1 ≤ x.length ∧ x.length ≤ 8 ∧ ∀ c ∈ x.cps.toList, 97 ≤ c ∧ c ≤ 122
def yesD : Option D → Bool
  | some (.bl b) => b
  | _ => false
theorem yes_of_yesD {o : Option D} (h : yesD o = true) : o = some (.bl true) := by
  unfold yesD at h
  split at h
  · rw [h]
  · cases h
theorem in_great {c : Nat} (h1 : 65 ≤ c) (h2 : c ≤ 90) : inD (.str ⟨#[c]⟩) (.str "ABCDEFGHIJKLMNOPQRSTUVWXYZ") = some (.bl true) := by
  refine yes_of_yesD ?_
  have : ∀ c, c < 91 → 65 ≤ c → yesD (inD (.str ⟨#[c]⟩) (.str "ABCDEFGHIJKLMNOPQRSTUVWXYZ")) = true := by decide +kernel
  exact this c (by omega) h1
theorem in_small {c : Nat} (h1 : 97 ≤ c) (h2 : c ≤ 122) : inD (.str ⟨#[c]⟩) (.str "abcdefghijklmnopqrstuvwxyz") = some (.bl true) := by
  refine yes_of_yesD ?_
  have : ∀ c, c < 123 → 97 ≤ c → yesD (inD (.str ⟨#[c]⟩) (.str "abcdefghijklmnopqrstuvwxyz")) = true := by decide +kernel
  exact this c (by omega) h1
inductive Kd : Nat → D → Prop
  | letter {n x} : Letter x → Kd n (.str x)
  | node {n nm ds} : Name nm → ds.length ≤ 2 → (∀ d ∈ ds, Kd n d) → Kd (n + 1) (.tup (.str nm :: ds))
theorem Kd.more {n : Nat} {d : D} (h : Kd n d) : ∀ {m : Nat}, n ≤ m → Kd m d := by
  induction h with
  | letter h => exact fun _ => .letter h
  | @node n nm ds h1 h2 h3 ih =>
    intro m hm
    obtain ⟨q, rfl⟩ : ∃ q, m = q + 1 := ⟨m - 1, by omega⟩
    exact .node h1 h2 fun d hd => ih d hd (by omega)
/-! ### comprehensions -/
theorem loopC_map {g : CG} {e : CE} {ρ : Rho} {h : D → D} : ∀ {ds : List D}, (∀ d ∈ ds, ((g d ρ).bind fun ρ1 => e ρ1) = .ret (h d)) → loopC g cYes e ρ ds = .ret (ds.map h)
  | [], _ => rfl
  | d :: r, hd => by
    have h1 := hd d List.mem_cons_self
    have h2 := loopC_map (ds := r) fun d' hd' => hd d' (List.mem_cons_of_mem _ hd')
    unfold loopC
    cases hg : g d ρ with
    | ret ρ1 =>
      rw [hg] at h1
      have h1' : e ρ1 = .ret (h d) := h1
      simp only [M.bind, cYes, if_true]
      rw [h1', h2]; rfl
    | err x => rw [hg] at h1; cases h1
    | stuck => rw [hg] at h1; cases h1
    | draw n k => rw [hg] at h1; cases h1
theorem cLc_map {vs : List Nat} {g : CG} {c : CI} {e : CE} {ρ : Rho} {ds : List D} {h : D → D} (hc : c ρ = .ret ds) (hl : ds.length ≤ LIM) (he : ∀ d ∈ ds, ((g d (wipeR ρ vs)).bind fun ρ1 => e ρ1) = .ret (h d)) : cLc vs g c cYes e ρ = .ret (.lst (ds.map h)) := by
  unfold cLc
  rw [hc]
  simp only [M.bind, hl, if_true]
  rw [loopC_map he]; rfl
theorem bls_true : ∀ {ds : List D} , (∀ d ∈ ds, d = .bl true) → blsOf ds = some (ds.map fun _ => true)
  | [], _ => rfl
  | d :: r, h => by
    have := h d List.mem_cons_self
    subst this
    have ih := bls_true (ds := r) fun d' hd' => h d' (List.mem_cons_of_mem _ hd')
    unfold blsOf
    rw [ih]; rfl
theorem all_true {ds : List D} (h : ∀ d ∈ ds, d = .bl true) : allD [.lst ds] = some (.bl true) := by
  show (blsOf ds).map _ = _
  rw [bls_true h]
  simp

/-! ### items, slices -/
theorem at_nat {α : Type} (xs : List α) (j : Nat) : atI xs (j : Int) = xs[j]? := by
  unfold atI ixN
  rw [if_pos (by omega)]
  by_cases h : j < xs.length
  · rw [if_pos (by omega)]; simp
  · rw [if_neg (by omega), List.getElem?_eq_none (by omega)]; rfl
theorem ix_tup_nat (xs : List D) (j : Nat) : ixD (.tup xs) (.int (j : Int)) = xs[j]? := at_nat xs j
theorem ix_lst_nat (xs : List D) (j : Nat) : ixD (.lst xs) (.int (j : Int)) = xs[j]? := at_nat xs j
theorem ix0 (a : D) (r : List D) : ixD (.tup (a :: r)) (.int 0) = some a := ix_tup_nat (a :: r) 0
theorem ix1 (a b : D) (r : List D) : ixD (.tup (a :: b :: r)) (.int 1) = some b := ix_tup_nat (a :: b :: r) 1
theorem cut1 (a : D) (r : List D) : slD (.tup (a :: r)) (some 1) none = some (.tup r) := by
  show some (D.tup (cutD (a :: r) (some 1) none)) = _
  have e : cutD (a :: r) (some 1) none = r := by
    unfold cutD
    rw [show (some (1 : Int)) = some ((1 : Nat) : Int) from rfl, HT.sIx_nat, HT.sIx_none]
    rw [List.length_cons, show min 1 (r.length + 1) = 1 by omega]
    simp
  rw [e]
theorem cut0 (a : D) (r : List D) : slD (.tup (a :: r)) none (some 1) = some (.tup [a]) := by
  show some (D.tup (cutD (a :: r) none (some 1))) = _
  have e : cutD (a :: r) none (some 1) = [a] := by
    unfold cutD
    rw [show (some (1 : Int)) = some ((1 : Nat) : Int) from rfl, HT.sIx_nat, HT.sIx_none]
    rw [List.length_cons, show min 1 (r.length + 1) = 1 by omega]
    simp
  rw [e]
theorem cut_to (xs : List D) (j : Nat) : slD (.lst xs) none (some (j : Int)) = some (.lst (xs.take j)) := by
  show some (D.lst (cutD xs none (some (j : Int)))) = _
  have e : cutD xs none (some (j : Int)) = xs.take j := by
    unfold cutD
    rw [HT.sIx_nat, HT.sIx_none]
    simp only [Nat.sub_zero, List.drop_zero]
    by_cases h : j ≤ xs.length
    · rw [Nat.min_eq_left h]
    · rw [Nat.min_eq_right (by omega), List.take_of_length_le (Nat.le_refl _), List.take_of_length_le (by omega)]
  rw [e]
/-! ### more -/
theorem loopC_pick {g : CG} {t : CT} {e : CE} {ρ : Rho} {f : D → Bool} {h : D → D} : ∀ {ds : List D}, (∀ d ∈ ds, ∃ ρ1, g d ρ = .ret ρ1 ∧ t ρ1 = .ret (f d) ∧ e ρ1 = .ret (h d)) → loopC g t e ρ ds = .ret ((ds.filter f).map h)
  | [], _ => rfl
  | d :: r, hd => by
    obtain ⟨ρ1, h1, h2, h3⟩ := hd d List.mem_cons_self
    have ih := loopC_pick (ds := r) fun d' hd' => hd d' (List.mem_cons_of_mem _ hd')
    unfold loopC
    rw [h1]
    simp only [M.bind, h2]
    rw [ih]
    cases hf : f d
    · simp only [List.filter_cons, hf, Bool.false_eq_true, if_false]
    · simp only [List.filter_cons, hf, if_true, List.map_cons, h3, M.bind]
theorem cLc_pick {vs : List Nat} {g : CG} {c : CI} {t : CT} {e : CE} {ρ : Rho} {ds : List D} {f : D → Bool} {h : D → D} (hc : c ρ = .ret ds) (hl : ds.length ≤ LIM) (he : ∀ d ∈ ds, ∃ ρ1, g d (wipeR ρ vs) = .ret ρ1 ∧ t ρ1 = .ret (f d) ∧ e ρ1 = .ret (h d)) : cLc vs g c t e ρ = .ret (.lst ((ds.filter f).map h)) := by
  unfold cLc
  rw [hc]
  simp only [M.bind, hl, if_true]
  rw [loopC_pick he]; rfl
theorem bls_map {f : D → Bool} : ∀ {ds : List D}, blsOf (ds.map fun d => .bl (f d)) = some (ds.map f)
  | [] => rfl
  | d :: r => by
    have ih := bls_map (f := f) (ds := r)
    simp only [List.map_cons, blsOf]
    rw [ih]; rfl
theorem all_map (f : D → Bool) (ds : List D) : allD [.lst (ds.map fun d => .bl (f d))] = some (.bl (ds.all f)) := by
  show (blsOf _).map _ = _
  rw [bls_map]
  simp
theorem eq_none (ds : List D) : eqD (.lst (ds.map fun _ => .int 1)) (.lst []) = some (.bl ds.isEmpty) := by
  have hp : ∀ xs : List D, D.pls (xs.map fun _ => .int 1) = true := fun xs => by
    induction xs with
    | nil => simp only [List.map_nil, D.pls]
    | cons a r ih => simp only [List.map_cons, D.pls, D.pl, ih]; rfl
  unfold eqD okEq eqB
  cases ds with
  | nil => simp [D.pl, D.pls, D.dp, D.dps, D.toP, D.toPs, PyData.eqv, PyData.eqvAll]
  | cons a r => simp [D.pl, D.pls, D.dp, D.dps, D.toP, D.toPs, PyData.eqv, PyData.eqvAll, hp]
theorem ne_none (ds : List D) : neD (.lst (ds.map fun _ => .int 1)) (.lst []) = some (.bl (!ds.isEmpty)) := by
  have hp : ∀ xs : List D, D.pls (xs.map fun _ => .int 1) = true := fun xs => by
    induction xs with
    | nil => simp only [List.map_nil, D.pls]
    | cons a r ih => simp only [List.map_cons, D.pls, D.pl, ih]; rfl
  unfold neD okEq eqB
  cases ds with
  | nil => simp [D.pl, D.pls, D.dp, D.dps, D.toP, D.toPs, PyData.eqv, PyData.eqvAll]
  | cons a r => simp [D.pl, D.pls, D.dp, D.dps, D.toP, D.toPs, PyData.eqv, PyData.eqvAll, hp]
theorem isEmpty_filter_not (f : D → Bool) : ∀ ds : List D, (ds.filter fun d => !f d).isEmpty = ds.all f
  | [] => rfl
  | d :: r => by
    simp only [List.filter_cons, List.all_cons]
    cases f d
    · rfl
    · simp only [Bool.not_true, Bool.false_eq_true, if_false, Bool.true_and]; exact isEmpty_filter_not f r
theorem pick_fun {α β : Type} [Inhabited β] {P : α → β → Prop} {ds : List α} (h : ∀ d ∈ ds, ∃ b, P d b) : ∃ f : α → β, ∀ d ∈ ds, P d (f d) := by
  refine ⟨fun d => @dite β (∃ b, P d b) (Classical.propDecidable _) (fun h => Classical.choose h) fun _ => default, fun d hd => ?_⟩
  have := h d hd
  simp only [dif_pos this]
  exact Classical.choose_spec this
theorem loop_inv {g : CG} {b : CS} {I : Rho → Prop} : ∀ {ds : List D}, (∀ d ∈ ds, ∀ ρ, I ρ → Ok ((g d ρ).bind b) (fun o => ∃ ρ', o = .next ρ' ∧ I ρ')) → ∀ ρ, I ρ → Ok (loopF g b ds ρ) (fun o => ∃ ρ', o = .next ρ' ∧ I ρ')
  | [], _, ρ, hi => ok_ret ⟨ρ, rfl, hi⟩
  | d :: r, h, ρ, hi => by
    unfold loopF
    rw [← M.bind_assoc]
    refine ok_then (h d List.mem_cons_self ρ hi) fun o ho => ?_
    obtain ⟨ρ', rfl, hi'⟩ := ho
    exact loop_inv (fun d' hd' => h d' (List.mem_cons_of_mem _ hd')) ρ' hi'
/-! ### what repr asks -/
def Shown (d : D) : Prop := d.sh = true ∧ d.wt ≤ LIM ∧ d.dp ≤ 60
theorem repr_ok {d : D} (h : Shown d) : reprD [d] = some (.str d.toP.shown) := by
  show (if d.sh = true ∧ d.wt ≤ LIM ∧ d.dp ≤ 60 then some (D.str d.toP.shown) else none) = _
  rw [if_pos (show d.sh = true ∧ d.wt ≤ LIM ∧ d.dp ≤ 60 from h)]
theorem ne_txt (x : Str) : neD (.str x) (.str x) = some (.bl false) := by
  unfold neD okEq eqB
  simp [D.pl, D.dp, D.toP, PyData.eqv]
theorem ne_lst2 (x y : Str) : neD (.lst [.str x, .str y]) (.lst [.str x, .str y]) = some (.bl false) := by
  unfold neD okEq eqB
  simp [D.pl, D.pls, D.dp, D.dps, D.toP, D.toPs, PyData.eqv, PyData.eqvAll]
end Py

namespace Wk26
open PySem PySem.Spec PyProof.Rows L2 Py
section
variable [Wd]
def top (i : Nat) : Stmt := PySem.Challenge.pw_endlesskinds_k26_exceptions_made.main.body.getD i (.Pass ⟨0, 0, 0, 0⟩)
def known : List Str := ["NoType", "NoValues", "NoText", "NoClass", "NoTable", "NoName", "NoMost", "NoRoots", "NoRoot", "NoDeed", "NothingDone", "TooMany", "Crowded", "Unfit", "Looped", "Turned", "Clash", "Endless"]
/-! the defs by number -/
structure Calls (P : Program) (w : World) (K : PySem.W.Frag) (mg : Str → Option Value) (base : Heap) (k : Nat) (call : Nat → List D → M D) : Prop where
  f0 : CallOk P w K mg base k "_law_cell_at" true 2 (call 0)
  f1 : CallOk P w K mg base k "_law_pen" true 1 (call 1)
  f2 : CallOk P w K mg base k "_law_draw" true 2 (call 2)
  f3 : CallOk P w K mg base k "_law_pick" true 2 (call 3)
  f4 : CallW P w K mg base k "_law_word" true 1 (call 4)
  f5 : CallOk P w K mg base k "_law_plain_right" true 1 (call 5)
  f6 : CallOk P w K mg base k "_law_fields_right" true 2 (call 6)
structure Glob (P : Program) (w : World) (K : PySem.W.Frag) (mg : Str → Option Value) : Prop where
  sup : mg "super" = none
  NoType : ExcF K mg "NoType" (He.ga K "NoType")
  NoValues : ExcF K mg "NoValues" (He.ga K "NoValues")
  NoText : ExcF K mg "NoText" (He.ga K "NoText")
  NoClass : ExcF K mg "NoClass" (He.ga K "NoClass")
  NoTable : ExcF K mg "NoTable" (He.ga K "NoTable")
  NoName : ExcF K mg "NoName" (He.ga K "NoName")
  NoMost : ExcF K mg "NoMost" (He.ga K "NoMost")
  NoRoots : ExcF K mg "NoRoots" (He.ga K "NoRoots")
  NoRoot : ExcF K mg "NoRoot" (He.ga K "NoRoot")
  NoDeed : ExcF K mg "NoDeed" (He.ga K "NoDeed")
  NothingDone : ExcF K mg "NothingDone" (He.ga K "NothingDone")
  TooMany : ExcF K mg "TooMany" (He.ga K "TooMany")
  Crowded : ExcF K mg "Crowded" (He.ga K "Crowded")
  xi_Unfit : XIs P K "Unfit" ["name"]
  xi_Looped : XIs P K "Looped" ["name"]
  xi_Turned : XIs P K "Turned" ["name", "letter"]
  xi_Clash : XIs P K "Clash" ["name", "member"]
  xi_Endless : XIs P K "Endless" ["cycle"]
  g_NoType : mg "NoType" = some (.ref (He.ga K "NoType"))
  is_NoType : XsF K (.ref (He.ga K "NoType")) [("NoType", true), ("NoValues", false), ("NoText", false), ("NoClass", false), ("NoTable", false), ("NoName", false), ("NoMost", false), ("NoRoots", false), ("NoRoot", false), ("NoDeed", false), ("NothingDone", false), ("TooMany", false), ("Crowded", false), ("Unfit", false), ("Looped", false), ("Turned", false), ("Clash", false), ("Endless", false)]
  g_NoValues : mg "NoValues" = some (.ref (He.ga K "NoValues"))
  is_NoValues : XsF K (.ref (He.ga K "NoValues")) [("NoType", false), ("NoValues", true), ("NoText", false), ("NoClass", false), ("NoTable", false), ("NoName", false), ("NoMost", false), ("NoRoots", false), ("NoRoot", false), ("NoDeed", false), ("NothingDone", false), ("TooMany", false), ("Crowded", false), ("Unfit", false), ("Looped", false), ("Turned", false), ("Clash", false), ("Endless", false)]
  g_NoText : mg "NoText" = some (.ref (He.ga K "NoText"))
  is_NoText : XsF K (.ref (He.ga K "NoText")) [("NoType", false), ("NoValues", false), ("NoText", true), ("NoClass", false), ("NoTable", false), ("NoName", false), ("NoMost", false), ("NoRoots", false), ("NoRoot", false), ("NoDeed", false), ("NothingDone", false), ("TooMany", false), ("Crowded", false), ("Unfit", false), ("Looped", false), ("Turned", false), ("Clash", false), ("Endless", false)]
  g_NoClass : mg "NoClass" = some (.ref (He.ga K "NoClass"))
  is_NoClass : XsF K (.ref (He.ga K "NoClass")) [("NoType", false), ("NoValues", false), ("NoText", false), ("NoClass", true), ("NoTable", false), ("NoName", false), ("NoMost", false), ("NoRoots", false), ("NoRoot", false), ("NoDeed", false), ("NothingDone", false), ("TooMany", false), ("Crowded", false), ("Unfit", false), ("Looped", false), ("Turned", false), ("Clash", false), ("Endless", false)]
  g_NoTable : mg "NoTable" = some (.ref (He.ga K "NoTable"))
  is_NoTable : XsF K (.ref (He.ga K "NoTable")) [("NoType", false), ("NoValues", false), ("NoText", false), ("NoClass", false), ("NoTable", true), ("NoName", false), ("NoMost", false), ("NoRoots", false), ("NoRoot", false), ("NoDeed", false), ("NothingDone", false), ("TooMany", false), ("Crowded", false), ("Unfit", false), ("Looped", false), ("Turned", false), ("Clash", false), ("Endless", false)]
  g_NoName : mg "NoName" = some (.ref (He.ga K "NoName"))
  is_NoName : XsF K (.ref (He.ga K "NoName")) [("NoType", false), ("NoValues", false), ("NoText", false), ("NoClass", false), ("NoTable", false), ("NoName", true), ("NoMost", false), ("NoRoots", false), ("NoRoot", false), ("NoDeed", false), ("NothingDone", false), ("TooMany", false), ("Crowded", false), ("Unfit", false), ("Looped", false), ("Turned", false), ("Clash", false), ("Endless", false)]
  g_NoMost : mg "NoMost" = some (.ref (He.ga K "NoMost"))
  is_NoMost : XsF K (.ref (He.ga K "NoMost")) [("NoType", false), ("NoValues", false), ("NoText", false), ("NoClass", false), ("NoTable", false), ("NoName", false), ("NoMost", true), ("NoRoots", false), ("NoRoot", false), ("NoDeed", false), ("NothingDone", false), ("TooMany", false), ("Crowded", false), ("Unfit", false), ("Looped", false), ("Turned", false), ("Clash", false), ("Endless", false)]
  g_NoRoots : mg "NoRoots" = some (.ref (He.ga K "NoRoots"))
  is_NoRoots : XsF K (.ref (He.ga K "NoRoots")) [("NoType", false), ("NoValues", false), ("NoText", false), ("NoClass", false), ("NoTable", false), ("NoName", false), ("NoMost", false), ("NoRoots", true), ("NoRoot", false), ("NoDeed", false), ("NothingDone", false), ("TooMany", false), ("Crowded", false), ("Unfit", false), ("Looped", false), ("Turned", false), ("Clash", false), ("Endless", false)]
  g_NoRoot : mg "NoRoot" = some (.ref (He.ga K "NoRoot"))
  is_NoRoot : XsF K (.ref (He.ga K "NoRoot")) [("NoType", false), ("NoValues", false), ("NoText", false), ("NoClass", false), ("NoTable", false), ("NoName", false), ("NoMost", false), ("NoRoots", false), ("NoRoot", true), ("NoDeed", false), ("NothingDone", false), ("TooMany", false), ("Crowded", false), ("Unfit", false), ("Looped", false), ("Turned", false), ("Clash", false), ("Endless", false)]
  g_NoDeed : mg "NoDeed" = some (.ref (He.ga K "NoDeed"))
  is_NoDeed : XsF K (.ref (He.ga K "NoDeed")) [("NoType", false), ("NoValues", false), ("NoText", false), ("NoClass", false), ("NoTable", false), ("NoName", false), ("NoMost", false), ("NoRoots", false), ("NoRoot", false), ("NoDeed", true), ("NothingDone", false), ("TooMany", false), ("Crowded", false), ("Unfit", false), ("Looped", false), ("Turned", false), ("Clash", false), ("Endless", false)]
  g_TooMany : mg "TooMany" = some (.ref (He.ga K "TooMany"))
  is_TooMany : XsF K (.ref (He.ga K "TooMany")) [("NoType", false), ("NoValues", false), ("NoText", false), ("NoClass", false), ("NoTable", false), ("NoName", false), ("NoMost", false), ("NoRoots", false), ("NoRoot", false), ("NoDeed", false), ("NothingDone", false), ("TooMany", true), ("Crowded", false), ("Unfit", false), ("Looped", false), ("Turned", false), ("Clash", false), ("Endless", false)]
  g_Crowded : mg "Crowded" = some (.ref (He.ga K "Crowded"))
  is_Crowded : XsF K (.ref (He.ga K "Crowded")) [("NoType", false), ("NoValues", false), ("NoText", false), ("NoClass", false), ("NoTable", false), ("NoName", false), ("NoMost", false), ("NoRoots", false), ("NoRoot", false), ("NoDeed", false), ("NothingDone", false), ("TooMany", false), ("Crowded", true), ("Unfit", false), ("Looped", false), ("Turned", false), ("Clash", false), ("Endless", false)]
  g_NothingDone : mg "NothingDone" = some (.ref (He.ga K "NothingDone"))
  is_NothingDone : XsF K (.ref (He.ga K "NothingDone")) [("NoType", false), ("NoValues", false), ("NoText", false), ("NoClass", false), ("NoTable", false), ("NoName", false), ("NoMost", false), ("NoRoots", false), ("NoRoot", false), ("NoDeed", false), ("NothingDone", true), ("TooMany", false), ("Crowded", false), ("Unfit", false), ("Looped", false), ("Turned", false), ("Clash", false), ("Endless", false)]
  g_Unfit : mg "Unfit" = some (.ref (He.ga K "Unfit"))
  is_Unfit : XsF K (.ref (He.ga K "Unfit")) [("NoType", false), ("NoValues", false), ("NoText", false), ("NoClass", false), ("NoTable", false), ("NoName", false), ("NoMost", false), ("NoRoots", false), ("NoRoot", false), ("NoDeed", false), ("NothingDone", false), ("TooMany", false), ("Crowded", false), ("Unfit", true), ("Looped", false), ("Turned", false), ("Clash", false), ("Endless", false)]
  g_Looped : mg "Looped" = some (.ref (He.ga K "Looped"))
  is_Looped : XsF K (.ref (He.ga K "Looped")) [("NoType", false), ("NoValues", false), ("NoText", false), ("NoClass", false), ("NoTable", false), ("NoName", false), ("NoMost", false), ("NoRoots", false), ("NoRoot", false), ("NoDeed", false), ("NothingDone", false), ("TooMany", false), ("Crowded", false), ("Unfit", false), ("Looped", true), ("Turned", false), ("Clash", false), ("Endless", false)]
  g_Turned : mg "Turned" = some (.ref (He.ga K "Turned"))
  is_Turned : XsF K (.ref (He.ga K "Turned")) [("NoType", false), ("NoValues", false), ("NoText", false), ("NoClass", false), ("NoTable", false), ("NoName", false), ("NoMost", false), ("NoRoots", false), ("NoRoot", false), ("NoDeed", false), ("NothingDone", false), ("TooMany", false), ("Crowded", false), ("Unfit", false), ("Looped", false), ("Turned", true), ("Clash", false), ("Endless", false)]
  g_Endless : mg "Endless" = some (.ref (He.ga K "Endless"))
  is_Endless : XsF K (.ref (He.ga K "Endless")) [("NoType", false), ("NoValues", false), ("NoText", false), ("NoClass", false), ("NoTable", false), ("NoName", false), ("NoMost", false), ("NoRoots", false), ("NoRoot", false), ("NoDeed", false), ("NothingDone", false), ("TooMany", false), ("Crowded", false), ("Unfit", false), ("Looped", false), ("Turned", false), ("Clash", false), ("Endless", true)]
  g_Clash : mg "Clash" = some (.ref (He.ga K "Clash"))
  is_Clash : XsF K (.ref (He.ga K "Clash")) [("NoType", false), ("NoValues", false), ("NoText", false), ("NoClass", false), ("NoTable", false), ("NoName", false), ("NoMost", false), ("NoRoots", false), ("NoRoot", false), ("NoDeed", false), ("NothingDone", false), ("TooMany", false), ("Crowded", false), ("Unfit", false), ("Looped", false), ("Turned", false), ("Clash", true), ("Endless", false)]
  ve : mg "ValueError" = none
  is_ValueError : XsF K (.type "ValueError") [("NoType", true), ("NoValues", true), ("NoText", true), ("NoClass", true), ("NoTable", true), ("NoName", true), ("NoMost", true), ("NoRoots", true), ("NoRoot", true), ("NoDeed", true), ("NothingDone", true), ("TooMany", true), ("Crowded", true), ("Unfit", true), ("Looped", true), ("Turned", true), ("Clash", true), ("Endless", true)]
  g_KindError : mg "KindError" = some (.ref (He.ga K "KindError"))
  is_KindError : XsF K (.ref (He.ga K "KindError")) [("NoType", true), ("NoValues", true), ("NoText", true), ("NoClass", true), ("NoTable", true), ("NoName", true), ("NoMost", true), ("NoRoots", true), ("NoRoot", true), ("NoDeed", true), ("NothingDone", true), ("TooMany", true), ("Crowded", true), ("Unfit", true), ("Looped", true), ("Turned", true), ("Clash", true), ("Endless", true)]
  xfs_cycle : ∀ y ∈ (["Endless"] : List Str), XFd K (He.ga K y) "cycle"
  xfs_letter : ∀ y ∈ (["Turned"] : List Str), XFd K (He.ga K y) "letter"
  xfs_member : ∀ y ∈ (["Clash"] : List Str), XFd K (He.ga K y) "member"
  xfs_name : ∀ y ∈ (["Unfit", "Looped", "Turned", "Clash"] : List Str), XFd K (He.ga K y) "name"
/-! _law_cell_at -/
def N_L_cell_at : List Str := ["_law_script", "_law_k"]
theorem sc_L_cell_at : FnScope N_L_cell_at ["_law_script", "_law_k"] (defScope (top 21)) := ⟨rfl, rfl, rfl, by decide +kernel, rfl, by decide +kernel, by decide +kernel⟩
def c_L_cell_at (call : Nat → List D → M D) : CS := (cSeq (cIfS (cTest (cOp ltD (cOwn 1) (cCb lenD (cCons (cOwn 0) cNil)))) (cRet (cOp ixD (cOwn 0) (cOwn 1))) cNext) (cRet (cK (.int 0))))
theorem ok_L_cell_at {P : Program} {w : World} {K : PySem.W.Frag} {mg : Str → Option Value} {base : Heap} {k : Nat} {f : Addr} {fd : FuncData} {call : Nat → List D → M D} {o : Obj} (F : FunD K "_law_cell_at" "_law_cell_at" (defArgs (top 21)) (defBody (top 21)) (defScope (top 21)) [] [] f fd) (HC : Calls P w K mg base k call) (G : Glob P w K mg) (B : Bf mg) (KS : K.lookup sysModules = some o) :
    FnG P w K mg base (L2.CX P w) (k + 1) f fd ["_law_script", "_law_k"] (spD K mg true 2 (runC N_L_cell_at.length (c_L_cell_at call))) := by
  have sc := sc_L_cell_at
  refine fun_ok F sc_L_cell_at (fun cdv A outer s H E O hr => ?_)
  have px : Passes (L2.CX P w) (cxOf (L2.CX P w) P w K mg base N_L_cell_at "_law_cell_at" (defScope (top 21)) f cdv A outer s H E) E := passes_call (takes_of rfl rfl rfl rfl) (fun _ _ _ _ h => h)
  exact ⟨_, (pss_cons (ps_if (pt_cmpR u_lt (pv 1) (plen B (pa_cons (pv 0) pa_nil)) (nomark _)) (pss_one (ps_ret (pix hr.u1 (pv 0) (pv 1)))) pss_nil) (pss_one (ps_ret pe_int))),
    (sim_seq (sim_ifS (sim_test (sim_op ops_u sim_own ((sim_cb cbs_u (simB_cons sim_own simB_nil))).c).c) (sim_ret ((sim_op ops_u sim_own sim_own)).c) sim_next) (sim_ret (sim_int).c))⟩
/-! _law_pen -/
def N_L_pen : List Str := ["_law_cell"]
theorem sc_L_pen : FnScope N_L_pen ["_law_cell"] (defScope (top 22)) := ⟨rfl, rfl, rfl, by decide +kernel, rfl, by decide +kernel, by decide +kernel⟩
def c_L_pen (call : Nat → List D → M D) : CE := (cLst (cCons (cCb mxD (cCons (cK (.int 0)) (cCons (cOp subD (cOwn 0) (cOp powD (cK (.int 10)) (cK (.int 18)))) cNil))) (cCons (cOp addD (cOp modD (cOwn 0) (cK (.int 2147483629))) (cK (.int 1))) (cCons (cK (.int 0)) cNil))))
theorem ok_L_pen {P : Program} {w : World} {K : PySem.W.Frag} {mg : Str → Option Value} {base : Heap} {k : Nat} {f : Addr} {fd : FuncData} {call : Nat → List D → M D} {o : Obj} (F : FunD K "_law_pen" "_law_pen" (defArgs (top 22)) (defBody (top 22)) (defScope (top 22)) [] [] f fd) (HC : Calls P w K mg base k call) (G : Glob P w K mg) (B : Bf mg) (KS : K.lookup sysModules = some o) :
    FnG P w K mg base (L2.CX P w) (k + 1) f fd ["_law_cell"] (spD K mg true 1 (fun ds => (c_L_pen call (startR N_L_pen.length ds)).bind toPen)) := by
  have sc := sc_L_pen
  exact pen_ok F sc_L_pen (fun cdv A outer s H E O hr => ⟨_, pss_one (ps_ret (pe_lst (pa_cons (pmx B rfl (pa_cons pe_int (pa_cons (pe_op u_sub (pv 0) (pe_op u_pow pe_int pe_int)) pa_nil))) (pa_cons (pe_op u_add (pe_op u_mod (pv 0) pe_int) pe_int) (pa_cons pe_int pa_nil))))),
    (simN_lst (sim_cons (sim_cb cbs_u (simB_cons (sim_int).c (simB_cons ((sim_op ops_u sim_own ((sim_op ops_u (sim_int).c (sim_int).c)).c)).c simB_nil))) (sim_cons (sim_op ops_u ((sim_op ops_u sim_own (sim_int).c)).c (sim_int).c) (sim_cons sim_int sim_nil))))⟩)
/-! _law_draw -/
def N_L_draw : List Str := ["_law_pen_here", "_law_many", "_law_found", "_law_mixed"]
theorem sc_L_draw : FnScope N_L_draw ["_law_pen_here", "_law_many"] (defScope (top 23)) := ⟨rfl, rfl, rfl, by decide +kernel, rfl, by decide +kernel, by decide +kernel⟩
theorem ok_L_draw {P : Program} {w : World} {K : PySem.W.Frag} {mg : Str → Option Value} {base : Heap} {k : Nat} {f : Addr} {fd : FuncData} {call : Nat → List D → M D} {o : Obj} (F : FunD K "_law_draw" "_law_draw" (defArgs (top 23)) (defBody (top 23)) (defScope (top 23)) [] [] f fd) (HC : Calls P w K mg base k call) (G : Glob P w K mg) (B : Bf mg) (KS : K.lookup sysModules = some o) :
    FnG P w K mg base (L2.CX P w) (k + 1) f fd ["_law_pen_here", "_law_many"] (spD K mg true 2 drawD) := by
  refine draw_pens rfl (FnG.of_body F sc_L_draw (fun vs H Q E h => by obtain ⟨_, _, _, _, _, e, _⟩ := h; rw [e]; rfl) fun cv B out st H vs Q E hr h => ⟨t_draw K, ?_, pure_draw rfl vs H Q E h⟩)
  exact pss_cons (ps_if (pt_cmpR op_gt (pe_ix ix_list (pv 0) pe_int (fun _ _ => rfl)) pe_int (nomark _)) (pss_cons (pset 2 (pe_op op_mod (pe_ix ix_list (pv 0) pe_int (fun _ _ => rfl)) (pv 1)) sc_L_draw.nd) (pss_cons (ps_asg (pe_op op_fdiv (pe_ix ix_list (pv 0) pe_int (fun _ _ => rfl)) (pv 1)) (pg_sub (pv 0) pe_int set_list)) (pss_one (ps_ret (pv 2))))) pss_nil) (pss_cons (ps_asg (pe_op op_add (pe_ix ix_list (pv 0) pe_int (fun _ _ => rfl)) pe_int) (pg_sub (pv 0) pe_int set_list)) (pss_cons (ps_asg (pe_op op_mod (pe_op op_add (pe_op op_add (pe_op op_mul (pe_ix ix_list (pv 0) pe_int (fun _ _ => rfl)) pe_int) (pe_op op_mul pe_int (pe_ix ix_list (pv 0) pe_int (fun _ _ => rfl)))) pe_int) pe_int) (pg_sub (pv 0) pe_int set_list)) (pss_cons (pset 3 (pe_op op_mod (pe_op op_add (pe_op op_add (pe_op op_mul (pe_ix ix_list (pv 0) pe_int (fun _ _ => rfl)) (pe_ix ix_list (pv 0) pe_int (fun _ _ => rfl))) (pe_op op_mul pe_int (pe_ix ix_list (pv 0) pe_int (fun _ _ => rfl)))) pe_int) pe_int) sc_L_draw.nd) (pss_cons (pset 3 (pe_op op_mod (pe_op op_add (pe_op op_mul (pv 3) (pv 3)) (pe_op op_mul pe_int (pv 3))) pe_int) sc_L_draw.nd) (pss_one (ps_ret (pe_op op_mod (pe_op op_fdiv (pv 3) pe_int) (pv 1))))))))
/-! _law_pick -/
def N_L_pick : List Str := ["_law_pen_here", "_law_some"]
theorem sc_L_pick : FnScope N_L_pick ["_law_pen_here", "_law_some"] (defScope (top 25)) := ⟨rfl, rfl, rfl, by decide +kernel, rfl, by decide +kernel, by decide +kernel⟩
def c_L_pick (call : Nat → List D → M D) : CS := (cRet (cOp ixD (cOwn 1) (cCall 2 (call 2) (cCons (cVar 0) (cCons (cCb lenD (cCons (cOwn 1) cNil)) cNil)))))
theorem ok_L_pick {P : Program} {w : World} {K : PySem.W.Frag} {mg : Str → Option Value} {base : Heap} {k : Nat} {f : Addr} {fd : FuncData} {call : Nat → List D → M D} {o : Obj} (F : FunD K "_law_pick" "_law_pick" (defArgs (top 25)) (defBody (top 25)) (defScope (top 25)) [] [] f fd) (HC : Calls P w K mg base k call) (G : Glob P w K mg) (B : Bf mg) (KS : K.lookup sysModules = some o) :
    FnG P w K mg base (L2.CX P w) (k + 1) f fd ["_law_pen_here", "_law_some"] (spD K mg true 2 (runC N_L_pick.length (c_L_pick call))) := by
  have sc := sc_L_pick
  refine fun_ok F sc_L_pick (fun cdv A outer s H E O hr => ?_)
  have px : Passes (L2.CX P w) (cxOf (L2.CX P w) P w K mg base N_L_pick "_law_pick" (defScope (top 25)) f cdv A outer s H E) E := passes_call (takes_of rfl rfl rfl rfl) (fun _ _ _ _ h => h)
  exact ⟨_, (pss_one (ps_ret (pix hr.u1 (pv 1) (pe_callD HC.f2 hr px (pa_cons (pv 0) (pa_cons (plen B (pa_cons (pv 1) pa_nil)) pa_nil)))))),
    (sim_ret ((sim_op ops_u sim_own ((sim_call (sim_cons sim_var (sim_cons (sim_cb cbs_u (simB_cons sim_own simB_nil)) sim_nil)))).c)).c)⟩
/-! _law_word -/
def N_L_word : List Str := ["_law_e", "_law_marks", "_law_names"]
theorem sc_L_word : FnScope N_L_word ["_law_e"] (defScope (top 26)) := ⟨rfl, rfl, rfl, by decide +kernel, rfl, by decide +kernel, by decide +kernel⟩
def c_L_word (call : Nat → List D → M D) : CS := (cSeq (cAsg 1 (cLst (cCons (cUn (isExcD [("NoType", true), ("NoValues", false), ("NoText", false), ("NoClass", false), ("NoTable", false), ("NoName", false), ("NoMost", false), ("NoRoots", false), ("NoRoot", false), ("NoDeed", false), ("NothingDone", false), ("TooMany", false), ("Crowded", false), ("Unfit", false), ("Looped", false), ("Turned", false), ("Clash", false), ("Endless", false)]) (cOwn 0)) (cCons (cUn (isExcD [("NoType", false), ("NoValues", true), ("NoText", false), ("NoClass", false), ("NoTable", false), ("NoName", false), ("NoMost", false), ("NoRoots", false), ("NoRoot", false), ("NoDeed", false), ("NothingDone", false), ("TooMany", false), ("Crowded", false), ("Unfit", false), ("Looped", false), ("Turned", false), ("Clash", false), ("Endless", false)]) (cOwn 0)) (cCons (cUn (isExcD [("NoType", false), ("NoValues", false), ("NoText", true), ("NoClass", false), ("NoTable", false), ("NoName", false), ("NoMost", false), ("NoRoots", false), ("NoRoot", false), ("NoDeed", false), ("NothingDone", false), ("TooMany", false), ("Crowded", false), ("Unfit", false), ("Looped", false), ("Turned", false), ("Clash", false), ("Endless", false)]) (cOwn 0)) (cCons (cUn (isExcD [("NoType", false), ("NoValues", false), ("NoText", false), ("NoClass", true), ("NoTable", false), ("NoName", false), ("NoMost", false), ("NoRoots", false), ("NoRoot", false), ("NoDeed", false), ("NothingDone", false), ("TooMany", false), ("Crowded", false), ("Unfit", false), ("Looped", false), ("Turned", false), ("Clash", false), ("Endless", false)]) (cOwn 0)) cNil)))))) (cSeq (cAsg 1 (cOp addD (cOwn 1) (cLst (cCons (cUn (isExcD [("NoType", false), ("NoValues", false), ("NoText", false), ("NoClass", false), ("NoTable", true), ("NoName", false), ("NoMost", false), ("NoRoots", false), ("NoRoot", false), ("NoDeed", false), ("NothingDone", false), ("TooMany", false), ("Crowded", false), ("Unfit", false), ("Looped", false), ("Turned", false), ("Clash", false), ("Endless", false)]) (cOwn 0)) (cCons (cUn (isExcD [("NoType", false), ("NoValues", false), ("NoText", false), ("NoClass", false), ("NoTable", false), ("NoName", true), ("NoMost", false), ("NoRoots", false), ("NoRoot", false), ("NoDeed", false), ("NothingDone", false), ("TooMany", false), ("Crowded", false), ("Unfit", false), ("Looped", false), ("Turned", false), ("Clash", false), ("Endless", false)]) (cOwn 0)) (cCons (cUn (isExcD [("NoType", false), ("NoValues", false), ("NoText", false), ("NoClass", false), ("NoTable", false), ("NoName", false), ("NoMost", true), ("NoRoots", false), ("NoRoot", false), ("NoDeed", false), ("NothingDone", false), ("TooMany", false), ("Crowded", false), ("Unfit", false), ("Looped", false), ("Turned", false), ("Clash", false), ("Endless", false)]) (cOwn 0)) (cCons (cUn (isExcD [("NoType", false), ("NoValues", false), ("NoText", false), ("NoClass", false), ("NoTable", false), ("NoName", false), ("NoMost", false), ("NoRoots", true), ("NoRoot", false), ("NoDeed", false), ("NothingDone", false), ("TooMany", false), ("Crowded", false), ("Unfit", false), ("Looped", false), ("Turned", false), ("Clash", false), ("Endless", false)]) (cOwn 0)) cNil))))))) (cSeq (cAsg 1 (cOp addD (cOwn 1) (cLst (cCons (cUn (isExcD [("NoType", false), ("NoValues", false), ("NoText", false), ("NoClass", false), ("NoTable", false), ("NoName", false), ("NoMost", false), ("NoRoots", false), ("NoRoot", true), ("NoDeed", false), ("NothingDone", false), ("TooMany", false), ("Crowded", false), ("Unfit", false), ("Looped", false), ("Turned", false), ("Clash", false), ("Endless", false)]) (cOwn 0)) (cCons (cUn (isExcD [("NoType", false), ("NoValues", false), ("NoText", false), ("NoClass", false), ("NoTable", false), ("NoName", false), ("NoMost", false), ("NoRoots", false), ("NoRoot", false), ("NoDeed", true), ("NothingDone", false), ("TooMany", false), ("Crowded", false), ("Unfit", false), ("Looped", false), ("Turned", false), ("Clash", false), ("Endless", false)]) (cOwn 0)) (cCons (cUn (isExcD [("NoType", false), ("NoValues", false), ("NoText", false), ("NoClass", false), ("NoTable", false), ("NoName", false), ("NoMost", false), ("NoRoots", false), ("NoRoot", false), ("NoDeed", false), ("NothingDone", false), ("TooMany", true), ("Crowded", false), ("Unfit", false), ("Looped", false), ("Turned", false), ("Clash", false), ("Endless", false)]) (cOwn 0)) (cCons (cUn (isExcD [("NoType", false), ("NoValues", false), ("NoText", false), ("NoClass", false), ("NoTable", false), ("NoName", false), ("NoMost", false), ("NoRoots", false), ("NoRoot", false), ("NoDeed", false), ("NothingDone", false), ("TooMany", false), ("Crowded", true), ("Unfit", false), ("Looped", false), ("Turned", false), ("Clash", false), ("Endless", false)]) (cOwn 0)) cNil))))))) (cSeq (cAsg 1 (cOp addD (cOwn 1) (cLst (cCons (cUn (isExcD [("NoType", false), ("NoValues", false), ("NoText", false), ("NoClass", false), ("NoTable", false), ("NoName", false), ("NoMost", false), ("NoRoots", false), ("NoRoot", false), ("NoDeed", false), ("NothingDone", true), ("TooMany", false), ("Crowded", false), ("Unfit", false), ("Looped", false), ("Turned", false), ("Clash", false), ("Endless", false)]) (cOwn 0)) (cCons (cUn (isExcD [("NoType", false), ("NoValues", false), ("NoText", false), ("NoClass", false), ("NoTable", false), ("NoName", false), ("NoMost", false), ("NoRoots", false), ("NoRoot", false), ("NoDeed", false), ("NothingDone", false), ("TooMany", false), ("Crowded", false), ("Unfit", true), ("Looped", false), ("Turned", false), ("Clash", false), ("Endless", false)]) (cOwn 0)) (cCons (cUn (isExcD [("NoType", false), ("NoValues", false), ("NoText", false), ("NoClass", false), ("NoTable", false), ("NoName", false), ("NoMost", false), ("NoRoots", false), ("NoRoot", false), ("NoDeed", false), ("NothingDone", false), ("TooMany", false), ("Crowded", false), ("Unfit", false), ("Looped", true), ("Turned", false), ("Clash", false), ("Endless", false)]) (cOwn 0)) (cCons (cUn (isExcD [("NoType", false), ("NoValues", false), ("NoText", false), ("NoClass", false), ("NoTable", false), ("NoName", false), ("NoMost", false), ("NoRoots", false), ("NoRoot", false), ("NoDeed", false), ("NothingDone", false), ("TooMany", false), ("Crowded", false), ("Unfit", false), ("Looped", false), ("Turned", true), ("Clash", false), ("Endless", false)]) (cOwn 0)) cNil))))))) (cSeq (cAsg 1 (cOp addD (cOwn 1) (cLst (cCons (cUn (isExcD [("NoType", false), ("NoValues", false), ("NoText", false), ("NoClass", false), ("NoTable", false), ("NoName", false), ("NoMost", false), ("NoRoots", false), ("NoRoot", false), ("NoDeed", false), ("NothingDone", false), ("TooMany", false), ("Crowded", false), ("Unfit", false), ("Looped", false), ("Turned", false), ("Clash", false), ("Endless", true)]) (cOwn 0)) (cCons (cUn (isExcD [("NoType", false), ("NoValues", false), ("NoText", false), ("NoClass", false), ("NoTable", false), ("NoName", false), ("NoMost", false), ("NoRoots", false), ("NoRoot", false), ("NoDeed", false), ("NothingDone", false), ("TooMany", false), ("Crowded", false), ("Unfit", false), ("Looped", false), ("Turned", false), ("Clash", true), ("Endless", false)]) (cOwn 0)) cNil))))) (cSeq (cAsg 2 (cLst (cCons (cK (.str "NoType")) (cCons (cK (.str "NoValues")) (cCons (cK (.str "NoText")) (cCons (cK (.str "NoClass")) (cCons (cK (.str "NoTable")) (cCons (cK (.str "NoName")) (cCons (cK (.str "NoMost")) (cCons (cK (.str "NoRoots")) (cCons (cK (.str "NoRoot")) (cCons (cK (.str "NoDeed")) cNil)))))))))))) (cSeq (cAsg 2 (cOp addD (cOwn 2) (cLst (cCons (cK (.str "TooMany")) (cCons (cK (.str "Crowded")) (cCons (cK (.str "NothingDone")) (cCons (cK (.str "Unfit")) (cCons (cK (.str "Looped")) (cCons (cK (.str "Turned")) (cCons (cK (.str "Endless")) (cCons (cK (.str "Clash")) cNil))))))))))) (cSeq (cIfS (cOr (cTest (cOp neD (cL1 countD (cOwn 1) (cK (.bl true))) (cK (.int 1)))) (cNot (cTest (cUn (isExcD [("NoType", true), ("NoValues", true), ("NoText", true), ("NoClass", true), ("NoTable", true), ("NoName", true), ("NoMost", true), ("NoRoots", true), ("NoRoot", true), ("NoDeed", true), ("NothingDone", true), ("TooMany", true), ("Crowded", true), ("Unfit", true), ("Looped", true), ("Turned", true), ("Clash", true), ("Endless", true)]) (cOwn 0))))) (cRet (cK (.str "other"))) cNext) (cRet (cOp ixD (cOwn 2) (cL1 indexD (cOwn 1) (cK (.bl true)))))))))))))
theorem ok_L_word {P : Program} {w : World} {K : PySem.W.Frag} {mg : Str → Option Value} {base : Heap} {k : Nat} {f : Addr} {fd : FuncData} {call : Nat → List D → M D} {o : Obj} (F : FunD K "_law_word" "_law_word" (defArgs (top 26)) (defBody (top 26)) (defScope (top 26)) [] [] f fd) (HC : Calls P w K mg base k call) (G : Glob P w K mg) (B : Bf mg) (KS : K.lookup sysModules = some o) :
    FnW P w K mg base (L2.CX P w) (k + 1) f fd ["_law_e"] (spD K mg true 1 (runC N_L_word.length (c_L_word call))) := by
  have sc := sc_L_word
  refine fun_okW F sc_L_word (fun cdv A outer s H E O hr => ?_)
  exact ⟨_, (pss_cons (pset 1 (pe_lst (pa_cons (pisX B G.g_NoType (pv 0)) (pa_cons (pisX B G.g_NoValues (pv 0)) (pa_cons (pisX B G.g_NoText (pv 0)) (pa_cons (pisX B G.g_NoClass (pv 0)) pa_nil))))) sc.nd) (pss_cons (pset 1 (pe_op u_add (pv 1) (pe_lst (pa_cons (pisX B G.g_NoTable (pv 0)) (pa_cons (pisX B G.g_NoName (pv 0)) (pa_cons (pisX B G.g_NoMost (pv 0)) (pa_cons (pisX B G.g_NoRoots (pv 0)) pa_nil)))))) sc.nd) (pss_cons (pset 1 (pe_op u_add (pv 1) (pe_lst (pa_cons (pisX B G.g_NoRoot (pv 0)) (pa_cons (pisX B G.g_NoDeed (pv 0)) (pa_cons (pisX B G.g_TooMany (pv 0)) (pa_cons (pisX B G.g_Crowded (pv 0)) pa_nil)))))) sc.nd) (pss_cons (pset 1 (pe_op u_add (pv 1) (pe_lst (pa_cons (pisX B G.g_NothingDone (pv 0)) (pa_cons (pisX B G.g_Unfit (pv 0)) (pa_cons (pisX B G.g_Looped (pv 0)) (pa_cons (pisX B G.g_Turned (pv 0)) pa_nil)))))) sc.nd) (pss_cons (pset 1 (pe_op u_add (pv 1) (pe_lst (pa_cons (pisX B G.g_Endless (pv 0)) (pa_cons (pisX B G.g_Clash (pv 0)) pa_nil)))) sc.nd) (pss_cons (pset 2 (pe_lst (pa_cons pe_str (pa_cons pe_str (pa_cons pe_str (pa_cons pe_str (pa_cons pe_str (pa_cons pe_str (pa_cons pe_str (pa_cons pe_str (pa_cons pe_str (pa_cons pe_str pa_nil))))))))))) sc.nd) (pss_cons (pset 2 (pe_op u_add (pv 2) (pe_lst (pa_cons pe_str (pa_cons pe_str (pa_cons pe_str (pa_cons pe_str (pa_cons pe_str (pa_cons pe_str (pa_cons pe_str (pa_cons pe_str pa_nil)))))))))) sc.nd) (pss_cons (ps_if (PW.pt (pw_or (pt_cmpR (u_ne hr.u64) (pcount (pv 1) pe_bl) pe_int (nomark _)) (pw_or1 (pt_not (pt_val (pisXv B G.ve (pv 0))))))) (pss_one (ps_ret pe_str)) pss_nil) (pss_one (ps_ret (pix hr.u1 (pv 2) (pindex (pv 1) pe_bl)))))))))))),
    (sim_seq (sim_asg (by rfl) (sim_lst (sim_cons (sim_isX G.is_NoType sim_own) (sim_cons (sim_isX G.is_NoValues sim_own) (sim_cons (sim_isX G.is_NoText sim_own) (sim_cons (sim_isX G.is_NoClass sim_own) sim_nil)))))) (sim_seq (sim_asg (by rfl) (sim_op ops_u sim_own ((sim_lst (sim_cons (sim_isX G.is_NoTable sim_own) (sim_cons (sim_isX G.is_NoName sim_own) (sim_cons (sim_isX G.is_NoMost sim_own) (sim_cons (sim_isX G.is_NoRoots sim_own) sim_nil)))))).c)) (sim_seq (sim_asg (by rfl) (sim_op ops_u sim_own ((sim_lst (sim_cons (sim_isX G.is_NoRoot sim_own) (sim_cons (sim_isX G.is_NoDeed sim_own) (sim_cons (sim_isX G.is_TooMany sim_own) (sim_cons (sim_isX G.is_Crowded sim_own) sim_nil)))))).c)) (sim_seq (sim_asg (by rfl) (sim_op ops_u sim_own ((sim_lst (sim_cons (sim_isX G.is_NothingDone sim_own) (sim_cons (sim_isX G.is_Unfit sim_own) (sim_cons (sim_isX G.is_Looped sim_own) (sim_cons (sim_isX G.is_Turned sim_own) sim_nil)))))).c)) (sim_seq (sim_asg (by rfl) (sim_op ops_u sim_own ((sim_lst (sim_cons (sim_isX G.is_Endless sim_own) (sim_cons (sim_isX G.is_Clash sim_own) sim_nil)))).c)) (sim_seq (sim_asg (by rfl) (sim_lst (sim_cons sim_str (sim_cons sim_str (sim_cons sim_str (sim_cons sim_str (sim_cons sim_str (sim_cons sim_str (sim_cons sim_str (sim_cons sim_str (sim_cons sim_str (sim_cons sim_str sim_nil)))))))))))) (sim_seq (sim_asg (by rfl) (sim_op ops_u sim_own ((sim_lst (sim_cons sim_str (sim_cons sim_str (sim_cons sim_str (sim_cons sim_str (sim_cons sim_str (sim_cons sim_str (sim_cons sim_str (sim_cons sim_str sim_nil)))))))))).c)) (sim_seq (sim_ifS (sim_or (sim_test (sim_op ops_u ((sim_l1 ls_count sim_own (sim_bl).c)).c (sim_int).c).c) (sim_not (sim_tB ((sim_isXv G.is_ValueError sim_own)).c))) (sim_ret (sim_str).c) sim_next) (sim_ret ((sim_op ops_u sim_own ((sim_l1 ls_index sim_own (sim_bl).c)).c)).c)))))))))⟩
/-! _law_plain_right -/
def N_L_plain_right : List Str := ["_law_many", "_law_some", "_law_words", "_law_more", "_law_names", "_law_e"]
theorem sc_L_plain_right : FnScope N_L_plain_right ["_law_many"] (defScope (top 27)) := ⟨rfl, rfl, rfl, by decide +kernel, rfl, by decide +kernel, by decide +kernel⟩
def c_L_plain_right (call : Nat → List D → M D) : CS := (cSeq (cAsg 1 (cLst (cCons (cExc0 "NoType") (cCons (cExc0 "NoValues") (cCons (cExc0 "NoText") (cCons (cExc0 "NoClass") (cCons (cExc0 "NoTable") (cCons (cExc0 "NoName") (cCons (cExc0 "NoMost") (cCons (cExc0 "NoRoots") (cCons (cExc0 "NoRoot") (cCons (cExc0 "NoDeed") cNil)))))))))))) (cSeq (cAsg 1 (cOp addD (cOwn 1) (cLst (cCons (cExc0 "TooMany") (cCons (cExc0 "Crowded") (cCons (cExc0 "NothingDone") cNil)))))) (cSeq (cAsg 2 (cOp ixD (cLst (cCons (cOp mulS (cK (.str "x")) (cOwn 0)) (cCons (cK (.str "")) cNil))) (cOp modD (cOwn 0) (cK (.int 2))))) (cSeq (cAsgN 3 (cLst (cCons (cExc1 "NoType" (cOwn 2)) (cCons (cExc1 "NoValues" (cOwn 2)) (cCons (cExc1 "NoText" (cOwn 2)) (cCons (cExc1 "NoClass" (cOwn 2)) (cCons (cExc1 "NoTable" (cOwn 2)) (cCons (cExc1 "NoName" (cOwn 2)) cNil)))))))) (cSeq (cAsgN 3 (cOp catD (cOwn 3) (cLst (cCons (cExc1 "NoMost" (cOwn 2)) (cCons (cExc1 "NoRoots" (cOwn 2)) (cCons (cExc1 "NoRoot" (cOwn 2)) (cCons (cExc1 "NoDeed" (cOwn 2)) (cCons (cExc1 "TooMany" (cOwn 2)) (cCons (cExc1 "Crowded" (cOwn 2)) cNil))))))))) (cSeq (cApp 3 (cExc1 "NothingDone" (cOwn 2))) (cSeq (cAsg 4 (cLst (cCons (cK (.str "NoType")) (cCons (cK (.str "NoValues")) (cCons (cK (.str "NoText")) (cCons (cK (.str "NoClass")) (cCons (cK (.str "NoTable")) (cCons (cK (.str "NoName")) (cCons (cK (.str "NoMost")) (cCons (cK (.str "NoRoots")) (cCons (cK (.str "NoRoot")) (cCons (cK (.str "NoDeed")) cNil)))))))))))) (cSeq (cAsg 4 (cOp addD (cOwn 4) (cLst (cCons (cK (.str "TooMany")) (cCons (cK (.str "Crowded")) (cCons (cK (.str "NothingDone")) cNil)))))) (cSeq (cIfS (cNot (cTest (cCb allD (cCons (cLc [5] (cgName 5) (cItems (cOp addD (cOwn 1) (cOwn 3))) cYes (cUn (isExcD [("NoType", true), ("NoValues", true), ("NoText", true), ("NoClass", true), ("NoTable", true), ("NoName", true), ("NoMost", true), ("NoRoots", true), ("NoRoot", true), ("NoDeed", true), ("NothingDone", true), ("TooMany", true), ("Crowded", true), ("Unfit", true), ("Looped", true), ("Turned", true), ("Clash", true), ("Endless", true)]) (cOwn 5))) cNil)))) (cRet (cK (.bl false))) cNext) (cRet (cOp eqD (cLc [5] (cgName 5) (cItems (cOp addD (cOwn 1) (cOwn 3))) cYes (cCall 1 (call 4) (cCons (cVar 5) cNil))) (cOp mulS (cOwn 4) (cK (.int 2))))))))))))))
theorem ok_L_plain_right {P : Program} {w : World} {K : PySem.W.Frag} {mg : Str → Option Value} {base : Heap} {k : Nat} {f : Addr} {fd : FuncData} {call : Nat → List D → M D} {o : Obj} (F : FunD K "_law_plain_right" "_law_plain_right" (defArgs (top 27)) (defBody (top 27)) (defScope (top 27)) [] [] f fd) (HC : Calls P w K mg base k call) (G : Glob P w K mg) (B : Bf mg) (KS : K.lookup sysModules = some o) :
    FnG P w K mg base (L2.CX P w) (k + 1) f fd ["_law_many"] (spD K mg true 1 (runC N_L_plain_right.length (c_L_plain_right call))) := by
  have sc := sc_L_plain_right
  refine fun_ok F sc_L_plain_right (fun cdv A outer s H E O hr => ?_)
  have px : Passes (L2.CX P w) (cxOf (L2.CX P w) P w K mg base N_L_plain_right "_law_plain_right" (defScope (top 27)) f cdv A outer s H E) E := passes_call (takes_of rfl rfl rfl rfl) (fun _ _ _ _ h => h)
  exact ⟨_, (pss_cons (pset 1 (pe_lst (pa_cons (pe_exc0V G.NoType) (pa_cons (pe_exc0V G.NoValues) (pa_cons (pe_exc0V G.NoText) (pa_cons (pe_exc0V G.NoClass) (pa_cons (pe_exc0V G.NoTable) (pa_cons (pe_exc0V G.NoName) (pa_cons (pe_exc0V G.NoMost) (pa_cons (pe_exc0V G.NoRoots) (pa_cons (pe_exc0V G.NoRoot) (pa_cons (pe_exc0V G.NoDeed) pa_nil))))))))))) sc.nd) (pss_cons (pset 1 (pe_op u_add (pv 1) (pe_lst (pa_cons (pe_exc0V G.TooMany) (pa_cons (pe_exc0V G.Crowded) (pa_cons (pe_exc0V G.NothingDone) pa_nil))))) sc.nd) (pss_cons (pset 2 (pix hr.u1 (pe_lst (pa_cons (pe_op u_mulS pe_str (pv 0)) (pa_cons pe_str pa_nil))) (pe_op u_mod (pv 0) pe_int)) sc.nd) (pss_cons (pset 3 (pe_lst (pa_cons (pe_exc1V G.NoType (pv 2)) (pa_cons (pe_exc1V G.NoValues (pv 2)) (pa_cons (pe_exc1V G.NoText (pv 2)) (pa_cons (pe_exc1V G.NoClass (pv 2)) (pa_cons (pe_exc1V G.NoTable (pv 2)) (pa_cons (pe_exc1V G.NoName (pv 2)) pa_nil))))))) sc.nd) (pss_cons (pset 3 (pe_op u_catN (pv 3) (pe_lst (pa_cons (pe_exc1V G.NoMost (pv 2)) (pa_cons (pe_exc1V G.NoRoots (pv 2)) (pa_cons (pe_exc1V G.NoRoot (pv 2)) (pa_cons (pe_exc1V G.NoDeed (pv 2)) (pa_cons (pe_exc1V G.TooMany (pv 2)) (pa_cons (pe_exc1V G.Crowded (pv 2)) pa_nil)))))))) sc.nd) (pss_cons (ps_expr (pe_bm PySem.F.plainAttrs_list PySem.F.slot_list_append PySem.F.type_list_append mt_append (pv 3) (pa_cons (pe_exc1V G.NothingDone (pv 2)) pa_nil))) (pss_cons (pset 4 (pe_lst (pa_cons pe_str (pa_cons pe_str (pa_cons pe_str (pa_cons pe_str (pa_cons pe_str (pa_cons pe_str (pa_cons pe_str (pa_cons pe_str (pa_cons pe_str (pa_cons pe_str pa_nil))))))))))) sc.nd) (pss_cons (pset 4 (pe_op u_add (pv 4) (pe_lst (pa_cons pe_str (pa_cons pe_str (pa_cons pe_str pa_nil))))) sc.nd) (pss_cons (ps_if (pt_not (pt_val (pall B rfl (pa_cons (pe_lc (own := [("_law_e", 5)]) rfl sc.nd (pi_seq (pe_op u_add (pv 1) (pv 3))) (blkOk_by (own := [("_law_e", 5)]) (N := N_L_plain_right) (sc := defScope (top 27)) (by decide +kernel)) (fun _ _ _ _ _ => (pgn 5 sc.nd)) (fun _ _ _ _ _ => pts_nil) (fun _ _ _ _ _ => (pisX B G.g_KindError (pv 5)))) pa_nil)))) (pss_one (ps_ret pe_bl)) pss_nil) (pss_one (ps_ret (pe_cmpR (u_eq hr.u64) (pe_lc (own := [("_law_e", 5)]) rfl sc.nd (pi_seq (pe_op u_add (pv 1) (pv 3))) (blkOk_by (own := [("_law_e", 5)]) (N := N_L_plain_right) (sc := defScope (top 27)) (by decide +kernel)) (fun _ _ _ _ _ => (pgn 5 sc.nd)) (fun _ _ _ _ _ => pts_nil) (fun _ _ _ _ _ => (pe_callD (HC.f4).d hr passL (pa_cons (pv 5) pa_nil)))) (pe_op u_mulS (pv 4) pe_int) (nomark _))))))))))))),
    (sim_seq (sim_asg (by rfl) (sim_lst (sim_cons sim_exc0 (sim_cons sim_exc0 (sim_cons sim_exc0 (sim_cons sim_exc0 (sim_cons sim_exc0 (sim_cons sim_exc0 (sim_cons sim_exc0 (sim_cons sim_exc0 (sim_cons sim_exc0 (sim_cons sim_exc0 sim_nil)))))))))))) (sim_seq (sim_asg (by rfl) (sim_op ops_u sim_own ((sim_lst (sim_cons sim_exc0 (sim_cons sim_exc0 (sim_cons sim_exc0 sim_nil))))).c)) (sim_seq (sim_asg (by rfl) (sim_op ops_u ((sim_lst (sim_cons (sim_op ops_u (sim_str).c sim_own) (sim_cons sim_str sim_nil)))).c ((sim_op ops_u sim_own (sim_int).c)).c)) (sim_seq (sim_asgN (by rfl) (simN_lst (sim_cons (sim_exc1 sim_own) (sim_cons (sim_exc1 sim_own) (sim_cons (sim_exc1 sim_own) (sim_cons (sim_exc1 sim_own) (sim_cons (sim_exc1 sim_own) (sim_cons (sim_exc1 sim_own) sim_nil)))))))) (sim_seq (sim_asgN (by rfl) (simN_cat sim_own ((sim_lst (sim_cons (sim_exc1 sim_own) (sim_cons (sim_exc1 sim_own) (sim_cons (sim_exc1 sim_own) (sim_cons (sim_exc1 sim_own) (sim_cons (sim_exc1 sim_own) (sim_cons (sim_exc1 sim_own) sim_nil)))))))).c)) (sim_seq (sim_app (sim_exc1 sim_own)) (sim_seq (sim_asg (by rfl) (sim_lst (sim_cons sim_str (sim_cons sim_str (sim_cons sim_str (sim_cons sim_str (sim_cons sim_str (sim_cons sim_str (sim_cons sim_str (sim_cons sim_str (sim_cons sim_str (sim_cons sim_str sim_nil)))))))))))) (sim_seq (sim_asg (by rfl) (sim_op ops_u sim_own ((sim_lst (sim_cons sim_str (sim_cons sim_str (sim_cons sim_str sim_nil))))).c)) (sim_seq (sim_ifS (sim_not (sim_tB ((sim_cb cbs_u (simB_cons ((SimN.e (simN_lc (vs := [5]) (simI_seq (sim_op ops_u sim_own sim_own)) (simG_name (by rfl)) sim_yes (sim_isX G.is_KindError sim_own) (wp_name (by decide)) (fun _ _ => rfl)))).c simB_nil))).c)) (sim_ret (sim_bl).c) sim_next) (sim_ret ((sim_op ops_u ((SimN.e (simN_lc (vs := [5]) (simI_seq (sim_op ops_u sim_own sim_own)) (simG_name (by rfl)) sim_yes (sim_call (sim_cons sim_var sim_nil)) (wp_name (by decide)) (fun _ _ => rfl)))).c ((sim_op ops_u sim_own (sim_int).c)).c)).c))))))))))⟩
/-! _law_fields_right -/
def N_L_fields_right : List Str := ["_law_called", "_law_sign", "_law_some", "_law_e", "_law_ring"]
theorem sc_L_fields_right : FnScope N_L_fields_right ["_law_called", "_law_sign"] (defScope (top 28)) := ⟨rfl, rfl, rfl, by decide +kernel, rfl, by decide +kernel, by decide +kernel⟩
def c_L_fields_right (call : Nat → List D → M D) : CS := (cSeq (cAsg 2 (cLst (cCons (cExcX "Unfit" ["name"] (cCons (cVar 0) cNil)) (cCons (cExcK "Unfit" ["name"] 1 [(2, 0)] (cCons (cVar 0) cNil)) (cCons (cExcX "Looped" ["name"] (cCons (cVar 0) cNil)) (cCons (cExcK "Looped" ["name"] 1 [(2, 0)] (cCons (cVar 0) cNil)) cNil)))))) (cSeq (cIfS (cTest (cOp neD (cLc [3] (cgName 3) (cItems (cVar 2)) cYes (cTup (cCons (cUn (fldX ["Unfit", "Looped", "Turned", "Clash"] "name") (cVar 3)) (cCons (cCall 1 (call 4) (cCons (cVar 3) cNil)) cNil)))) (cOp addD (cOp mulS (cLst (cCons (cTup (cCons (cVar 0) (cCons (cK (.str "Unfit")) cNil))) cNil)) (cK (.int 2))) (cOp mulS (cLst (cCons (cTup (cCons (cVar 0) (cCons (cK (.str "Looped")) cNil))) cNil)) (cK (.int 2)))))) (cRet (cK (.bl false))) cNext) (cSeq (cAsg 2 (cLst (cCons (cExcX "Turned" ["name", "letter"] (cCons (cVar 0) (cCons (cVar 1) cNil))) (cCons (cExcK "Turned" ["name", "letter"] 2 [(2, 1), (2, 0)] (cCons (cVar 1) (cCons (cVar 0) cNil))) cNil)))) (cSeq (cIfS (cTest (cOp neD (cLc [3] (cgName 3) (cItems (cVar 2)) cYes (cTup (cCons (cUn (fldX ["Unfit", "Looped", "Turned", "Clash"] "name") (cVar 3)) (cCons (cUn (fldX ["Turned"] "letter") (cVar 3)) (cCons (cCall 1 (call 4) (cCons (cVar 3) cNil)) cNil))))) (cOp mulS (cLst (cCons (cTup (cCons (cVar 0) (cCons (cVar 1) (cCons (cK (.str "Turned")) cNil)))) cNil)) (cK (.int 2))))) (cRet (cK (.bl false))) cNext) (cSeq (cAsg 2 (cLst (cCons (cExcX "Clash" ["name", "member"] (cCons (cVar 0) (cCons (cK (.str "add")) cNil))) (cCons (cExcK "Clash" ["name", "member"] 2 [(2, 1), (2, 0)] (cCons (cK (.str "add")) (cCons (cVar 0) cNil))) cNil)))) (cSeq (cIfS (cTest (cOp neD (cLc [3] (cgName 3) (cItems (cVar 2)) cYes (cTup (cCons (cUn (fldX ["Unfit", "Looped", "Turned", "Clash"] "name") (cVar 3)) (cCons (cUn (fldX ["Clash"] "member") (cVar 3)) (cCons (cCall 1 (call 4) (cCons (cVar 3) cNil)) cNil))))) (cOp mulS (cLst (cCons (cTup (cCons (cVar 0) (cCons (cK (.str "add")) (cCons (cK (.str "Clash")) cNil)))) cNil)) (cK (.int 2))))) (cRet (cK (.bl false))) cNext) (cSeq (cAsg 4 (cTup (cCons (cTup (cCons (cVar 0) (cCons (cVar 1) cNil))) (cCons (cTup (cCons (cK (.str "box")) (cCons (cK (.str "X")) cNil))) cNil)))) (cRet (cOp eqD (cLc [3] (cgName 3) (cItems (cLst (cCons (cExcX "Endless" ["cycle"] (cCons (cVar 4) cNil)) (cCons (cExcK "Endless" ["cycle"] 1 [(2, 0)] (cCons (cVar 4) cNil)) cNil)))) cYes (cTup (cCons (cUn (fldX ["Endless"] "cycle") (cVar 3)) (cCons (cCall 1 (call 4) (cCons (cVar 3) cNil)) cNil)))) (cOp mulS (cLst (cCons (cTup (cCons (cVar 4) (cCons (cK (.str "Endless")) cNil))) cNil)) (cK (.int 2))))))))))))
theorem ok_L_fields_right {P : Program} {w : World} {K : PySem.W.Frag} {mg : Str → Option Value} {base : Heap} {k : Nat} {f : Addr} {fd : FuncData} {call : Nat → List D → M D} {o : Obj} (F : FunD K "_law_fields_right" "_law_fields_right" (defArgs (top 28)) (defBody (top 28)) (defScope (top 28)) [] [] f fd) (HC : Calls P w K mg base k call) (G : Glob P w K mg) (B : Bf mg) (KS : K.lookup sysModules = some o) :
    FnG P w K mg base (L2.CX P w) (k + 1) f fd ["_law_called", "_law_sign"] (spD K mg true 2 (runC N_L_fields_right.length (c_L_fields_right call))) := by
  have sc := sc_L_fields_right
  refine fun_ok F sc_L_fields_right (fun cdv A outer s H E O hr => ?_)
  have px : Passes (L2.CX P w) (cxOf (L2.CX P w) P w K mg base N_L_fields_right "_law_fields_right" (defScope (top 28)) f cdv A outer s H E) E := passes_call (takes_of rfl rfl rfl rfl) (fun _ _ _ _ h => h)
  exact ⟨_, (pss_cons (pset 2 (pe_lst (pa_cons (pe_excXV G.xi_Unfit G.sup hr G.g_Unfit (pa_cons (pv 0) pa_nil)) (pa_cons (pe_excKV (ks := ["name"]) (arr := [(2, 0)]) G.xi_Unfit kb_name G.sup hr G.g_Unfit (pk_cons (pv 0) pk_nil)) (pa_cons (pe_excXV G.xi_Looped G.sup hr G.g_Looped (pa_cons (pv 0) pa_nil)) (pa_cons (pe_excKV (ks := ["name"]) (arr := [(2, 0)]) G.xi_Looped kb_name G.sup hr G.g_Looped (pk_cons (pv 0) pk_nil)) pa_nil))))) sc.nd) (pss_cons (ps_if (pt_cmpR (u_ne hr.u64) (pe_lc (own := [("_law_e", 3)]) rfl sc.nd (pi_seq (pv 2)) (blkOk_by (own := [("_law_e", 3)]) (N := N_L_fields_right) (sc := defScope (top 28)) (by decide +kernel)) (fun _ _ _ _ _ => (pgn 3 sc.nd)) (fun _ _ _ _ _ => pts_nil) (fun _ _ _ _ _ => (pe_tup (pa_cons (pe_xfV (pv 3)) (pa_cons (pe_callD (HC.f4).d hr passL (pa_cons (pv 3) pa_nil)) pa_nil))))) (pe_op u_add (pe_op u_mulS (pe_lst (pa_cons (pe_tup (pa_cons (pv 0) (pa_cons pe_str pa_nil))) pa_nil)) pe_int) (pe_op u_mulS (pe_lst (pa_cons (pe_tup (pa_cons (pv 0) (pa_cons pe_str pa_nil))) pa_nil)) pe_int)) (nomark _)) (pss_one (ps_ret pe_bl)) pss_nil) (pss_cons (pset 2 (pe_lst (pa_cons (pe_excXV G.xi_Turned G.sup hr G.g_Turned (pa_cons (pv 0) (pa_cons (pv 1) pa_nil))) (pa_cons (pe_excKV (ks := ["letter", "name"]) (arr := [(2, 1), (2, 0)]) G.xi_Turned kb_name_letter G.sup hr G.g_Turned (pk_cons (pv 1) (pk_cons (pv 0) pk_nil))) pa_nil))) sc.nd) (pss_cons (ps_if (pt_cmpR (u_ne hr.u64) (pe_lc (own := [("_law_e", 3)]) rfl sc.nd (pi_seq (pv 2)) (blkOk_by (own := [("_law_e", 3)]) (N := N_L_fields_right) (sc := defScope (top 28)) (by decide +kernel)) (fun _ _ _ _ _ => (pgn 3 sc.nd)) (fun _ _ _ _ _ => pts_nil) (fun _ _ _ _ _ => (pe_tup (pa_cons (pe_xfV (pv 3)) (pa_cons (pe_xfV (pv 3)) (pa_cons (pe_callD (HC.f4).d hr passL (pa_cons (pv 3) pa_nil)) pa_nil)))))) (pe_op u_mulS (pe_lst (pa_cons (pe_tup (pa_cons (pv 0) (pa_cons (pv 1) (pa_cons pe_str pa_nil)))) pa_nil)) pe_int) (nomark _)) (pss_one (ps_ret pe_bl)) pss_nil) (pss_cons (pset 2 (pe_lst (pa_cons (pe_excXV G.xi_Clash G.sup hr G.g_Clash (pa_cons (pv 0) (pa_cons pe_str pa_nil))) (pa_cons (pe_excKV (ks := ["member", "name"]) (arr := [(2, 1), (2, 0)]) G.xi_Clash kb_name_member G.sup hr G.g_Clash (pk_cons pe_str (pk_cons (pv 0) pk_nil))) pa_nil))) sc.nd) (pss_cons (ps_if (pt_cmpR (u_ne hr.u64) (pe_lc (own := [("_law_e", 3)]) rfl sc.nd (pi_seq (pv 2)) (blkOk_by (own := [("_law_e", 3)]) (N := N_L_fields_right) (sc := defScope (top 28)) (by decide +kernel)) (fun _ _ _ _ _ => (pgn 3 sc.nd)) (fun _ _ _ _ _ => pts_nil) (fun _ _ _ _ _ => (pe_tup (pa_cons (pe_xfV (pv 3)) (pa_cons (pe_xfV (pv 3)) (pa_cons (pe_callD (HC.f4).d hr passL (pa_cons (pv 3) pa_nil)) pa_nil)))))) (pe_op u_mulS (pe_lst (pa_cons (pe_tup (pa_cons (pv 0) (pa_cons pe_str (pa_cons pe_str pa_nil)))) pa_nil)) pe_int) (nomark _)) (pss_one (ps_ret pe_bl)) pss_nil) (pss_cons (pset 4 (pe_tup (pa_cons (pe_tup (pa_cons (pv 0) (pa_cons (pv 1) pa_nil))) (pa_cons (pe_tup (pa_cons pe_str (pa_cons pe_str pa_nil))) pa_nil))) sc.nd) (pss_one (ps_ret (pe_cmpR (u_eq hr.u64) (pe_lc (own := [("_law_e", 3)]) rfl sc.nd (pi_seq (pe_lst (pa_cons (pe_excXV G.xi_Endless G.sup hr G.g_Endless (pa_cons (pv 4) pa_nil)) (pa_cons (pe_excKV (ks := ["cycle"]) (arr := [(2, 0)]) G.xi_Endless kb_cycle G.sup hr G.g_Endless (pk_cons (pv 4) pk_nil)) pa_nil)))) (blkOk_by (own := [("_law_e", 3)]) (N := N_L_fields_right) (sc := defScope (top 28)) (by decide +kernel)) (fun _ _ _ _ _ => (pgn 3 sc.nd)) (fun _ _ _ _ _ => pts_nil) (fun _ _ _ _ _ => (pe_tup (pa_cons (pe_xfV (pv 3)) (pa_cons (pe_callD (HC.f4).d hr passL (pa_cons (pv 3) pa_nil)) pa_nil))))) (pe_op u_mulS (pe_lst (pa_cons (pe_tup (pa_cons (pv 4) (pa_cons pe_str pa_nil))) pa_nil)) pe_int) (nomark _))))))))))),
    (sim_seq (sim_asg (by rfl) (sim_lst (sim_cons (sim_excX (sim_cons sim_var sim_nil)) (sim_cons (sim_excK (sim_cons sim_var sim_nil)) (sim_cons (sim_excX (sim_cons sim_var sim_nil)) (sim_cons (sim_excK (sim_cons sim_var sim_nil)) sim_nil)))))) (sim_seq (sim_ifS (sim_test (sim_op ops_u ((SimN.e (simN_lc (vs := [3]) (simI_seq sim_var) (simG_name (by rfl)) sim_yes (sim_tup (sim_cons (sim_fldX G.xfs_name sim_var) (sim_cons (sim_call (sim_cons sim_var sim_nil)) sim_nil))) (wp_name (by decide)) (fun _ _ => rfl)))).c ((sim_op ops_u ((sim_op ops_u ((sim_lst (sim_cons (sim_tup (sim_cons sim_var (sim_cons sim_str sim_nil))) sim_nil))).c (sim_int).c)).c ((sim_op ops_u ((sim_lst (sim_cons (sim_tup (sim_cons sim_var (sim_cons sim_str sim_nil))) sim_nil))).c (sim_int).c)).c)).c).c) (sim_ret (sim_bl).c) sim_next) (sim_seq (sim_asg (by rfl) (sim_lst (sim_cons (sim_excX (sim_cons sim_var (sim_cons sim_var sim_nil))) (sim_cons (sim_excK (sim_cons sim_var (sim_cons sim_var sim_nil))) sim_nil)))) (sim_seq (sim_ifS (sim_test (sim_op ops_u ((SimN.e (simN_lc (vs := [3]) (simI_seq sim_var) (simG_name (by rfl)) sim_yes (sim_tup (sim_cons (sim_fldX G.xfs_name sim_var) (sim_cons (sim_fldX G.xfs_letter sim_var) (sim_cons (sim_call (sim_cons sim_var sim_nil)) sim_nil)))) (wp_name (by decide)) (fun _ _ => rfl)))).c ((sim_op ops_u ((sim_lst (sim_cons (sim_tup (sim_cons sim_var (sim_cons sim_var (sim_cons sim_str sim_nil)))) sim_nil))).c (sim_int).c)).c).c) (sim_ret (sim_bl).c) sim_next) (sim_seq (sim_asg (by rfl) (sim_lst (sim_cons (sim_excX (sim_cons sim_var (sim_cons sim_str sim_nil))) (sim_cons (sim_excK (sim_cons sim_str (sim_cons sim_var sim_nil))) sim_nil)))) (sim_seq (sim_ifS (sim_test (sim_op ops_u ((SimN.e (simN_lc (vs := [3]) (simI_seq sim_var) (simG_name (by rfl)) sim_yes (sim_tup (sim_cons (sim_fldX G.xfs_name sim_var) (sim_cons (sim_fldX G.xfs_member sim_var) (sim_cons (sim_call (sim_cons sim_var sim_nil)) sim_nil)))) (wp_name (by decide)) (fun _ _ => rfl)))).c ((sim_op ops_u ((sim_lst (sim_cons (sim_tup (sim_cons sim_var (sim_cons sim_str (sim_cons sim_str sim_nil)))) sim_nil))).c (sim_int).c)).c).c) (sim_ret (sim_bl).c) sim_next) (sim_seq (sim_asg (by rfl) (sim_tup (sim_cons (sim_tup (sim_cons sim_var (sim_cons sim_var sim_nil))) (sim_cons (sim_tup (sim_cons sim_str (sim_cons sim_str sim_nil))) sim_nil)))) (sim_ret ((sim_op ops_u ((SimN.e (simN_lc (vs := [3]) (simI_seq (sim_lst (sim_cons (sim_excX (sim_cons sim_var sim_nil)) (sim_cons (sim_excK (sim_cons sim_var sim_nil)) sim_nil)))) (simG_name (by rfl)) sim_yes (sim_tup (sim_cons (sim_fldX G.xfs_cycle sim_var) (sim_cons (sim_call (sim_cons sim_var sim_nil)) sim_nil))) (wp_name (by decide)) (fun _ _ => rfl)))).c ((sim_op ops_u ((sim_lst (sim_cons (sim_tup (sim_cons sim_var (sim_cons sim_str sim_nil))) sim_nil))).c (sim_int).c)).c)).c))))))))⟩
/-! law -/
def N_law : List Str := ["_law_script", "_law_k", "_law_pen_here"]
theorem sc_law : FnScope N_law ["_law_script"] (defScope (top 29)) := ⟨rfl, rfl, rfl, by decide +kernel, rfl, by decide +kernel, by decide +kernel⟩
def c_law (call : Nat → List D → M D) : CS := (cSeq (cFor (cgName 1) (cRange (cCons (cCb mxD (cCons (cK (.int 1)) (cCons (cCb minD (cCons (cCb lenD (cCons (cOwn 0) cNil)) (cCons (cK (.int 3)) cNil))) cNil))) cNil)) (cSeq (cAsg 2 (cCall 1 (call 1) (cCons (cCall 2 (call 0) (cCons (cVar 0) (cCons (cVar 1) cNil))) cNil))) (cSeq (cIfS (cNot (cTest (cCall 1 (call 5) (cCons (cCall 2 (call 2) (cCons (cVar 2) (cCons (cK (.int 20)) cNil))) cNil)))) (cRet (cK (.bl false))) cNext) (cIfS (cNot (cTest (cCall 2 (call 6) (cCons (cCall 2 (call 3) (cCons (cVar 2) (cCons (cLst (cCons (cK (.str "one")) (cCons (cK (.str "a")) (cCons (cK (.str "listlist")) cNil)))) cNil))) (cCons (cCall 2 (call 3) (cCons (cVar 2) (cCons (cLst (cCons (cK (.str "X")) (cCons (cK (.str "A")) (cCons (cK (.str "Z")) cNil)))) cNil))) cNil))))) (cRet (cK (.bl false))) cNext)))) (cRet (cK (.bl true))))
theorem ok_law {P : Program} {w : World} {K : PySem.W.Frag} {mg : Str → Option Value} {base : Heap} {k : Nat} {f : Addr} {fd : FuncData} {call : Nat → List D → M D} {o : Obj} (F : FunD K "law" "law" (defArgs (top 29)) (defBody (top 29)) (defScope (top 29)) [] [] f fd) (HC : Calls P w K mg base k call) (G : Glob P w K mg) (B : Bf mg) (KS : K.lookup sysModules = some o) :
    FnG P w K mg base (L2.CX P w) (k + 1) f fd ["_law_script"] (spD K mg true 1 (runC N_law.length (c_law call))) := by
  have sc := sc_law
  refine fun_ok F sc_law (fun cdv A outer s H E O hr => ?_)
  have px : Passes (L2.CX P w) (cxOf (L2.CX P w) P w K mg base N_law "law" (defScope (top 29)) f cdv A outer s H E) E := passes_call (takes_of rfl rfl rfl rfl) (fun _ _ _ _ h => h)
  exact ⟨_, (pss_cons (ps_for (passes_of rfl) rfl (pi_range1 rfl B.range (pa_cons (pmx B rfl (pa_cons pe_int (pa_cons (pmin B rfl (pa_cons (plen B (pa_cons (pv 0) pa_nil)) (pa_cons pe_int pa_nil))) pa_nil))) pa_nil)) (pgn 1 sc.nd) (pss_cons (pset 2 (pe_callD HC.f1 hr px (pa_cons (pe_callD HC.f0 hr px (pa_cons (pv 0) (pa_cons (pv 1) pa_nil))) pa_nil)) sc.nd) (pss_cons (ps_if (pt_not (pt_val (pe_callD HC.f5 hr px (pa_cons (pe_callD HC.f2 hr px (pa_cons (pv 2) (pa_cons pe_int pa_nil))) pa_nil)))) (pss_one (ps_ret pe_bl)) pss_nil) (pss_one (ps_if (pt_not (pt_val (pe_callD HC.f6 hr px (pa_cons (pe_callD HC.f3 hr px (pa_cons (pv 2) (pa_cons (pe_lst (pa_cons pe_str (pa_cons pe_str (pa_cons pe_str pa_nil)))) pa_nil))) (pa_cons (pe_callD HC.f3 hr px (pa_cons (pv 2) (pa_cons (pe_lst (pa_cons pe_str (pa_cons pe_str (pa_cons pe_str pa_nil)))) pa_nil))) pa_nil))))) (pss_one (ps_ret pe_bl)) pss_nil))))) (pss_one (ps_ret pe_bl))),
    (sim_seq (sim_for (simI_range (sim_cons (sim_cb cbs_u (simB_cons (sim_int).c (simB_cons ((sim_cb cbs_u (simB_cons ((sim_cb cbs_u (simB_cons sim_own simB_nil))).c (simB_cons (sim_int).c simB_nil)))).c simB_nil))) sim_nil)) (simG_name (by rfl)) (sim_seq (sim_asg (by rfl) (sim_call (sim_cons (sim_call (sim_cons sim_var (sim_cons sim_var sim_nil))) sim_nil))) (sim_seq (sim_ifS (sim_not (sim_tB ((sim_call (sim_cons (sim_call (sim_cons sim_var (sim_cons sim_int sim_nil))) sim_nil))).c)) (sim_ret (sim_bl).c) sim_next) (sim_ifS (sim_not (sim_tB ((sim_call (sim_cons (sim_call (sim_cons sim_var (sim_cons (sim_lst (sim_cons sim_str (sim_cons sim_str (sim_cons sim_str sim_nil)))) sim_nil))) (sim_cons (sim_call (sim_cons sim_var (sim_cons (sim_lst (sim_cons sim_str (sim_cons sim_str (sim_cons sim_str sim_nil)))) sim_nil))) sim_nil)))).c)) (sim_ret (sim_bl).c) sim_next)))) (sim_ret (sim_bl).c))⟩
def prog (call : Nat → List D → M D) : Nat → List D → M D
  | 0 => (runC N_L_cell_at.length (c_L_cell_at call))
  | 1 => (fun ds => (c_L_pen call (startR N_L_pen.length ds)).bind toPen)
  | 2 => drawD
  | 3 => (runC N_L_pick.length (c_L_pick call))
  | 4 => (runC N_L_word.length (c_L_word call))
  | 5 => (runC N_L_plain_right.length (c_L_plain_right call))
  | 6 => (runC N_L_fields_right.length (c_L_fields_right call))
  | 7 => (runC N_law.length (c_law call))
  | _ => fun _ => .stuck
def runR : Nat → Nat → List D → M D
  | 0, _ => fun _ => .stuck
  | k + 1, j => prog (runR k) j
theorem p_L_cell_at (call : Nat → List D → M D) : prog call 0 = (runC N_L_cell_at.length (c_L_cell_at call)) := by simp only [prog]
theorem p_L_pen (call : Nat → List D → M D) : prog call 1 = (fun ds => (c_L_pen call (startR N_L_pen.length ds)).bind toPen) := by simp only [prog]
theorem p_L_draw (call : Nat → List D → M D) : prog call 2 = drawD := by simp only [prog]
theorem p_L_pick (call : Nat → List D → M D) : prog call 3 = (runC N_L_pick.length (c_L_pick call)) := by simp only [prog]
theorem p_L_word (call : Nat → List D → M D) : prog call 4 = (runC N_L_word.length (c_L_word call)) := by simp only [prog]
theorem p_L_plain_right (call : Nat → List D → M D) : prog call 5 = (runC N_L_plain_right.length (c_L_plain_right call)) := by simp only [prog]
theorem p_L_fields_right (call : Nat → List D → M D) : prog call 6 = (runC N_L_fields_right.length (c_L_fields_right call)) := by simp only [prog]
theorem p_law (call : Nat → List D → M D) : prog call 7 = (runC N_law.length (c_law call)) := by simp only [prog]
theorem runR_succ (k : Nat) : runR (k + 1) = prog (runR k) := rfl
@[irreducible] def run : Nat → Nat → List D → M D := runR
theorem run_eq : run = runR := by unfold run; rfl
end
def mkD (x : Str) (i : Nat) : He.DefD := ⟨(x, none), x, x, defArgs (top i), defBody (top i), defScope (top i), [], []⟩
def mkDd (x : Str) (i : Nat) (l : List He.Dv) : He.DefD := ⟨(x, none), x, x, defArgs (top i), defBody (top i), defScope (top i), l, []⟩
def fn : List He.DefD := [mkD "_law_cell_at" 21, mkD "_law_pen" 22, mkD "_law_draw" 23, mkD "_law_pick" 25, mkD "_law_word" 26, mkD "_law_plain_right" 27, mkD "_law_fields_right" 28, mkD "law" 29]
def fa : List He.Fa := [.glo "_law_cell_at", .glo "_law_pen", .glo "_law_draw", .glo "_law_pick", .glo "_law_word", .glo "_law_plain_right", .glo "_law_fields_right", .glo "law", .free "len", .free "isinstance", .free "all", .free "any", .free "sum", .free "max", .free "min", .free "range", .free "list", .free "tuple", .free "dict", .free "repr", .free "str", .free "int", .free "bool", .free "sorted", .free "set", .free "zip", .free "enumerate", .free "super", .glo "NoType", .exc "NoType", .glo "NoValues", .exc "NoValues", .glo "NoText", .exc "NoText", .glo "NoClass", .exc "NoClass", .glo "NoTable", .exc "NoTable", .glo "NoName", .exc "NoName", .glo "NoMost", .exc "NoMost", .glo "NoRoots", .exc "NoRoots", .glo "NoRoot", .exc "NoRoot", .glo "NoDeed", .exc "NoDeed", .glo "NothingDone", .exc "NothingDone", .glo "TooMany", .exc "TooMany", .glo "Crowded", .exc "Crowded", .glo "Unfit", .glo "Looped", .glo "Turned", .glo "Clash", .glo "Endless", .free "ValueError", .glo "KindError"]
def tf : List (He.Defn × Str) := []
abbrev R : PySem.W.OpenRow := PySem.W.OpenLaw.row PySem.Challenge.rw_endlesskinds_k26_exceptions_made
def ex (K : PySem.W.Frag) : Bool := [xiB R.prog K "Unfit" ["name"], xiB R.prog K "Looped" ["name"], xiB R.prog K "Turned" ["name", "letter"], xiB R.prog K "Clash" ["name", "member"], xiB R.prog K "Endless" ["cycle"], xsB K (.ref (He.ga K "NoType")) [("NoType", true), ("NoValues", false), ("NoText", false), ("NoClass", false), ("NoTable", false), ("NoName", false), ("NoMost", false), ("NoRoots", false), ("NoRoot", false), ("NoDeed", false), ("NothingDone", false), ("TooMany", false), ("Crowded", false), ("Unfit", false), ("Looped", false), ("Turned", false), ("Clash", false), ("Endless", false)], xsB K (.ref (He.ga K "NoValues")) [("NoType", false), ("NoValues", true), ("NoText", false), ("NoClass", false), ("NoTable", false), ("NoName", false), ("NoMost", false), ("NoRoots", false), ("NoRoot", false), ("NoDeed", false), ("NothingDone", false), ("TooMany", false), ("Crowded", false), ("Unfit", false), ("Looped", false), ("Turned", false), ("Clash", false), ("Endless", false)], xsB K (.ref (He.ga K "NoText")) [("NoType", false), ("NoValues", false), ("NoText", true), ("NoClass", false), ("NoTable", false), ("NoName", false), ("NoMost", false), ("NoRoots", false), ("NoRoot", false), ("NoDeed", false), ("NothingDone", false), ("TooMany", false), ("Crowded", false), ("Unfit", false), ("Looped", false), ("Turned", false), ("Clash", false), ("Endless", false)], xsB K (.ref (He.ga K "NoClass")) [("NoType", false), ("NoValues", false), ("NoText", false), ("NoClass", true), ("NoTable", false), ("NoName", false), ("NoMost", false), ("NoRoots", false), ("NoRoot", false), ("NoDeed", false), ("NothingDone", false), ("TooMany", false), ("Crowded", false), ("Unfit", false), ("Looped", false), ("Turned", false), ("Clash", false), ("Endless", false)], xsB K (.ref (He.ga K "NoTable")) [("NoType", false), ("NoValues", false), ("NoText", false), ("NoClass", false), ("NoTable", true), ("NoName", false), ("NoMost", false), ("NoRoots", false), ("NoRoot", false), ("NoDeed", false), ("NothingDone", false), ("TooMany", false), ("Crowded", false), ("Unfit", false), ("Looped", false), ("Turned", false), ("Clash", false), ("Endless", false)], xsB K (.ref (He.ga K "NoName")) [("NoType", false), ("NoValues", false), ("NoText", false), ("NoClass", false), ("NoTable", false), ("NoName", true), ("NoMost", false), ("NoRoots", false), ("NoRoot", false), ("NoDeed", false), ("NothingDone", false), ("TooMany", false), ("Crowded", false), ("Unfit", false), ("Looped", false), ("Turned", false), ("Clash", false), ("Endless", false)], xsB K (.ref (He.ga K "NoMost")) [("NoType", false), ("NoValues", false), ("NoText", false), ("NoClass", false), ("NoTable", false), ("NoName", false), ("NoMost", true), ("NoRoots", false), ("NoRoot", false), ("NoDeed", false), ("NothingDone", false), ("TooMany", false), ("Crowded", false), ("Unfit", false), ("Looped", false), ("Turned", false), ("Clash", false), ("Endless", false)], xsB K (.ref (He.ga K "NoRoots")) [("NoType", false), ("NoValues", false), ("NoText", false), ("NoClass", false), ("NoTable", false), ("NoName", false), ("NoMost", false), ("NoRoots", true), ("NoRoot", false), ("NoDeed", false), ("NothingDone", false), ("TooMany", false), ("Crowded", false), ("Unfit", false), ("Looped", false), ("Turned", false), ("Clash", false), ("Endless", false)], xsB K (.ref (He.ga K "NoRoot")) [("NoType", false), ("NoValues", false), ("NoText", false), ("NoClass", false), ("NoTable", false), ("NoName", false), ("NoMost", false), ("NoRoots", false), ("NoRoot", true), ("NoDeed", false), ("NothingDone", false), ("TooMany", false), ("Crowded", false), ("Unfit", false), ("Looped", false), ("Turned", false), ("Clash", false), ("Endless", false)], xsB K (.ref (He.ga K "NoDeed")) [("NoType", false), ("NoValues", false), ("NoText", false), ("NoClass", false), ("NoTable", false), ("NoName", false), ("NoMost", false), ("NoRoots", false), ("NoRoot", false), ("NoDeed", true), ("NothingDone", false), ("TooMany", false), ("Crowded", false), ("Unfit", false), ("Looped", false), ("Turned", false), ("Clash", false), ("Endless", false)], xsB K (.ref (He.ga K "TooMany")) [("NoType", false), ("NoValues", false), ("NoText", false), ("NoClass", false), ("NoTable", false), ("NoName", false), ("NoMost", false), ("NoRoots", false), ("NoRoot", false), ("NoDeed", false), ("NothingDone", false), ("TooMany", true), ("Crowded", false), ("Unfit", false), ("Looped", false), ("Turned", false), ("Clash", false), ("Endless", false)], xsB K (.ref (He.ga K "Crowded")) [("NoType", false), ("NoValues", false), ("NoText", false), ("NoClass", false), ("NoTable", false), ("NoName", false), ("NoMost", false), ("NoRoots", false), ("NoRoot", false), ("NoDeed", false), ("NothingDone", false), ("TooMany", false), ("Crowded", true), ("Unfit", false), ("Looped", false), ("Turned", false), ("Clash", false), ("Endless", false)], xsB K (.ref (He.ga K "NothingDone")) [("NoType", false), ("NoValues", false), ("NoText", false), ("NoClass", false), ("NoTable", false), ("NoName", false), ("NoMost", false), ("NoRoots", false), ("NoRoot", false), ("NoDeed", false), ("NothingDone", true), ("TooMany", false), ("Crowded", false), ("Unfit", false), ("Looped", false), ("Turned", false), ("Clash", false), ("Endless", false)], xsB K (.ref (He.ga K "Unfit")) [("NoType", false), ("NoValues", false), ("NoText", false), ("NoClass", false), ("NoTable", false), ("NoName", false), ("NoMost", false), ("NoRoots", false), ("NoRoot", false), ("NoDeed", false), ("NothingDone", false), ("TooMany", false), ("Crowded", false), ("Unfit", true), ("Looped", false), ("Turned", false), ("Clash", false), ("Endless", false)], xsB K (.ref (He.ga K "Looped")) [("NoType", false), ("NoValues", false), ("NoText", false), ("NoClass", false), ("NoTable", false), ("NoName", false), ("NoMost", false), ("NoRoots", false), ("NoRoot", false), ("NoDeed", false), ("NothingDone", false), ("TooMany", false), ("Crowded", false), ("Unfit", false), ("Looped", true), ("Turned", false), ("Clash", false), ("Endless", false)], xsB K (.ref (He.ga K "Turned")) [("NoType", false), ("NoValues", false), ("NoText", false), ("NoClass", false), ("NoTable", false), ("NoName", false), ("NoMost", false), ("NoRoots", false), ("NoRoot", false), ("NoDeed", false), ("NothingDone", false), ("TooMany", false), ("Crowded", false), ("Unfit", false), ("Looped", false), ("Turned", true), ("Clash", false), ("Endless", false)], xsB K (.ref (He.ga K "Endless")) [("NoType", false), ("NoValues", false), ("NoText", false), ("NoClass", false), ("NoTable", false), ("NoName", false), ("NoMost", false), ("NoRoots", false), ("NoRoot", false), ("NoDeed", false), ("NothingDone", false), ("TooMany", false), ("Crowded", false), ("Unfit", false), ("Looped", false), ("Turned", false), ("Clash", false), ("Endless", true)], xsB K (.ref (He.ga K "Clash")) [("NoType", false), ("NoValues", false), ("NoText", false), ("NoClass", false), ("NoTable", false), ("NoName", false), ("NoMost", false), ("NoRoots", false), ("NoRoot", false), ("NoDeed", false), ("NothingDone", false), ("TooMany", false), ("Crowded", false), ("Unfit", false), ("Looped", false), ("Turned", false), ("Clash", true), ("Endless", false)], xsB K (.type "ValueError") [("NoType", true), ("NoValues", true), ("NoText", true), ("NoClass", true), ("NoTable", true), ("NoName", true), ("NoMost", true), ("NoRoots", true), ("NoRoot", true), ("NoDeed", true), ("NothingDone", true), ("TooMany", true), ("Crowded", true), ("Unfit", true), ("Looped", true), ("Turned", true), ("Clash", true), ("Endless", true)], xsB K (.ref (He.ga K "KindError")) [("NoType", true), ("NoValues", true), ("NoText", true), ("NoClass", true), ("NoTable", true), ("NoName", true), ("NoMost", true), ("NoRoots", true), ("NoRoot", true), ("NoDeed", true), ("NothingDone", true), ("TooMany", true), ("Crowded", true), ("Unfit", true), ("Looped", true), ("Turned", true), ("Clash", true), ("Endless", true)], xfsB K ["Endless"] "cycle", xfsB K ["Turned"] "letter", xfsB K ["Clash"] "member", xfsB K ["Unfit", "Looped", "Turned", "Clash"] "name", tabND K tf].all id
abbrev hk : PySem.W.Hook := hookY 3 fa fn (tf.map (·.1)) ex
def ob (s : PySem.W.SharedT) : Py.Seen := obsY 3 fa fn (tf.map (·.1)) ex (HandSHeadRun.getT s)
theorem ob_eq (s : PySem.W.SharedT) : ob s = hk.obs s.abs := obsY_eq (HandSHeadRun.getT_eq s)
def nms : List Str := [Str.ofString "KindError", Str.ofString "NoType", Str.ofString "NoValues", Str.ofString "NoText", Str.ofString "NoClass", Str.ofString "NoTable", Str.ofString "NoName", Str.ofString "NoMost", Str.ofString "NoRoots", Str.ofString "NoRoot", Str.ofString "NoDeed", Str.ofString "TooMany", Str.ofString "Crowded", Str.ofString "NothingDone", Str.ofString "Unfit", Str.ofString "Looped", Str.ofString "Turned", Str.ofString "Endless", Str.ofString "Clash", Str.ofString "_law_cell_at", Str.ofString "_law_pen", Str.ofString "_law_draw", Str.ofString "_law_same", Str.ofString "_law_pick", Str.ofString "_law_word", Str.ofString "_law_plain_right", Str.ofString "_law_fields_right"]
--HEAD
theorem headRun (w : World) : HandSHeadRun.RunEq R (PySem.W.view R.prog [29]) hk ob 20000 nms w := by
  intro os
  kernel_rfl
--HEADEND
section
variable [Wd]
theorem glob {P : Program} {w : World} {K : PySem.W.Frag} {h hh : Heap} {mg : Str → Option Value} (hP : P = R.prog) (hW : Wd.w = w) (X : K.In h) (G : h.Ns mainGlobals mg) (c0 : SaysY fa fn (tf.map (·.1)) ex hh K) : Bf mg ∧ Glob P w K mg ∧ (tf.map fun p => (He.cT K p.1).2).Nodup := by
  have c := c0.d
  have m := c0.more
  unfold ex at m
  simp only [List.all_cons, List.all_nil, Bool.and_true, Bool.and_eq_true, id_eq] at m
  obtain ⟨x0, m⟩ := m
  obtain ⟨x1, m⟩ := m
  obtain ⟨x2, m⟩ := m
  obtain ⟨x3, m⟩ := m
  obtain ⟨x4, m⟩ := m
  obtain ⟨x5, m⟩ := m
  obtain ⟨x6, m⟩ := m
  obtain ⟨x7, m⟩ := m
  obtain ⟨x8, m⟩ := m
  obtain ⟨x9, m⟩ := m
  obtain ⟨x10, m⟩ := m
  obtain ⟨x11, m⟩ := m
  obtain ⟨x12, m⟩ := m
  obtain ⟨x13, m⟩ := m
  obtain ⟨x14, m⟩ := m
  obtain ⟨x15, m⟩ := m
  obtain ⟨x16, m⟩ := m
  obtain ⟨x17, m⟩ := m
  obtain ⟨x18, m⟩ := m
  obtain ⟨x19, m⟩ := m
  obtain ⟨x20, m⟩ := m
  obtain ⟨x21, m⟩ := m
  obtain ⟨x22, m⟩ := m
  obtain ⟨x23, m⟩ := m
  obtain ⟨x24, m⟩ := m
  obtain ⟨x25, m⟩ := m
  obtain ⟨x26, m⟩ := m
  obtain ⟨x27, m⟩ := m
  obtain ⟨x28, m⟩ := m
  have x29 := m
  refine ⟨{ len := He.free_ok X G (c.fact 8 rfl), isinstance := He.free_ok X G (c.fact 9 rfl), all := He.free_ok X G (c.fact 10 rfl), any := He.free_ok X G (c.fact 11 rfl), sum := He.free_ok X G (c.fact 12 rfl), max := He.free_ok X G (c.fact 13 rfl), min := He.free_ok X G (c.fact 14 rfl), range := He.free_ok X G (c.fact 15 rfl), list := He.free_ok X G (c.fact 16 rfl), tuple := He.free_ok X G (c.fact 17 rfl), dict := He.free_ok X G (c.fact 18 rfl), repr := He.free_ok X G (c.fact 19 rfl), str := He.free_ok X G (c.fact 20 rfl), int := He.free_ok X G (c.fact 21 rfl), bool := He.free_ok X G (c.fact 22 rfl), sorted := He.free_ok X G (c.fact 23 rfl), set := He.free_ok X G (c.fact 24 rfl), zip := He.free_ok X G (c.fact 25 rfl), enumerate := He.free_ok X G (c.fact 26 rfl) }, { sup := He.free_ok X G (c.fact 27 rfl), NoType := exc_of X G (c.fact 29 rfl) (c.fact 28 rfl), NoValues := exc_of X G (c.fact 31 rfl) (c.fact 30 rfl), NoText := exc_of X G (c.fact 33 rfl) (c.fact 32 rfl), NoClass := exc_of X G (c.fact 35 rfl) (c.fact 34 rfl), NoTable := exc_of X G (c.fact 37 rfl) (c.fact 36 rfl), NoName := exc_of X G (c.fact 39 rfl) (c.fact 38 rfl), NoMost := exc_of X G (c.fact 41 rfl) (c.fact 40 rfl), NoRoots := exc_of X G (c.fact 43 rfl) (c.fact 42 rfl), NoRoot := exc_of X G (c.fact 45 rfl) (c.fact 44 rfl), NoDeed := exc_of X G (c.fact 47 rfl) (c.fact 46 rfl), NothingDone := exc_of X G (c.fact 49 rfl) (c.fact 48 rfl), TooMany := exc_of X G (c.fact 51 rfl) (c.fact 50 rfl), Crowded := exc_of X G (c.fact 53 rfl) (c.fact 52 rfl), g_NoType := He.glo_ok X G (c.fact 28 rfl), g_NoValues := He.glo_ok X G (c.fact 30 rfl), g_NoText := He.glo_ok X G (c.fact 32 rfl), g_NoClass := He.glo_ok X G (c.fact 34 rfl), g_NoTable := He.glo_ok X G (c.fact 36 rfl), g_NoName := He.glo_ok X G (c.fact 38 rfl), g_NoMost := He.glo_ok X G (c.fact 40 rfl), g_NoRoots := He.glo_ok X G (c.fact 42 rfl), g_NoRoot := He.glo_ok X G (c.fact 44 rfl), g_NoDeed := He.glo_ok X G (c.fact 46 rfl), g_TooMany := He.glo_ok X G (c.fact 50 rfl), g_Crowded := He.glo_ok X G (c.fact 52 rfl), g_NothingDone := He.glo_ok X G (c.fact 48 rfl), g_Unfit := He.glo_ok X G (c.fact 54 rfl), g_Looped := He.glo_ok X G (c.fact 55 rfl), g_Turned := He.glo_ok X G (c.fact 56 rfl), g_Endless := He.glo_ok X G (c.fact 58 rfl), g_Clash := He.glo_ok X G (c.fact 57 rfl), ve := He.free_ok X G (c.fact 59 rfl), g_KindError := He.glo_ok X G (c.fact 60 rfl), xi_Unfit := by subst hP; exact xiB_ok bp_name (by decide) (by decide) (by decide) x0, xi_Looped := by subst hP; exact xiB_ok bp_name (by decide) (by decide) (by decide) x1, xi_Turned := by subst hP; exact xiB_ok bp_name_letter (by decide) (by decide) (by decide) x2, xi_Clash := by subst hP; exact xiB_ok bp_name_member (by decide) (by decide) (by decide) x3, xi_Endless := by subst hP; exact xiB_ok bp_cycle (by decide) (by decide) (by decide) x4, is_NoType := xsB_ok x5, is_NoValues := xsB_ok x6, is_NoText := xsB_ok x7, is_NoClass := xsB_ok x8, is_NoTable := xsB_ok x9, is_NoName := xsB_ok x10, is_NoMost := xsB_ok x11, is_NoRoots := xsB_ok x12, is_NoRoot := xsB_ok x13, is_NoDeed := xsB_ok x14, is_TooMany := xsB_ok x15, is_Crowded := xsB_ok x16, is_NothingDone := xsB_ok x17, is_Unfit := xsB_ok x18, is_Looped := xsB_ok x19, is_Turned := xsB_ok x20, is_Endless := xsB_ok x21, is_Clash := xsB_ok x22, is_ValueError := xsB_ok x23, is_KindError := xsB_ok x24, xfs_cycle := xfsB_ok x25, xfs_letter := xfsB_ok x26, xfs_member := xfsB_ok x27, xfs_name := xfsB_ok x28 }, of_decide_eq_true x29⟩
theorem calls {P : Program} {w : World} {K : PySem.W.Frag} {h hh : Heap} {mg : Str → Option Value} {base : Heap} (hP : P = R.prog) (hW : Wd.w = w) (X : K.In h) (G : h.Ns mainGlobals mg) (c0 : SaysY fa fn (tf.map (·.1)) ex hh K) (hT : Wd.T = tabT K tf) (TB : ∀ p ∈ (tf.map (·.1)).map (He.cT K), LamX.TabB base mg p.1 p.2) : ∀ k, Calls P w K mg base k (runR k) := by
  obtain ⟨B, Gb, nd⟩ := glob hP hW X G c0
  obtain ⟨o, KS⟩ := c0.sys
  have c := c0.d
  obtain ⟨fd0, F0⟩ := c.def_ 0 (d := mkD "_law_cell_at" 21) rfl
  have b0 : Binds K fd0 ["_law_script", "_law_k"] [] := FunD.bindsN F0 fun _ _ _ _ _ _ us hl => match us, hl with | [_, _], _ => rfl
  have g0 := He.glo_ok X G (c.fact 0 (f := .glo "_law_cell_at") rfl)
  obtain ⟨fd1, F1⟩ := c.def_ 1 (d := mkD "_law_pen" 22) rfl
  have b1 : Binds K fd1 ["_law_cell"] [] := FunD.bindsN F1 fun _ _ _ _ _ _ us hl => match us, hl with | [_], _ => rfl
  have g1 := He.glo_ok X G (c.fact 1 (f := .glo "_law_pen") rfl)
  obtain ⟨fd2, F2⟩ := c.def_ 2 (d := mkD "_law_draw" 23) rfl
  have b2 : Binds K fd2 ["_law_pen_here", "_law_many"] [] := FunD.bindsN F2 fun _ _ _ _ _ _ us hl => match us, hl with | [_, _], _ => rfl
  have g2 := He.glo_ok X G (c.fact 2 (f := .glo "_law_draw") rfl)
  obtain ⟨fd3, F3⟩ := c.def_ 3 (d := mkD "_law_pick" 25) rfl
  have b3 : Binds K fd3 ["_law_pen_here", "_law_some"] [] := FunD.bindsN F3 fun _ _ _ _ _ _ us hl => match us, hl with | [_, _], _ => rfl
  have g3 := He.glo_ok X G (c.fact 3 (f := .glo "_law_pick") rfl)
  obtain ⟨fd4, F4⟩ := c.def_ 4 (d := mkD "_law_word" 26) rfl
  have b4 : Binds K fd4 ["_law_e"] [] := FunD.bindsN F4 fun _ _ _ _ _ _ us hl => match us, hl with | [_], _ => rfl
  have g4 := He.glo_ok X G (c.fact 4 (f := .glo "_law_word") rfl)
  obtain ⟨fd5, F5⟩ := c.def_ 5 (d := mkD "_law_plain_right" 27) rfl
  have b5 : Binds K fd5 ["_law_many"] [] := FunD.bindsN F5 fun _ _ _ _ _ _ us hl => match us, hl with | [_], _ => rfl
  have g5 := He.glo_ok X G (c.fact 5 (f := .glo "_law_plain_right") rfl)
  obtain ⟨fd6, F6⟩ := c.def_ 6 (d := mkD "_law_fields_right" 28) rfl
  have b6 : Binds K fd6 ["_law_called", "_law_sign"] [] := FunD.bindsN F6 fun _ _ _ _ _ _ us hl => match us, hl with | [_, _], _ => rfl
  have g6 := He.glo_ok X G (c.fact 6 (f := .glo "_law_fields_right") rfl)
  have S : ∀ k, Calls P w K mg base k (runR k) → Calls P w K mg base k (runR k) := fun k h => h
  have all : ∀ k, Calls P w K mg base k (runR k) := by
    intro k
    induction k with
    | zero => exact { f0 := ⟨_, fd0, _, g0, F0.kp, b0, fun_zero⟩, f1 := ⟨_, fd1, _, g1, F1.kp, b1, fun_zero⟩, f2 := ⟨_, fd2, _, g2, F2.kp, b2, fun_zero⟩, f3 := ⟨_, fd3, _, g3, F3.kp, b3, fun_zero⟩, f4 := ⟨_, fd4, _, g4, F4.kp, b4, fun_zeroW⟩, f5 := ⟨_, fd5, _, g5, F5.kp, b5, fun_zero⟩, f6 := ⟨_, fd6, _, g6, F6.kp, b6, fun_zero⟩ }
    | succ k ih =>
      have ih2 := S k ih
      rw [runR_succ]
      generalize runR k = call at ih2 ⊢
      have q0 : CallOk P w K mg base (k + 1) "_law_cell_at" true 2 (prog call 0) := by
        rw [p_L_cell_at]
        exact ⟨_, fd0, _, g0, F0.kp, b0, ok_L_cell_at F0 ih2 Gb B KS⟩
      have q1 : CallOk P w K mg base (k + 1) "_law_pen" true 1 (prog call 1) := by
        rw [p_L_pen]
        exact ⟨_, fd1, _, g1, F1.kp, b1, ok_L_pen F1 ih2 Gb B KS⟩
      have q2 : CallOk P w K mg base (k + 1) "_law_draw" true 2 (prog call 2) := by
        rw [p_L_draw]
        exact ⟨_, fd2, _, g2, F2.kp, b2, ok_L_draw F2 ih2 Gb B KS⟩
      have q3 : CallOk P w K mg base (k + 1) "_law_pick" true 2 (prog call 3) := by
        rw [p_L_pick]
        exact ⟨_, fd3, _, g3, F3.kp, b3, ok_L_pick F3 ih2 Gb B KS⟩
      have q4 : CallW P w K mg base (k + 1) "_law_word" true 1 (prog call 4) := by
        rw [p_L_word]
        exact ⟨_, fd4, _, g4, F4.kp, b4, ok_L_word F4 ih2 Gb B KS⟩
      have q5 : CallOk P w K mg base (k + 1) "_law_plain_right" true 1 (prog call 5) := by
        rw [p_L_plain_right]
        exact ⟨_, fd5, _, g5, F5.kp, b5, ok_L_plain_right F5 ih2 Gb B KS⟩
      have q6 : CallOk P w K mg base (k + 1) "_law_fields_right" true 2 (prog call 6) := by
        rw [p_L_fields_right]
        exact ⟨_, fd6, _, g6, F6.kp, b6, ok_L_fields_right F6 ih2 Gb B KS⟩
      exact { f0 := q0, f1 := q1, f2 := q2, f3 := q3, f4 := q4, f5 := q5, f6 := q6 }
  exact fun k => S k (all k)
theorem facts {P : Program} {w : World} {K : PySem.W.Frag} {h : Heap} {mg : Str → Option Value} {f : Addr} (hP : P = R.prog) (hW : Wd.w = w) (X : K.In h) (G : h.Ns mainGlobals mg) (hfa : mg ("law" : Str) = some (.ref f)) (c0 : SaysY fa fn (tf.map (·.1)) ex h K) (hT : Wd.T = tabT K tf) :
    ∃ fd : FuncData, (∀ (s : Shared) (v : Value), BindsTo s fd ⟨[v], []⟩ [("_law_script", v)]) ∧ ∀ base : Heap, K.In base → base.Ns mainGlobals mg → (∀ p ∈ (tf.map (·.1)).map (He.cT K), LamX.TabB base mg p.1 p.2) → FnG P w K mg base (L2.CX P w) 201 f fd ["_law_script"] (spD K mg true 1 (runR 201 7)) := by
  have c := c0.d
  obtain ⟨fd7, F7⟩ := c.def_ 7 (d := mkD "law" 29) rfl
  have e := hfa.symm.trans (He.glo_ok X G (c.fact 7 (f := .glo "law") rfl))
  cases e
  have b := FunD.bindsA (ps := ["_law_script"]) F7 fun _ _ _ _ _ _ us hl => match us, hl with | [_], _ => rfl
  obtain ⟨B, Gb, nd⟩ := glob hP hW X G c0
  obtain ⟨o, KS⟩ := c0.sys
  refine ⟨fd7, fun s v => b s [v] rfl, fun base _ _ TB => ?_⟩
  exact ok_law F7 (calls hP hW X G c0 hT TB 200) Gb B KS
theorem r_L_cell_at (k : Nat) (ds : List D) : run (k + 1) 0 ds = (runC N_L_cell_at.length (c_L_cell_at (run k))) ds := by rw [run_eq]; rfl
theorem r_L_pen (k : Nat) (ds : List D) : run (k + 1) 1 ds = (fun ds => (c_L_pen (run k) (startR N_L_pen.length ds)).bind toPen) ds := by rw [run_eq]; rfl
theorem r_L_draw (k : Nat) (ds : List D) : run (k + 1) 2 ds = drawD ds := by rw [run_eq]; rfl
theorem r_L_pick (k : Nat) (ds : List D) : run (k + 1) 3 ds = (runC N_L_pick.length (c_L_pick (run k))) ds := by rw [run_eq]; rfl
theorem r_L_word (k : Nat) (ds : List D) : run (k + 1) 4 ds = (runC N_L_word.length (c_L_word (run k))) ds := by rw [run_eq]; rfl
theorem r_L_plain_right (k : Nat) (ds : List D) : run (k + 1) 5 ds = (runC N_L_plain_right.length (c_L_plain_right (run k))) ds := by rw [run_eq]; rfl
theorem r_L_fields_right (k : Nat) (ds : List D) : run (k + 1) 6 ds = (runC N_L_fields_right.length (c_L_fields_right (run k))) ds := by rw [run_eq]; rfl
theorem r_law (k : Nat) (ds : List D) : run (k + 1) 7 ds = (runC N_law.length (c_law (run k))) ds := by rw [run_eq]; rfl
end
end Wk26

/-! k26, the plain law: by evaluation. -/
namespace Wk26
open PySem L2 Py
variable [Wd]
def isT : M D → Bool
  | .ret (.bl true) => true
  | _ => false
theorem isT_eq {m : M D} (h : isT m = true) : m = .ret (.bl true) := by
  unfold isT at h
  split at h
  · rfl
  · cases h
theorem er : run 200 = runR 200 := by rw [run_eq]
theorem c5_0 : isT (runR 200 5 [.int 0]) = true := by kernel_rfl
theorem c5_1 : isT (runR 200 5 [.int 1]) = true := by kernel_rfl
theorem c5_2 : isT (runR 200 5 [.int 2]) = true := by kernel_rfl
theorem c5_3 : isT (runR 200 5 [.int 3]) = true := by kernel_rfl
theorem c5_4 : isT (runR 200 5 [.int 4]) = true := by kernel_rfl
theorem c5_5 : isT (runR 200 5 [.int 5]) = true := by kernel_rfl
theorem c5_6 : isT (runR 200 5 [.int 6]) = true := by kernel_rfl
theorem c5_7 : isT (runR 200 5 [.int 7]) = true := by kernel_rfl
theorem c5_8 : isT (runR 200 5 [.int 8]) = true := by kernel_rfl
theorem c5_9 : isT (runR 200 5 [.int 9]) = true := by kernel_rfl
theorem c5_10 : isT (runR 200 5 [.int 10]) = true := by kernel_rfl
theorem c5_11 : isT (runR 200 5 [.int 11]) = true := by kernel_rfl
theorem c5_12 : isT (runR 200 5 [.int 12]) = true := by kernel_rfl
theorem c5_13 : isT (runR 200 5 [.int 13]) = true := by kernel_rfl
theorem c5_14 : isT (runR 200 5 [.int 14]) = true := by kernel_rfl
theorem c5_15 : isT (runR 200 5 [.int 15]) = true := by kernel_rfl
theorem c5_16 : isT (runR 200 5 [.int 16]) = true := by kernel_rfl
theorem c5_17 : isT (runR 200 5 [.int 17]) = true := by kernel_rfl
theorem c5_18 : isT (runR 200 5 [.int 18]) = true := by kernel_rfl
theorem c5_19 : isT (runR 200 5 [.int 19]) = true := by kernel_rfl
theorem c6_0_0 : isT (runR 200 6 [.str "one", .str "X"]) = true := by kernel_rfl
theorem c6_0_1 : isT (runR 200 6 [.str "one", .str "A"]) = true := by kernel_rfl
theorem c6_0_2 : isT (runR 200 6 [.str "one", .str "Z"]) = true := by kernel_rfl
theorem c6_1_0 : isT (runR 200 6 [.str "a", .str "X"]) = true := by kernel_rfl
theorem c6_1_1 : isT (runR 200 6 [.str "a", .str "A"]) = true := by kernel_rfl
theorem c6_1_2 : isT (runR 200 6 [.str "a", .str "Z"]) = true := by kernel_rfl
theorem c6_2_0 : isT (runR 200 6 [.str "listlist", .str "X"]) = true := by kernel_rfl
theorem c6_2_1 : isT (runR 200 6 [.str "listlist", .str "A"]) = true := by kernel_rfl
theorem c6_2_2 : isT (runR 200 6 [.str "listlist", .str "Z"]) = true := by kernel_rfl
theorem ok5 (i : Nat) (h : i < 20) : run 200 5 [.int (i : Int)] = .ret (.bl true) := by
  rw [er]
  match i, h with
  | 0, _ => exact isT_eq c5_0
  | 1, _ => exact isT_eq c5_1
  | 2, _ => exact isT_eq c5_2
  | 3, _ => exact isT_eq c5_3
  | 4, _ => exact isT_eq c5_4
  | 5, _ => exact isT_eq c5_5
  | 6, _ => exact isT_eq c5_6
  | 7, _ => exact isT_eq c5_7
  | 8, _ => exact isT_eq c5_8
  | 9, _ => exact isT_eq c5_9
  | 10, _ => exact isT_eq c5_10
  | 11, _ => exact isT_eq c5_11
  | 12, _ => exact isT_eq c5_12
  | 13, _ => exact isT_eq c5_13
  | 14, _ => exact isT_eq c5_14
  | 15, _ => exact isT_eq c5_15
  | 16, _ => exact isT_eq c5_16
  | 17, _ => exact isT_eq c5_17
  | 18, _ => exact isT_eq c5_18
  | 19, _ => exact isT_eq c5_19
  | n + 20, h => exact absurd h (by omega)
theorem ok6_0_0 : run 200 6 [.str "one", .str "X"] = .ret (.bl true) := by rw [er]; exact isT_eq c6_0_0
theorem ok6_0_1 : run 200 6 [.str "one", .str "A"] = .ret (.bl true) := by rw [er]; exact isT_eq c6_0_1
theorem ok6_0_2 : run 200 6 [.str "one", .str "Z"] = .ret (.bl true) := by rw [er]; exact isT_eq c6_0_2
theorem ok6_1_0 : run 200 6 [.str "a", .str "X"] = .ret (.bl true) := by rw [er]; exact isT_eq c6_1_0
theorem ok6_1_1 : run 200 6 [.str "a", .str "A"] = .ret (.bl true) := by rw [er]; exact isT_eq c6_1_1
theorem ok6_1_2 : run 200 6 [.str "a", .str "Z"] = .ret (.bl true) := by rw [er]; exact isT_eq c6_1_2
theorem ok6_2_0 : run 200 6 [.str "listlist", .str "X"] = .ret (.bl true) := by rw [er]; exact isT_eq c6_2_0
theorem ok6_2_1 : run 200 6 [.str "listlist", .str "A"] = .ret (.bl true) := by rw [er]; exact isT_eq c6_2_1
theorem ok6_2_2 : run 200 6 [.str "listlist", .str "Z"] = .ret (.bl true) := by rw [er]; exact isT_eq c6_2_2
theorem run_cell (ns : List Int) (j : Nat) (k : Nat) : ∃ c : Int, run (k + 1) 0 [.scr ns, .int j] = .ret (.int c) := by
  simp only [r_L_cell_at]
  unfold c_L_cell_at N_L_cell_at
  by_cases h : j < ns.length
  · have b : decide ((j : Int) < (ns.length : Int)) = true := decide_eq_true (by omega)
    have e : ixD (.scr ns) (.int j) = some (.int ns[j]) := by
      show (atI ns (j : Int)).map D.int = _
      rw [at_nat, List.getElem?_eq_getElem h]; rfl
    exact ⟨ns[j], by simp only [runC, startR, Py.finish, cSeq, andThen, cIfS, cRet, cRetN, cNext, cDrop, cRaise, cAsg, cAsgN, cAsgG, cGive, giveR, List.foldl, cPar, cTest, cAnd, cOr, cNot, cAndV, cOrV, cNotV, cIf, cOp, cUn, cCb, cCk, liftK, cCons, cNil, cVar, cOwn, cK, cTup, cLst, cCall, cChain, lift1, lift2, liftN, liftS, cSl, cNo, cPart, asInt, cGet2, cItems, itemsD, cKeys, keysD, cVals, valsD, cRange, cgName, cgTup, cgCons, cgNil, cYes, cRev, truth, M.bind, List.map, List.length, List.length_cons, List.length_nil, List.replicate, List.append, List.nil_append, List.cons_append, List.set, List.set_cons_zero, List.set_cons_succ, List.getElem?_cons_zero, List.getElem?_cons_succ, Nat.sub_self, Nat.zero_add, Nat.reduceAdd, Nat.reduceSub, Nat.reduceEqDiff, if_true, if_false, reduceIte, Bool.false_eq_true, wipeR, isi_ss, isi_st, isi_tt, isi_ts, isi_dd, len_lst, len_tup, len_scr, lt_int', le_int', add_int', sub_int', Bool.not_true, Bool.not_false, decide_true, decide_false, Int.reduceEq, Int.reduceLT, Int.reduceLE, Int.reduceAdd, Int.reduceSub, Nat.reduceLeDiff, Nat.reduceLT, eq_self, b, e]⟩
  · have b : decide ((j : Int) < (ns.length : Int)) = false := decide_eq_false (by omega)
    exact ⟨0, by simp only [runC, startR, Py.finish, cSeq, andThen, cIfS, cRet, cRetN, cNext, cDrop, cRaise, cAsg, cAsgN, cAsgG, cGive, giveR, List.foldl, cPar, cTest, cAnd, cOr, cNot, cAndV, cOrV, cNotV, cIf, cOp, cUn, cCb, cCk, liftK, cCons, cNil, cVar, cOwn, cK, cTup, cLst, cCall, cChain, lift1, lift2, liftN, liftS, cSl, cNo, cPart, asInt, cGet2, cItems, itemsD, cKeys, keysD, cVals, valsD, cRange, cgName, cgTup, cgCons, cgNil, cYes, cRev, truth, M.bind, List.map, List.length, List.length_cons, List.length_nil, List.replicate, List.append, List.nil_append, List.cons_append, List.set, List.set_cons_zero, List.set_cons_succ, List.getElem?_cons_zero, List.getElem?_cons_succ, Nat.sub_self, Nat.zero_add, Nat.reduceAdd, Nat.reduceSub, Nat.reduceEqDiff, if_true, if_false, reduceIte, Bool.false_eq_true, wipeR, isi_ss, isi_st, isi_tt, isi_ts, isi_dd, len_lst, len_tup, len_scr, lt_int', le_int', add_int', sub_int', Bool.not_true, Bool.not_false, decide_true, decide_false, Int.reduceEq, Int.reduceLT, Int.reduceLE, Int.reduceAdd, Int.reduceSub, Nat.reduceLeDiff, Nat.reduceLT, eq_self, b]⟩
theorem run_pen (c : Int) (k : Nat) : run (k + 1) 1 [.int c] = .ret .pen := by
  rw [r_L_pen]
  unfold c_L_pen N_L_pen
  have e1 : powD (.int 10) (.int 18) = some (.int 1000000000000000000) := by rfl
  have e2 : modD (.int c) (.int 2147483629) = some (.int (c % 2147483629)) := by rfl
  have e3 : ∀ i, mxD [.int 0, .int i] = some (.int (if i > 0 then i else 0)) := fun _ => rfl
  have h1 : 0 ≤ c % 2147483629 := Int.emod_nonneg _ (by decide)
  have h2 : c % 2147483629 < 2147483629 := Int.emod_lt_of_pos _ (by decide)
  have e4 : ∀ i : Int, toPen (.lst [.int i, .int (c % 2147483629 + 1), .int 0]) = .ret .pen := fun i => by
    show (if 0 ≤ c % 2147483629 + 1 ∧ c % 2147483629 + 1 < 4294967296 then M.ret D.pen else M.stuck) = _
    rw [if_pos (by omega)]
  have e5 : ∀ a b c : D, mkLst [a, b, c] = .ret (.lst [a, b, c]) := fun a b c => rfl
  simp only [runC, startR, Py.finish, cSeq, andThen, cIfS, cRet, cRetN, cNext, cDrop, cRaise, cAsg, cAsgN, cAsgG, cGive, giveR, List.foldl, cPar, cTest, cAnd, cOr, cNot, cAndV, cOrV, cNotV, cIf, cOp, cUn, cCb, cCk, liftK, cCons, cNil, cVar, cOwn, cK, cTup, cLst, cCall, cChain, lift1, lift2, liftN, liftS, cSl, cNo, cPart, asInt, cGet2, cItems, itemsD, cKeys, keysD, cVals, valsD, cRange, cgName, cgTup, cgCons, cgNil, cYes, cRev, truth, M.bind, List.map, List.length, List.length_cons, List.length_nil, List.replicate, List.append, List.nil_append, List.cons_append, List.set, List.set_cons_zero, List.set_cons_succ, List.getElem?_cons_zero, List.getElem?_cons_succ, Nat.sub_self, Nat.zero_add, Nat.reduceAdd, Nat.reduceSub, Nat.reduceEqDiff, if_true, if_false, reduceIte, Bool.false_eq_true, wipeR, isi_ss, isi_st, isi_tt, isi_ts, isi_dd, len_lst, len_tup, len_scr, lt_int', le_int', add_int', sub_int', Bool.not_true, Bool.not_false, decide_true, decide_false, Int.reduceEq, Int.reduceLT, Int.reduceLE, Int.reduceAdd, Int.reduceSub, Nat.reduceLeDiff, Nat.reduceLT, eq_self, e1, e2, e3, e5, e4]
theorem run_draw (n : Nat) (h1 : 0 < n) (h2 : n < 1073741824) (k : Nat) : run (k + 1) 2 [.pen, .int n] = .draw n fun i => .ret (.int (i : Int)) := by
  rw [r_L_draw]
  show (if 0 < (n : Int) ∧ (n : Int) < 1073741824 then M.draw (n : Int).toNat (fun i => M.ret (D.int (i : Int))) else M.stuck) = _
  rw [if_pos (by omega)]
  rfl
theorem len_cell (ns : List Int) : ∃ n : Nat, n ≤ 3 ∧ ∃ z, minD [.int (ns.length : Int), .int 3] = some z ∧ mxD [.int 1, z] = some (.int (n : Int)) := by
  by_cases h : (3 : Int) < (ns.length : Int)
  · refine ⟨3, by decide, .int 3, ?_, rfl⟩
    show some (D.int (if (3 : Int) < (ns.length : Int) then 3 else (ns.length : Int))) = _
    rw [if_pos h]
  · by_cases h0 : 1 ≤ ns.length
    · refine ⟨ns.length, by omega, .int ns.length, ?_, ?_⟩
      · show some (D.int (if (3 : Int) < (ns.length : Int) then 3 else (ns.length : Int))) = _
        rw [if_neg h]
      · show some (D.int (if (ns.length : Int) > 1 then (ns.length : Int) else 1)) = _
        by_cases h1 : (ns.length : Int) > 1
        · rw [if_pos h1]
        · rw [if_neg h1, show ns.length = 1 by omega]; rfl
    · refine ⟨1, by decide, .int ns.length, ?_, ?_⟩
      · show some (D.int (if (3 : Int) < (ns.length : Int) then 3 else (ns.length : Int))) = _
        rw [if_neg h]
      · show some (D.int (if (ns.length : Int) > 1 then (ns.length : Int) else 1)) = _
        rw [if_neg (by omega)]; rfl
theorem run_pick (a b c : D) (k : Nat) : ∃ f : Nat → M D, run (k + 2) 3 [.pen, .lst [a, b, c]] = .draw 3 f ∧ f 0 = .ret a ∧ f 1 = .ret b ∧ f 2 = .ret c := by
  rw [r_L_pick]
  have h := run_draw 3 (by decide) (by decide) k
  unfold c_L_pick N_L_pick
  have e1 : lenD [.lst [a, b, c]] = some (.int ((3 : Nat) : Int)) := rfl
  simp only [runC, startR, Py.finish, cSeq, andThen, cIfS, cRet, cRetN, cNext, cDrop, cRaise, cAsg, cAsgN, cAsgG, cGive, giveR, List.foldl, cPar, cTest, cAnd, cOr, cNot, cAndV, cOrV, cNotV, cIf, cOp, cUn, cCb, cCk, liftK, cCons, cNil, cVar, cOwn, cK, cTup, cLst, cCall, cChain, lift1, lift2, liftN, liftS, cSl, cNo, cPart, asInt, cGet2, cItems, itemsD, cKeys, keysD, cVals, valsD, cRange, cgName, cgTup, cgCons, cgNil, cYes, cRev, truth, M.bind, List.map, List.length, List.length_cons, List.length_nil, List.replicate, List.append, List.nil_append, List.cons_append, List.set, List.set_cons_zero, List.set_cons_succ, List.getElem?_cons_zero, List.getElem?_cons_succ, Nat.sub_self, Nat.zero_add, Nat.reduceAdd, Nat.reduceSub, Nat.reduceEqDiff, if_true, if_false, reduceIte, Bool.false_eq_true, wipeR, isi_ss, isi_st, isi_tt, isi_ts, isi_dd, len_lst, len_tup, len_scr, lt_int', le_int', add_int', sub_int', Bool.not_true, Bool.not_false, decide_true, decide_false, Int.reduceEq, Int.reduceLT, Int.reduceLE, Int.reduceAdd, Int.reduceSub, Nat.reduceLeDiff, Nat.reduceLT, eq_self, e1, h, M.bind]
  exact ⟨_, rfl, rfl, rfl, rfl⟩
def In1 (ρ : Rho) : Prop := ∃ ns z1 z2, ρ = [some (false, .scr ns), z1, z2]
theorem draw3 {f : Nat → M D} {k : D → M Out} {Q : Out → Prop} (h0 : Ok ((f 0).bind k) Q) (h1 : Ok ((f 1).bind k) Q) (h2 : Ok ((f 2).bind k) Q) : Ok (.draw 3 fun i => (f i).bind k) Q := by
  refine ok_draw fun i hi => ?_
  match i, hi with
  | 0, _ => exact h0
  | 1, _ => exact h1
  | 2, _ => exact h2
theorem math_gen (cl : Nat → List D → M D) (h5 : ∀ i : Nat, i < 20 → cl 5 [.int (i : Int)] = .ret (.bl true))
    (h6 : ∀ x ∈ [D.str "one", .str "a", .str "listlist"], ∀ y ∈ [D.str "X", .str "A", .str "Z"], cl 6 [x, y] = .ret (.bl true))
    (h29 : ∀ (ms : List Int) (j : Nat), ∃ c : Int, cl 0 [.scr ms, .int (j : Int)] = .ret (.int c)) (h30 : ∀ c : Int, cl 1 [.int c] = .ret .pen)
    (h31 : cl 2 [.pen, .int 20] = .draw 20 fun i => .ret (.int (i : Int)))
    (h32 : ∀ a b c : D, ∃ f : Nat → M D, cl 3 [.pen, .lst [a, b, c]] = .draw 3 f ∧ f 0 = .ret a ∧ f 1 = .ret b ∧ f 2 = .ret c) (ns : List Int) (hl : ns.length ≤ 63) :
    Ok (runC 3 (c_law cl) [.scr ns]) (fun d => d = .bl true) := by
  unfold c_law
  obtain ⟨n, q2, z, q3, q4⟩ := len_cell ns
  have q5 : rangeD [.int (n : Int)] = .ret ((List.range n).map fun (i : Nat) => D.int (i : Int)) := by
    show (if -1000000 ≤ (n : Int) ∧ (n : Int) ≤ 1000000 then M.ret ((List.range (n : Int).toNat).map fun (i : Nat) => D.int (i : Int)) else M.stuck) = _
    rw [if_pos (by omega)]; rfl
  have e5 : ∀ a b c : D, mkLst [a, b, c] = .ret (.lst [a, b, c]) := fun a b c => rfl
  obtain ⟨f1, p1, p2, p3, p4⟩ := h32 (.str "one") (.str "a") (.str "listlist")
  obtain ⟨f2, t1, t2, t3, t4⟩ := h32 (.str "X") (.str "A") (.str "Z")
  simp only [runC, startR, Py.finish, cSeq, andThen, cIfS, cRet, cRetN, cNext, cDrop, cRaise, cAsg, cAsgN, cAsgG, cGive, giveR, List.foldl, cPar, cTest, cAnd, cOr, cNot, cAndV, cOrV, cNotV, cIf, cOp, cUn, cCb, cCk, liftK, cCons, cNil, cVar, cOwn, cK, cTup, cLst, cCall, cChain, lift1, lift2, liftN, liftS, cSl, cNo, cPart, asInt, cGet2, cItems, itemsD, cKeys, keysD, cVals, valsD, cRange, cgName, cgTup, cgCons, cgNil, cYes, cRev, truth, M.bind, List.map, List.length, List.length_cons, List.length_nil, List.replicate, List.append, List.nil_append, List.cons_append, List.set, List.set_cons_zero, List.set_cons_succ, List.getElem?_cons_zero, List.getElem?_cons_succ, Nat.sub_self, Nat.zero_add, Nat.reduceAdd, Nat.reduceSub, Nat.reduceEqDiff, if_true, if_false, reduceIte, Bool.false_eq_true, wipeR, isi_ss, isi_st, isi_tt, isi_ts, isi_dd, len_lst, len_tup, len_scr, lt_int', le_int', add_int', sub_int', Bool.not_true, Bool.not_false, decide_true, decide_false, Int.reduceEq, Int.reduceLT, Int.reduceLE, Int.reduceAdd, Int.reduceSub, Nat.reduceLeDiff, Nat.reduceLT, eq_self, LIM, cFor, M.bind_assoc, q3, q4, q5]
  refine ok_then (loop_inv (I := In1) (fun d hd ρ hi => ?_) _ ⟨_, _, _, rfl⟩) fun o ho => ?_
  · obtain ⟨j, hj, rfl⟩ := List.mem_map.mp hd
    obtain ⟨ms, z1, z2, rfl⟩ := hi
    obtain ⟨c, hc⟩ := h29 ms j
    simp only [runC, startR, Py.finish, cSeq, andThen, cIfS, cRet, cRetN, cNext, cDrop, cRaise, cAsg, cAsgN, cAsgG, cGive, giveR, List.foldl, cPar, cTest, cAnd, cOr, cNot, cAndV, cOrV, cNotV, cIf, cOp, cUn, cCb, cCk, liftK, cCons, cNil, cVar, cOwn, cK, cTup, cLst, cCall, cChain, lift1, lift2, liftN, liftS, cSl, cNo, cPart, asInt, cGet2, cItems, itemsD, cKeys, keysD, cVals, valsD, cRange, cgName, cgTup, cgCons, cgNil, cYes, cRev, truth, M.bind, List.map, List.length, List.length_cons, List.length_nil, List.replicate, List.append, List.nil_append, List.cons_append, List.set, List.set_cons_zero, List.set_cons_succ, List.getElem?_cons_zero, List.getElem?_cons_succ, Nat.sub_self, Nat.zero_add, Nat.reduceAdd, Nat.reduceSub, Nat.reduceEqDiff, if_true, if_false, reduceIte, Bool.false_eq_true, wipeR, isi_ss, isi_st, isi_tt, isi_ts, isi_dd, len_lst, len_tup, len_scr, lt_int', le_int', add_int', sub_int', Bool.not_true, Bool.not_false, decide_true, decide_false, Int.reduceEq, Int.reduceLT, Int.reduceLE, Int.reduceAdd, Int.reduceSub, Nat.reduceLeDiff, Nat.reduceLT, eq_self, M.bind_assoc, hc, h30, h31, cgName, M.bind]
    refine ok_draw fun i hi => ?_
    simp only [runC, startR, Py.finish, cSeq, andThen, cIfS, cRet, cRetN, cNext, cDrop, cRaise, cAsg, cAsgN, cAsgG, cGive, giveR, List.foldl, cPar, cTest, cAnd, cOr, cNot, cAndV, cOrV, cNotV, cIf, cOp, cUn, cCb, cCk, liftK, cCons, cNil, cVar, cOwn, cK, cTup, cLst, cCall, cChain, lift1, lift2, liftN, liftS, cSl, cNo, cPart, asInt, cGet2, cItems, itemsD, cKeys, keysD, cVals, valsD, cRange, cgName, cgTup, cgCons, cgNil, cYes, cRev, truth, M.bind, List.map, List.length, List.length_cons, List.length_nil, List.replicate, List.append, List.nil_append, List.cons_append, List.set, List.set_cons_zero, List.set_cons_succ, List.getElem?_cons_zero, List.getElem?_cons_succ, Nat.sub_self, Nat.zero_add, Nat.reduceAdd, Nat.reduceSub, Nat.reduceEqDiff, if_true, if_false, reduceIte, Bool.false_eq_true, wipeR, isi_ss, isi_st, isi_tt, isi_ts, isi_dd, len_lst, len_tup, len_scr, lt_int', le_int', add_int', sub_int', Bool.not_true, Bool.not_false, decide_true, decide_false, Int.reduceEq, Int.reduceLT, Int.reduceLE, Int.reduceAdd, Int.reduceSub, Nat.reduceLeDiff, Nat.reduceLT, eq_self, M.bind_assoc, h5 i hi, e5, p1, t1, M.bind]
    refine ok_draw fun i1 hi1 => ?_
    have w1 : ∃ x ∈ [D.str "one", .str "a", .str "listlist"], f1 i1 = .ret x := by
      match i1, hi1 with
      | 0, _ => exact ⟨_, by simp, p2⟩
      | 1, _ => exact ⟨_, by simp, p3⟩
      | 2, _ => exact ⟨_, by simp, p4⟩
    obtain ⟨x, mx, ex⟩ := w1
    simp only [runC, startR, Py.finish, cSeq, andThen, cIfS, cRet, cRetN, cNext, cDrop, cRaise, cAsg, cAsgN, cAsgG, cGive, giveR, List.foldl, cPar, cTest, cAnd, cOr, cNot, cAndV, cOrV, cNotV, cIf, cOp, cUn, cCb, cCk, liftK, cCons, cNil, cVar, cOwn, cK, cTup, cLst, cCall, cChain, lift1, lift2, liftN, liftS, cSl, cNo, cPart, asInt, cGet2, cItems, itemsD, cKeys, keysD, cVals, valsD, cRange, cgName, cgTup, cgCons, cgNil, cYes, cRev, truth, M.bind, List.map, List.length, List.length_cons, List.length_nil, List.replicate, List.append, List.nil_append, List.cons_append, List.set, List.set_cons_zero, List.set_cons_succ, List.getElem?_cons_zero, List.getElem?_cons_succ, Nat.sub_self, Nat.zero_add, Nat.reduceAdd, Nat.reduceSub, Nat.reduceEqDiff, if_true, if_false, reduceIte, Bool.false_eq_true, wipeR, isi_ss, isi_st, isi_tt, isi_ts, isi_dd, len_lst, len_tup, len_scr, lt_int', le_int', add_int', sub_int', Bool.not_true, Bool.not_false, decide_true, decide_false, Int.reduceEq, Int.reduceLT, Int.reduceLE, Int.reduceAdd, Int.reduceSub, Nat.reduceLeDiff, Nat.reduceLT, eq_self, M.bind_assoc, ex, t1, M.bind]
    refine ok_draw fun i2 hi2 => ?_
    have w2 : ∃ y ∈ [D.str "X", .str "A", .str "Z"], f2 i2 = .ret y := by
      match i2, hi2 with
      | 0, _ => exact ⟨_, by simp, t2⟩
      | 1, _ => exact ⟨_, by simp, t3⟩
      | 2, _ => exact ⟨_, by simp, t4⟩
    obtain ⟨y, my, ey⟩ := w2
    simp only [runC, startR, Py.finish, cSeq, andThen, cIfS, cRet, cRetN, cNext, cDrop, cRaise, cAsg, cAsgN, cAsgG, cGive, giveR, List.foldl, cPar, cTest, cAnd, cOr, cNot, cAndV, cOrV, cNotV, cIf, cOp, cUn, cCb, cCk, liftK, cCons, cNil, cVar, cOwn, cK, cTup, cLst, cCall, cChain, lift1, lift2, liftN, liftS, cSl, cNo, cPart, asInt, cGet2, cItems, itemsD, cKeys, keysD, cVals, valsD, cRange, cgName, cgTup, cgCons, cgNil, cYes, cRev, truth, M.bind, List.map, List.length, List.length_cons, List.length_nil, List.replicate, List.append, List.nil_append, List.cons_append, List.set, List.set_cons_zero, List.set_cons_succ, List.getElem?_cons_zero, List.getElem?_cons_succ, Nat.sub_self, Nat.zero_add, Nat.reduceAdd, Nat.reduceSub, Nat.reduceEqDiff, if_true, if_false, reduceIte, Bool.false_eq_true, wipeR, isi_ss, isi_st, isi_tt, isi_ts, isi_dd, len_lst, len_tup, len_scr, lt_int', le_int', add_int', sub_int', Bool.not_true, Bool.not_false, decide_true, decide_false, Int.reduceEq, Int.reduceLT, Int.reduceLE, Int.reduceAdd, Int.reduceSub, Nat.reduceLeDiff, Nat.reduceLT, eq_self, M.bind_assoc, ey, h6 x mx y my, M.bind]
    exact ok_ret ⟨_, rfl, _, _, _, rfl⟩
  · obtain ⟨ρ', rfl, ms, z1, z2, rfl⟩ := ho
    simp only [runC, startR, Py.finish, cSeq, andThen, cIfS, cRet, cRetN, cNext, cDrop, cRaise, cAsg, cAsgN, cAsgG, cGive, giveR, List.foldl, cPar, cTest, cAnd, cOr, cNot, cAndV, cOrV, cNotV, cIf, cOp, cUn, cCb, cCk, liftK, cCons, cNil, cVar, cOwn, cK, cTup, cLst, cCall, cChain, lift1, lift2, liftN, liftS, cSl, cNo, cPart, asInt, cGet2, cItems, itemsD, cKeys, keysD, cVals, valsD, cRange, cgName, cgTup, cgCons, cgNil, cYes, cRev, truth, M.bind, List.map, List.length, List.length_cons, List.length_nil, List.replicate, List.append, List.nil_append, List.cons_append, List.set, List.set_cons_zero, List.set_cons_succ, List.getElem?_cons_zero, List.getElem?_cons_succ, Nat.sub_self, Nat.zero_add, Nat.reduceAdd, Nat.reduceSub, Nat.reduceEqDiff, if_true, if_false, reduceIte, Bool.false_eq_true, wipeR, isi_ss, isi_st, isi_tt, isi_ts, isi_dd, len_lst, len_tup, len_scr, lt_int', le_int', add_int', sub_int', Bool.not_true, Bool.not_false, decide_true, decide_false, Int.reduceEq, Int.reduceLT, Int.reduceLE, Int.reduceAdd, Int.reduceSub, Nat.reduceLeDiff, Nat.reduceLT, eq_self, M.bind]
    exact ok_ret rfl
theorem ok6 (x : D) (hx : x ∈ [D.str "one", .str "a", .str "listlist"]) (y : D) (hy : y ∈ [D.str "X", .str "A", .str "Z"]) : run 200 6 [x, y] = .ret (.bl true) := by
  simp only [List.mem_cons, List.not_mem_nil, or_false] at hx hy
  rcases hx with rfl | rfl | rfl <;> rcases hy with rfl | rfl | rfl
  · exact ok6_0_0
  · exact ok6_0_1
  · exact ok6_0_2
  · exact ok6_1_0
  · exact ok6_1_1
  · exact ok6_1_2
  · exact ok6_2_0
  · exact ok6_2_1
  · exact ok6_2_2
theorem math (ns : List Int) (hl : ns.length ≤ 63) : Ok (run 201 7 [.scr ns]) (fun d => d = .bl true) := by
  rw [r_law]
  exact math_gen (run 200) ok5 ok6 (fun ms j => run_cell ms j 199) (fun c => run_pen c 199) (run_draw 20 (by decide) (by decide) 199) (fun a b c => run_pick a b c 198) ns hl
end Wk26

open PySem PySem.W PySem.Calls PyProof.Rows in
theorem PySem.Challenge.cw_endlesskinds_k26_exceptions_made_holds : PySem.Challenge.rw_endlesskinds_k26_exceptions_made.Holds := by
  w_on; o_law
  refine HandSHeadRun.head_any (r := OpenLaw.row PySem.Challenge.rw_endlesskinds_k26_exceptions_made) (q := view (OpenLaw.row PySem.Challenge.rw_endlesskinds_k26_exceptions_made).prog [29]) (H := Wk26.hk) (ob := Wk26.ob) (M := 20000) (loose := Wk26.nms) (d := HandSHeadRun.topDef (OpenLaw.row PySem.Challenge.rw_endlesskinds_k26_exceptions_made).prog 29) (kwd := []) Wk26.ob_eq
    (by kernel_rfl) (fun s => by kernel_rfl) Wk26.headRun (by kernel_rfl) (by kernel_rfl) (by kernel_rfl) (by rfl) (by first | assumption | decide +kernel) (by decide +kernel) ⟨rfl, rfl, rfl, rfl, rfl, by decide +kernel⟩ ?hw ?hc
  case hw => w_witness2
  case hc =>
    refine Py.walk_GT (l := PySem.Challenge.rw_endlesskinds_k26_exceptions_made) (m := 63) (n := 201) (x := "_law_script") (XT := fun w => L2.CX (PySem.Challenge.rw_endlesskinds_k26_exceptions_made).prog w) rfl (by decide) (by kernel_rfl) ⟨rfl, by decide, by decide⟩ ?F (fun w H s e s' c => (letI : Py.Wd := ⟨w, []⟩; Py.cx_none c))
    intro w mg fa h Y G hmg0
    obtain ⟨K, KX, c0⟩ := Y
    letI : Py.Wd := ⟨w, Py.tabT K Wk26.tf⟩
    have hmg : mg ("law" : PySem.Str) = some (.ref fa) := by
      have e : (HandSHeadRun.topDef (OpenLaw.row PySem.Challenge.rw_endlesskinds_k26_exceptions_made).prog 29).name = ("law" : PySem.Str) := by kernel_rfl
      rw [← e]
      exact hmg0
    obtain ⟨fd, hb, hF⟩ := Wk26.facts (P := (PySem.Challenge.rw_endlesskinds_k26_exceptions_made).prog) (w := w) rfl rfl KX G hmg c0 rfl
    have ct : ∀ q ∈ (Wk26.tf.map (·.1)).map (He.cT K), ∃ p ∈ Wk26.tf.map (·.1), He.cT K p = q := fun q hq => List.mem_map.mp hq
    refine ⟨K, fd, (Wk26.tf.map (·.1)).map (He.cT K), _, KX, ?_, ?_, ?_, hb, fun H a ns hl ht hS => Py.spD_law hS (Py.tabT_tabs fun p hp => ht _ (List.mem_map.mpr ⟨_, List.mem_map.mpr ⟨p, hp, rfl⟩, rfl⟩)) (by have q := (Wk26.math ns hl).wp; rw [Wk26.run_eq] at q; exact q), hF⟩
    · intro q hq; obtain ⟨p, hp, e⟩ := ct q hq; rw [← e]; exact c0.empty p hp
    · intro q hq; obtain ⟨p, hp, e⟩ := ct q hq; rw [← e]; exact c0.out p hp
    · intro q hq; obtain ⟨p, hp, e⟩ := ct q hq; rw [← e]; exact PySem.W.codeHd_of_K KX (c0.hd p hp)
