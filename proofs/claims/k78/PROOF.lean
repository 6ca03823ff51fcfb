import PyProof.Rows.All
import Wide.All
import OpenK.AllK
import Wide.FinOn
import HandS.ForMost
import HandS.Exc
import HandS.ExcOwn
import HandS.WordsExc
import HandS.Defaults
import HandS.Lambda
import HandS.HeadHook1
import HandS.HeadHook2
import KE.KeyNested
import HandS.CallLocal
import HandS.TupAny
import HandS.IsInst
import HandS.HeadWalk
import HandS.Codes
import HandS.ExcIs
import HandS.ExcField
import KE.KExcIs
import HandS.Text
import HandS.HeadHook4
import HandS.ExcInit
import KE.KExcSuper
import KE.KSuper
import PyProof.ReprRoads
import PyProof.CallFns
import HandS.EndTab
import HandS.NestedK
import HandS.Head2
import PySem.Challenge.RW_provenruns_k78_written_ones
import KE.KStateDown
set_option Elab.async false
set_option linter.all false
set_option autoImplicit false
set_option maxRecDepth 100000
set_option maxHeartbeats 4000000
/-! Mp1: mini Python over HandS: values, heaps, the relation with the abstract heap, the judgements. -/
namespace Mp
open PySem PySem.Spec PyProof.Rows L2

/-- values: a tuple is a tree, a list that is only read too; what can change is told by its number; glo: what a module's name stands for; adr: a function made on the way -/
inductive W where
  | non | bl (b : Bool) | int (i : Int) | str (s : Str) | tup (l : List W) | lro (l : List W) | ref (n : Nat) | glo (x : Str) | ty (n : String) | adr (a : Addr)

/-- what stands at a number: a list, a dict, an instance of a class of the module, a caught exception -/
inductive MO where
  | lst (l : List W) | dct (kvs : List (W × W)) | ins (c : Str) (fs : List (Str × W)) | exn (c : Str) (fs : List (Str × W))
abbrev Hw := List MO
/-- an exception: its class's name, its attributes -/
structure Exn where
  cls : Str
  fs : List (Str × W)
inductive Out (α : Type) where
  | ok (a : α) | exc (e : Exn)
abbrev M (α : Type) := Hw → Option (Out α × Hw)
abbrev Rho := List (Option W)
@[inline] def M.ret {α : Type} (a : α) : M α := fun h => some (.ok a, h)
@[inline] def M.none {α : Type} : M α := fun _ => Option.none
def M.bind {α β : Type} (m : M α) (k : α → M β) : M β := fun h => match m h with
  | some (.ok a, h') => k a h'
  | some (.exc e, h') => some (.exc e, h')
  | Option.none => Option.none
/-- an expression, a test, arguments -/
abbrev Sh := Rho → M W
abbrev ShT := Rho → M Bool
abbrev ShA := Rho → M (List W)
/-- how a statement ends -/
inductive SOut where
  | nx (ρ : Rho) | rt (w : W) | bk (ρ : Rho) | ct (ρ : Rho) | exc (e : Exn) (ρ : Rho)
abbrev Ss := Rho → Hw → Option (SOut × Hw)

/-! ### what stands for what -/
/-- a list that is never written: the script, a list of the module's top -/
def RoL (K : PySem.W.Frag) (H : Hp) (a : Addr) (xs : List V) : Prop :=
  (∃ o, H a = some (.frz o (.lst xs))) ∨
    ∃ (o : Obj) (its : Array Value) (n : Nat), K.lookup a = some o ∧ o.cls = .type "list" ∧ o.dict = none ∧ o.data = .seq its n ∧ its.size ≤ sizeLine ∧ Vals xs its.toList
theorem RoL.sq {K : PySem.W.Frag} {H : Hp} {a : Addr} {xs : List V} (h : RoL K H a xs) : SqL K H a xs := by
  rcases h with ⟨o, h⟩ | h
  · exact .inl (.inr ⟨o, h⟩)
  · exact .inr h
mutual
inductive Rep (K : PySem.W.Frag) (φ : List Addr) (H : Hp) : W → V → Prop
  | non : Rep K φ H .non .non
  | bl (b : Bool) : Rep K φ H (.bl b) (.bl b)
  | int (i : Int) : Rep K φ H (.int i) (.int i)
  | str (s : Str) : Rep K φ H (.str s) (.str s)
  | ty (n : String) : Rep K φ H (.ty n) (.ty n)
  | glo (x : Str) : Rep K φ H (.glo x) (.ref (He.ga K x))
  | adr (a : Addr) : Rep K φ H (.adr a) (.ref a)
  | ref {n : Nat} {a : Addr} (h : φ[n]? = some a) : Rep K φ H (.ref n) (.ref a)
  | tup {ws : List W} {a : Addr} {vs : List V} (h : SqT K H a vs) (r : Reps K φ H ws vs) : Rep K φ H (.tup ws) (.ref a)
  | lro {ws : List W} {a : Addr} {vs : List V} (h : RoL K H a vs) (r : Reps K φ H ws vs) : Rep K φ H (.lro ws) (.ref a)
inductive Reps (K : PySem.W.Frag) (φ : List Addr) (H : Hp) : List W → List V → Prop
  | nil : Reps K φ H [] []
  | cons {w : W} {ws : List W} {v : V} {vs : List V} (r : Rep K φ H w v) (rs : Reps K φ H ws vs) : Reps K φ H (w :: ws) (v :: vs)
end

/-- all that is not told by a number stays; new numbers are of new objects; tables of code objects stay tables -/
structure Ext (φ : List Addr) (H : Hp) (φ' : List Addr) (H' : Hp) : Prop where
  pre : φ <+: φ'
  keep : ∀ b o, H b = some o → b ∉ φ → (∀ ps, o ≠ .tbl ps) → H' b = some o
  new : ∀ a ∈ φ', a ∉ φ → H a = none
  tbl : ∀ b ps, H b = some (.tbl ps) → b ∉ φ → ∃ qs, H' b = some (.tbl qs)
theorem Ext.refl (φ : List Addr) (H : Hp) : Ext φ H φ H := ⟨List.prefix_refl _, fun _ _ e _ _ => e, fun a h n => (n h).elim, fun _ ps e _ => ⟨ps, e⟩⟩
theorem Ext.trans {φ φ1 φ2 : List Addr} {H H1 H2 : Hp} (a : Ext φ H φ1 H1) (b : Ext φ1 H1 φ2 H2) : Ext φ H φ2 H2 where
  pre := a.pre.trans b.pre
  keep := fun c o e n t => by
    have e1 := a.keep c o e n t
    refine b.keep c o e1 (fun h => ?_) t
    have := a.new c h n
    rw [this] at e; cases e
  new := fun c h n => by
    by_cases h1 : c ∈ φ1
    · exact a.new c h1 n
    · have q := b.new c h h1
      cases e : H c with
      | none => rfl
      | some o =>
        by_cases t : ∃ ps, o = .tbl ps
        · obtain ⟨ps, rfl⟩ := t
          obtain ⟨qs, z⟩ := a.tbl c ps e n
          rw [z] at q; cases q
        · have z := a.keep c o e n fun ps he => t ⟨ps, he⟩
          rw [z] at q; cases q
  tbl := fun c ps e n => by
    obtain ⟨qs, z⟩ := a.tbl c ps e n
    refine b.tbl c qs z fun h => ?_
    have := a.new c h n
    rw [this] at e; cases e

theorem prefix_get {α : Type} {l l' : List α} (h : l <+: l') {n : Nat} {a : α} (e : l[n]? = some a) : l'[n]? = some a := by
  obtain ⟨t, rfl⟩ := h
  have hn : n < l.length := (List.getElem?_eq_some_iff.mp e).1
  rw [List.getElem?_append_left hn]; exact e
/-- a tuple that is read stays: no tuple is told by a number -/
def NoTup (K : PySem.W.Frag) (φ : List Addr) (H : Hp) : Prop := ∀ a ∈ φ, ∀ u, H a = some u → (∀ vs, u ≠ .tup vs) ∧ ∀ o z, u ≠ .frz o z
theorem Ext.sqt {K : PySem.W.Frag} {φ φ' : List Addr} {H H' : Hp} (x : Ext φ H φ' H') (nt : NoTup K φ H) {a : Addr} {vs : List V} (h : SqT K H a vs) : SqT K H' a vs := by
  rcases h with (h | ⟨o, h⟩) | h
  · exact .inl (.inl (x.keep a _ h (fun q => (nt a q _ h).1 vs rfl) fun ps z => by cases z))
  · exact .inl (.inr ⟨o, x.keep a _ h (fun q => (nt a q _ h).2 o _ rfl) fun ps z => by cases z⟩)
  · exact .inr h
theorem Ext.rol {K : PySem.W.Frag} {φ φ' : List Addr} {H H' : Hp} (x : Ext φ H φ' H') (nt : NoTup K φ H) {a : Addr} {vs : List V} (h : RoL K H a vs) : RoL K H' a vs := by
  rcases h with ⟨o, h⟩ | h
  · exact .inl ⟨o, x.keep a _ h (fun q => (nt a q _ h).2 o _ rfl) fun ps z => by cases z⟩
  · exact .inr h
mutual
theorem Rep.ext {K : PySem.W.Frag} {φ φ' : List Addr} {H H' : Hp} (x : Ext φ H φ' H') (nt : NoTup K φ H) : ∀ {w : W} {v : V}, Rep K φ H w v → Rep K φ' H' w v
  | _, _, .non => .non
  | _, _, .bl b => .bl b
  | _, _, .int i => .int i
  | _, _, .str s => .str s
  | _, _, .ty n => .ty n
  | _, _, .glo y => .glo y
  | _, _, .adr a => .adr a
  | _, _, .ref h => .ref (prefix_get x.pre h)
  | _, _, .tup h r => .tup (x.sqt nt h) (Reps.ext x nt r)
  | _, _, .lro h r => .lro (x.rol nt h) (Reps.ext x nt r)
theorem Reps.ext {K : PySem.W.Frag} {φ φ' : List Addr} {H H' : Hp} (x : Ext φ H φ' H') (nt : NoTup K φ H) : ∀ {ws : List W} {vs : List V}, Reps K φ H ws vs → Reps K φ' H' ws vs
  | _, _, .nil => .nil
  | _, _, .cons r rs => .cons (Rep.ext x nt r) (Reps.ext x nt rs)
end
theorem Reps.length {K : PySem.W.Frag} {φ : List Addr} {H : Hp} : ∀ {ws : List W} {vs : List V}, Reps K φ H ws vs → ws.length = vs.length
  | _, _, .nil => rfl
  | _, _, .cons _ t => by simp [Reps.length t]
theorem Reps.get {K : PySem.W.Frag} {φ : List Addr} {H : Hp} : ∀ {ws : List W} {vs : List V} {i : Nat} {w : W}, Reps K φ H ws vs → ws[i]? = some w → ∃ v, vs[i]? = some v ∧ Rep K φ H w v
  | _, _, _, _, .nil, e => by simp at e
  | _, _, 0, _, .cons r _, e => by simp at e; subst e; exact ⟨_, rfl, r⟩
  | _, _, i + 1, w, .cons _ t, e => by
    obtain ⟨v, h1, h2⟩ := Reps.get (i := i) (w := w) t (by simpa using e)
    exact ⟨v, by simpa using h1, h2⟩
theorem Reps.append {K : PySem.W.Frag} {φ : List Addr} {H : Hp} : ∀ {ws ws' : List W} {vs vs' : List V}, Reps K φ H ws vs → Reps K φ H ws' vs' → Reps K φ H (ws ++ ws') (vs ++ vs')
  | _, _, _, _, .nil, s => s
  | _, _, _, _, .cons r t, s => .cons r (Reps.append t s)
theorem Reps.take {K : PySem.W.Frag} {φ : List Addr} {H : Hp} : ∀ {ws : List W} {vs : List V} (n : Nat), Reps K φ H ws vs → Reps K φ H (ws.take n) (vs.take n)
  | _, _, 0, _ => .nil
  | _, _, _ + 1, .nil => .nil
  | _, _, n + 1, .cons r t => .cons r (Reps.take n t)
theorem Reps.drop {K : PySem.W.Frag} {φ : List Addr} {H : Hp} : ∀ {ws : List W} {vs : List V} (n : Nat), Reps K φ H ws vs → Reps K φ H (ws.drop n) (vs.drop n)
  | _, _, 0, r => r
  | _, _, _ + 1, .nil => .nil
  | _, _, n + 1, .cons _ t => Reps.drop n t
theorem Reps.set {K : PySem.W.Frag} {φ : List Addr} {H : Hp} {w : W} {v : V} (r : Rep K φ H w v) : ∀ {ws : List W} {vs : List V} (i : Nat), Reps K φ H ws vs → Reps K φ H (ws.set i w) (vs.set i v)
  | _, _, _, .nil => .nil
  | _, _, 0, .cons _ t => .cons r t
  | _, _, i + 1, .cons q t => .cons q (Reps.set r i t)
theorem Reps.none_of {K : PySem.W.Frag} {φ : List Addr} {H : Hp} {ws : List W} {vs : List V} {i : Nat} (r : Reps K φ H ws vs) (e : ws[i]? = none) : vs[i]? = none := by
  have := r.length
  have h2 : ws.length ≤ i := List.getElem?_eq_none_iff.mp e
  exact List.getElem?_eq_none_iff.mpr (by omega)

/-- a dict's content: to be told with the dicts' rules -/
def KeyRep (K : PySem.W.Frag) (φ : List Addr) (H : Hp) : List (Str × W) → List (Str × V) → Prop
  | [], [] => True
  | (x, w) :: r, (y, v) :: s => x = y ∧ Rep K φ H w v ∧ KeyRep K φ H r s
  | _, _ => False
theorem KeyRep.ext {K : PySem.W.Frag} {φ φ' : List Addr} {H H' : Hp} (x : Ext φ H φ' H') (nt : NoTup K φ H) : ∀ {fs : List (Str × W)} {gs : List (Str × V)}, KeyRep K φ H fs gs → KeyRep K φ' H' fs gs
  | [], [], _ => trivial
  | (_, _) :: r, (_, _) :: s, ⟨e, h, t⟩ => ⟨e, h.ext x nt, KeyRep.ext x nt t⟩
  | [], _ :: _, h => h.elim
  | _ :: _, [], h => h.elim
theorem KeyRep.length {K : PySem.W.Frag} {φ : List Addr} {H : Hp} : ∀ {fs : List (Str × W)} {gs : List (Str × V)}, KeyRep K φ H fs gs → fs.length = gs.length
  | [], [], _ => rfl
  | (_, _) :: r, (_, _) :: s, ⟨_, _, t⟩ => by simp [KeyRep.length t]
  | [], _ :: _, h => h.elim
  | _ :: _, [], h => h.elim
theorem KeyRep.look {K : PySem.W.Frag} {φ : List Addr} {H : Hp} {f : Str} {w : W} : ∀ {fs : List (Str × W)} {gs : List (Str × V)}, KeyRep K φ H fs gs → fs.lookup f = some w → ∃ v, gs.lookup f = some v ∧ Rep K φ H w v
  | [], [], _, e => by simp at e
  | (x, a) :: r, (y, b) :: s, ⟨e, h, t⟩, q => by
    subst e
    rw [List.lookup_cons] at q ⊢
    cases z : (f == x) with
    | true => rw [z] at q; cases q; exact ⟨b, rfl, h⟩
    | false => rw [z] at q; exact KeyRep.look t q
  | [], _ :: _, h, _ => h.elim
  | _ :: _, [], h, _ => h.elim
theorem KeyRep.look_none {K : PySem.W.Frag} {φ : List Addr} {H : Hp} {f : Str} : ∀ {fs : List (Str × W)} {gs : List (Str × V)}, KeyRep K φ H fs gs → fs.lookup f = none → gs.lookup f = none
  | [], [], _, e => rfl
  | (x, a) :: r, (y, b) :: s, ⟨e, h, t⟩, q => by
    subst e
    rw [List.lookup_cons] at q ⊢
    cases z : (f == x) with
    | true => rw [z] at q; cases q
    | false => rw [z] at q; exact KeyRep.look_none t q
  | [], _ :: _, h, _ => h.elim
  | _ :: _, [], h, _ => h.elim
/-- an attribute is stored -/
def putW (f : Str) (w : W) : List (Str × W) → List (Str × W)
  | [] => [(f, w)]
  | (g, x) :: r => if g = f then (g, w) :: r else (g, x) :: putW f w r
theorem KeyRep.put {K : PySem.W.Frag} {φ : List Addr} {H : Hp} {f : Str} {w : W} {v : V} (r : Rep K φ H w v) : ∀ {fs : List (Str × W)} {gs : List (Str × V)}, KeyRep K φ H fs gs → KeyRep K φ H (putW f w fs) (putF f v gs)
  | [], [], _ => ⟨rfl, r, trivial⟩
  | (x, a) :: t, (y, b) :: s, ⟨e, h, q⟩ => by
    subst e
    unfold putW putF
    by_cases z : x = f
    · rw [if_pos z, if_pos z]; exact ⟨rfl, r, q⟩
    · rw [if_neg z, if_neg z]; exact ⟨rfl, h, KeyRep.put r q⟩
  | [], _ :: _, h => h.elim
  | _ :: _, [], h => h.elim
end Mp

set_option Elab.async false
set_option linter.all false
set_option autoImplicit false
set_option maxRecDepth 100000
set_option maxHeartbeats 4000000
/-! Mp2: objects, the heap's relation, the judgements. -/
namespace Mp
open PySem PySem.Spec PyProof.Rows L2

/-! ### dicts: keys are data -/
mutual
def nkey : W → Option NestedKey
  | .non => some .none
  | .bl b => some (.num (if b = true then 1 else 0))
  | .int i => some (.num i)
  | .str x => some (.text x)
  | .tup l => (nkeys l).map .tup
  | .lro _ => none
  | .ref _ => none
  | .glo _ => none
  | .ty _ => none
  | .adr _ => none
def nkeys : List W → Option (List NestedKey)
  | [] => some []
  | w :: r => match nkey w, nkeys r with
    | some k, some ks => some (k :: ks)
    | _, _ => none
end
/-- the dict's object at a, its entries -/
def IsDict (a : Addr) (es : List DictEntry) : Heap → Prop := fun h => ∃ o ep, h.get? a = some o ∧ o.ExactDict ∧ o.data = .dict es.toArray ep
structure EntOk (K : PySem.W.Frag) (w : World) (φ : List Addr) (H : Hp) (p : W × W) (e : DictEntry) : Prop where
  ex : ∃ nk kv vv, nkey p.1 = some nk ∧ nk.depth ≤ 8 ∧ e.hash = nk.hash w ∧ Rep K φ H p.1 kv ∧ RelV kv e.key ∧ Rep K φ H p.2 vv ∧ RelV vv e.val
theorem EntOk.ext {K : PySem.W.Frag} {w : World} {φ φ' : List Addr} {H H' : Hp} (x : Ext φ H φ' H') (nt : NoTup K φ H) {p : W × W} {e : DictEntry} (h : EntOk K w φ H p e) : EntOk K w φ' H' p e := by
  obtain ⟨nk, kv, vv, a, b, c, d, f, g, i⟩ := h.ex
  exact ⟨nk, kv, vv, a, b, c, d.ext x nt, f, g.ext x nt, i⟩
structure DRep (K : PySem.W.Frag) (w : World) (φ : List Addr) (H : Hp) (kvs : List (W × W)) (a : Addr) : Prop where
  ex : ∃ es : List DictEntry, H a = some (.ext (IsDict a es)) ∧ Paired (EntOk K w φ H) kvs es
  sys : (a == sysModules) = false
  nd : (kvs.map fun p => nkey p.1).Nodup
  sz : kvs.length ≤ sizeLine

/-! ### objects -/
/-- a caught exception at a -/
def exT (a : Addr) (cls : Value) (d : Option Addr) : HO := .ext fun h => ∃ (oe : Obj) (vs : Array Value), h.get? a = some oe ∧ L2.Zc cls d oe ∧ oe.data = .fields vs
theorem exT_tup {a : Addr} {cls : Value} {d : Option Addr} {vs : List V} : exT a cls d ≠ .tup vs := fun z => by
  have z' : HO.ext _ = HO.tup vs := z
  cases z'
theorem exT_frz {a : Addr} {cls : Value} {d : Option Addr} {o : Obj} {u : HO} : exT a cls d ≠ .frz o u := fun z => by
  have z' : HO.ext _ = HO.frz o u := z
  cases z'
theorem exT_tbl {a : Addr} {cls : Value} {d : Option Addr} {ps : Array Value} : exT a cls d ≠ .tbl ps := fun z => by
  have z' : HO.ext _ = HO.tbl ps := z
  cases z'
inductive ORep (K : PySem.W.Frag) (w : World) (φ : List Addr) (H : Hp) : MO → Addr → Prop
  | lst {l : List W} {vs : List V} {a : Addr} (h : H a = some (.lst vs)) (r : Reps K φ H l vs) : ORep K w φ H (.lst l) a
  | dct {kvs : List (W × W)} {a : Addr} (h : DRep K w φ H kvs a) : ORep K w φ H (.dct kvs) a
  | ins {c : Str} {fs : List (Str × W)} {a dx : Addr} {gs : List (Str × V)} (h : H a = some (.ins (He.ga K c) dx gs)) (r : KeyRep K φ H fs gs) : ORep K w φ H (.ins c fs) a
  | exn {c : Str} {fs : List (Str × W)} {a d : Addr} {gs : List (Str × V)} (h : H a = some (exT a (.ref (He.ga K c)) (some d))) (hd : H d = some (.xd gs)) (hn : d ∉ φ) (r : KeyRep K φ H fs gs) : ORep K w φ H (.exn c fs) a
theorem ORep.notup {K : PySem.W.Frag} {w : World} {φ : List Addr} {H : Hp} {o : MO} {a : Addr} (h : ORep K w φ H o a) : ∃ u, H a = some u ∧ (∀ vs, u ≠ .tup vs) ∧ (∀ o z, u ≠ .frz o z) ∧ ∀ ps, u ≠ .tbl ps := by
  cases h with
  | lst h _ => exact ⟨_, h, fun _ => nofun, fun _ _ => nofun, fun _ => nofun⟩
  | dct h => obtain ⟨es, h, _⟩ := h.ex; exact ⟨_, h, fun _ => nofun, fun _ _ => nofun, fun _ => nofun⟩
  | ins h _ => exact ⟨_, h, fun _ => nofun, fun _ _ => nofun, fun _ => nofun⟩
  | exn h _ _ _ => exact ⟨_, h, fun _ => exT_tup, fun _ _ => exT_frz, fun _ => exT_tbl⟩

/-- the heap: number by number -/
structure HRep (K : PySem.W.Frag) (w : World) (φ : List Addr) (H : Hp) (h : Hw) : Prop where
  len : φ.length = h.length
  nd : φ.Nodup
  obj : ∀ (n : Nat) (o : MO), h[n]? = some o → ∃ a, φ[n]? = some a ∧ ORep K w φ H o a
theorem HRep.at_ {K : PySem.W.Frag} {w : World} {φ : List Addr} {H : Hp} {h : Hw} (R : HRep K w φ H h) {a : Addr} (ha : a ∈ φ) : ∃ (n : Nat) (o : MO), h[n]? = some o ∧ φ[n]? = some a ∧ ORep K w φ H o a := by
  obtain ⟨n, hn⟩ := List.mem_iff_getElem?.mp ha
  have hl : n < h.length := by rw [← R.len]; exact (List.getElem?_eq_some_iff.mp hn).1
  obtain ⟨b, hb, r⟩ := R.obj n _ (List.getElem?_eq_getElem hl)
  rw [hn] at hb; cases hb
  exact ⟨n, _, List.getElem?_eq_getElem hl, hn, r⟩
theorem HRep.nt {K : PySem.W.Frag} {w : World} {φ : List Addr} {H : Hp} {h : Hw} (R : HRep K w φ H h) : NoTup K φ H := fun a ha u e => by
  obtain ⟨n, o, _, _, r⟩ := R.at_ ha
  obtain ⟨u', e', p1, p2, _⟩ := r.notup
  rw [e] at e'; cases e'
  exact ⟨p1, p2⟩
theorem HRep.ntbl {K : PySem.W.Frag} {w : World} {φ : List Addr} {H : Hp} {h : Hw} (R : HRep K w φ H h) {a : Addr} (ha : a ∈ φ) {ps : Array Value} : H a ≠ some (.tbl ps) := fun e => by
  obtain ⟨n, o, _, _, r⟩ := R.at_ ha
  obtain ⟨u', e', _, _, p3⟩ := r.notup
  rw [e] at e'; cases e'
  exact p3 ps rfl
theorem HRep.new {K : PySem.W.Frag} {w : World} {φ : List Addr} {H : Hp} {h : Hw} (R : HRep K w φ H h) {p : Addr} (hp : H p = none) : p ∉ φ := fun ha => by
  obtain ⟨n, o, _, _, r⟩ := R.at_ ha
  obtain ⟨u', e', _⟩ := r.notup
  rw [hp] at e'; cases e'
/-- an object's relation where its own content is as it was -/
theorem ORep.ext {K : PySem.W.Frag} {w : World} {φ φ' : List Addr} {H H' : Hp} (x : Ext φ H φ' H') (nt : NoTup K φ H) {o : MO} {a : Addr} (h : ORep K w φ H o a) (same : ∀ u, H a = some u → H' a = some u) : ORep K w φ' H' o a := by
  cases h with
  | lst h r => exact .lst (same _ h) (r.ext x nt)
  | dct h =>
    obtain ⟨es, h1, h2⟩ := h.ex
    exact .dct ⟨⟨es, same _ h1, Paired.mapP h2 fun _ _ z => z.ext x nt⟩, h.sys, h.nd, h.sz⟩
  | ins h r => exact .ins (same _ h) (r.ext x nt)
  | exn h hd hn r => exact .exn (same _ h) (x.keep _ _ hd hn fun ps z => by cases z) (fun q => by have := x.new _ q hn; rw [hd] at this; cases this) (r.ext x nt)

/-! ### slots -/
def ERep (K : PySem.W.Frag) (φ : List Addr) (H : Hp) (ρ : Rho) (σ : L2.St) : Prop := ρ.length = σ.length ∧ ∀ (i : Nat) (w : W), ρ[i]? = some (some w) → ∃ v, σ[i]? = some (some v) ∧ Rep K φ H w v
theorem ERep.ext {K : PySem.W.Frag} {φ φ' : List Addr} {H H' : Hp} (x : Ext φ H φ' H') (nt : NoTup K φ H) {ρ : Rho} {σ : L2.St} (h : ERep K φ H ρ σ) : ERep K φ' H' ρ σ :=
  ⟨h.1, fun i w e => let ⟨v, a, b⟩ := h.2 i w e; ⟨v, a, b.ext x nt⟩⟩
theorem ERep.set {K : PySem.W.Frag} {φ : List Addr} {H : Hp} {ρ : Rho} {σ : L2.St} (h : ERep K φ H ρ σ) (i : Nat) {w : W} {v : V} (r : Rep K φ H w v) : ERep K φ H (ρ.set i (some w)) (σ.set i (some v)) := by
  refine ⟨by rw [List.length_set, List.length_set]; exact h.1, fun j u e => ?_⟩
  by_cases z : i = j
  · subst z
    by_cases hl : i < ρ.length
    · rw [List.getElem?_set_self hl] at e; cases e
      rw [List.getElem?_set_self (by rw [← h.1]; exact hl)]
      exact ⟨v, rfl, r⟩
    · rw [List.getElem?_eq_none (by rw [List.length_set]; omega)] at e; cases e
  · rw [List.getElem?_set_ne z] at e ⊢
    exact h.2 j u e
theorem ERep.unset {K : PySem.W.Frag} {φ : List Addr} {H : Hp} {ρ : Rho} {σ : L2.St} (h : ERep K φ H ρ σ) (i : Nat) : ERep K φ H (ρ.set i none) (σ.set i none) := by
  refine ⟨by rw [List.length_set, List.length_set]; exact h.1, fun j u e => ?_⟩
  by_cases z : i = j
  · subst z
    by_cases hl : i < ρ.length
    · rw [List.getElem?_set_self hl] at e; cases e
    · rw [List.getElem?_eq_none (by rw [List.length_set]; omega)] at e; cases e
  · rw [List.getElem?_set_ne z] at e ⊢
    exact h.2 j u e

/-! ### what is wanted of an end -/
/-- tables of code objects; a state that all goes on from -/
structure Tb where
  tabs : List (Addr × Str)
  φ0 : List Addr
  H0 : Hp
/-- the wish of exceptions, the tables of code objects -/
structure Gx where
  T : Tb
  Wx : WX
/-- an exception, its class cls, its own dict at d -/
def XRep (K : PySem.W.Frag) (φ : List Addr) (H : Hp) (e : Exn) (cls : Value) (d : Option Addr) : Prop :=
  cls = .ref (He.ga K e.cls) ∧ ((e.fs = [] ∧ d = none) ∨ ∃ dd gs, d = some dd ∧ dd ∉ φ ∧ H dd = some (.xd gs) ∧ KeyRep K φ H e.fs gs)
structure Now (K : PySem.W.Frag) (w : World) (T : Tb) (φ : List Addr) (H : Hp) (h : Hw) : Prop where
  hr : HRep K w φ H h
  tb : LamX.Tabs T.tabs H
  x0 : Ext T.φ0 T.H0 φ H
/-- behind a state: φ H grown to φ' H', the heap h' -/
structure Beh (K : PySem.W.Frag) (w : World) (T : Tb) (φ : List Addr) (H : Hp) (φ' : List Addr) (H' : Hp) (h' : Hw) : Prop where
  x : Ext φ H φ' H'
  n : Now K w T φ' H' h'
theorem Beh.refl {K : PySem.W.Frag} {w : World} {T : Tb} {φ : List Addr} {H : Hp} {h : Hw} (n : Now K w T φ H h) : Beh K w T φ H φ H h := ⟨.refl _ _, n⟩
theorem Beh.trans {K : PySem.W.Frag} {w : World} {T : Tb} {φ φ1 φ2 : List Addr} {H H1 H2 : Hp} {h1 h2 : Hw} (a : Beh K w T φ H φ1 H1 h1) (b : Beh K w T φ1 H1 φ2 H2 h2) : Beh K w T φ H φ2 H2 h2 := ⟨a.x.trans b.x, b.n⟩
def QX {α : Type} (K : PySem.W.Frag) (w : World) (G : Gx) (φ : List Addr) (H : Hp) (σ : L2.St) (r : Out α × Hw) : Prop :=
  ∀ e, r.1 = .exc e → ∀ φ' H' cls d, Beh K w G.T φ H φ' H' r.2 → XRep K φ' H' e cls d → G.Wx cls d σ H'
def QV (K : PySem.W.Frag) (w : World) (G : Gx) (φ : List Addr) (H : Hp) (r : Out W × Hw) (Q : VK) : Prop :=
  ∀ x, r.1 = .ok x → ∀ φ' H' v, Beh K w G.T φ H φ' H' r.2 → Rep K φ' H' x v → Q v H'
def QA (K : PySem.W.Frag) (w : World) (G : Gx) (φ : List Addr) (H : Hp) (r : Out (List W) × Hw) (Q : List V → Hp → Prop) : Prop :=
  ∀ ws, r.1 = .ok ws → ∀ φ' H' vs, Beh K w G.T φ H φ' H' r.2 → Reps K φ' H' ws vs → Q vs H'
def QT (K : PySem.W.Frag) (w : World) (G : Gx) (φ : List Addr) (H : Hp) (r : Out Bool × Hw) (Q : Bool → Hp → Prop) : Prop :=
  ∀ b, r.1 = .ok b → ∀ φ' H', Beh K w G.T φ H φ' H' r.2 → Q b H'
theorem QX.trans {α : Type} {K : PySem.W.Frag} {w : World} {G : Gx} {φ φ1 : List Addr} {H H1 : Hp} {σ : L2.St} {r : Out α × Hw} {h1 : Hw} (q : QX K w G φ H σ r) (b : Beh K w G.T φ H φ1 H1 h1) : QX K w G φ1 H1 σ r :=
  fun e he φ' H' cls d bb x => q e he φ' H' cls d (b.trans bb) x
/-- the reading of an expression that the mirror m mirrors -/
def tE (K : PySem.W.Frag) (w : World) (G : Gx) (m : Sh) : TE := fun σ H Q => ∃ φ ρ h r, Now K w G.T φ H h ∧ ERep K φ H ρ σ ∧ m ρ h = some r ∧ QX K w G φ H σ r ∧ QV K w G φ H r Q
def tTT (K : PySem.W.Frag) (w : World) (G : Gx) (m : ShT) : TT := fun σ H Q => ∃ φ ρ h r, Now K w G.T φ H h ∧ ERep K φ H ρ σ ∧ m ρ h = some r ∧ QX K w G φ H σ r ∧ QT K w G φ H r Q
def tAA (K : PySem.W.Frag) (w : World) (G : Gx) (m : ShA) : TA := fun σ H Q => ∃ φ ρ h r, Now K w G.T φ H h ∧ ERep K φ H ρ σ ∧ m ρ h = some r ∧ QX K w G φ H σ r ∧ QA K w G φ H r Q
/-- a statement's -/
def QS (K : PySem.W.Frag) (w : World) (G : Gx) (φ : List Addr) (H : Hp) (r : SOut × Hw) (D : Ends) : Prop := match r with
  | (.nx ρ, h') => ∀ φ' σ' H', Beh K w G.T φ H φ' H' h' → ERep K φ' H' ρ σ' → D.nx σ' H'
  | (.bk ρ, h') => ∀ φ' σ' H', Beh K w G.T φ H φ' H' h' → ERep K φ' H' ρ σ' → D.bk σ' H'
  | (.ct ρ, h') => ∀ φ' σ' H', Beh K w G.T φ H φ' H' h' → ERep K φ' H' ρ σ' → D.ct σ' H'
  | (.rt x, h') => ∀ φ' H' v, Beh K w G.T φ H φ' H' h' → Rep K φ' H' x v → D.rt v H'
  | (.exc e ρ, h') => ∀ φ' σ' H' cls d, Beh K w G.T φ H φ' H' h' → ERep K φ' H' ρ σ' → XRep K φ' H' e cls d → G.Wx cls d σ' H'
def tSS (K : PySem.W.Frag) (w : World) (G : Gx) (m : Ss) : TS := fun D σ H => ∃ φ ρ h r, Now K w G.T φ H h ∧ ERep K φ H ρ σ ∧ m ρ h = some r ∧ QS K w G φ H r D
theorem QS.trans {K : PySem.W.Frag} {w : World} {G : Gx} {φ φ1 : List Addr} {H H1 : Hp} {r : SOut × Hw} {h1 : Hw} {D : Ends} (q : QS K w G φ H r D) (b : Beh K w G.T φ H φ1 H1 h1) : QS K w G φ1 H1 r D := by
  obtain ⟨o, h'⟩ := r
  cases o with
  | nx ρ => exact fun φ' σ' H' bb e => q φ' σ' H' (b.trans bb) e
  | bk ρ => exact fun φ' σ' H' bb e => q φ' σ' H' (b.trans bb) e
  | ct ρ => exact fun φ' σ' H' bb e => q φ' σ' H' (b.trans bb) e
  | rt w => exact fun φ' H' v bb e => q φ' H' v (b.trans bb) e
  | exc e ρ => exact fun φ' σ' H' cls d bb x y => q φ' σ' H' cls d (b.trans bb) x y

/-! ### the judgements -/
abbrev ME (X : Cx) (G : Gx) (e : Expr) (m : Sh) : Prop := PE X e (tE X.K X.w G m)
abbrev MT (X : Cx) (G : Gx) (e : Expr) (m : ShT) : Prop := PT X e (tTT X.K X.w G m)
abbrev MW (X : Cx) (G : Gx) (e : Expr) (m : ShT) : Prop := PW X e (tTT X.K X.w G m)
abbrev MA (X : Cx) (G : Gx) (es : List Expr) (m : ShA) : Prop := PA X es (tAA X.K X.w G m)
abbrev MS (X : Cx) (G : Gx) (st : Stmt) (m : Ss) : Prop := PS X st (tSS X.K X.w G m)
abbrev MSs (X : Cx) (G : Gx) (st : List Stmt) (m : Ss) : Prop := PSs X st (tSS X.K X.w G m)

section
variable {X : Cx} {e : Expr} {es : List Expr} {st : Stmt} {sts : List Stmt}
theorem pe_imp {t t' : TE} (h : PE X e t) (i : ∀ σ H Q, t' σ H Q → t σ H Q) : PE X e t' := ⟨fun pins s σ H Q I q => h.run pins s σ H Q I (i σ H Q q)⟩
theorem pt_imp {t t' : TT} (h : PT X e t) (i : ∀ σ H Q, t' σ H Q → t σ H Q) : PT X e t' := ⟨fun pins s σ H Q I q => h.run pins s σ H Q I (i σ H Q q)⟩
theorem pw_imp {t t' : TT} (h : PW X e t) (i : ∀ σ H Q, t' σ H Q → t σ H Q) : PW X e t' := ⟨fun wh pins s σ H Q I q => h.run wh pins s σ H Q I (i σ H Q q)⟩
theorem pa_imp {t t' : TA} (h : PA X es t) (i : ∀ σ H Q, t' σ H Q → t σ H Q) : PA X es t' := ⟨fun pos pins s σ H Q I q => h.run pos pins s σ H Q I (i σ H Q q)⟩
theorem ps_imp {t t' : TS} (h : PS X st t) (i : ∀ D σ H, t' D σ H → t D σ H) : PS X st t' := ⟨fun pins s σ H D I q => h.run pins s σ H D I (i D σ H q)⟩
theorem pss_imp {t t' : TS} (h : PSs X sts t) (i : ∀ D σ H, t' D σ H → t D σ H) : PSs X sts t' := ⟨fun pins s σ H D I q => h.run pins s σ H D I (i D σ H q)⟩
end

/-! ### running a part of a mirror -/
section
variable {X : Cx} {G : Gx} {φ : List Addr} {H : Hp} {ρ : Rho} {σ : L2.St} {h : Hw}
/-- the part ma of ma >>= k, then k -/
theorem tE_then {β : Type} {ma : Sh} {k : W → M β} {r : Out β × Hw} {Q : VK} (n : Now X.K X.w G.T φ H h) (er : ERep X.K φ H ρ σ) (e : (ma ρ).bind k h = some r) (qx : QX X.K X.w G φ H σ r)
    (hk : ∀ w φ1 H1 h1 v, Beh X.K X.w G.T φ H φ1 H1 h1 → ERep X.K φ1 H1 ρ σ → Rep X.K φ1 H1 w v → k w h1 = some r → Q v H1) : tE X.K X.w G ma σ H Q := by
  unfold M.bind at e
  cases z : ma ρ h with
  | none => rw [z] at e; cases e
  | some ra =>
    obtain ⟨o, h1⟩ := ra
    rw [z] at e
    refine ⟨φ, ρ, h, (o, h1), n, er, z, ?_, ?_⟩
    · rintro x rfl
      cases e
      exact qx x rfl
    · rintro w rfl φ1 H1 v b rv
      exact hk w φ1 H1 h1 v b (er.ext b.x n.hr.nt) rv e
theorem tA_then {β : Type} {ma : ShA} {k : List W → M β} {r : Out β × Hw} {Q : List V → Hp → Prop} (n : Now X.K X.w G.T φ H h) (er : ERep X.K φ H ρ σ) (e : (ma ρ).bind k h = some r) (qx : QX X.K X.w G φ H σ r)
    (hk : ∀ ws φ1 H1 h1 vs, Beh X.K X.w G.T φ H φ1 H1 h1 → ERep X.K φ1 H1 ρ σ → Reps X.K φ1 H1 ws vs → k ws h1 = some r → Q vs H1) : tAA X.K X.w G ma σ H Q := by
  unfold M.bind at e
  cases z : ma ρ h with
  | none => rw [z] at e; cases e
  | some ra =>
    obtain ⟨o, h1⟩ := ra
    rw [z] at e
    refine ⟨φ, ρ, h, (o, h1), n, er, z, ?_, ?_⟩
    · rintro x rfl
      cases e
      exact qx x rfl
    · rintro w rfl φ1 H1 v b rv
      exact hk w φ1 H1 h1 v b (er.ext b.x n.hr.nt) rv e
theorem tT_then {β : Type} {ma : ShT} {k : Bool → M β} {r : Out β × Hw} {Q : Bool → Hp → Prop} (n : Now X.K X.w G.T φ H h) (er : ERep X.K φ H ρ σ) (e : (ma ρ).bind k h = some r) (qx : QX X.K X.w G φ H σ r)
    (hk : ∀ b φ1 H1 h1, Beh X.K X.w G.T φ H φ1 H1 h1 → ERep X.K φ1 H1 ρ σ → k b h1 = some r → Q b H1) : tTT X.K X.w G ma σ H Q := by
  unfold M.bind at e
  cases z : ma ρ h with
  | none => rw [z] at e; cases e
  | some ra =>
    obtain ⟨o, h1⟩ := ra
    rw [z] at e
    refine ⟨φ, ρ, h, (o, h1), n, er, z, ?_, ?_⟩
    · rintro x rfl
      cases e
      exact qx x rfl
    · rintro w rfl φ1 H1 b
      exact hk w φ1 H1 h1 b (er.ext b.x n.hr.nt) e
theorem QV.ret {w : W} {v : V} {Q : VK} {φ1 : List Addr} {H1 : Hp} {h1 : Hw} {r : Out W × Hw} (q : QV X.K X.w G φ H r Q) (e : M.ret w h1 = some r) (b : Beh X.K X.w G.T φ H φ1 H1 h1) (rv : Rep X.K φ1 H1 w v) : Q v H1 := by
  have e' : some (Out.ok w, h1) = some r := e
  injection e' with e'; subst e'
  exact q w rfl φ1 H1 v b rv
theorem QT.ret {c : Bool} {Q : Bool → Hp → Prop} {φ1 : List Addr} {H1 : Hp} {h1 : Hw} {r : Out Bool × Hw} (q : QT X.K X.w G φ H r Q) (e : M.ret c h1 = some r) (b : Beh X.K X.w G.T φ H φ1 H1 h1) : Q c H1 := by
  have e' : some (Out.ok c, h1) = some r := e
  injection e' with e'; subst e'
  exact q c rfl φ1 H1 b
theorem QA.ret {ws : List W} {vs : List V} {Q : List V → Hp → Prop} {φ1 : List Addr} {H1 : Hp} {h1 : Hw} {r : Out (List W) × Hw} (q : QA X.K X.w G φ H r Q) (e : M.ret ws h1 = some r) (b : Beh X.K X.w G.T φ H φ1 H1 h1) (rv : Reps X.K φ1 H1 ws vs) : Q vs H1 := by
  have e' : some (Out.ok ws, h1) = some r := e
  injection e' with e'; subst e'
  exact q ws rfl φ1 H1 vs b rv
end
end Mp

set_option Elab.async false
set_option linter.all false
set_option autoImplicit false
set_option maxRecDepth 100000
set_option maxHeartbeats 4000000
/-! Mp3: the call of a def, by its mirror; growing heaps. -/
namespace Mp
open PySem PySem.Spec PyProof.Rows L2

/-! ### room, with the guards known -/
structure RoomG (k : Nat) (A : Around) : Prop where
  rm : Room k A
  gd : A.guards = some []
theorem RoomG.mono {j k : Nat} {A : Around} (r : RoomG k A) (h : j ≤ k) : RoomG j A := ⟨r.rm.mono h, r.gd⟩
theorem guards_deeper (A : Around) (env : Env) : (A.deeper env).guards = A.guards := by
  first | rfl | simp [Around.deeper]
theorem RoomG.deeper {k : Nat} {A : Around} (r : RoomG (k + 1) A) (env : Env) : RoomG k (A.deeper env) := ⟨r.rm.deeper env, (guards_deeper A env).trans r.gd⟩
theorem guards_make (A : Around) (C : Addr) (us : List Value) (kw : List (Str × Value)) : (A.under (.builtin "type.__call__" ⟨.ref C :: us, kw⟩)).guards = A.guards := by
  first | rfl | simp [Around.under, Code.guards, Code.isGuard, guardIds, pushGuards]
theorem RoomG.make {k : Nat} {A : Around} (r : RoomG (k + 1) A) (C : Addr) (us : List Value) (kw : List (Str × Value)) : RoomG k (A.under (.builtin "type.__call__" ⟨.ref C :: us, kw⟩)) := ⟨r.rm.make C us kw, (guards_make A C us kw).trans r.gd⟩

/-- a def keeps its promise, at a level, where the guards are known -/
structure GOk (P : Program) (w : World) (K : PySem.W.Frag) (mg : Str → Option Value) (base : Heap) (k : Nat) (f : Addr) (fd : FuncData) (ps : List Str) (sp : Sp) : Prop where
  len : ∀ vs H Q E, sp vs H Q E → vs.length = ps.length
  run : ∀ (A : Around) (outer : List Env) (s : Shared) (H : Hp) (args : Args) (us : List Value) (vs : List V) (Q : VK) (E : XK), RoomG k A → Env0 P w K mg base A outer s H → BindsTo s fd args (ps.zip us) → Vals vs us → sp vs H Q E →
    codeAny (model P w) A (.call (.ref f) args) (CR (L2.CX P w) outer P w H s Q E) s

section
variable {P : Program} {w : World} {K : PySem.W.Frag} {mg : Str → Option Value} {base : Heap} {name qual : Str} {params : Arguments} {body : List Stmt} {scope : Scope} {dvs : List V} {kws : List (Str × V)} {f : Addr} {fd : FuncData} {N ps : List Str} {k : Nat} {sp : Sp}
/-- a def by its body -/
theorem gok_of (D : FunD K name qual params body scope dvs kws f fd) (S : FnScope N ps scope) (hlen : ∀ vs H Q E, sp vs H Q E → vs.length = ps.length)
    (hb : ∀ (cv : Value) (A : Around) (outer : List Env) (s : Shared) (H : Hp) (vs : List V) (Q : VK) (E : XK), fd.code = cv → RoomG k (A.deeper (envOfC qual scope s.heap.objs.size f cv)) → sp vs H Q E →
      ∃ t, PSs (cxOf (L2.CX P w) P w K mg base N qual scope f cv A outer s H E) body t ∧ t { nx := fun _ H' => Q .non H', rt := Q } (start N vs) H) : GOk P w K mg base (k + 1) f fd ps sp := by
  obtain ⟨oc, od, dV, kV, doc, pm, an, cv, ct, osl, rfl, hlk, hcode, _, _⟩ := D.ex
  refine ⟨hlen, fun A outer s H args us vs Q E room env0 bind rel want => ?_⟩
  have kin : K.In s.heap := env0.mod.kin.keeps fun b o h => (env0.bs b o h).1
  have nolim : s.heap.NoLimit := env0.mod.nolimit.keeps fun b o h => (env0.bs b o h).1
  have kinds : ∀ y ∈ ps.zip us, scope.names.lookup y.1 = some .local ∨ (scope.names.lookup y.1 = some .cell ∧ ((cellsFrom (s.heap.objs.size + 1) scope.names []).lookup y.1).isSome = true) := fun y hy => by
    rcases S.par y.1 (List.of_mem_zip (show (y.1, y.2) ∈ ps.zip us from hy)).1 with q | q
    · exact Or.inl q
    · exact Or.inr ⟨q, PySem.W.cellsFrom_some scope.names _ [] (Or.inl q)⟩
  refine codeAny_call_function room.rm.depth (kin _ _ hlk) rfl S.co S.gen rfl (PySem.W.codeRec_of kin hcode) (bind _ _ _ _ ?_)
  refine wpAny_newFunctionEnv_cells S.kind kinds fun env henv s1 inc => ?_
  subst henv
  refine ⟨nolim.keeps inc.toInCall.keep, codeAny_func ?_⟩
  obtain ⟨t, pt, ht⟩ := hb cv A outer s H vs Q E rfl (room.deeper _) want
  have I0 := inv_start (CX := L2.CX P w) (E := E) S room.rm.hd env0 (hlen _ _ _ _ want) rel inc
  refine wpAny_mono (pt.run [] s1 (start N vs) H _ I0 ht) (fun fl s' end_ => ?_) fun e s' end_ => end_
  cases fl with
  | brk => obtain ⟨_, _, _, no⟩ := end_; exact no.elim
  | cont => obtain ⟨_, _, _, no⟩ := end_; exact no.elim
  | next =>
    obtain ⟨σ', H', J, q⟩ := end_
    exact ⟨.non, H', J.os, J.bare, J.base, J.hok, rfl, q⟩
  | ret u =>
    obtain ⟨v, σ', H', J, rv, q⟩ := end_
    exact ⟨v, H', J.os, J.bare, J.base, J.hok, rv, q⟩
end

/-! ### what a mirror promises -/
/-- the promise of a def that the mirror m mirrors -/
def spM (K : PySem.W.Frag) (w : World) (T : List (Addr × Str)) (n : Nat) (m : List W → M W) : Sp := fun vs H Q E => vs.length = n ∧
  ∃ φ h ws r, HRep K w φ H h ∧ LamX.Tabs T H ∧ Reps K φ H ws vs ∧ m ws h = some r ∧
    (∀ u, r.1 = .ok u → ∀ φ' H' v, Ext φ H φ' H' → HRep K w φ' H' r.2 → LamX.Tabs T H' → Rep K φ' H' u v → Q v H') ∧
    ∀ e, r.1 = .exc e → ∀ φ' H' cls d, Ext φ H φ' H' → HRep K w φ' H' r.2 → LamX.Tabs T H' → XRep K φ' H' e cls d → E cls d H'

section
variable {X : Cx} {G : Gx} {φ : List Addr} {H : Hp} {h : Hw}
/-! ### the heap grows -/
theorem ext_new {p : Addr} {o : HO} (n : Now X.K X.w G.T φ H h) (hp : H p = none) : Ext φ H φ (upd H p o) where
  pre := List.prefix_refl _
  keep := fun b u e _ _ => by rw [upd_ne (ne_of_none e hp)]; exact e
  new := fun a ha hn => (hn ha).elim
  tbl := fun b ps e _ => ⟨ps, by rw [upd_ne (ne_of_none e hp)]; exact e⟩
theorem tabs_new {T : List (Addr × Str)} {p : Addr} {o : HO} (t : LamX.Tabs T H) (hp : H p = none) : LamX.Tabs T (upd H p o) := t.ext fun b u e => by rw [upd_ne (ne_of_none e hp)]; exact e
theorem hrep_new {p : Addr} {o : HO} (n : Now X.K X.w G.T φ H h) (hp : H p = none) : HRep X.K X.w φ (upd H p o) h :=
  ⟨n.hr.len, n.hr.nd, fun i ob e => let ⟨a, h1, r⟩ := n.hr.obj i ob e; ⟨a, h1, r.ext (ext_new n hp) n.hr.nt fun u e => by rw [upd_ne (ne_of_none e hp)]; exact e⟩⟩
/-- a new object that no number tells -/
theorem beh_new {p : Addr} {o : HO} (n : Now X.K X.w G.T φ H h) (hp : H p = none) : Beh X.K X.w G.T φ H φ (upd H p o) h := ⟨ext_new n hp, hrep_new n hp, tabs_new n.tb hp, n.x0.trans (ext_new n hp)⟩
/-- a new tuple -/
theorem beh_tup {p : Addr} {ws : List W} {vs : List V} (n : Now X.K X.w G.T φ H h) (hp : H p = none) (r : Reps X.K φ H ws vs) : Beh X.K X.w G.T φ H φ (upd H p (.tup vs)) h ∧ Rep X.K φ (upd H p (.tup vs)) (.tup ws) (.ref p) :=
  ⟨beh_new n hp, .tup (SqT.of upd_same) (r.ext (ext_new n hp) n.hr.nt)⟩
/-- what stands untracked gets a number -/
theorem beh_num {p : Addr} {φ0 : List Addr} {H0 : Hp} {o : MO} (x00 : Ext G.T.φ0 G.T.H0 φ0 H0) (b : Beh X.K X.w G.T φ0 H0 φ H h) (h0 : H0 p = none) (hp : p ∉ φ) (hx : ∃ u, H p = some u ∧ (∀ ps, u ≠ .tbl ps) ∧ (∀ vs, u ≠ .tup vs) ∧ (∀ o z, u ≠ .frz o z) ∧ ∀ gs, u ≠ .xd gs) (ro : ORep X.K X.w (φ ++ [p]) H o p) : Beh X.K X.w G.T φ0 H0 (φ ++ [p]) H (h ++ [o]) := by
  have ex : Ext φ0 H0 (φ ++ [p]) H := by
    refine ⟨b.x.pre.trans (List.prefix_append _ _), b.x.keep, fun a ha hn => ?_, b.x.tbl⟩
    rcases List.mem_append.mp ha with ha | ha
    · exact b.x.new a ha hn
    · have e : a = p := by simpa using ha
      rw [e]; exact h0
  have ex1 : Ext φ H (φ ++ [p]) H → True := fun _ => trivial
  have grow : ∀ {w : W} {v : V}, Rep X.K φ H w v → Rep X.K (φ ++ [p]) H w v := by
    intro w v
    -- the same heap, more numbers
    have key : ∀ {w : W} {v : V}, Rep X.K φ H w v → Rep X.K (φ ++ [p]) H w v := fun {w v} r => by
      refine Rep.rec (motive_1 := fun w v _ => Rep X.K (φ ++ [p]) H w v) (motive_2 := fun ws vs _ => Reps X.K (φ ++ [p]) H ws vs) .non .bl .int .str .ty .glo .adr (fun h => .ref (prefix_get (List.prefix_append _ _) h)) (fun h _ ih => .tup h ih) (fun h _ ih => .lro h ih) .nil (fun _ _ i j => .cons i j) r
    exact key
  refine ⟨ex, ⟨by rw [List.length_append, List.length_append, b.n.hr.len]; rfl, ?_, fun i ob e => ?_⟩, b.n.tb, x00.trans ex⟩
  · rw [List.nodup_append]
    refine ⟨b.n.hr.nd, by simp, fun a ha c hc e => ?_⟩
    have ec : c = p := by simpa using hc
    exact hp (by rw [← ec, ← e]; exact ha)
  · by_cases hi : i < h.length
    · rw [List.getElem?_append_left hi] at e
      obtain ⟨a, h1, r⟩ := b.n.hr.obj i ob e
      refine ⟨a, prefix_get (List.prefix_append _ _) h1, ?_⟩
      have growR : ∀ {ws : List W} {vs : List V}, Reps X.K φ H ws vs → Reps X.K (φ ++ [p]) H ws vs := fun {ws vs} r => by
        refine Reps.rec (motive_1 := fun w v _ => Rep X.K (φ ++ [p]) H w v) (motive_2 := fun ws vs _ => Reps X.K (φ ++ [p]) H ws vs) .non .bl .int .str .ty .glo .adr (fun h => .ref (prefix_get (List.prefix_append _ _) h)) (fun h _ ih => .tup h ih) (fun h _ ih => .lro h ih) .nil (fun _ _ i j => .cons i j) r
      have growK : ∀ {fs : List (Str × W)} {gs : List (Str × V)}, KeyRep X.K φ H fs gs → KeyRep X.K (φ ++ [p]) H fs gs := by
        intro fs
        induction fs with
        | nil => intro gs q; cases gs <;> exact q
        | cons y r ih => intro gs q; cases gs with
          | nil => exact q
          | cons z s => exact ⟨q.1, grow q.2.1, ih q.2.2⟩
      cases r with
      | lst q r => exact .lst q (growR r)
      | dct q =>
        obtain ⟨es, q1, q2⟩ := q.ex
        refine .dct ⟨⟨es, q1, Paired.mapP q2 fun _ _ z => ?_⟩, q.sys, q.nd, q.sz⟩
        obtain ⟨nk, kv, vv, a1, a2, a3, a4, a5, a6, a7⟩ := z.ex
        exact ⟨nk, kv, vv, a1, a2, a3, grow a4, a5, grow a6, a7⟩
      | ins q r => exact .ins q (growK r)
      | exn q hd hn r =>
        refine .exn q hd (fun hm => ?_) (growK r)
        rcases List.mem_append.mp hm with hm | hm
        · exact hn hm
        · have e2 := List.mem_singleton.mp hm
          obtain ⟨u, hu, _, _, _, nx⟩ := hx
          rw [e2] at hd
          rw [hd] at hu
          cases hu
          exact nx _ rfl
    · have ei : i = h.length := by
        have h1 := (List.getElem?_eq_some_iff.mp e).1
        rw [List.length_append] at h1
        have h2 : ([o] : Hw).length = 1 := rfl
        omega
      subst ei
      rw [List.getElem?_append_right (Nat.le_refl _), Nat.sub_self] at e
      cases e
      exact ⟨p, by rw [← b.n.hr.len, List.getElem?_append_right (Nat.le_refl _), Nat.sub_self]; rfl, ro⟩
/-- a new list -/
theorem beh_lst {p : Addr} {ws : List W} {vs : List V} (n : Now X.K X.w G.T φ H h) (hp : H p = none) (r : Reps X.K φ H ws vs) :
    Beh X.K X.w G.T φ H (φ ++ [p]) (upd H p (.lst vs)) (h ++ [.lst ws]) ∧ Rep X.K (φ ++ [p]) (upd H p (.lst vs)) (.ref h.length) (.ref p) := by
  have b := beh_new (o := .lst vs) n hp
  have np : p ∉ φ := n.hr.new hp
  have b2 := beh_num (o := .lst ws) n.x0 b hp np ⟨_, upd_same, fun _ => nofun, fun _ => nofun, fun _ _ => nofun, fun _ => nofun⟩ (.lst upd_same (by
    have r1 := r.ext b.x n.hr.nt
    exact Reps.rec (motive_1 := fun w v _ => Rep X.K (φ ++ [p]) (upd H p (.lst vs)) w v) (motive_2 := fun ws' vs' _ => Reps X.K (φ ++ [p]) (upd H p (.lst vs)) ws' vs') .non .bl .int .str .ty .glo .adr (fun h => .ref (prefix_get (List.prefix_append _ _) h)) (fun h _ ih => .tup h ih) (fun h _ ih => .lro h ih) .nil (fun _ _ i j => .cons i j) r1))
  exact ⟨b2, .ref (by rw [← n.hr.len, List.getElem?_append_right (Nat.le_refl _), Nat.sub_self]; rfl)⟩
end
end Mp

set_option Elab.async false
set_option linter.all false
set_option autoImplicit false
set_option maxRecDepth 100000
set_option maxHeartbeats 4000000
/-! Mp4: objects that change; names, constants, operators, comparisons, tests. -/
namespace Mp
open PySem PySem.Spec PyProof.Rows L2

section
variable {X : Cx} {G : Gx} {φ : List Addr} {H : Hp} {h : Hw}
/-! ### an object changes -/
theorem nd_get {l : List Addr} (nd : l.Nodup) {i j : Nat} {a : Addr} (e : l[i]? = some a) (e' : l[j]? = some a) : i = j := by
  obtain ⟨h1, q1⟩ := List.getElem?_eq_some_iff.mp e
  obtain ⟨h2, q2⟩ := List.getElem?_eq_some_iff.mp e'
  exact (List.getElem_inj nd).mp (q1.trans q2.symm)
theorem beh_upd {i : Nat} {a : Addr} {u u' : HO} {o' : MO} (n : Now X.K X.w G.T φ H h) (ha : φ[i]? = some a) (hu : H a = some u) (hc : ∀ c q, u ≠ LamX.CodeO c q) (new : Ext φ H φ (upd H a u') → NoTup X.K φ H → ORep X.K X.w φ (upd H a u') o' a) :
    Beh X.K X.w G.T φ H φ (upd H a u') (h.set i o') := by
  have am : a ∈ φ := List.mem_of_getElem? ha
  have nt := n.hr.nt
  have ntb : ∀ {b : Addr} {ps : Array Value}, H b = some (.tbl ps) → b ≠ a := fun {b ps} e z => by
    subst z; exact n.hr.ntbl am e
  have ex : Ext φ H φ (upd H a u') :=
    ⟨List.prefix_refl _, fun b o e nb _ => by rw [upd_ne (by rintro rfl; exact nb am)]; exact e, fun b hb nb => (nb hb).elim, fun b ps e _ => ⟨ps, by rw [upd_ne (ntb e)]; exact e⟩⟩
  refine ⟨ex, ⟨by rw [List.length_set]; exact n.hr.len, n.hr.nd, fun j ob e => ?_⟩, fun p hp => ?_, n.x0.trans ex⟩
  · by_cases z : i = j
    · subst z
      have hl : i < h.length := by rw [← n.hr.len]; exact (List.getElem?_eq_some_iff.mp ha).1
      rw [List.getElem?_set_self hl] at e
      cases e
      exact ⟨a, ha, new ex nt⟩
    · rw [List.getElem?_set_ne z] at e
      obtain ⟨c, hc', r⟩ := n.hr.obj j ob e
      refine ⟨c, hc', r.ext ex nt fun u2 e2 => ?_⟩
      rw [upd_ne (by rintro rfl; exact z (nd_get n.hr.nd ha hc'))]
      exact e2
  · obtain ⟨ps, h1, h2, h3⟩ := n.tb p hp
    refine ⟨ps, by rw [upd_ne (ntb h1)]; exact h1, h2, fun pos cv hcv => ?_⟩
    obtain ⟨c, e1, e2⟩ := h3 pos cv hcv
    refine ⟨c, e1, ?_⟩
    rw [upd_ne]
    · exact e2
    · intro z
      subst z
      rw [hu] at e2
      exact hc _ _ (Option.some.inj e2)
theorem lst_code {vs : List V} : ∀ c q, (HO.lst vs) ≠ LamX.CodeO c q := fun c q z => by unfold LamX.CodeO at z; cases z
theorem ins_code {C dx : Addr} {gs : List (Str × V)} : ∀ c q, (HO.ins C dx gs) ≠ LamX.CodeO c q := fun c q z => by unfold LamX.CodeO at z; cases z
/-- a list changes -/
theorem beh_setl {i : Nat} {a : Addr} {vs vs' : List V} {ws' : List W} (n : Now X.K X.w G.T φ H h) (ha : φ[i]? = some a) (hu : H a = some (.lst vs)) (r : Reps X.K φ H ws' vs') :
    Beh X.K X.w G.T φ H φ (upd H a (.lst vs')) (h.set i (.lst ws')) :=
  beh_upd n ha hu lst_code fun ex nt => .lst upd_same (r.ext ex nt)
/-- what stands at a number that is a list, an instance -/
theorem now_lst {i : Nat} {ws : List W} (n : Now X.K X.w G.T φ H h) (e : h[i]? = some (.lst ws)) : ∃ a vs, φ[i]? = some a ∧ H a = some (.lst vs) ∧ Reps X.K φ H ws vs := by
  obtain ⟨a, h1, r⟩ := n.hr.obj i _ e
  cases r with
  | lst h r => exact ⟨a, _, h1, h, r⟩
theorem now_ins {i : Nat} {c : Str} {fs : List (Str × W)} (n : Now X.K X.w G.T φ H h) (e : h[i]? = some (.ins c fs)) : ∃ a dx gs, φ[i]? = some a ∧ H a = some (.ins (He.ga X.K c) dx gs) ∧ KeyRep X.K φ H fs gs := by
  obtain ⟨a, h1, r⟩ := n.hr.obj i _ e
  cases r with
  | ins h r => exact ⟨a, _, _, h1, h, r⟩

/-! ### inversion -/
theorem Rep.int_inv {K : PySem.W.Frag} {i : Int} {v : V} (r : Rep K φ H (.int i) v) : v = .int i := by cases r; rfl
theorem Rep.str_inv {K : PySem.W.Frag} {s : Str} {v : V} (r : Rep K φ H (.str s) v) : v = .str s := by cases r; rfl
theorem Rep.bl_inv {K : PySem.W.Frag} {b : Bool} {v : V} (r : Rep K φ H (.bl b) v) : v = .bl b := by cases r; rfl
theorem Rep.non_inv {K : PySem.W.Frag} {v : V} (r : Rep K φ H .non v) : v = .non := by cases r; rfl
theorem Rep.ref_inv {K : PySem.W.Frag} {n : Nat} {v : V} (r : Rep K φ H (.ref n) v) : ∃ a, v = .ref a ∧ φ[n]? = some a := by cases r with | ref h => exact ⟨_, rfl, h⟩
theorem Rep.tup_inv {K : PySem.W.Frag} {ws : List W} {v : V} (r : Rep K φ H (.tup ws) v) : ∃ a vs, v = .ref a ∧ SqT K H a vs ∧ Reps K φ H ws vs := by cases r with | tup h r => exact ⟨_, _, rfl, h, r⟩
theorem Rep.lro_inv {K : PySem.W.Frag} {ws : List W} {v : V} (r : Rep K φ H (.lro ws) v) : ∃ a vs, v = .ref a ∧ RoL K H a vs ∧ Reps K φ H ws vs := by cases r with | lro h r => exact ⟨_, _, rfl, h, r⟩
end

/-! ### names, constants -/
def eVar (i : Nat) : Sh := fun ρ => match ρ[i]? with
  | some (some w) => M.ret w
  | _ => M.none
def eC (w : W) : Sh := fun _ => M.ret w
section
variable {X : Cx} {G : Gx} {a b c e : Expr} {es : List Expr} {ma mb mc : Sh} {pos : Pos}
theorem me_of {t : TE} {m : Sh} (h : PE X e t) (i : ∀ φ ρ h r σ H Q, Now X.K X.w G.T φ H h → ERep X.K φ H ρ σ → m ρ h = some r → QX X.K X.w G φ H σ r → QV X.K X.w G φ H r Q → t σ H Q) : ME X G e m :=
  pe_imp h fun σ H Q ⟨φ, ρ, hh, r, n, er, z, qx, qv⟩ => i φ ρ hh r σ H Q n er z qx qv
theorem me_var (i : Nat) {x : Str} (hN : X.N[i]? = some x := by rfl) (hv : Vis X.env.scope x := by first | exact Or.inl rfl | exact Or.inr (Or.inl rfl) | exact Or.inr (Or.inr rfl)) (hd : (x == ("__debug__" : Str)) = false := by decide)
    (hcd : (x == ("__classdict__" : Str)) = false := by decide) : ME X G (.Name x pos) (eVar i) :=
  me_of (pe_var hN hv hd hcd) fun φ ρ h r σ H Q n er z qx qv => by
    unfold eVar at z
    cases q : ρ[i]? with
    | none => rw [q] at z; cases z
    | some o =>
      rw [q] at z
      cases o with
      | none => cases z
      | some w =>
        obtain ⟨v, h1, h2⟩ := er.2 i w q
        exact ⟨v, h1, qv.ret z (.refl n) h2⟩
theorem me_const {v : V} {w : W} (h : PE X e (tC v)) (hr : ∀ φ H, Rep X.K φ H w v) : ME X G e (eC w) :=
  me_of h fun φ ρ h r σ H Q n er z qx qv => qv.ret z (.refl n) (hr _ _)
theorem me_int {i : Int} {j : Nat} : ME X G (.Constant (.int i) j pos) (eC (.int i)) := me_const pe_int fun _ _ => .int i
theorem me_bl {b : Bool} {j : Nat} : ME X G (.Constant (.bool b) j pos) (eC (.bl b)) := me_const pe_bl fun _ _ => .bl b
theorem me_non {j : Nat} : ME X G (.Constant .none j pos) (eC .non) := me_const pe_non fun _ _ => .non
theorem me_str {x : Str} {j : Nat} : ME X G (.Constant (.str x) j pos) (eC (.str x)) := me_const pe_str fun _ _ => .str x
/-- a name of the module: w what it stands for -/
structure GloIs (X : Cx) (x : Str) (w : W) : Prop where
  ex : ∃ (u : Value) (v : V), X.mg x = some u ∧ RelV v u ∧ ∀ φ H, Rep X.K φ H w v
theorem me_glo {x : Str} {w : W} (g : GloIs X x w) (hg : Gl X x := by rfl) (hd : (x == ("__debug__" : Str)) = false := by decide) : ME X G (.Name x pos) (eC w) := by
  obtain ⟨u, v, h1, h2, h3⟩ := g.ex
  exact me_const (pe_glob hg h1 h2 hd) h3
/-- a built-in name as a value -/
theorem me_ty {x : Str} {n : String} (hm : X.mg x = none) (hv : bootBuiltins x = some (.type n)) (hg : Gl X x := by rfl) (hn : x ≠ "__name__" := by decide) (hd : (x == ("__debug__" : Str)) = false := by decide) : ME X G (.Name x pos) (eC (.ty n)) :=
  me_const (pe_bltn hg hm hv (v := .ty n) rfl hn hd) fun _ _ => .ty n

/-! ### operations on values: what they give, the heap behind them -/
abbrev F1 := W → Hw → Option (W × Hw)
abbrev F2 := W → W → Hw → Option (W × Hw)
abbrev FL := List W → Hw → Option (W × Hw)
def up {α : Type} (o : Option (α × Hw)) : Option (Out α × Hw) := match o with
  | some (a, h) => some (.ok a, h)
  | none => none
def mOp2 (F : F2) (a b : Sh) : Sh := fun ρ => (a ρ).bind fun x => (b ρ).bind fun y => fun h => up (F x y h)
def mOp1 (F : F1) (a : Sh) : Sh := fun ρ => (a ρ).bind fun x => fun h => up (F x h)
/-- the rule r does what F tells -/
def C2 (X : Cx) (G : Gx) (r : R2) (F : F2) : Prop := ∀ (φ : List Addr) (H : Hp) (h : Hw) (x y : W) (v u : V) (w : W) (h' : Hw) (Q : VK), Now X.K X.w G.T φ H h → Rep X.K φ H x v → Rep X.K φ H y u → F x y h = some (w, h') →
  (∀ φ' H' z, Beh X.K X.w G.T φ H φ' H' h' → Rep X.K φ' H' w z → Q z H') → r v u H Q
def C1 (X : Cx) (G : Gx) (r : V → Hp → VK → Prop) (F : F1) : Prop := ∀ (φ : List Addr) (H : Hp) (h : Hw) (x : W) (v : V) (w : W) (h' : Hw) (Q : VK), Now X.K X.w G.T φ H h → Rep X.K φ H x v → F x h = some (w, h') →
  (∀ φ' H' z, Beh X.K X.w G.T φ H φ' H' h' → Rep X.K φ' H' w z → Q z H') → r v H Q
def CL (X : Cx) (G : Gx) (r : List V → Hp → VK → Prop) (F : FL) : Prop := ∀ (φ : List Addr) (H : Hp) (h : Hw) (xs : List W) (vs : List V) (w : W) (h' : Hw) (Q : VK), Now X.K X.w G.T φ H h → Reps X.K φ H xs vs → F xs h = some (w, h') →
  (∀ φ' H' z, Beh X.K X.w G.T φ H φ' H' h' → Rep X.K φ' H' w z → Q z H') → r vs H Q
theorem up_some {α : Type} {o : Option (α × Hw)} {r : Out α × Hw} (e : up o = some r) : ∃ a h, o = some (a, h) ∧ r = (.ok a, h) := by
  unfold up at e
  split at e
  · cases e; exact ⟨_, _, rfl, rfl⟩
  · cases e
theorem bind_up {α β : Type} {o : Hw → Option (α × Hw)} {k : α → M β} {h : Hw} {r : Out β × Hw} (e : M.bind (fun h => up (o h)) k h = some r) : ∃ a h', o h = some (a, h') ∧ k a h' = some r := by
  have e' : (match up (o h) with
    | some (.ok a, h') => k a h'
    | some (.exc e, h') => some (.exc e, h')
    | none => none) = some r := e
  cases q : o h with
  | none => rw [q] at e'; cases e'
  | some p =>
    obtain ⟨a, h'⟩ := p
    rw [q] at e'
    exact ⟨a, h', rfl, e'⟩
theorem op2_then {φ : List Addr} {H : Hp} {ρ : Rho} {σ : L2.St} {h : Hw} {r : R2} {F : F2} {Q : VK} {ro : Out W × Hw} (c : C2 X G r F) (n : Now X.K X.w G.T φ H h) (er : ERep X.K φ H ρ σ) (z : mOp2 F ma mb ρ h = some ro) (qx : QX X.K X.w G φ H σ ro) (qv : QV X.K X.w G φ H ro Q) : tOp r (tE X.K X.w G ma) (tE X.K X.w G mb) σ H Q := by
  refine tE_then n er z qx fun x φ1 H1 h1 v b1 er1 r1 e1 => tE_then b1.n er1 e1 (qx.trans b1) fun y φ2 H2 h2 u b2 er2 r2 e2 => ?_
  obtain ⟨w, h', e3, rfl⟩ := up_some e2
  exact c φ2 H2 h2 x y v u w h' Q b2.n (r1.ext b2.x b1.n.hr.nt) r2 e3 fun φ' H' zz b3 rz => qv w rfl φ' H' zz ((b1.trans b2).trans b3) rz
theorem me_op {op : Operator} {r : R2} {F : F2} (ho : OpR X (binaryOp op) r) (c : C2 X G r F) (ha : ME X G a ma) (hb : ME X G b mb) : ME X G (.BinOp a op b pos) (mOp2 F ma mb) :=
  me_of (pe_op ho ha hb) fun φ ρ h ro σ H Q n er z qx qv => op2_then c n er z qx qv
theorem me_cmp {op : CmpOp} {r : R2} {F : F2} (ho : OpR X (compareOp op) r) (c : C2 X G r F) (ha : ME X G a ma) (hb : ME X G b mb) (hm : behindInMarks op b = false) : ME X G (.Compare a [op] [b] pos) (mOp2 F ma mb) :=
  me_of (pe_cmpR ho ha hb hm) fun φ ρ h ro σ H Q n er z qx qv => op2_then c n er z qx qv
theorem me_ix {r : R2} {F : F2} (hr : IxR X r) (c : C2 X G r F) (ha : ME X G a ma) (hb : ME X G b mb) (hs : PlainIx b := by exact fun _ _ => rfl) : ME X G (.Subscript a b pos) (mOp2 F ma mb) :=
  me_of (pe_ix hr ha hb hs) fun φ ρ h ro σ H Q n er z qx qv => op2_then c n er z qx qv
theorem me_un {op : UnaryOp} {r : V → Hp → VK → Prop} {F : F1} (ho : UnR X (unaryOp op) r) (c : C1 X G r F) (ha : ME X G a ma) : ME X G (.UnaryOp op a pos) (mOp1 F ma) :=
  me_of (pe_un ho ha) fun φ ρ h ro σ H Q n er z qx qv => tE_then n er z qx fun x φ1 H1 h1 v b1 er1 r1 e1 => by
    obtain ⟨w, h', e3, rfl⟩ := up_some e1
    exact c φ1 H1 h1 x v w h' Q b1.n r1 e3 fun φ' H' zz b3 rz => qv w rfl φ' H' zz (b1.trans b3) rz

/-! ### tests -/
theorem mt_of {t : TT} {m : ShT} (h : PT X e t) (i : ∀ φ ρ h r σ H Q, Now X.K X.w G.T φ H h → ERep X.K φ H ρ σ → m ρ h = some r → QX X.K X.w G φ H σ r → QT X.K X.w G φ H r Q → t σ H Q) : MT X G e m :=
  pt_imp h fun σ H Q ⟨φ, ρ, hh, r, n, er, z, qx, qt⟩ => i φ ρ hh r σ H Q n er z qx qt
theorem mw_of {t : TT} {m : ShT} (h : PW X e t) (i : ∀ φ ρ h r σ H Q, Now X.K X.w G.T φ H h → ERep X.K φ H ρ σ → m ρ h = some r → QX X.K X.w G φ H σ r → QT X.K X.w G φ H r Q → t σ H Q) : MW X G e m :=
  pw_imp h fun σ H Q ⟨φ, ρ, hh, r, n, er, z, qx, qt⟩ => i φ ρ hh r σ H Q n er z qx qt
/-- a value that is True or False, as a test -/
def asBl : W → M Bool
  | .bl b => M.ret b
  | _ => M.none
def tBl (a : Sh) : ShT := fun ρ => (a ρ).bind asBl
theorem tBl_then {φ : List Addr} {H : Hp} {ρ : Rho} {σ : L2.St} {h : Hw} {Q : Bool → Hp → Prop} {ro : Out Bool × Hw} (n : Now X.K X.w G.T φ H h) (er : ERep X.K φ H ρ σ) (z : tBl ma ρ h = some ro) (qx : QX X.K X.w G φ H σ ro) (qt : QT X.K X.w G φ H ro Q) : tTest (tE X.K X.w G ma) σ H Q := by
  refine tE_then n er z qx fun x φ1 H1 h1 v b1 er1 r1 e1 => ?_
  cases x with
  | bl b => exact ⟨b, r1.bl_inv, qt.ret e1 b1⟩
  | _ => cases e1
theorem mt_val (ha : ME X G a ma) (he : ∀ whole, isTrue a X.env whole = (do let v ← whole; standAt a.pos; holding [v] (truthy v)) := by intro _; rfl) : MT X G a (tBl ma) :=
  mt_of (pt_val ha he) fun φ ρ h ro σ H Q n er z qx qt => tBl_then n er z qx qt
theorem mt_cmp {op : CmpOp} {r : R2} {F : F2} (ho : OpR X (compareOp op) r) (c : C2 X G r F) (ha : ME X G a ma) (hb : ME X G b mb) (hm : behindInMarks op b = false) : MT X G (.Compare a [op] [b] pos) (tBl (mOp2 F ma mb)) :=
  mt_of (pt_cmpR ho ha hb hm) fun φ ρ h ro σ H Q n er z qx qt => by
    have q := tBl_then n er z qx qt
    obtain ⟨φ', ρ', h', r', n', er', z', qx', qv'⟩ := q
    exact op2_then c n' er' z' qx' qv'
/-- a value's truth -/
def truW : W → Hw → Option Bool
  | .non, _ => some false
  | .bl b, _ => some b
  | .int i, _ => some (i != 0)
  | .str s, _ => if s.length ≤ sizeLine then some ((s.length : Int) != 0) else none
  | .tup l, _ => some (!l.isEmpty)
  | .lro l, _ => some (!l.isEmpty)
  | .ref n, h => match h[n]? with
    | some (.lst l) => some (!l.isEmpty)
    | _ => none
  | _, _ => none
def asTru (w : W) : M Bool := fun h => match truW w h with
  | some b => some (.ok b, h)
  | none => none
def tTru (a : Sh) : ShT := fun ρ => (a ρ).bind asTru
theorem isEmpty_reps {K : PySem.W.Frag} {φ : List Addr} {H : Hp} {ws : List W} {vs : List V} (r : Reps K φ H ws vs) : ws.isEmpty = vs.isEmpty := by cases r <;> rfl
theorem mt_tru (ha : ME X G a ma) (he : ∀ whole, isTrue a X.env whole = (do let v ← whole; standAt a.pos; holding [v] (truthy v)) := by intro _; rfl) : MT X G a (tTru ma) :=
  mt_of (pt_truth ha he) fun φ ρ h ro σ H Q n er z qx qt => tE_then n er z qx fun x φ1 H1 h1 v b1 er1 r1 e1 => by
    unfold asTru at e1
    cases q : truW x h1 with
    | none => rw [q] at e1; cases e1
    | some b =>
      rw [q] at e1
      refine ⟨b, ?_, qt.ret (show M.ret b h1 = some ro from e1) b1⟩
      cases r1 with
      | non => cases q; rfl
      | bl c => cases q; rfl
      | int i => cases q; rfl
      | str s =>
        have q2 : (if s.length ≤ sizeLine then some ((s.length : Int) != 0) else none) = some b := q
        by_cases hs : s.length ≤ sizeLine
        · rw [if_pos hs] at q2; cases q2; exact ⟨hs, rfl⟩
        · rw [if_neg hs] at q2; cases q2
      | tup hh r => cases q; exact .inr (.inl ⟨_, hh, by rw [isEmpty_reps r]⟩)
      | lro hh r => cases q; exact .inl ⟨_, hh.sq, by rw [isEmpty_reps r]⟩
      | @ref nn aa hh =>
        have q2 : (match h1[nn]? with
          | some (.lst l) => some (!l.isEmpty)
          | _ => none) = some b := q
        cases el : h1[nn]? with
        | none => rw [el] at q2; cases q2
        | some o =>
          rw [el] at q2
          cases o with
          | lst l =>
            cases q2
            obtain ⟨a', vs, g1, g2, g3⟩ := now_lst b1.n el
            rw [hh] at g1; cases g1
            exact .inl ⟨vs, SqL.of g2, by rw [isEmpty_reps g3]⟩
          | _ => cases q2
      | ty _ => cases q
      | glo _ => cases q
      | adr _ => cases q
def tAnd (a b : ShT) : ShT := fun ρ => (a ρ).bind fun c => if c = true then b ρ else M.ret false
def tOr (a b : ShT) : ShT := fun ρ => (a ρ).bind fun c => if c = true then M.ret true else b ρ
def tNot (a : ShT) : ShT := fun ρ => (a ρ).bind fun c => M.ret (!c)
/-- go on with a test -/
theorem tT_go {φ : List Addr} {H : Hp} {ρ : Rho} {σ : L2.St} {h1 : Hw} {φ1 : List Addr} {H1 : Hp} {m : ShT} {Q : Bool → Hp → Prop} {ro : Out Bool × Hw} (b1 : Beh X.K X.w G.T φ H φ1 H1 h1) (er1 : ERep X.K φ1 H1 ρ σ) (e : m ρ h1 = some ro) (qx : QX X.K X.w G φ H σ ro) (qt : QT X.K X.w G φ H ro Q) : tTT X.K X.w G m σ H1 Q :=
  ⟨φ1, ρ, h1, ro, b1.n, er1, e, qx.trans b1, fun c hc φ' H' bb => qt c hc φ' H' (b1.trans bb)⟩
theorem tE_go {φ : List Addr} {H : Hp} {ρ : Rho} {σ : L2.St} {h1 : Hw} {φ1 : List Addr} {H1 : Hp} {m : Sh} {Q : VK} {ro : Out W × Hw} (b1 : Beh X.K X.w G.T φ H φ1 H1 h1) (er1 : ERep X.K φ1 H1 ρ σ) (e : m ρ h1 = some ro) (qx : QX X.K X.w G φ H σ ro) (qv : QV X.K X.w G φ H ro Q) : tE X.K X.w G m σ H1 Q :=
  ⟨φ1, ρ, h1, ro, b1.n, er1, e, qx.trans b1, fun c hc φ' H' v bb r => qv c hc φ' H' v (b1.trans bb) r⟩
variable {tA tB' : ShT} {rest : List Expr}
theorem mw_and1 (ha : MT X G a tA) : MW X G (.BoolOp .And [a] pos) tA := pw_and1 ha
theorem mw_or1 (ha : MT X G a tA) : MW X G (.BoolOp .Or [a] pos) tA := pw_or1 ha
theorem mw_and (ha : MT X G a tA) (hb : MW X G (.BoolOp .And (b :: rest) pos) tB') : MW X G (.BoolOp .And (a :: b :: rest) pos) (tAnd tA tB') :=
  mw_of (pw_and ha hb) fun φ ρ h ro σ H Q n er z qx qt => tT_then n er z qx fun c φ1 H1 h1 b1 er1 e1 => by
    cases c with
    | true => exact iteT (tT_go b1 er1 e1 qx qt)
    | false => exact iteF (qt.ret e1 b1)
theorem mw_or (ha : MT X G a tA) (hb : MW X G (.BoolOp .Or (b :: rest) pos) tB') : MW X G (.BoolOp .Or (a :: b :: rest) pos) (tOr tA tB') :=
  mw_of (pw_or ha hb) fun φ ρ h ro σ H Q n er z qx qt => tT_then n er z qx fun c φ1 H1 h1 b1 er1 e1 => by
    cases c with
    | true => exact iteT (qt.ret e1 b1)
    | false => exact iteF (tT_go b1 er1 e1 qx qt)
theorem mt_not (ha : MT X G a tA) : MT X G (.UnaryOp .Not a pos) (tNot tA) :=
  mt_of (pt_not ha) fun φ ρ h ro σ H Q n er z qx qt => tT_then n er z qx fun c φ1 H1 h1 b1 er1 e1 => qt.ret e1 b1
/-- and, or, not as values (True, False) -/
def eAnd (a b : Sh) : Sh := fun ρ => (tBl a ρ).bind fun c => if c = true then b ρ else M.ret (.bl false)
def eOr (a b : Sh) : Sh := fun ρ => (tBl a ρ).bind fun c => if c = true then M.ret (.bl true) else b ρ
def eNot (a : Sh) : Sh := fun ρ => (tBl a ρ).bind fun c => M.ret (.bl (!c))
theorem bl_then {β : Type} {φ : List Addr} {H : Hp} {ρ : Rho} {σ : L2.St} {h : Hw} {k : Bool → M β} {ro : Out β × Hw} {Q : VK} (n : Now X.K X.w G.T φ H h) (er : ERep X.K φ H ρ σ) (z : (tBl ma ρ).bind k h = some ro) (qx : QX X.K X.w G φ H σ ro)
    (hk : ∀ c φ1 H1 h1, Beh X.K X.w G.T φ H φ1 H1 h1 → ERep X.K φ1 H1 ρ σ → k c h1 = some ro → Q (.bl c) H1) : tE X.K X.w G ma σ H Q := by
  have z2 : (ma ρ).bind (fun w => (asBl w).bind k) h = some ro := by
    unfold tBl at z
    rw [← z]
    unfold M.bind
    cases ma ρ h with
    | none => rfl
    | some r => obtain ⟨o, h1⟩ := r; cases o <;> rfl
  refine tE_then n er z2 qx fun x φ1 H1 h1 v b1 er1 r1 e1 => ?_
  cases x with
  | bl c => rw [r1.bl_inv]; exact hk c φ1 H1 h1 b1 er1 e1
  | _ => cases e1
theorem me_one {op : BoolOp} (ha : ME X G a ma) : ME X G (.BoolOp op [a] pos) ma := pe_one ha
theorem me_and (ha : ME X G a ma) (hb : ME X G (.BoolOp .And (b :: rest) pos) mb) : ME X G (.BoolOp .And (a :: b :: rest) pos) (eAnd ma mb) :=
  me_of (pe_and ha hb) fun φ ρ h ro σ H Q n er z qx qv => bl_then n er z qx fun c φ1 H1 h1 b1 er1 e1 => ⟨c, rfl, by
    cases c with
    | true => exact iteT (tE_go b1 er1 e1 qx qv)
    | false => exact iteF (qv.ret e1 b1 (.bl false))⟩
theorem me_or (ha : ME X G a ma) (hb : ME X G (.BoolOp .Or (b :: rest) pos) mb) : ME X G (.BoolOp .Or (a :: b :: rest) pos) (eOr ma mb) :=
  me_of (pe_or ha hb) fun φ ρ h ro σ H Q n er z qx qv => bl_then n er z qx fun c φ1 H1 h1 b1 er1 e1 => ⟨c, rfl, by
    cases c with
    | true => exact iteT (qv.ret e1 b1 (.bl true))
    | false => exact iteF (tE_go b1 er1 e1 qx qv)⟩
theorem me_not (ha : ME X G a ma) : ME X G (.UnaryOp .Not a pos) (eNot ma) :=
  me_of (pe_not ha) fun φ ρ h ro σ H Q n er z qx qv => bl_then n er z qx fun c φ1 H1 h1 b1 er1 e1 => ⟨c, rfl, qv.ret e1 b1 (.bl (!c))⟩
def eIf (c : ShT) (a b : Sh) : Sh := fun ρ => (c ρ).bind fun k => if k = true then a ρ else b ρ
theorem me_if (hc : MT X G c tA) (ha : ME X G a ma) (hb : ME X G b mb) : ME X G (.IfExp c a b pos) (eIf tA ma mb) :=
  me_of (pe_ifExp hc ha hb) fun φ ρ h ro σ H Q n er z qx qv => tT_then n er z qx fun k φ1 H1 h1 b1 er1 e1 => by
    cases k with
    | true => exact iteT (tE_go b1 er1 e1 qx qv)
    | false => exact iteF (tE_go b1 er1 e1 qx qv)
/-- a op b op' c -/
def eChain (F F' : F2) (a b c : Sh) : Sh := fun ρ => (a ρ).bind fun x => (b ρ).bind fun y => M.bind (fun h => up (F x y h)) fun z => (asBl z).bind fun k => if k = true then (c ρ).bind fun u => (fun h => up (F' y u h)) else M.ret (.bl false)
theorem chain_then {r r' : R2} {F F' : F2} {φ : List Addr} {H : Hp} {ρ : Rho} {σ : L2.St} {h : Hw} {Q : VK} {ro : Out W × Hw} (c2 : C2 X G r F) (c2' : C2 X G r' F') (n : Now X.K X.w G.T φ H h) (er : ERep X.K φ H ρ σ) (z : eChain F F' ma mb mc ρ h = some ro) (qx : QX X.K X.w G φ H σ ro) (qv : QV X.K X.w G φ H ro Q) : tChain r r' (tE X.K X.w G ma) (tE X.K X.w G mb) (tE X.K X.w G mc) σ H Q := by
  refine tE_then n er z qx fun x φ1 H1 h1 v b1 er1 r1 e1 => tE_then b1.n er1 e1 (qx.trans b1) fun y φ2 H2 h2 u b2 er2 r2 e2 => ?_
  obtain ⟨wz, h3, q, e2⟩ := bind_up e2
  refine c2 φ2 H2 h2 x y v u wz h3 _ b2.n (r1.ext b2.x b1.n.hr.nt) r2 q fun φ3 H3 zz b3 rz => ?_
  cases wz with
  | bl k =>
    refine ⟨k, rz.bl_inv, ?_⟩
    have b13 := (b1.trans b2).trans b3
    cases k with
    | false => exact iteF (qv.ret e2 b13 (.bl false))
    | true =>
      refine iteT ?_
      have e3 : (mc ρ).bind (fun u => (fun h => up (F' y u h))) h3 = some ro := e2
      refine tE_then b3.n (er2.ext b3.x b2.n.hr.nt) e3 (qx.trans b13) fun t φ4 H4 h4 v4 b4 er4 r4 e4 => ?_
      obtain ⟨w, h', e5, rfl⟩ := up_some e4
      exact c2' φ4 H4 h4 y t u v4 w h' Q b4.n ((r2.ext b3.x b2.n.hr.nt).ext b4.x b3.n.hr.nt) r4 e5 fun φ' H' zz b5 rz' => qv w rfl φ' H' zz ((b13.trans b4).trans b5) rz'
  | _ => cases e2
theorem me_chain {op op' : CmpOp} {r r' : R2} {F F' : F2} (ho : OpR X (compareOp op) r) (ho' : OpR X (compareOp op') r') (c2 : C2 X G r F) (c2' : C2 X G r' F') (ha : ME X G a ma) (hb : ME X G b mb) (hc : ME X G c mc)
    (hm : lastMarks [op, op'] [b, c] = false := by with_unfolding_all rfl) : ME X G (.Compare a [op, op'] [b, c] pos) (eChain F F' ma mb mc) :=
  me_of (pe_chain ho ho' ha hb hc hm) fun φ ρ h ro σ H Q n er z qx qv => chain_then c2 c2' n er z qx qv
theorem mt_chain {op op' : CmpOp} {r r' : R2} {F F' : F2} (ho : OpR X (compareOp op) r) (ho' : OpR X (compareOp op') r') (c2 : C2 X G r F) (c2' : C2 X G r' F') (ha : ME X G a ma) (hb : ME X G b mb) (hc : ME X G c mc)
    (hm : lastMarks [op, op'] [b, c] = false := by with_unfolding_all rfl) : MT X G (.Compare a [op, op'] [b, c] pos) (tBl (eChain F F' ma mb mc)) :=
  mt_of (pt_chain ho ho' ha hb hc hm) fun φ ρ h ro σ H Q n er z qx qt => by
    obtain ⟨φ', ρ', h', r', n', er', z', qx', qv'⟩ := tBl_then n er z qx qt
    exact chain_then c2 c2' n' er' z' qx' qv'
end
end Mp

set_option Elab.async false
set_option linter.all false
set_option autoImplicit false
set_option maxRecDepth 100000
set_option maxHeartbeats 4000000
/-! Mp5: statements, targets, loops. -/
namespace Mp
open PySem PySem.Spec PyProof.Rows L2
/-! ### combinators -/
/-- an expression's part of a statement -/
def sb {α : Type} (m : Rho → M α) (k : α → Ss) : Ss := fun ρ h => match m ρ h with
  | some (.ok a, h') => k a ρ h'
  | some (.exc e, h') => some (.exc e ρ, h')
  | none => none
def sNext : Ss := fun ρ h => some (.nx ρ, h)
def sSeq (a b : Ss) : Ss := fun ρ h => match a ρ h with
  | some (.nx ρ', h') => b ρ' h'
  | o => o
def sIf (c : ShT) (a b : Ss) : Ss := sb c fun k => if k = true then a else b
def sRet (e : Sh) : Ss := sb e fun w _ h => some (.rt w, h)
def sRetN : Ss := fun _ h => some (.rt .non, h)
def sDrop (e : Sh) : Ss := sb e fun _ ρ h => some (.nx ρ, h)
def sBrk : Ss := fun ρ h => some (.bk ρ, h)
def sCnt : Ss := fun ρ h => some (.ct ρ, h)
def sNone : Ss := fun _ _ => none
/-- a target: what is stored, the slots, the heap -/
abbrev Tg := W → Rho → Hw → Option (Rho × Hw)
abbrev Tgs := List W → Rho → Hw → Option (Rho × Hw)
def sAsg (e : Sh) (g : Tg) : Ss := sb e fun w ρ h => match g w ρ h with
  | some (ρ', h') => some (.nx ρ', h')
  | none => none
def gNm (i : Nat) : Tg := fun w ρ h => some (ρ.set i (some w), h)
def gTp (g : Tgs) (n : Nat) : Tg := fun w ρ h => match w with
  | .tup l => if l.length = n then g l ρ h else none
  | _ => none
def gsNil : Tgs := fun ws ρ h => match ws with
  | [] => some (ρ, h)
  | _ => none
def gsCons (g : Tg) (r : Tgs) : Tgs := fun ws ρ h => match ws with
  | w :: ws => match g w ρ h with
    | some (ρ', h') => r ws ρ' h'
    | none => none
  | [] => none
section
variable {X : Cx} {G : Gx} {φ : List Addr} {H : Hp} {ρ : Rho} {σ : L2.St} {h : Hw} {D : Ends} {r : SOut × Hw}
theorem QS.exc_x {φ1 : List Addr} {H1 : Hp} {e : Exn} {h' : Hw} (q : QS X.K X.w G φ H (.exc e ρ, h') D) (er : ERep X.K φ H ρ σ) (nt : NoTup X.K φ H) {α : Type} : QX (α := α) X.K X.w G φ H σ (.exc e, h') := by
  rintro e' he φ' H' cls d b x
  cases he
  exact q φ' σ H' cls d b (er.ext b.x nt) x
theorem sbE {m : Sh} {k : W → Ss} {Q : VK} (n : Now X.K X.w G.T φ H h) (er : ERep X.K φ H ρ σ) (e : sb m k ρ h = some r) (q : QS X.K X.w G φ H r D)
    (hk : ∀ w φ1 H1 h1 v, Beh X.K X.w G.T φ H φ1 H1 h1 → ERep X.K φ1 H1 ρ σ → Rep X.K φ1 H1 w v → k w ρ h1 = some r → Q v H1) : tE X.K X.w G m σ H Q := by
  unfold sb at e
  cases z : m ρ h with
  | none => rw [z] at e; cases e
  | some ra =>
    obtain ⟨o, h1⟩ := ra
    rw [z] at e
    refine ⟨φ, ρ, h, (o, h1), n, er, z, ?_, ?_⟩
    · rintro x rfl
      cases e
      exact q.exc_x (φ1 := φ) (H1 := H) er n.hr.nt (α := W) x rfl
    · rintro w rfl φ1 H1 v b rv
      exact hk w φ1 H1 h1 v b (er.ext b.x n.hr.nt) rv e
theorem sbT {m : ShT} {k : Bool → Ss} {Q : Bool → Hp → Prop} (n : Now X.K X.w G.T φ H h) (er : ERep X.K φ H ρ σ) (e : sb m k ρ h = some r) (q : QS X.K X.w G φ H r D)
    (hk : ∀ b φ1 H1 h1, Beh X.K X.w G.T φ H φ1 H1 h1 → ERep X.K φ1 H1 ρ σ → k b ρ h1 = some r → Q b H1) : tTT X.K X.w G m σ H Q := by
  unfold sb at e
  cases z : m ρ h with
  | none => rw [z] at e; cases e
  | some ra =>
    obtain ⟨o, h1⟩ := ra
    rw [z] at e
    refine ⟨φ, ρ, h, (o, h1), n, er, z, ?_, ?_⟩
    · rintro x rfl
      cases e
      exact q.exc_x (φ1 := φ) (H1 := H) er n.hr.nt (α := Bool) x rfl
    · rintro w rfl φ1 H1 b
      exact hk w φ1 H1 h1 b (er.ext b.x n.hr.nt) e
theorem sbA {m : ShA} {k : List W → Ss} {Q : List V → Hp → Prop} (n : Now X.K X.w G.T φ H h) (er : ERep X.K φ H ρ σ) (e : sb m k ρ h = some r) (q : QS X.K X.w G φ H r D)
    (hk : ∀ ws φ1 H1 h1 vs, Beh X.K X.w G.T φ H φ1 H1 h1 → ERep X.K φ1 H1 ρ σ → Reps X.K φ1 H1 ws vs → k ws ρ h1 = some r → Q vs H1) : tAA X.K X.w G m σ H Q := by
  unfold sb at e
  cases z : m ρ h with
  | none => rw [z] at e; cases e
  | some ra =>
    obtain ⟨o, h1⟩ := ra
    rw [z] at e
    refine ⟨φ, ρ, h, (o, h1), n, er, z, ?_, ?_⟩
    · rintro x rfl
      cases e
      exact q.exc_x (φ1 := φ) (H1 := H) er n.hr.nt (α := List W) x rfl
    · rintro w rfl φ1 H1 v b rv
      exact hk w φ1 H1 h1 v b (er.ext b.x n.hr.nt) rv e
/-- go on with a statement -/
theorem tS_go {h1 : Hw} {φ1 : List Addr} {H1 : Hp} {m : Ss} (b1 : Beh X.K X.w G.T φ H φ1 H1 h1) (er1 : ERep X.K φ1 H1 ρ σ) (e : m ρ h1 = some r) (q : QS X.K X.w G φ H r D) : tSS X.K X.w G m D σ H1 :=
  ⟨φ1, ρ, h1, r, b1.n, er1, e, q.trans b1⟩
end

section
variable {X : Cx} {G : Gx} {a b c e : Expr} {st : Stmt} {sts : List Stmt} {ma mb mc : Sh} {pos : Pos} {m m1 m2 : Ss}
theorem ms_of {t : TS} {m : Ss} (h : PS X st t) (i : ∀ φ ρ h r D σ H, Now X.K X.w G.T φ H h → ERep X.K φ H ρ σ → m ρ h = some r → QS X.K X.w G φ H r D → t D σ H) : MS X G st m :=
  ps_imp h fun D σ H ⟨φ, ρ, hh, r, n, er, z, q⟩ => i φ ρ hh r D σ H n er z q
theorem mss_of {t : TS} {m : Ss} (h : PSs X sts t) (i : ∀ φ ρ h r D σ H, Now X.K X.w G.T φ H h → ERep X.K φ H ρ σ → m ρ h = some r → QS X.K X.w G φ H r D → t D σ H) : MSs X G sts m :=
  pss_imp h fun D σ H ⟨φ, ρ, hh, r, n, er, z, q⟩ => i φ ρ hh r D σ H n er z q
theorem mss_nil : MSs X G [] sNext := mss_of pss_nil fun φ ρ h r D σ H n er z q => by
  cases z
  exact q φ σ H (.refl n) er
theorem mss_one (h1 : MS X G st m) : MSs X G [st] m := pss_one h1
theorem mss_cons (h1 : MS X G st m1) (h2 : MSs X G sts m2) : MSs X G (st :: sts) (sSeq m1 m2) := mss_of (pss_cons h1 h2) fun φ ρ h r D σ H n er z q => by
  unfold sSeq at z
  cases e1 : m1 ρ h with
  | none => rw [e1] at z; cases z
  | some r1 =>
    obtain ⟨o, h1⟩ := r1
    rw [e1] at z
    refine ⟨φ, ρ, h, (o, h1), n, er, e1, ?_⟩
    cases o with
    | nx ρ' => exact fun φ' σ' H' bb er' => ⟨φ', ρ', h1, r, bb.n, er', z, q.trans bb⟩
    | rt w => cases z; exact q
    | bk ρ' => cases z; exact q
    | ct ρ' => cases z; exact q
    | exc e ρ' => cases z; exact q
theorem ms_if {ta : ShT} {as bs : List Stmt} (hc : MT X G c ta) (ha : MSs X G as m1) (hb : MSs X G bs m2) : MS X G (.If c as bs pos) (sIf ta m1 m2) := ms_of (ps_if hc ha hb) fun φ ρ h r D σ H n er z q =>
  sbT n er z q fun k φ1 H1 h1 b1 er1 e1 => by
    cases k with
    | true => exact iteT (tS_go b1 er1 e1 q)
    | false => exact iteF (tS_go b1 er1 e1 q)
theorem ms_ret (ha : ME X G a ma) : MS X G (.Return (some a) pos) (sRet ma) := ms_of (ps_ret ha) fun φ ρ h r D σ H n er z q =>
  sbE n er z q fun w φ1 H1 h1 v b1 er1 r1 e1 => by cases e1; exact q φ1 H1 v b1 r1
theorem ms_retN : MS X G (.Return none pos) sRetN := ms_of ps_retN fun φ ρ h r D σ H n er z q => by cases z; exact q φ H .non (.refl n) .non
theorem ms_expr (ha : ME X G a ma) (hs : swapsWith a none pos.line X.env = pure false := by rfl) : MS X G (.Expr a pos) (sDrop ma) := ms_of (ps_expr ha hs) fun φ ρ h r D σ H n er z q =>
  sbE n er z q fun w φ1 H1 h1 v b1 er1 r1 e1 => by cases e1; exact q φ1 σ H1 b1 er1
theorem ms_pass : MS X G (.Pass pos) sNext := ms_of ps_pass fun φ ρ h r D σ H n er z q => by cases z; exact q φ σ H (.refl n) er
theorem ms_brk : MS X G (.Break pos) sBrk := ms_of ps_break fun φ ρ h r D σ H n er z q => by cases z; exact q φ σ H (.refl n) er
theorem ms_cnt : MS X G (.Continue pos) sCnt := ms_of ps_continue fun φ ρ h r D σ H n er z q => by cases z; exact q φ σ H (.refl n) er
theorem ms_never : MS X G st sNone := ms_of ps_never fun φ ρ h r D σ H n er z q => by cases z

/-! ### targets -/
/-- outside of the slots vs nothing changes -/
def SameOut (o : Option (List Nat)) (σ σ' : L2.St) : Prop := match o with
  | none => True
  | some vs => wipe σ' vs = wipe σ vs
theorem SameOut.trans {o : Option (List Nat)} {σ σ1 σ2 : L2.St} (a : SameOut o σ σ1) (b : SameOut o σ1 σ2) : SameOut o σ σ2 := by
  cases o with
  | none => trivial
  | some vs => exact Eq.trans b a
theorem SameOut.refl (o : Option (List Nat)) (σ : L2.St) : SameOut o σ σ := by
  cases o with
  | none => trivial
  | some vs => rfl
def inO (i : Nat) : Option (List Nat) → Bool
  | none => true
  | some vs => vs.contains i
theorem wipe_get (σ : L2.St) (j : Nat) : ∀ vs : List Nat, (wipe σ vs)[j]? = if j ∈ vs then (if j < σ.length then some none else none) else σ[j]?
  | [] => by simp [wipe]
  | v :: vs => by
    unfold wipe
    have ih := wipe_get σ j vs
    by_cases e : v = j
    · subst e
      rw [if_pos List.mem_cons_self]
      by_cases hl : v < σ.length
      · rw [List.getElem?_set_self (by rw [wipe_length]; exact hl), if_pos hl]
      · rw [List.getElem?_eq_none (by rw [List.length_set, wipe_length]; omega), if_neg hl]
    · rw [List.getElem?_set_ne e, ih]
      have : (j ∈ v :: vs) ↔ j ∈ vs := by simp [Ne.symm e]
      by_cases hj : j ∈ vs
      · rw [if_pos hj, if_pos (this.mpr hj)]
      · rw [if_neg hj, if_neg (fun q => hj (this.mp q))]
theorem wipe_set {σ : L2.St} {i : Nat} {x : Option V} {vs : List Nat} (h : i ∈ vs) : wipe (σ.set i x) vs = wipe σ vs := by
  refine List.ext_getElem? fun j => ?_
  rw [wipe_get, wipe_get, List.length_set]
  by_cases hj : j ∈ vs
  · rw [if_pos hj, if_pos hj]
  · rw [if_neg hj, if_neg hj, List.getElem?_set_ne (by rintro rfl; exact hj h)]
theorem SameOut.set {o : Option (List Nat)} {σ : L2.St} {i : Nat} {x : Option V} (h : inO i o = true) : SameOut o σ (σ.set i x) := by
  cases o with
  | none => trivial
  | some vs => exact wipe_set (List.contains_iff_mem.mp h)
def tGG (K : PySem.W.Frag) (wd : World) (G : Gx) (o : Option (List Nat)) (g : Tg) : TG := fun v σ H Q => ∃ φ ρ h w ρ' h', Now K wd G.T φ H h ∧ ERep K φ H ρ σ ∧ Rep K φ H w v ∧ g w ρ h = some (ρ', h') ∧ ∀ φ' σ' H', Beh K wd G.T φ H φ' H' h' → ERep K φ' H' ρ' σ' → SameOut o σ σ' → Q σ' H'
def tGs (K : PySem.W.Frag) (wd : World) (G : Gx) (o : Option (List Nat)) (g : Tgs) : TGs := fun vs σ H Q => ∃ φ ρ h ws ρ' h', Now K wd G.T φ H h ∧ ERep K φ H ρ σ ∧ Reps K φ H ws vs ∧ g ws ρ h = some (ρ', h') ∧ ∀ φ' σ' H', Beh K wd G.T φ H φ' H' h' → ERep K φ' H' ρ' σ' → SameOut o σ σ' → Q σ' H'
abbrev MG (X : Cx) (G : Gx) (o : Option (List Nat)) (tg : Expr) (g : Tg) : Prop := PG X tg (tGG X.K X.w G o g)
abbrev MGs (X : Cx) (G : Gx) (o : Option (List Nat)) (tgs : List Expr) (g : Tgs) : Prop := PGs X tgs (tGs X.K X.w G o g)
variable {o : Option (List Nat)}
theorem pg_imp {tg : Expr} {t t' : TG} (h : PG X tg t) (i : ∀ v σ H Q, t' v σ H Q → t v σ H Q) : PG X tg t' := ⟨fun pins s σ H v u Q I r q => h.run pins s σ H v u Q I r (i v σ H Q q)⟩
theorem pgs_imp {tg : List Expr} {t t' : TGs} (h : PGs X tg t) (i : ∀ v σ H Q, t' v σ H Q → t v σ H Q) : PGs X tg t' := ⟨fun pins s σ H v u Q I r q => h.run pins s σ H v u Q I r (i v σ H Q q)⟩
theorem mg_nm (i : Nat) {x : Str} (hN : X.N.Nodup) (ho : inO i o = true := by rfl) (hi : X.N[i]? = some x := by rfl) (hx : Loc X.env.scope x := by first | exact Or.inl rfl | exact Or.inr rfl) (hf : X.fn x = true ∨ X.env.scope.names.lookup x = some .local := by first | exact .inl rfl | exact .inr rfl) : MG X G o (.Name x pos) (gNm i) :=
  pg_imp (pg_name hN hi hx hf) fun v σ H Q ⟨φ, ρ, h, w, ρ', h', n, er, rw_, e, k⟩ => by
    cases e
    exact k φ _ H (.refl n) (er.set i rw_) (SameOut.set ho)
theorem mgs_nil : MGs X G o [] gsNil := pgs_imp pgs_nil fun vs σ H Q ⟨φ, ρ, h, ws, ρ', h', n, er, rw_, e, k⟩ => by
  cases rw_ with
  | nil => cases e; exact ⟨rfl, k φ σ H (.refl n) er (.refl o σ)⟩
  | cons _ _ => cases e
theorem mgs_cons {g : Tg} {gr : Tgs} {es : List Expr} (h1 : MG X G o e g) (h2 : MGs X G o es gr) (hs : (assignEach (e :: es) X.env).map (·.2) = assign e X.env :: (assignEach es X.env).map (·.2) := by rfl) : MGs X G o (e :: es) (gsCons g gr) :=
  pgs_imp (pgs_cons h1 h2 hs) fun vs σ H Q ⟨φ, ρ, h, ws, ρ', h', n, er, rw_, z, k⟩ => by
    cases rw_ with
    | nil => cases z
    | @cons w ws' v vs' rv rvs =>
      have z' : (match g w ρ h with
        | some (ρ1, h1) => gr ws' ρ1 h1
        | none => none) = some (ρ', h') := z
      cases q : g w ρ h with
      | none => rw [q] at z'; cases z'
      | some p =>
        obtain ⟨ρ1, h1⟩ := p
        rw [q] at z'
        exact ⟨v, vs', rfl, φ, ρ, h, w, ρ1, h1, n, er, rv, q, fun φ1 σ1 H1 b1 er1 so1 => ⟨φ1, ρ1, h1, ws', ρ', h', b1.n, er1, rvs.ext b1.x n.hr.nt, z', fun φ' σ' H' bb er' so => k φ' σ' H' (b1.trans bb) er' (so1.trans so)⟩⟩
theorem mg_tp {es : List Expr} {kx : Nat} {gr : Tgs} {n : Nat} (hc : X.calm = true) (h : MGs X G o es gr) (hn : (assignEach es X.env).length = n := by rfl) (hst : (assignEach es X.env).findIdx? (·.1) = none := by rfl) : MG X G o (.Tuple es kx pos) (gTp gr n) :=
  pg_imp (pg_tup hc h hn hst) fun v σ H Q ⟨φ, ρ, h, w, ρ', h', nw, er, rw_, z, k⟩ => by
    cases w with
    | tup l =>
      obtain ⟨aa, vs, rfl, hq, rs⟩ := rw_.tup_inv
      have z' : (if l.length = n then gr l ρ h else none) = some (ρ', h') := z
      by_cases hl : l.length = n
      · rw [if_pos hl] at z'
        exact ⟨aa, vs, rfl, hq, by rw [← rs.length]; exact hl, φ, ρ, h, l, ρ', h', nw, er, rs, z', k⟩
      · rw [if_neg hl] at z'; cases z'
    | _ => cases z
theorem ms_asg {tg : Expr} {g : Tg} (ha : ME X G a ma) (hg : MG X G none tg g) (hs : swapsWithSole [tg] a pos.line X.env = pure false := by rfl) (hw : swappedStores [tg] a X.env = pure none := by rfl)
    (h1 : (assignEach [tg] X.env).map (·.2) = [assign tg X.env] := by rfl) : MS X G (.Assign [tg] a pos) (sAsg ma g) := ms_of (ps_asg ha hg hs hw h1) fun φ ρ h r D σ H n er z q =>
  sbE n er z q fun w φ1 H1 h1 v b1 er1 r1 e1 => by
    cases y : g w ρ h1 with
    | none => rw [y] at e1; cases e1
    | some p =>
      obtain ⟨ρ', h'⟩ := p
      rw [y] at e1
      cases e1
      exact ⟨φ1, ρ, h1, w, ρ', h', b1.n, er1, r1, y, fun φ' σ' H' bb er' _ => q φ' σ' H' (b1.trans bb) er'⟩
theorem ms_set (i : Nat) {x : Str} {pos' : Pos} (hN : X.N.Nodup) (ha : ME X G a ma) (hi : X.N[i]? = some x := by rfl) (hx : Loc X.env.scope x := by first | exact Or.inl rfl | exact Or.inr rfl)
    (hs : swapsWith a (some (.Name x pos')) pos.line X.env = pure false := by rfl) (hf : X.fn x = true ∨ X.env.scope.names.lookup x = some .local := by first | exact .inl rfl | exact .inr rfl) : MS X G (.Assign [.Name x pos'] a pos) (sAsg ma (gNm i)) :=
  ms_of (ps_set hN hi hx ha hs hf) fun φ ρ h r D σ H n er z q => sbE n er z q fun w φ1 H1 h1 v b1 er1 r1 e1 => by
    cases e1
    exact q φ1 _ H1 b1 (er1.set i r1)
/-! ### arguments, displays -/
def aNil : ShA := fun _ => M.ret []
def aCons (e : Sh) (r : ShA) : ShA := fun ρ => (e ρ).bind fun w => (r ρ).bind fun ws => M.ret (w :: ws)
theorem ma_of {es : List Expr} {t : TA} {m : ShA} (h : PA X es t) (i : ∀ φ ρ h r σ H Q, Now X.K X.w G.T φ H h → ERep X.K φ H ρ σ → m ρ h = some r → QX X.K X.w G φ H σ r → QA X.K X.w G φ H r Q → t σ H Q) : MA X G es m :=
  pa_imp h fun σ H Q ⟨φ, ρ, hh, r, n, er, z, qx, qa⟩ => i φ ρ hh r σ H Q n er z qx qa
theorem ma_nil : MA X G [] aNil := ma_of pa_nil fun φ ρ h r σ H Q n er z qx qa => qa.ret z (.refl n) .nil
theorem ma_cons {es : List Expr} {mr : ShA} (ha : ME X G a ma) (hr : MA X G es mr) (hs : starEach (a :: es) X.env = (false, eval a X.env) :: starEach es X.env := by rfl) : MA X G (a :: es) (aCons ma mr) :=
  ma_of (pa_cons ha hr hs) fun φ ρ h r σ H Q n er z qx qa => tE_then n er z qx fun w φ1 H1 h1 v b1 er1 r1 e1 => tA_then b1.n er1 e1 (qx.trans b1) fun ws φ2 H2 h2 vs b2 er2 r2 e2 =>
    qa.ret e2 (b1.trans b2) (.cons (r1.ext b2.x b1.n.hr.nt) r2)
def eTup (as : ShA) : Sh := fun ρ => (as ρ).bind fun ws h => if ws.length ≤ sizeLine then some (.ok (.tup ws), h) else none
def eLst (as : ShA) : Sh := fun ρ => (as ρ).bind fun ws h => if ws.length ≤ sizeLine then some (.ok (.ref h.length), h ++ [.lst ws]) else none
theorem me_tup {es : List Expr} {mr : ShA} {kx : Nat} (h : MA X G es mr) : ME X G (.Tuple es kx pos) (eTup mr) := me_of (pe_tup h) fun φ ρ h r σ H Q n er z qx qv =>
  tA_then n er z qx fun ws φ1 H1 h1 vs b1 er1 r1 e1 => by
    by_cases hl : ws.length ≤ sizeLine
    · rw [if_pos hl] at e1
      cases e1
      refine ⟨by rw [← r1.length]; exact hl, fun p hp => ?_⟩
      obtain ⟨b2, r2⟩ := beh_tup b1.n hp r1
      exact qv _ rfl φ1 _ _ (b1.trans b2) r2
    · rw [if_neg hl] at e1; cases e1
theorem me_lst {es : List Expr} {mr : ShA} (h : MA X G es mr) : ME X G (.List es pos) (eLst mr) := me_of (pe_lst h) fun φ ρ h r σ H Q n er z qx qv =>
  tA_then n er z qx fun ws φ1 H1 h1 vs b1 er1 r1 e1 => by
    by_cases hl : ws.length ≤ sizeLine
    · rw [if_pos hl] at e1
      cases e1
      refine ⟨by rw [← r1.length]; exact hl, fun p hp => ?_⟩
      obtain ⟨b2, r2⟩ := beh_lst b1.n hp r1
      exact qv _ rfl _ _ _ (b1.trans b2) r2
    · rw [if_neg hl] at e1; cases e1
/-- x, y = a, b (two names) -/
def sPar (i j : Nat) (as : ShA) : Ss := sb as fun ws ρ h => match ws with
  | [x, y] => some (.nx ((ρ.set i (some x)).set j (some y)), h)
  | _ => none
theorem ms_par (i j : Nat) {x y : Str} {px py pt pt2 : Pos} {kt k2 : Nat} {mr : ShA} (hc : X.calm = true) (hN : X.N.Nodup) (ha : MA X G [a, b] mr) (hi : X.N[i]? = some x := by rfl) (hj : X.N[j]? = some y := by rfl) (hij : i ≠ j := by decide)
    (hx : X.env.scope.names.lookup x = some .local := by rfl) (hy : X.env.scope.names.lookup y = some .local := by rfl)
    (hw : swappedStores [.Tuple [.Name x px, .Name y py] kt pt] (.Tuple [a, b] k2 pt2) X.env = pure (some [x, y]) := by rfl)
    (hs : swapsWithSole [.Tuple [.Name x px, .Name y py] kt pt] (.Tuple [a, b] k2 pt2) pos.line X.env = pure false := by rfl) :
    MS X G (.Assign [.Tuple [.Name x px, .Name y py] kt pt] (.Tuple [a, b] k2 pt2) pos) (sPar i j mr) := ms_of (ps_par hc hN hi hj hij hx hy ha hw hs) fun φ ρ h r D σ H n er z q =>
  sbA n er z q fun ws φ1 H1 h1 vs b1 er1 r1 e1 => by
    cases r1 with
    | nil => cases e1
    | @cons w ws' v vs' rv rs =>
      cases rs with
      | nil => cases e1
      | @cons w2 ws2 v2 vs2 rv2 rs2 =>
        cases rs2 with
        | cons _ _ => cases e1
        | nil =>
          cases e1
          exact ⟨v, v2, rfl, q φ1 _ H1 b1 ((er1.set i rv).set j rv2)⟩
end
end Mp

set_option Elab.async false
set_option linter.all false
set_option autoImplicit false
set_option maxRecDepth 100000
set_option maxHeartbeats 4000000
/-! Mp6: loops, what they walk, list comprehensions. -/
namespace Mp
open PySem PySem.Spec PyProof.Rows L2
open Classical
/-! ### while -/
def sWhileN (c : ShT) (b : Ss) : Nat → Ss
  | 0 => sNone
  | n + 1 => sb c fun k => if k = true then (fun ρ h => match b ρ h with
      | some (.nx ρ', h') => sWhileN c b n ρ' h'
      | some (.ct ρ', h') => sWhileN c b n ρ' h'
      | some (.bk ρ', h') => some (.nx ρ', h')
      | o => o) else sNext
noncomputable def sWhile (c : ShT) (b : Ss) : Ss := fun ρ h => if hx : ∃ n, (sWhileN c b n ρ h).isSome = true then sWhileN c b (choose hx) ρ h else none
theorem sWhileN_mono {c : ShT} {b : Ss} : ∀ {n : Nat} {ρ : Rho} {h : Hw} {r : SOut × Hw}, sWhileN c b n ρ h = some r → ∀ m, n ≤ m → sWhileN c b m ρ h = some r
  | 0, _, _, _, e, _, _ => by cases e
  | n + 1, ρ, h, r, e, 0, hm => by omega
  | n + 1, ρ, h, r, e, m + 1, hm => by
    unfold sWhileN sb at e ⊢
    cases q : c ρ h with
    | none => rw [q] at e; cases e
    | some p =>
      obtain ⟨o, h1⟩ := p
      rw [q] at e
      cases o with
      | exc x => exact e
      | ok k =>
        cases k with
        | false => exact e
        | true =>
          simp only [if_true] at e ⊢
          cases q2 : b ρ h1 with
          | none => rw [q2] at e; cases e
          | some p2 =>
            obtain ⟨o2, h2⟩ := p2
            rw [q2] at e
            cases o2 with
            | nx ρ' => exact sWhileN_mono (n := n) e m (by omega)
            | ct ρ' => exact sWhileN_mono (n := n) e m (by omega)
            | bk ρ' => exact e
            | rt w => exact e
            | exc x y => exact e
theorem sWhile_of {c : ShT} {b : Ss} {n : Nat} {ρ : Rho} {h : Hw} {r : SOut × Hw} (e : sWhileN c b n ρ h = some r) : sWhile c b ρ h = some r := by
  have hx : ∃ n, (sWhileN c b n ρ h).isSome = true := ⟨n, by rw [e]; rfl⟩
  unfold sWhile
  rw [dif_pos hx]
  obtain ⟨r', hr'⟩ := Option.isSome_iff_exists.mp (choose_spec hx)
  have h1 := sWhileN_mono hr' (max (choose hx) n) (Nat.le_max_left _ _)
  have h2 := sWhileN_mono e (max (choose hx) n) (Nat.le_max_right _ _)
  rw [h1] at h2
  rw [hr', h2]
theorem sWhile_some {c : ShT} {b : Ss} {ρ : Rho} {h : Hw} {r : SOut × Hw} (e : sWhile c b ρ h = some r) : ∃ n, sWhileN c b n ρ h = some r := by
  unfold sWhile at e
  by_cases hx : ∃ n, (sWhileN c b n ρ h).isSome = true
  · rw [dif_pos hx] at e; exact ⟨_, e⟩
  · rw [dif_neg hx] at e; cases e

/-! ### what is walked -/
inductive Src where
  | its (l : List W) | lref (n : Nat) (l : List W)
def Src.l : Src → List W
  | .its l => l
  | .lref _ l => l
def Src.chk (s : Src) (h : Hw) : Prop := match s with
  | .its _ => True
  | .lref n l => h[n]? = some (.lst l)
noncomputable def sForL (s : Src) (g : Tg) (b : Ss) : List W → Ss
  | [] => fun ρ h => if s.chk h then some (.nx ρ, h) else none
  | w :: r => fun ρ h => if s.chk h then (match g w ρ h with
      | some (ρ1, h1) => (match b ρ1 h1 with
        | some (.nx ρ2, h2) => sForL s g b r ρ2 h2
        | some (.ct ρ2, h2) => sForL s g b r ρ2 h2
        | some (.bk ρ2, h2) => some (.nx ρ2, h2)
        | o => o)
      | none => none) else none
noncomputable def sFor (mi : Rho → M Src) (g : Tg) (b : Ss) : Ss := sb mi fun s => sForL s g b s.l
/-- the walked thing J yields the items of s, from the state φ0 H0 on -/
structure SrcOk (K : PySem.W.Frag) (w : World) (T : Tb) (φ0 : List Addr) (H0 : Hp) (J : It) (s : Src) : Prop where
  go : ∀ (i : Nat) (x : W) (φ : List Addr) (H : Hp) (h : Hw), Beh K w T φ0 H0 φ H h → s.l[i]? = some x → s.chk h → J.go i H ∧ ∀ v H', J.yld i H v H' → Beh K w T φ H φ H' h ∧ Rep K φ H' x v
  stop : ∀ (φ : List Addr) (H : Hp) (h : Hw), Beh K w T φ0 H0 φ H h → s.chk h → J.stop s.l.length H
def tII (K : PySem.W.Frag) (w : World) (G : Gx) (mi : Rho → M Src) : TI := fun σ H R => ∃ φ ρ h r, Now K w G.T φ H h ∧ ERep K φ H ρ σ ∧ mi ρ h = some r ∧ QX K w G φ H σ r ∧
  ∀ s, r.1 = .ok s → ∀ φ' H' J, Beh K w G.T φ H φ' H' r.2 → SrcOk K w G.T φ' H' J s → R J H'
abbrev MI (X : Cx) (G : Gx) (tg it : Expr) (mi : Rho → M Src) : Prop := PI X tg it (tII X.K X.w G mi)

section
variable {X : Cx} {G : Gx} {φ : List Addr} {H : Hp} {ρ : Rho} {σ : L2.St} {h : Hw} {D : Ends} {r : SOut × Hw}
theorem sbI {mi : Rho → M Src} {k : Src → Ss} {R : It → Hp → Prop} (n : Now X.K X.w G.T φ H h) (er : ERep X.K φ H ρ σ) (e : sb mi k ρ h = some r) (q : QS X.K X.w G φ H r D)
    (hk : ∀ s φ1 H1 h1 J, Beh X.K X.w G.T φ H φ1 H1 h1 → ERep X.K φ1 H1 ρ σ → SrcOk X.K X.w G.T φ1 H1 J s → k s ρ h1 = some r → R J H1) : tII X.K X.w G mi σ H R := by
  unfold sb at e
  cases z : mi ρ h with
  | none => rw [z] at e; cases e
  | some ra =>
    obtain ⟨o, h1⟩ := ra
    rw [z] at e
    refine ⟨φ, ρ, h, (o, h1), n, er, z, ?_, ?_⟩
    · rintro x rfl
      cases e
      exact q.exc_x (φ1 := φ) (H1 := H) er n.hr.nt (α := Src) x rfl
    · rintro s rfl φ1 H1 J b so
      exact hk s φ1 H1 h1 J b (er.ext b.x n.hr.nt) so e
theorem tI_then {β : Type} {mi : Rho → M Src} {k : Src → M β} {r : Out β × Hw} {R : It → Hp → Prop} (n : Now X.K X.w G.T φ H h) (er : ERep X.K φ H ρ σ) (e : (mi ρ).bind k h = some r) (qx : QX X.K X.w G φ H σ r)
    (hk : ∀ s φ1 H1 h1 J, Beh X.K X.w G.T φ H φ1 H1 h1 → ERep X.K φ1 H1 ρ σ → SrcOk X.K X.w G.T φ1 H1 J s → k s h1 = some r → R J H1) : tII X.K X.w G mi σ H R := by
  unfold M.bind at e
  cases z : mi ρ h with
  | none => rw [z] at e; cases e
  | some ra =>
    obtain ⟨o, h1⟩ := ra
    rw [z] at e
    refine ⟨φ, ρ, h, (o, h1), n, er, z, ?_, ?_⟩
    · rintro x rfl
      cases e
      exact qx x rfl
    · rintro s rfl φ1 H1 J b so
      exact hk s φ1 H1 h1 J b (er.ext b.x n.hr.nt) so e
end

section
variable {X : Cx} {G : Gx} {a b c e tg it : Expr} {ma mb mc : Sh} {pos : Pos} {m m1 m2 : Ss}
theorem mi_of {t : TI} {m : Rho → M Src} (h : PI X tg it t) (i : ∀ φ ρ h r σ H R, Now X.K X.w G.T φ H h → ERep X.K φ H ρ σ → m ρ h = some r → QX X.K X.w G φ H σ r →
    (∀ s, r.1 = .ok s → ∀ φ' H' J, Beh X.K X.w G.T φ H φ' H' r.2 → SrcOk X.K X.w G.T φ' H' J s → R J H') → t σ H R) : MI X G tg it m :=
  ⟨fun pins s σ H R I ⟨φ, ρ, hh, r, n, er, z, qx, q⟩ => h.run pins s σ H R I (i φ ρ hh r σ H R n er z qx q)⟩
theorem ms_while {tc : ShT} {body : List Stmt} (hp : PassesOwn (model X.prog X.w) X.A X.env X.xe) (hc : MT X G c tc) (hb : MSs X G body m) : MS X G (.While c body [] pos) (sWhile tc m) :=
  ms_of (ps_while hp hc hb) fun φ0 ρ0 h0 r D σ0 H0 n0 er0 z q => by
    obtain ⟨k, zk⟩ := sWhile_some z
    refine ⟨fun k σ H => ∃ φ ρ h, Beh X.K X.w G.T φ0 H0 φ H h ∧ ERep X.K φ H ρ σ ∧ sWhileN tc m k ρ h = some r, ⟨k, φ0, ρ0, h0, .refl n0, er0, zk⟩, ?_⟩
    rintro k σ H ⟨φ, ρ, h, b, er, e⟩
    cases k with
    | zero => cases e
    | succ k =>
      refine sbT b.n er (show sb tc _ ρ h = some r from e) (q.trans b) fun kk φ1 H1 h1 b1 er1 e1 => ?_
      cases kk with
      | false =>
        refine iteF ?_
        cases e1
        exact q φ1 σ H1 (b.trans b1) er1
      | true =>
        refine iteT ⟨fun σ' H' => ∃ φ ρ h, Beh X.K X.w G.T φ0 H0 φ H' h ∧ ERep X.K φ H' ρ σ' ∧ sWhileN tc m k ρ h = some r, fun σ' H' w => ⟨k, Nat.lt_succ_self k, w⟩, ?_⟩
        simp only [if_true] at e1
        have b01 := b.trans b1
        cases q2 : m ρ h1 with
        | none => rw [q2] at e1; cases e1
        | some p2 =>
          obtain ⟨o2, h2⟩ := p2
          rw [q2] at e1
          refine ⟨φ1, ρ, h1, (o2, h2), b1.n, er1, q2, ?_⟩
          cases o2 with
          | nx ρ' => exact fun φ' σ' H' bb er' => ⟨φ', ρ', h2, b01.trans bb, er', e1⟩
          | ct ρ' => exact fun φ' σ' H' bb er' => ⟨φ', ρ', h2, b01.trans bb, er', e1⟩
          | bk ρ' => cases e1; exact fun φ' σ' H' bb er' => q φ' σ' H' (b01.trans bb) er'
          | rt w => cases e1; exact fun φ' H' v bb rv => q φ' H' v (b01.trans bb) rv
          | exc x y => cases e1; exact fun φ' σ' H' cls d bb er' x => q φ' σ' H' cls d (b01.trans bb) er' x
theorem ms_for {mi : Rho → M Src} {g : Tg} {body : List Stmt} (hp : PassesOwn (model X.prog X.w) X.A X.env X.xe) (hc : X.calm = true) (hi : MI X G tg it mi) (hg : MG X G none tg g) (hb : MSs X G body m)
    (hs : ∀ x, foldedSetIterable it X.env x = pure x := by intro _; rfl) : MS X G (.For tg it body [] pos) (sFor mi g m) :=
  ms_of (ps_for hp hc hi hg hb hs) fun φ0 ρ0 h0 r D σ0 H0 n0 er0 z q => sbI n0 er0 z q fun s φ1 H1 h1 J b1 er1 so e1 => by
    refine ⟨fun i k σ H => i ≤ s.l.length ∧ k = s.l.length - i ∧ ∃ φ ρ h, Beh X.K X.w G.T φ1 H1 φ H h ∧ ERep X.K φ H ρ σ ∧ sForL s g m (s.l.drop i) ρ h = some r, ⟨_, Nat.zero_le _, rfl, φ1, ρ0, h1, .refl b1.n, er1, by rw [List.drop_zero]; exact e1⟩, ?_⟩
    rintro i k σ H ⟨hi, rfl, φ, ρ, h, b, er, e⟩
    have b0 := b1.trans b
    by_cases hl : i < s.l.length
    · rw [List.drop_eq_getElem_cons hl] at e
      unfold sForL at e
      by_cases hck : s.chk h
      · rw [if_pos hck] at e
        obtain ⟨go, yl⟩ := so.go i _ φ H h b (List.getElem?_eq_getElem hl) hck
        refine .inr ⟨go, fun σ' H' => ∃ φ ρ h, Beh X.K X.w G.T φ1 H1 φ H' h ∧ ERep X.K φ H' ρ σ' ∧ sForL s g m (s.l.drop (i + 1)) ρ h = some r, fun σ' H' w => ⟨s.l.length - (i + 1), by omega, by omega, rfl, w⟩, fun v H' y => ?_⟩
        obtain ⟨b2, rv⟩ := yl v H' y
        cases q1 : g s.l[i] ρ h with
        | none => rw [q1] at e; cases e
        | some p1 =>
          obtain ⟨ρ1, h2⟩ := p1
          rw [q1] at e
          dsimp only at e
          refine ⟨φ, ρ, h, s.l[i], ρ1, h2, b2.n, er.ext b2.x b.n.hr.nt, rv, q1, fun φ3 σ3 H3 b3 er3 _ => ?_⟩
          cases q2 : m ρ1 h2 with
          | none => rw [q2] at e; cases e
          | some p2 =>
            obtain ⟨o2, h3⟩ := p2
            rw [q2] at e
            have b03 := (b.trans b2).trans b3
            have b003 := b1.trans b03
            refine ⟨φ3, ρ1, h2, (o2, h3), b3.n, er3, q2, ?_⟩
            cases o2 with
            | nx ρ' => exact fun φ' σ' H' bb er' => ⟨φ', ρ', h3, b03.trans bb, er', e⟩
            | ct ρ' => exact fun φ' σ' H' bb er' => ⟨φ', ρ', h3, b03.trans bb, er', e⟩
            | bk ρ' => cases e; exact fun φ' σ' H' bb er' => q φ' σ' H' (b003.trans bb) er'
            | rt w => cases e; exact fun φ' H' v bb rv => q φ' H' v (b003.trans bb) rv
            | exc x y => cases e; exact fun φ' σ' H' cls d bb er' x => q φ' σ' H' cls d (b003.trans bb) er' x
      · rw [if_neg hck] at e; cases e
    · have ei : i = s.l.length := by omega
      subst ei
      rw [List.drop_length] at e
      unfold sForL at e
      by_cases hck : s.chk h
      · rw [if_pos hck] at e
        cases e
        exact .inl ⟨so.stop φ H h b hck, q φ σ H b0 er⟩
      · rw [if_neg hck] at e; cases e

/-! ### the sources -/
/-- a list, a tuple, a text, by its signs -/
def srcOf : W → Hw → Option Src
  | .tup l, _ => some (.its l)
  | .lro l, _ => some (.its l)
  | .ref n, h => match h[n]? with
    | some (.lst l) => some (.lref n l)
    | _ => none
  | _, _ => none
def srcM (f : W → Hw → Option Src) (a : Sh) : Rho → M Src := fun ρ => (a ρ).bind fun w h => match f w h with
  | some s => some (.ok s, h)
  | none => none
theorem src_lst {φ0 : List Addr} {H0 : Hp} {n : Nat} {l : List W} {aa : Addr} (hn : φ0[n]? = some aa) : SrcOk X.K X.w G.T φ0 H0 (Itl X.K aa) (.lref n l) where
  go := fun i x φ H h b e ck => by
    obtain ⟨a', vs, g1, g2, g3⟩ := now_lst (X := X) (G := G) b.n ck
    rw [prefix_get b.x.pre hn] at g1; cases g1
    obtain ⟨v, ev, rv⟩ := g3.get e
    refine ⟨⟨vs, v, SqL.of g2, ev⟩, fun v' H' y => ?_⟩
    obtain ⟨rfl, y⟩ := y
    have := y vs (SqL.of g2)
    rw [ev] at this; cases this
    exact ⟨.refl b.n, rv⟩
  stop := fun φ H h b ck => by
    obtain ⟨a', vs, g1, g2, g3⟩ := now_lst (X := X) (G := G) b.n ck
    rw [prefix_get b.x.pre hn] at g1; cases g1
    exact ⟨vs, SqL.of g2, by rw [← g3.length]; exact Nat.le_refl _⟩
theorem src_lro {φ0 : List Addr} {H0 : Hp} {l : List W} {vs : List V} {aa : Addr} (nt : NoTup X.K φ0 H0) (hr : RoL X.K H0 aa vs) (r : Reps X.K φ0 H0 l vs) : SrcOk X.K X.w G.T φ0 H0 (Itl X.K aa) (.its l) where
  go := fun i x φ H h b e ck => by
    have hr' := (b.x.rol nt hr).sq
    obtain ⟨v, ev, rv⟩ := (r.ext b.x nt).get e
    refine ⟨⟨vs, v, hr', ev⟩, fun v' H' y => ?_⟩
    obtain ⟨rfl, y⟩ := y
    have := y vs hr'
    rw [ev] at this; cases this
    exact ⟨.refl b.n, rv⟩
  stop := fun φ H h b ck => ⟨vs, (b.x.rol nt hr).sq, by rw [← r.length]; exact Nat.le_refl _⟩
theorem src_tup {φ0 : List Addr} {H0 : Hp} {l : List W} {vs : List V} {aa : Addr} (nt : NoTup X.K φ0 H0) (hr : SqT X.K H0 aa vs) (r : Reps X.K φ0 H0 l vs) : SrcOk X.K X.w G.T φ0 H0 (Itt X.K aa) (.its l) where
  go := fun i x φ H h b e ck => by
    have hr' := b.x.sqt nt hr
    obtain ⟨v, ev, rv⟩ := (r.ext b.x nt).get e
    refine ⟨⟨vs, v, hr', ev⟩, fun v' H' y => ?_⟩
    obtain ⟨rfl, y⟩ := y
    have := y vs hr'
    rw [ev] at this; cases this
    exact ⟨.refl b.n, rv⟩
  stop := fun φ H h b ck => ⟨vs, b.x.sqt nt hr, by rw [← r.length]; exact Nat.le_refl _⟩
/-- for x in a list -/
def srcL : W → Hw → Option Src
  | .lro l, _ => some (.its l)
  | .ref n, h => match h[n]? with
    | some (.lst l) => some (.lref n l)
    | _ => none
  | _, _ => none
theorem srcM_then {f : W → Hw → Option Src} {φ : List Addr} {ρ : Rho} {h : Hw} {r : Out Src × Hw} {σ : L2.St} {H : Hp} {Q : VK} (n : Now X.K X.w G.T φ H h) (er : ERep X.K φ H ρ σ) (z : srcM f ma ρ h = some r) (qx : QX X.K X.w G φ H σ r)
    (hk : ∀ w φ1 H1 h1 v s, Beh X.K X.w G.T φ H φ1 H1 h1 → Rep X.K φ1 H1 w v → f w h1 = some s → r = (.ok s, h1) → Q v H1) : tE X.K X.w G ma σ H Q :=
  tE_then n er z qx fun w φ1 H1 h1 v b1 er1 r1 e1 => by
    cases q : f w h1 with
    | none => rw [q] at e1; cases e1
    | some s => rw [q] at e1; cases e1; exact hk w φ1 H1 h1 v s b1 r1 q rfl
theorem mi_list (ha : ME X G it ma) : MI X G tg it (srcM srcL ma) := mi_of (pi_list ha) fun φ ρ h r σ H R n er z qx q => srcM_then n er z qx fun w φ1 H1 h1 v s b1 r1 es er' => by
  subst er'
  cases r1 with
  | lro hr rs => cases es; exact ⟨_, rfl, ⟨_, hr.sq⟩, q _ rfl φ1 H1 _ b1 (src_lro b1.n.hr.nt hr rs)⟩
  | @ref nn aa hh =>
    have es' : (match h1[nn]? with
      | some (.lst l) => some (Src.lref nn l)
      | _ => none) = some s := es
    cases el : h1[nn]? with
    | none => rw [el] at es'; cases es'
    | some o =>
      rw [el] at es'
      cases o with
      | lst l =>
        cases es'
        obtain ⟨a', vs, g1, g2, g3⟩ := now_lst (X := X) (G := G) b1.n el
        rw [hh] at g1; cases g1
        exact ⟨aa, rfl, ⟨vs, SqL.of g2⟩, q _ rfl φ1 H1 _ b1 (src_lst hh)⟩
      | _ => cases es'
  | _ => cases es
/-- for x in a tuple -/
def srcT : W → Hw → Option Src
  | .tup l, _ => some (.its l)
  | _, _ => none
theorem mi_tup (ha : ME X G it ma) : MI X G tg it (srcM srcT ma) := mi_of (pi_tup ha) fun φ ρ h r σ H R n er z qx q => srcM_then n er z qx fun w φ1 H1 h1 v s b1 r1 es er' => by
  subst er'
  cases r1 with
  | tup hr rs => cases es; exact ⟨_, rfl, ⟨_, hr⟩, q _ rfl φ1 H1 _ b1 (src_tup b1.n.hr.nt hr rs)⟩
  | _ => cases es
/-- for x in a text -/
def signsW (x : Str) : List W := x.cps.toList.map fun c => .str ⟨#[c]⟩
def srcS : W → Hw → Option Src
  | .str x, _ => some (.its (signsW x))
  | _, _ => none
/-- for x in range(a, b) -/
def intsW (lo : Int) (n : Nat) : List W := (List.range n).map fun (k : Nat) => .int (lo + (k : Int))
theorem src_range {φ0 : List Addr} {H0 : Hp} {lo : Int} {k : Nat} : SrcOk X.K X.w G.T φ0 H0 (Itr lo k) (.its (intsW lo k)) where
  go := fun i x φ H h b e ck => by
    have e' : ((List.range k).map fun (j : Nat) => W.int (lo + (j : Int)))[i]? = some x := e
    rw [List.getElem?_map] at e'
    have hl : i < k := by
      rcases Nat.lt_or_ge i k with z | z
      · exact z
      · rw [List.getElem?_eq_none (by simpa using z)] at e'; cases e'
    rw [List.getElem?_range hl] at e'
    cases e'
    refine ⟨hl, fun v H' y => ?_⟩
    obtain ⟨rfl, rfl⟩ := y
    exact ⟨.refl b.n, .int _⟩
  stop := fun φ H h b ck => by
    show k ≤ ((List.range k).map fun (j : Nat) => W.int (lo + (j : Int))).length
    simp
def rng1 (as : ShA) : Rho → M Src := fun ρ => (as ρ).bind fun ws h => match ws with
  | [.int j] => if -(2 ^ 62) ≤ j ∧ j < 2 ^ 62 then some (.ok (.its (intsW 0 j.toNat)), h) else none
  | _ => none
def rng2 (as : ShA) : Rho → M Src := fun ρ => (as ρ).bind fun ws h => match ws with
  | [.int i, .int j] => if -(2 ^ 62) ≤ i ∧ i < 2 ^ 62 ∧ -(2 ^ 62) ≤ j ∧ j < 2 ^ 62 then some (.ok (.its (intsW i (j - i).toNat)), h) else none
  | _ => none
theorem mi_range1 {p : Pos} {as : ShA} (ha : MA X G [a] as) (hm : X.mg "range" = none) (hg : Gl X "range" := by rfl) (hs : starEach [a] X.env = [(false, eval a X.env)] := by rfl) : MI X G tg (.Call (.Name "range" p) [a] [] pos) (rng1 as) :=
  mi_of (pi_range1 hg hm ha hs) fun φ ρ h r σ H R n er z qx q => tA_then n er z qx fun ws φ1 H1 h1 vs b1 er1 r1 e1 => by
    cases r1 with
    | nil => cases e1
    | cons rv rs =>
      cases rs with
      | nil =>
        cases rv with
        | int j =>
          dsimp only at e1
          by_cases c : -(2 ^ 62) ≤ j ∧ j < 2 ^ 62
          · rw [if_pos c] at e1
            cases e1
            exact ⟨j, rfl, c.1, c.2, q _ rfl φ1 H1 _ b1 src_range⟩
          · rw [if_neg c] at e1; cases e1
        | _ => cases e1
      | cons rv2 rs2 => cases rv <;> cases e1
theorem mi_range2 {p : Pos} {as : ShA} (ha : MA X G [a, b] as) (hm : X.mg "range" = none) (hg : Gl X "range" := by rfl) (hs : starEach [a, b] X.env = [(false, eval a X.env), (false, eval b X.env)] := by rfl) (hs2 : starEach [b] X.env = [(false, eval b X.env)] := by rfl) : MI X G tg (.Call (.Name "range" p) [a, b] [] pos) (rng2 as) :=
  mi_of (pi_range2 hg hm ha hs hs2) fun φ ρ h r σ H R n er z qx q => tA_then n er z qx fun ws φ1 H1 h1 vs b1 er1 r1 e1 => by
    cases r1 with
    | nil => cases e1
    | cons rv rs =>
      cases rs with
      | nil => cases rv <;> cases e1
      | cons rv2 rs2 =>
        cases rs2 with
        | cons rv3 rs3 => cases rv <;> cases rv2 <;> cases e1
        | nil =>
          cases rv with
          | int i =>
            cases rv2 with
            | int j =>
              dsimp only at e1
              by_cases c : -(2 ^ 62) ≤ i ∧ i < 2 ^ 62 ∧ -(2 ^ 62) ≤ j ∧ j < 2 ^ 62
              · rw [if_pos c] at e1
                cases e1
                exact ⟨i, j, rfl, c, q _ rfl φ1 H1 _ b1 src_range⟩
              · rw [if_neg c] at e1; cases e1
            | _ => cases e1
          | _ => cases rv2 <;> cases e1
theorem src_str {φ0 : List Addr} {H0 : Hp} {x : Str} : SrcOk X.K X.w G.T φ0 H0 (Its x) (.its (signsW x)) where
  go := fun i y φ H h b e ck => by
    have e' : (x.cps.toList.map fun c => W.str ⟨#[c]⟩)[i]? = some y := e
    rw [List.getElem?_map] at e'
    cases q : x.cps.toList[i]? with
    | none => rw [q] at e'; cases e'
    | some c =>
      rw [q] at e'
      cases e'
      have q' : x.cps[i]? = some c := by rw [← Array.getElem?_toList]; exact q
      refine ⟨(Array.getElem?_eq_some_iff.mp q').1, fun v H' y => ?_⟩
      obtain ⟨rfl, c', ec, rfl⟩ := y
      rw [q'] at ec
      cases ec
      exact ⟨.refl b.n, .str _⟩
  stop := fun φ H h b ck => by
    show x.cps.size ≤ (x.cps.toList.map fun c => W.str ⟨#[c]⟩).length
    rw [List.length_map, Array.length_toList]
    exact Nat.le_refl _
theorem mi_str (ha : ME X G it ma) : MI X G tg it (srcM srcS ma) := mi_of (pi_str ha) fun φ ρ h r σ H R n er z qx q => srcM_then n er z qx fun w φ1 H1 h1 v s b1 r1 es er' => by
  subst er'
  cases r1 with
  | str x => cases es; exact ⟨_, rfl, q _ rfl φ1 H1 _ b1 src_str⟩
  | _ => cases es
end
end Mp

set_option Elab.async false
set_option linter.all false
set_option autoImplicit false
set_option maxRecDepth 100000
set_option maxHeartbeats 4000000
/-! Mp7: list comprehensions. -/
namespace Mp
open PySem PySem.Spec PyProof.Rows L2
open Classical
/-! ### what a relation leans on: the numbers, tuples, frozen things -/
structure Kp (φ : List Addr) (H : Hp) (φ' : List Addr) (H' : Hp) : Prop where
  pre : φ <+: φ'
  tup : ∀ b vs, H b = some (.tup vs) → H' b = some (.tup vs)
  frz : ∀ b o z, H b = some (.frz o z) → H' b = some (.frz o z)
theorem Kp.sqt {K : PySem.W.Frag} {φ φ' : List Addr} {H H' : Hp} (k : Kp φ H φ' H') {a : Addr} {vs : List V} (h : SqT K H a vs) : SqT K H' a vs := by
  rcases h with (h | ⟨o, h⟩) | h
  · exact .inl (.inl (k.tup _ _ h))
  · exact .inl (.inr ⟨o, k.frz _ _ _ h⟩)
  · exact .inr h
theorem Kp.rol {K : PySem.W.Frag} {φ φ' : List Addr} {H H' : Hp} (k : Kp φ H φ' H') {a : Addr} {vs : List V} (h : RoL K H a vs) : RoL K H' a vs := by
  rcases h with ⟨o, h⟩ | h
  · exact .inl ⟨o, k.frz _ _ _ h⟩
  · exact .inr h
mutual
theorem Rep.kp {K : PySem.W.Frag} {φ φ' : List Addr} {H H' : Hp} (x : Kp φ H φ' H') : ∀ {w : W} {v : V}, Rep K φ H w v → Rep K φ' H' w v
  | _, _, .non => .non
  | _, _, .bl b => .bl b
  | _, _, .int i => .int i
  | _, _, .str s => .str s
  | _, _, .ty n => .ty n
  | _, _, .glo y => .glo y
  | _, _, .adr a => .adr a
  | _, _, .ref h => .ref (prefix_get x.pre h)
  | _, _, .tup h r => .tup (x.sqt h) (Reps.kp x r)
  | _, _, .lro h r => .lro (x.rol h) (Reps.kp x r)
theorem Reps.kp {K : PySem.W.Frag} {φ φ' : List Addr} {H H' : Hp} (x : Kp φ H φ' H') : ∀ {ws : List W} {vs : List V}, Reps K φ H ws vs → Reps K φ' H' ws vs
  | _, _, .nil => .nil
  | _, _, .cons r rs => .cons (Rep.kp x r) (Reps.kp x rs)
end
theorem KeyRep.kp {K : PySem.W.Frag} {φ φ' : List Addr} {H H' : Hp} (x : Kp φ H φ' H') : ∀ {fs : List (Str × W)} {gs : List (Str × V)}, KeyRep K φ H fs gs → KeyRep K φ' H' fs gs
  | [], [], _ => trivial
  | (_, _) :: r, (_, _) :: s, ⟨e, h, t⟩ => ⟨e, h.kp x, KeyRep.kp x t⟩
  | [], _ :: _, h => h.elim
  | _ :: _, [], h => h.elim
theorem EntOk.kp {K : PySem.W.Frag} {w : World} {φ φ' : List Addr} {H H' : Hp} (x : Kp φ H φ' H') {p : W × W} {e : DictEntry} (h : EntOk K w φ H p e) : EntOk K w φ' H' p e := by
  obtain ⟨nk, kv, vv, a, b, c, d, f, g, i⟩ := h.ex
  exact ⟨nk, kv, vv, a, b, c, d.kp x, f, g.kp x, i⟩
theorem ORep.kp {K : PySem.W.Frag} {w : World} {φ φ' : List Addr} {H H' : Hp} (x : Kp φ H φ' H') {o : MO} {a : Addr} (h : ORep K w φ H o a) (same : ∀ u, H a = some u → H' a = some u) (xd : ∀ d gs, H d = some (.xd gs) → d ∉ φ → H' d = some (.xd gs) ∧ d ∉ φ') : ORep K w φ' H' o a := by
  cases h with
  | lst h r => exact .lst (same _ h) (r.kp x)
  | dct h =>
    obtain ⟨es, h1, h2⟩ := h.ex
    exact .dct ⟨⟨es, same _ h1, Paired.mapP h2 fun _ _ z => z.kp x⟩, h.sys, h.nd, h.sz⟩
  | ins h r => exact .ins (same _ h) (r.kp x)
  | exn h hd hn r => exact .exn (same _ h) (xd _ _ hd hn).1 (xd _ _ hd hn).2 (r.kp x)
theorem ERep.kp {K : PySem.W.Frag} {φ φ' : List Addr} {H H' : Hp} (x : Kp φ H φ' H') {ρ : Rho} {σ : L2.St} (h : ERep K φ H ρ σ) : ERep K φ' H' ρ σ :=
  ⟨h.1, fun i w e => let ⟨v, a, b⟩ := h.2 i w e; ⟨v, a, b.kp x⟩⟩
section
variable {K : PySem.W.Frag} {w : World} {T : Tb} {φ φ0 : List Addr} {H H0 : Hp} {h : Hw}
/-- a list that no number tells changes -/
theorem kp_other {D : Addr} {vs vs' : List V} (hD : H D = some (.lst vs)) : Kp φ H φ (upd H D (.lst vs')) :=
  ⟨List.prefix_refl _, fun b ws e => by rw [upd_ne (by rintro rfl; rw [hD] at e; cases e)]; exact e, fun b o z e => by rw [upd_ne (by rintro rfl; rw [hD] at e; cases e)]; exact e⟩
theorem beh_other {D : Addr} {vs vs' : List V} (x00 : Ext T.φ0 T.H0 φ0 H0) (b : Beh K w T φ0 H0 φ H h) (h0 : H0 D = none) (hn : D ∉ φ) (hD : H D = some (.lst vs)) : Beh K w T φ0 H0 φ (upd H D (.lst vs')) h := by
  have ne0 : ∀ {c : Addr} {o : HO}, H0 c = some o → c ≠ D := fun {c o} e z => by rw [z, h0] at e; cases e
  have xx : Ext φ0 H0 φ (upd H D (.lst vs')) := ⟨b.x.pre, fun c o e n t => by rw [upd_ne (ne0 e)]; exact b.x.keep c o e n t, b.x.new, fun c ps e n => by rw [upd_ne (ne0 e)]; exact b.x.tbl c ps e n⟩
  refine ⟨xx, ⟨b.n.hr.len, b.n.hr.nd, fun i o e => ?_⟩, fun p hp => ?_, x00.trans xx⟩
  · obtain ⟨a, h1, r⟩ := b.n.hr.obj i o e
    exact ⟨a, h1, r.kp (kp_other hD) (fun u z => by rw [upd_ne (by rintro rfl; exact hn (List.mem_of_getElem? h1))]; exact z) fun d gs z nd => ⟨by rw [upd_ne (by rintro rfl; rw [hD] at z; cases z)]; exact z, nd⟩⟩
  · obtain ⟨ps, h1, h2, h3⟩ := b.n.tb p hp
    refine ⟨ps, by rw [upd_ne (by rintro q; rw [q, hD] at h1; cases h1)]; exact h1, h2, fun pos cv hc => ?_⟩
    obtain ⟨c, e1, e2⟩ := h3 pos cv hc
    refine ⟨c, e1, ?_⟩
    rw [upd_ne]
    · exact e2
    · rintro rfl
      rw [hD] at e2
      exact lst_code _ _ (Option.some.inj e2)
/-- an untracked list stays, and stays untracked -/
theorem Ext.lst {φ' : List Addr} {H' : Hp} (x : Ext φ H φ' H') {D : Addr} {vs : List V} (hn : D ∉ φ) (hD : H D = some (.lst vs)) : H' D = some (.lst vs) ∧ D ∉ φ' :=
  ⟨x.keep D _ hD hn fun ps => nofun, fun q => by have := x.new D q hn; rw [hD] at this; cases this⟩
end

/-! ### the mirror -/
def wipeR (ρ : Rho) : List Nat → Rho
  | [] => ρ
  | v :: vs => (wipeR ρ vs).set v none
theorem ERep.wipe {K : PySem.W.Frag} {φ : List Addr} {H : Hp} {ρ : Rho} {σ : L2.St} (h : ERep K φ H ρ σ) : ∀ vs : List Nat, ERep K φ H (wipeR ρ vs) (wipe σ vs)
  | [] => h
  | v :: vs => (ERep.wipe h vs).unset v
noncomputable def lcL (s : Src) (g : Tg) (t : ShT) (e : Sh) (ρ0 : Rho) : List W → M (List W)
  | [] => fun h => if s.chk h then some (.ok [], h) else none
  | w :: r => fun h => if s.chk h then (match g w ρ0 h with
      | some (ρ1, h1) => ((t ρ1).bind fun b => if b = true then (e ρ1).bind fun y => (lcL s g t e ρ0 r).bind fun ys => M.ret (y :: ys) else lcL s g t e ρ0 r) h1
      | none => none) else none
noncomputable def eLcs (mi : Rho → M Src) (g : Tg) (t : ShT) (e : Sh) (vs : List Nat) : Rho → M (List W) := fun ρ => (mi ρ).bind fun s => lcL s g t e (wipeR ρ vs) s.l
def newL (ws : List W) : M W := fun h => if ws.length ≤ sizeLine then some (.ok (.ref h.length), h ++ [.lst ws]) else none
noncomputable def eLc (mi : Rho → M Src) (g : Tg) (t : ShT) (e : Sh) (vs : List Nat) : Sh := fun ρ => (eLcs mi g t e vs ρ).bind newL
def tYesM : ShT := fun _ => M.ret true
abbrev Gx.no (G : Gx) : Gx := ⟨G.T, fun _ _ _ _ => False⟩
abbrev MTs (X : Cx) (G : Gx) (es : List Expr) (m : ShT) : Prop := PTs X es (tTT X.K X.w G m)
section
variable {X : Cx} {G : Gx} {elt tg it : Expr} {ifs : List Expr} {me : Sh} {pos : Pos}
theorem pts_imp {es : List Expr} {t t' : TT} (h : PTs X es t) (i : ∀ σ H Q, t' σ H Q → t σ H Q) : PTs X es t' := ⟨fun pins s σ H Q I q => h.run pins s σ H Q I (i σ H Q q)⟩
theorem mts_nil : MTs X G [] tYesM := pts_imp pts_nil fun σ H Q ⟨φ, ρ, h, r, n, er, z, qx, qt⟩ => qt.ret z (.refl n)
theorem mts_one {c : Expr} {t : ShT} (h : MT X G c t) : MTs X G [c] t := pts_one h
/-- no exception can be told where none is wished -/
theorem qx_no {α : Type} {K : PySem.W.Frag} {w : World} {φ : List Addr} {H : Hp} {σ : L2.St} {a : α} {h' : Hw} : QX K w G.no φ H σ (.ok a, h') := fun e he => by cases he
/-- the reading of a comprehension, from the mirror's run: D the new list -/
theorem lc_read {mi : Rho → M Src} {g : Tg} {t : ShT} {vs : List Nat} {φ : List Addr} {H : Hp} {ρ : Rho} {σ : L2.St} {h : Hw} {Q : VK} {ws : List W} {h' : Hw} (n : Now X.K X.w G.T φ H h) (er : ERep X.K φ H ρ σ) (z : eLcs mi g t me vs ρ h = some (.ok ws, h')) (hz : ws.length ≤ sizeLine)
    (hQ : ∀ φ' H' D, Beh X.K X.w G.T φ H φ' H' h' → D ∉ φ' → (∃ u, H' D = some (.lst u) ∧ Reps X.K φ' H' ws u) → (∀ φ0 H0, Ext φ0 H0 φ H → H D = none) → Q (.ref D) H') :
    tLc (tII X.K X.w G mi) (tGG X.K X.w G.no (some vs) g) (tTT X.K X.w G.no t) (tE X.K X.w G.no me) vs σ H Q := by
  refine tI_then n er z (fun e he => by cases he) fun s φ1 H1 h1 J b1 er1 so e1 D hD => ?_
  have hD0 : H D = none := by
    cases q : H D with
    | none => rfl
    | some o =>
      by_cases hn : D ∈ φ
      · have := b1.x.pre.subset hn
        obtain ⟨_, o', _, _, r⟩ := b1.n.hr.at_ this
        obtain ⟨u, hu, _⟩ := r.notup
        rw [hD] at hu; cases hu
      · by_cases ht : ∃ ps, o = .tbl ps
        · obtain ⟨ps, rfl⟩ := ht
          obtain ⟨qs, y⟩ := b1.x.tbl D ps q hn
          rw [hD] at y; cases y
        · have y := b1.x.keep D o q hn fun ps e => ht ⟨ps, e⟩
          rw [hD] at y; cases y
  have er0 : ∀ {φ' : List Addr} {H' : Hp}, Kp φ1 H1 φ' H' → ERep X.K φ' H' (wipeR ρ vs) (wipe σ vs) := fun k => (er1.kp k).wipe vs
  -- the invariant
  refine ⟨fun i k H2 => i ≤ s.l.length ∧ k = s.l.length - i ∧ ∃ φ2 h2 acc accv ys, Beh X.K X.w G.T φ1 H1 φ2 H2 h2 ∧ Kp φ1 H1 φ2 H2 ∧ D ∉ φ2 ∧ H2 D = some (.lst accv) ∧ Reps X.K φ2 H2 acc accv ∧ lcL s g t me (wipeR ρ vs) (s.l.drop i) h2 = some (.ok ys, h') ∧ acc ++ ys = ws, ⟨_, Nat.zero_le _, rfl, φ1, h1, [], [], ws, ?_, ?_, b1.n.hr.new hD, upd_same, .nil, by rw [List.drop_zero]; exact e1, rfl⟩, ?_⟩
  · exact beh_new (X := X) (G := G) b1.n hD
  · exact ⟨List.prefix_refl _, fun b x e => by rw [upd_ne (ne_of_none e hD)]; exact e, fun b o x e => by rw [upd_ne (ne_of_none e hD)]; exact e⟩
  rintro i k H2 ⟨hi, rfl, φ2, h2, acc, accv, ys, b2, k2, hn2, hD2, ra, e2, ew⟩
  by_cases hl : i < s.l.length
  · rw [List.drop_eq_getElem_cons hl] at e2
    unfold lcL at e2
    by_cases hck : s.chk h2
    · rw [if_pos hck] at e2
      obtain ⟨go, yl⟩ := so.go i _ φ2 H2 h2 b2 (List.getElem?_eq_getElem hl) hck
      refine .inr ⟨go, fun H3 => ∃ φ3 h3 acc accv ys, Beh X.K X.w G.T φ1 H1 φ3 H3 h3 ∧ Kp φ1 H1 φ3 H3 ∧ D ∉ φ3 ∧ H3 D = some (.lst accv) ∧ Reps X.K φ3 H3 acc accv ∧ lcL s g t me (wipeR ρ vs) (s.l.drop (i + 1)) h3 = some (.ok ys, h') ∧ acc ++ ys = ws,
        fun H3 w => ⟨s.l.length - (i + 1), by omega, by omega, rfl, w⟩, fun v H3 y => ?_⟩
      obtain ⟨b3, rv⟩ := yl v H3 y
      have kx : ∀ {φa φb : List Addr} {Ha Hb : Hp} {hb : Hw}, Kp φ1 H1 φa Ha → Beh X.K X.w G.T φa Ha φb Hb hb → NoTup X.K φa Ha → Kp φ1 H1 φb Hb := fun {φa φb Ha Hb hb} ka bb nt =>
        ⟨ka.pre.trans bb.x.pre, fun c x e => by
          have e' := ka.tup c x e
          exact bb.x.keep c _ e' (fun q => (nt c q _ e').1 x rfl) fun ps => nofun, fun c o x e => by
          have e' := ka.frz c o x e
          exact bb.x.keep c _ e' (fun q => (nt c q _ e').2 o x rfl) fun ps => nofun⟩
      have k3 := kx k2 b3 b2.n.hr.nt
      obtain ⟨hD3, hn3⟩ := b3.x.lst hn2 hD2
      cases q1 : g s.l[i] (wipeR ρ vs) h2 with
      | none => rw [q1] at e2; cases e2
      | some p1 =>
        obtain ⟨ρ1, h3⟩ := p1
        rw [q1] at e2
        dsimp only at e2
        refine ⟨φ2, wipeR ρ vs, h2, s.l[i], ρ1, h3, b3.n, er0 k3, rv, q1, fun φ4 σ4 H4 b4 er4 so4 => ⟨?_, ?_⟩⟩
        · have s4 : wipe σ4 vs = wipe (wipe σ vs) vs := so4
          rw [s4]
          refine List.ext_getElem? fun j => ?_
          by_cases hj : j ∈ vs
          · simp only [wipe_get, wipe_length, if_pos hj]
          · simp only [wipe_get, wipe_length, if_neg hj]
        have b24 := b3.trans b4
        have k4 := kx k3 b4 b3.n.hr.nt
        obtain ⟨hD4, hn4⟩ := b4.x.lst hn3 hD3
        refine tT_then (X := X) (G := G.no) b4.n er4 e2 qx_no fun c φ5 H5 h5 b5 er5 e5 => ?_
        have k5 := kx k4 b5 b4.n.hr.nt
        obtain ⟨hD5, hn5⟩ := b5.x.lst hn4 hD4
        have b25 := b24.trans b5
        cases c with
        | false =>
          refine iteF ⟨φ5, h5, acc, accv, ys, b2.trans b25, k5, hn5, hD5, ra.ext b25.x b2.n.hr.nt, e5, ew⟩
        | true =>
          refine iteT ?_
          refine tE_then (X := X) (G := G.no) b5.n er5 (show (me ρ1).bind _ h5 = _ from e5) qx_no fun y φ6 H6 h6 yv b6 er6 r6 e6 => ?_
          obtain ⟨hD6, hn6⟩ := b6.x.lst hn5 hD5
          have k6 := kx k5 b6 b5.n.hr.nt
          have b26 := b25.trans b6
          unfold M.bind at e6
          cases q6 : lcL s g t me (wipeR ρ vs) (s.l.drop (i + 1)) h6 with
          | none => rw [q6] at e6; cases e6
          | some p6 =>
            obtain ⟨o6, h7⟩ := p6
            rw [q6] at e6
            cases o6 with
            | exc x => cases e6
            | ok ys' =>
              cases e6
              have ra6 := ra.ext b26.x b2.n.hr.nt
              have hlen : accv.length = acc.length := ra.length.symm
              refine ⟨accv, hD6, ?_, φ6, h6, acc ++ [y], accv ++ [yv], ys', ?_, ?_, hn6, upd_same, (ra6.append (.cons r6 .nil)).kp (kp_other hD6), q6, ?_⟩
              · rw [← ew, List.length_append, List.length_cons] at hz; omega
              · exact beh_other b1.n.x0 (b2.trans b26) hD hn6 hD6
              · have kk := kp_other (φ := φ6) (vs' := accv ++ [yv]) hD6
                exact ⟨k6.pre, fun c x e => kk.tup _ _ (k6.tup _ _ e), fun c o x e => kk.frz _ _ _ (k6.frz _ _ _ e)⟩
              · rw [← ew, List.append_assoc]; rfl
    · rw [if_neg hck] at e2; cases e2
  · have ei : i = s.l.length := by omega
    subst ei
    rw [List.drop_length] at e2
    unfold lcL at e2
    by_cases hck : s.chk h2
    · rw [if_pos hck] at e2
      cases e2
      rw [List.append_nil] at ew
      subst ew
      exact .inl ⟨so.stop φ2 H2 _ b2 hck, hQ φ2 H2 D (b1.trans b2) hn2 ⟨accv, hD2, ra⟩ fun _ _ _ => hD0⟩
    · rw [if_neg hck] at e2; cases e2
/-- exceptions do not leave a comprehension: the mirror's run must not end so -/
noncomputable def okOnly {α : Type} (m : Rho → M α) : Rho → M α := fun ρ h => match m ρ h with
  | some (.ok a, h') => some (.ok a, h')
  | _ => none
noncomputable def eLcK (mi : Rho → M Src) (g : Tg) (t : ShT) (e : Sh) (vs : List Nat) : Sh := fun ρ => (okOnly (eLcs mi g t e vs) ρ).bind newL
theorem okOnly_some {α β : Type} {m : Rho → M α} {k : α → M β} {ρ : Rho} {h : Hw} {r : Out β × Hw} (e : (okOnly m ρ).bind k h = some r) : ∃ a h', m ρ h = some (.ok a, h') ∧ k a h' = some r := by
  unfold M.bind okOnly at e
  cases q : m ρ h with
  | none => rw [q] at e; cases e
  | some p =>
    obtain ⟨o, h'⟩ := p
    rw [q] at e
    cases o with
    | ok a => exact ⟨a, h', rfl, e⟩
    | exc x => cases e
theorem me_lc {mi : Rho → M Src} {g : Tg} {t : ShT} {scope : Scope} {own : List (Str × Nat)} {vs : List Nat} (hc : X.calm = true) (hN : X.N.Nodup) (hi : MI X G tg it mi) (ok : BlkOk X.N X.env.scope scope own) (hv : own.map (·.2) = vs)
    (hg : ∀ (s : Shared) (H : Hp) (C : Addr) (cl : List (Str × Addr)) (fp : List Addr), MG (X.blk s H scope (compEnvC scope cl C X.env) fp) G.no (some vs) tg g) (ht : ∀ (s : Shared) (H : Hp) (C : Addr) (cl : List (Str × Addr)) (fp : List Addr), MTs (X.blk s H scope (compEnvC scope cl C X.env) fp) G.no ifs t)
    (he : ∀ (s : Shared) (H : Hp) (C : Addr) (cl : List (Str × Addr)) (fp : List Addr), ME (X.blk s H scope (compEnvC scope cl C X.env) fp) G.no elt me) (hs : ∀ x, foldedSetIterable it X.env x = pure x := by intro _; rfl) :
    ME X G (.ListComp elt [⟨tg, it, ifs, 0⟩] scope pos) (eLcK mi g t me vs) := by
  subst hv
  exact me_of (pe_lc hc hN hi ok hg ht he hs) fun φ ρ h r σ H Q n er z qx qv => by
    obtain ⟨ws, h1, z1, z2⟩ := okOnly_some z
    unfold newL at z2
    by_cases hz : ws.length ≤ sizeLine
    · rw [if_pos hz] at z2
      cases z2
      refine lc_read n er z1 hz fun φ' H' D b hn ⟨u, hu, ru⟩ hD => ?_
      have nb := beh_num (o := .lst ws) (X := X) (G := G) n.x0 b (hD φ H (.refl _ _)) hn ⟨_, hu, fun _ => nofun, fun _ => nofun, fun _ _ => nofun, fun _ => nofun⟩ (.lst hu (ru.kp ⟨List.prefix_append _ _, fun _ _ e => e, fun _ _ _ e => e⟩))
      exact qv _ rfl _ _ _ nb (.ref (by rw [← b.n.hr.len, List.getElem?_append_right (Nat.le_refl _), Nat.sub_self]; rfl))
    · rw [if_neg hz] at z2; cases z2
/-- y = [..] -/
theorem ms_setLc {mi : Rho → M Src} {g : Tg} {t : ShT} {scope : Scope} {own : List (Str × Nat)} {vs : List Nat} {y : Str} {py spos : Pos} (i : Nat) (hc : X.calm = true) (hN : X.N.Nodup) (hi : MI X G tg it mi) (ok : BlkOk X.N X.env.scope scope own) (hv : own.map (·.2) = vs)
    (hg : ∀ (s : Shared) (H : Hp) (C : Addr) (cl : List (Str × Addr)) (fp : List Addr), MG (X.blk s H scope (compEnvC scope cl C X.env) fp) G.no (some vs) tg g) (ht : ∀ (s : Shared) (H : Hp) (C : Addr) (cl : List (Str × Addr)) (fp : List Addr), MTs (X.blk s H scope (compEnvC scope cl C X.env) fp) G.no ifs t)
    (he : ∀ (s : Shared) (H : Hp) (C : Addr) (cl : List (Str × Addr)) (fp : List Addr), ME (X.blk s H scope (compEnvC scope cl C X.env) fp) G.no elt me)
    (hy : X.N[i]? = some y := by rfl) (hyl : X.env.scope.names.lookup y = some .local := by rfl) (hsw : swapsWith (.ListComp elt [⟨tg, it, ifs, 0⟩] scope pos) (some (.Name y py)) spos.line X.env = pure true := by exact sw_true rfl rfl rfl (by decide +kernel)) (hs : ∀ x, foldedSetIterable it X.env x = pure x := by intro _; rfl) :
    MS X G (.Assign [.Name y py] (.ListComp elt [⟨tg, it, ifs, 0⟩] scope pos) spos) (sAsg (eLcK mi g t me vs) (gNm i)) := by
  subst hv
  refine ms_of (ps_setLc (g := tGG X.K X.w G.no (some (own.map (·.2))) g) (tt := tTT X.K X.w G.no t) (te := tE X.K X.w G.no me) hc hN hy hyl hsw hi ok hg ht he hs) fun φ ρ h r D σ H n er z q => ?_
  have z' : sb (eLcK mi g t me (own.map (·.2))) (fun w ρ h => some (.nx (ρ.set i (some w)), h)) ρ h = some r := z
  unfold sb at z'
  cases y : eLcK mi g t me (own.map (·.2)) ρ h with
  | none => rw [y] at z'; cases z'
  | some p =>
    obtain ⟨ws, h1, z1, z2⟩ := okOnly_some y
    unfold newL at z2
    by_cases hz : ws.length ≤ sizeLine
    · rw [if_pos hz] at z2
      cases z2
      rw [y] at z'
      cases z'
      refine lc_read n er z1 hz fun φ' H' D b hn ⟨u, hu, ru⟩ hD => ?_
      have nb := beh_num (o := .lst ws) (X := X) (G := G) n.x0 b (hD φ H (.refl _ _)) hn ⟨_, hu, fun _ => nofun, fun _ => nofun, fun _ _ => nofun, fun _ => nofun⟩ (.lst hu (ru.kp ⟨List.prefix_append _ _, fun _ _ e => e, fun _ _ _ e => e⟩))
      exact q _ _ _ nb ((er.ext nb.x n.hr.nt).set i (.ref (by rw [← b.n.hr.len, List.getElem?_append_right (Nat.le_refl _), Nat.sub_self]; rfl)))
    · rw [if_neg hz] at z2; cases z2
end
end Mp

set_option Elab.async false
set_option linter.all false
set_option autoImplicit false
set_option maxRecDepth 100000
set_option maxHeartbeats 4000000
/-! Mp8: operators and built-in calls: what they give. -/
namespace Mp
open PySem PySem.Spec PyProof.Rows L2
/-! ### reading a sequence -/
def seqW : W → Hw → Option (List W)
  | .tup l, _ => some l
  | .lro l, _ => some l
  | .ref n, h => match h[n]? with
    | some (.lst l) => some l
    | _ => none
  | _, _ => none
section
variable {X : Cx} {G : Gx} {φ : List Addr} {H : Hp} {h : Hw} {w : W} {v : V} {l : List W}
theorem seq_rep (n : Now X.K X.w G.T φ H h) (r : Rep X.K φ H w v) (e : seqW w h = some l) : ∃ a vs, v = .ref a ∧ (SqL X.K H a vs ∨ SqT X.K H a vs) ∧ Reps X.K φ H l vs := by
  cases r with
  | tup hq rs => cases e; exact ⟨_, _, rfl, .inr hq, rs⟩
  | lro hq rs => cases e; exact ⟨_, _, rfl, .inl hq.sq, rs⟩
  | @ref nn aa hh =>
    have e' : (match h[nn]? with
      | some (.lst l) => some l
      | _ => none) = some l := e
    cases q : h[nn]? with
    | none => rw [q] at e'; cases e'
    | some o =>
      rw [q] at e'
      cases o with
      | lst l =>
        cases e'
        obtain ⟨a', vs, g1, g2, g3⟩ := now_lst (X := X) (G := G) n q
        rw [hh] at g1; cases g1
        exact ⟨aa, vs, rfl, .inl (SqL.of g2), g3⟩
      | _ => cases e'
  | _ => cases e
/-- a list at a number -/
theorem lst_at {i : Nat} (n : Now X.K X.w G.T φ H h) (r : Rep X.K φ H (.ref i) v) (e : h[i]? = some (.lst l)) : ∃ a vs, v = .ref a ∧ φ[i]? = some a ∧ H a = some (.lst vs) ∧ Reps X.K φ H l vs := by
  obtain ⟨a, rfl, hh⟩ := r.ref_inv
  obtain ⟨a', vs, g1, g2, g3⟩ := now_lst (X := X) (G := G) n e
  rw [hh] at g1; cases g1
  exact ⟨a, vs, rfl, hh, g2, g3⟩
end

/-! ### numbers -/
open Classical in
noncomputable def fI (f : Int → Int → W) (c : Int → Int → Prop) : F2 := fun x y h => match x, y with
  | .int i, .int j => if c i j then some (f i j, h) else none
  | _, _ => none
section
variable {X : Cx} {G : Gx}
theorem c2_int {f : Int → Int → Int} {c : Int → Int → Prop} : C2 X G (rI c fun i j => .int (f i j)) (fI (fun i j => .int (f i j)) c) := fun φ H h x y v u w h' Q n rx ry e k => by
  cases rx with
  | int i =>
    cases ry with
    | int j =>
      unfold fI at e
      dsimp only at e
      by_cases q : c i j
      · rw [if_pos q] at e
        cases e
        exact ⟨i, j, rfl, rfl, q, k φ H _ (.refl n) (.int _)⟩
      · rw [if_neg q] at e; cases e
    | _ => cases e
  | _ => cases e
theorem c2_int0 {f : Int → Int → Int} : C2 X G (rI0 fun i j => .int (f i j)) (fI (fun i j => .int (f i j)) fun _ _ => True) := fun φ H h x y v u w h' Q n rx ry e k => by
  cases rx with
  | int i =>
    cases ry with
    | int j =>
      unfold fI at e
      dsimp only at e
      rw [if_pos trivial] at e
      cases e
      exact ⟨i, j, rfl, rfl, k φ H _ (.refl n) (.int _)⟩
    | _ => cases e
  | _ => cases e
theorem c2_intb {f : Int → Int → Bool} : C2 X G (rI0 fun i j => .bl (f i j)) (fI (fun i j => .bl (f i j)) fun _ _ => True) := fun φ H h x y v u w h' Q n rx ry e k => by
  cases rx with
  | int i =>
    cases ry with
    | int j =>
      unfold fI at e
      dsimp only at e
      rw [if_pos trivial] at e
      cases e
      exact ⟨i, j, rfl, rfl, k φ H _ (.refl n) (.bl _)⟩
    | _ => cases e
  | _ => cases e
end
noncomputable def fSub : F2 := fI (fun i j => .int (i - j)) fun _ _ => True
noncomputable def fMul : F2 := fI (fun i j => .int (i * j)) CMul
noncomputable def fPow : F2 := fI (fun i j => .int (i ^ j.toNat)) CPow
noncomputable def fMod : F2 := fI (fun i j => .int (i % j)) fun _ j => 0 < j
noncomputable def fDiv : F2 := fI (fun i j => .int (i / j)) CDiv
noncomputable def fLt : F2 := fI (fun i j => .bl (decide (i < j))) fun _ _ => True
noncomputable def fLe : F2 := fI (fun i j => .bl (decide (i ≤ j))) fun _ _ => True
noncomputable def fGt : F2 := fI (fun i j => .bl (decide (j < i))) fun _ _ => True
noncomputable def fGe : F2 := fI (fun i j => .bl (decide (j ≤ i))) fun _ _ => True
/-- + : numbers, texts, tuples, lists -/
def fAdd : F2 := fun x y h => match x, y with
  | .int i, .int j => some (.int (i + j), h)
  | .str i, .str j => if i.length + j.length ≤ sizeLine then some (.str (i ++ j), h) else none
  | .tup a, .tup b => if a ≠ [] ∧ a.length + b.length ≤ sizeLine then some (.tup (a ++ b), h) else none
  | .ref m, .ref n => match h[m]?, h[n]? with
    | some (.lst a), some (.lst b) => if a.length + b.length ≤ sizeLine then some (.ref h.length, h ++ [.lst (a ++ b)]) else none
    | _, _ => none
  | _, _ => none
section
variable {X : Cx} {G : Gx} {a b : Expr} {ma mb : Sh} {pos : Pos}
def rAddA (K : PySem.W.Frag) : R2 := fun x y H Q => (rI0 (fun i j => V.int (i + j)) x y H Q ∨ (∃ i j, x = .str i ∧ y = .str j ∧ i.length + j.length ≤ sizeLine ∧ Q (.str (i ++ j)) H)) ∨ (rCatT K x y H Q ∨ rCat x y H Q)
theorem op_addA : OpR X (binaryOp .Add) (rAddA X.K) := (op_add.or op_add_str).or (op_catT.or op_cat)
theorem c2_add : C2 X G (rAddA X.K) fAdd := fun φ H h x y v u w h' Q n rx ry e k => by
  cases rx with
  | int i =>
    cases ry with
    | int j => cases e; exact .inl (.inl ⟨i, j, rfl, rfl, k φ H _ (.refl n) (.int _)⟩)
    | _ => cases e
  | str i =>
    cases ry with
    | str j =>
      have e' : (if i.length + j.length ≤ sizeLine then some (W.str (i ++ j), h) else none) = some (w, h') := e
      by_cases q : i.length + j.length ≤ sizeLine
      · rw [if_pos q] at e'; cases e'
        exact .inl (.inr ⟨i, j, rfl, rfl, q, k φ H _ (.refl n) (.str _)⟩)
      · rw [if_neg q] at e'; cases e'
    | _ => cases e
  | @tup ws aa vs hq rs =>
    cases ry with
    | @tup ws2 bb vs2 hq2 rs2 =>
      have e' : (if ws ≠ [] ∧ ws.length + ws2.length ≤ sizeLine then some (W.tup (ws ++ ws2), h) else none) = some (w, h') := e
      by_cases q : ws ≠ [] ∧ ws.length + ws2.length ≤ sizeLine
      · rw [if_pos q] at e'; cases e'
        refine .inr (.inl ⟨aa, bb, vs, vs2, rfl, rfl, hq, hq2, fun z => ?_, by rw [← rs.length, ← rs2.length]; exact q.2, fun z => ?_, fun z p hp => ?_⟩)
        · subst z; cases rs; exact q.1 rfl
        · subst z
          cases rs2
          rw [List.append_nil] at k
          exact k φ H _ (.refl n) (.tup hq rs)
        · obtain ⟨b1, r1⟩ := beh_tup (X := X) (G := G) n hp (rs.append rs2)
          exact k φ _ _ b1 r1
      · rw [if_neg q] at e'; cases e'
    | _ => cases e
  | @ref m aa hm =>
    cases ry with
    | @ref m2 bb hm2 =>
      have e' : (match h[m]?, h[m2]? with
        | some (.lst a), some (.lst b) => if a.length + b.length ≤ sizeLine then some (W.ref h.length, h ++ [MO.lst (a ++ b)]) else none
        | _, _ => none) = some (w, h') := e
      cases q1 : h[m]? with
      | none => rw [q1] at e'; cases e'
      | some o1 =>
        cases q2 : h[m2]? with
        | none => rw [q1, q2] at e'; cases o1 <;> cases e'
        | some o2 =>
          rw [q1, q2] at e'
          cases o1 with
          | lst l1 =>
            cases o2 with
            | lst l2 =>
              dsimp only at e'
              obtain ⟨a1, vs1, g1, g2, g3⟩ := now_lst (X := X) (G := G) n q1
              obtain ⟨a2, vs2, g4, g5, g6⟩ := now_lst (X := X) (G := G) n q2
              rw [hm] at g1; cases g1
              rw [hm2] at g4; cases g4
              by_cases q : l1.length + l2.length ≤ sizeLine
              · rw [if_pos q] at e'; cases e'
                refine .inr (.inr ⟨aa, bb, vs1, vs2, rfl, rfl, g2, g5, by rw [← g3.length, ← g6.length]; exact q, fun p hp => ?_⟩)
                obtain ⟨b1, r1⟩ := beh_lst (X := X) (G := G) n hp (g3.append g6)
                exact k _ _ _ b1 r1
              · rw [if_neg q] at e'; cases e'
            | _ => cases e'
          | _ => cases o2 <;> cases e'
    | _ => cases e
  | _ => cases e
theorem me_add (ha : ME X G a ma) (hb : ME X G b mb) : ME X G (.BinOp a .Add b pos) (mOp2 fAdd ma mb) := me_op op_addA c2_add ha hb
theorem me_sub (ha : ME X G a ma) (hb : ME X G b mb) : ME X G (.BinOp a .Sub b pos) (mOp2 fSub ma mb) := me_op op_sub c2_int0 ha hb
theorem me_mul (ha : ME X G a ma) (hb : ME X G b mb) : ME X G (.BinOp a .Mult b pos) (mOp2 fMul ma mb) := me_op op_mul c2_int ha hb
theorem me_pow (ha : ME X G a ma) (hb : ME X G b mb) : ME X G (.BinOp a .Pow b pos) (mOp2 fPow ma mb) := me_op op_pow c2_int ha hb
theorem me_mod (ha : ME X G a ma) (hb : ME X G b mb) : ME X G (.BinOp a .Mod b pos) (mOp2 fMod ma mb) := me_op op_mod c2_int ha hb
theorem me_fdiv (ha : ME X G a ma) (hb : ME X G b mb) : ME X G (.BinOp a .FloorDiv b pos) (mOp2 fDiv ma mb) := me_op op_fdiv c2_int ha hb
def fNeg : F1 := fun x h => match x with
  | .int i => some (.int (-i), h)
  | _ => none
theorem me_neg (ha : ME X G a ma) : ME X G (.UnaryOp .USub a pos) (mOp1 fNeg ma) := me_un un_neg (fun φ H h x v w h' Q n rx e k => by
  cases rx with
  | int i => cases e; exact ⟨i, rfl, k φ H _ (.refl n) (.int _)⟩
  | _ => cases e) ha
/-! ### comparisons -/
theorem me_lt (ha : ME X G a ma) (hb : ME X G b mb) : ME X G (.Compare a [.Lt] [b] pos) (mOp2 fLt ma mb) := me_cmp op_lt c2_intb ha hb (nomark _)
theorem me_le (ha : ME X G a ma) (hb : ME X G b mb) : ME X G (.Compare a [.LtE] [b] pos) (mOp2 fLe ma mb) := me_cmp op_le c2_intb ha hb (nomark _)
theorem me_gt (ha : ME X G a ma) (hb : ME X G b mb) : ME X G (.Compare a [.Gt] [b] pos) (mOp2 fGt ma mb) := me_cmp op_gt c2_intb ha hb (nomark _)
theorem me_ge (ha : ME X G a ma) (hb : ME X G b mb) : ME X G (.Compare a [.GtE] [b] pos) (mOp2 fGe ma mb) := me_cmp op_ge c2_intb ha hb (nomark _)
theorem mt_lt (ha : ME X G a ma) (hb : ME X G b mb) : MT X G (.Compare a [.Lt] [b] pos) (tBl (mOp2 fLt ma mb)) := mt_cmp op_lt c2_intb ha hb (nomark _)
theorem mt_le (ha : ME X G a ma) (hb : ME X G b mb) : MT X G (.Compare a [.LtE] [b] pos) (tBl (mOp2 fLe ma mb)) := mt_cmp op_le c2_intb ha hb (nomark _)
theorem mt_gt (ha : ME X G a ma) (hb : ME X G b mb) : MT X G (.Compare a [.Gt] [b] pos) (tBl (mOp2 fGt ma mb)) := mt_cmp op_gt c2_intb ha hb (nomark _)
theorem mt_ge (ha : ME X G a ma) (hb : ME X G b mb) : MT X G (.Compare a [.GtE] [b] pos) (tBl (mOp2 fGe ma mb)) := mt_cmp op_ge c2_intb ha hb (nomark _)
/-- is None -/
def isNonW : W → Bool
  | .non => true
  | _ => false
def fIsN : F2 := fun x y h => match y with
  | .non => some (.bl (isNonW x), h)
  | _ => none
def fNotN : F2 := fun x y h => match y with
  | .non => some (.bl (!isNonW x), h)
  | _ => none
theorem isNon_rep {K : PySem.W.Frag} {φ : List Addr} {H : Hp} {x : W} {v : V} (r : Rep K φ H x v) : decide (v = .non) = isNonW x := by cases r <;> rfl
theorem c2_isN : C2 X G (fun x y H Q => y = .non ∧ Q (.bl (decide (x = .non))) H) fIsN := fun φ H h x y v u w h' Q n rx ry e k => by
  cases ry with
  | non => cases e; exact ⟨rfl, by rw [isNon_rep rx]; exact k φ H _ (.refl n) (.bl _)⟩
  | _ => cases e
theorem c2_notN : C2 X G (fun x y H Q => y = .non ∧ Q (.bl (!decide (x = .non))) H) fNotN := fun φ H h x y v u w h' Q n rx ry e k => by
  cases ry with
  | non => cases e; exact ⟨rfl, by rw [isNon_rep rx]; exact k φ H _ (.refl n) (.bl _)⟩
  | _ => cases e
theorem me_isN (ha : ME X G a ma) (hb : ME X G b mb) : ME X G (.Compare a [.Is] [b] pos) (mOp2 fIsN ma mb) := me_cmp op_isN c2_isN ha hb (nomark _)
theorem me_notN (ha : ME X G a ma) (hb : ME X G b mb) : ME X G (.Compare a [.IsNot] [b] pos) (mOp2 fNotN ma mb) := me_cmp op_notN c2_notN ha hb (nomark _)
theorem mt_isN (ha : ME X G a ma) (hb : ME X G b mb) : MT X G (.Compare a [.Is] [b] pos) (tBl (mOp2 fIsN ma mb)) := mt_cmp op_isN c2_isN ha hb (nomark _)
theorem mt_notN (ha : ME X G a ma) (hb : ME X G b mb) : MT X G (.Compare a [.IsNot] [b] pos) (tBl (mOp2 fNotN ma mb)) := mt_cmp op_notN c2_notN ha hb (nomark _)
/-- == of data -/
def mapO {α β : Type} (f : α → Option β) : List α → Option (List β)
  | [] => some []
  | a :: r => match f a, mapO f r with
    | some b, some bs => some (b :: bs)
    | _, _ => none
def toPD (h : Hw) : Nat → W → Option PyData
  | 0, _ => none
  | n + 1, w => match w with
    | .non => some .none
    | .bl b => some (.bool b)
    | .int i => some (.int i)
    | .str s => some (.str s)
    | .tup l => (mapO (toPD h n) l).map .tuple
    | .lro l => (mapO (toPD h n) l).map .list
    | .ref i => match h[i]? with
      | some (.lst l) => (mapO (toPD h n) l).map .list
      | _ => none
    | _ => none
def fEqB (neg : Bool) : F2 := fun x y h => match toPD h 70 x, toPD h 70 y with
  | some d, some e => if SeqAt.shaped d = true ∧ SeqAt.shaped e = true then some (.bl (if neg then !PyData.eqv d e else PyData.eqv d e), h) else none
  | _, _ => none
theorem mapO_dp {φ : List Addr} {H : Hp} {h : Hw} {k : Nat} (ih : ∀ (w : W) (v : V) (d : PyData), Rep X.K φ H w v → toPD h k w = some d → Dp X.K H v d) : ∀ {ws : List W} {vs : List V} {ds : List PyData}, Reps X.K φ H ws vs → mapO (toPD h k) ws = some ds → DpAll X.K H vs ds
  | _, _, ds, .nil, e => by cases e; exact .nil
  | _, _, ds, @Reps.cons _ _ _ w ws v vs r rs, e => by
    unfold mapO at e
    have e' := e
    cases q1 : toPD h k w with
    | none => rw [q1] at e'; cases e'
    | some d =>
      cases q2 : mapO (toPD h k) ws with
      | none => rw [q1, q2] at e'; cases e'
      | some ds' =>
        rw [q1, q2] at e'
        cases e'
        exact .cons (ih _ _ _ r q1) (mapO_dp ih rs q2)
theorem toPD_dp {φ : List Addr} {H : Hp} {h : Hw} (n : Now X.K X.w G.T φ H h) : ∀ (k : Nat) (w : W) (v : V) (d : PyData), Rep X.K φ H w v → toPD h k w = some d → Dp X.K H v d
  | 0, _, _, _, _, e => by cases e
  | k + 1, w, v, d, r, e => by
    have ih := toPD_dp n k
    cases r with
    | non => cases e; exact .non
    | bl b => cases e; exact .bl b
    | int i => cases e; exact .int i
    | str s => cases e; exact .str s
    | ty _ => cases e
    | glo _ => cases e
    | adr _ => cases e
    | @tup ws aa vs hq rs =>
      have e' : (mapO (toPD h k) ws).map PyData.tuple = some d := e
      cases q : mapO (toPD h k) ws with
      | none => rw [q] at e'; cases e'
      | some ds => rw [q] at e'; cases e'; exact .tup hq (mapO_dp ih rs q)
    | @lro ws aa vs hq rs =>
      have e' : (mapO (toPD h k) ws).map PyData.list = some d := e
      cases q : mapO (toPD h k) ws with
      | none => rw [q] at e'; cases e'
      | some ds => rw [q] at e'; cases e'; exact .lst hq.sq (mapO_dp ih rs q)
    | @ref i aa hh =>
      have e' : (match h[i]? with
        | some (.lst l) => (mapO (toPD h k) l).map PyData.list
        | _ => none) = some d := e
      cases q0 : h[i]? with
      | none => rw [q0] at e'; cases e'
      | some o =>
        rw [q0] at e'
        cases o with
        | lst l =>
          dsimp only at e'
          obtain ⟨a', vs, g1, g2, g3⟩ := now_lst (X := X) (G := G) n q0
          rw [hh] at g1; cases g1
          cases q : mapO (toPD h k) l with
          | none => rw [q] at e'; cases e'
          | some ds => rw [q] at e'; cases e'; exact .lst (SqL.of g2) (mapO_dp ih g3 q)
        | _ => cases e'
theorem c2_eqd {neg : Bool} : C2 X G (fun x y H Q => ∃ d e, Dp X.K H x d ∧ Dp X.K H y e ∧ SeqAt.shaped d = true ∧ SeqAt.shaped e = true ∧ Q (.bl (if neg then !PyData.eqv d e else PyData.eqv d e)) H) (fEqB neg) := fun φ H h x y v u w h' Q n rx ry e k => by
  unfold fEqB at e
  cases q1 : toPD h 70 x with
  | none => rw [q1] at e; cases e
  | some d =>
    cases q2 : toPD h 70 y with
    | none => rw [q1, q2] at e; cases e
    | some d2 =>
      rw [q1, q2] at e
      dsimp only at e
      by_cases q : SeqAt.shaped d = true ∧ SeqAt.shaped d2 = true
      · rw [if_pos q] at e
        cases e
        exact ⟨d, d2, toPD_dp n 70 _ _ _ rx q1, toPD_dp n 70 _ _ _ ry q2, q.1, q.2, k φ H _ (.refl n) (.bl _)⟩
      · rw [if_neg q] at e; cases e
def fEq : F2 := fEqB false
def fNe : F2 := fEqB true
theorem me_eq {k : Nat} (hr : RoomG k X.A) (ha : ME X G a ma) (hb : ME X G b mb) : ME X G (.Compare a [.Eq] [b] pos) (mOp2 fEq ma mb) := me_cmp (op_eqD hr.rm.units) (c2_eqd (neg := false)) ha hb (nomark _)
theorem mt_eq {k : Nat} (hr : RoomG k X.A) (ha : ME X G a ma) (hb : ME X G b mb) : MT X G (.Compare a [.Eq] [b] pos) (tBl (mOp2 fEq ma mb)) := mt_cmp (op_eqD hr.rm.units) (c2_eqd (neg := false)) ha hb (nomark _)
theorem me_ne {k : Nat} (hr : RoomG k X.A) (ha : ME X G a ma) (hb : ME X G b mb) : ME X G (.Compare a [.NotEq] [b] pos) (mOp2 fNe ma mb) := me_cmp (op_neD hr.rm.units) (c2_eqd (neg := true)) ha hb (nomark _)
theorem mt_ne {k : Nat} (hr : RoomG k X.A) (ha : ME X G a ma) (hb : ME X G b mb) : MT X G (.Compare a [.NotEq] [b] pos) (tBl (mOp2 fNe ma mb)) := mt_cmp (op_neD hr.rm.units) (c2_eqd (neg := true)) ha hb (nomark _)
/-- in: a flat thing in a sequence of flat things; a text in a text -/
def flatW : W → Bool
  | .non => true
  | .bl _ => true
  | .int _ => true
  | .str _ => true
  | _ => false
def eqW : W → W → Bool
  | .non, .non => true
  | .bl a, .bl b => a == b
  | .bl a, .int b => (if a then 1 else 0) == b
  | .int a, .bl b => a == (if b then 1 else 0)
  | .int a, .int b => a == b
  | .str a, .str b => a == b
  | _, _ => false
theorem flat_rep {K : PySem.W.Frag} {φ : List Addr} {H : Hp} {x : W} {v : V} (r : Rep K φ H x v) (f : flatW x = true) : flatV v = true := by cases r <;> first | rfl | cases f
theorem eq_rep {K : PySem.W.Frag} {φ : List Addr} {H : Hp} {x y : W} {v u : V} (r : Rep K φ H x v) (s : Rep K φ H y u) (f : flatW x = true) (g : flatW y = true) : eqV v u = eqW x y := by
  cases r <;> first | (cases f; done) | (cases s <;> first | rfl | (cases g; done))
theorem any_rep {K : PySem.W.Frag} {φ : List Addr} {H : Hp} {x : W} {v : V} (r : Rep K φ H x v) (f : flatW x = true) : ∀ {ws : List W} {vs : List V}, Reps K φ H ws vs → ws.all flatW = true → vs.all flatV = true ∧ inV v vs = ws.any fun y => eqW y x
  | _, _, .nil, _ => ⟨rfl, rfl⟩
  | _, _, .cons s ss, g => by
    rw [List.all_cons, Bool.and_eq_true] at g
    obtain ⟨i1, i2⟩ := any_rep r f ss g.2
    refine ⟨by rw [List.all_cons, flat_rep s g.1, i1]; rfl, ?_⟩
    show (eqV _ v || inV v _) = (eqW _ x || _)
    rw [eq_rep s r g.1 f, i2]
def fInB (neg : Bool) : F2 := fun x y h => match x, y with
  | .str i, .str j => some (.bl (if neg then !(!(Builtin.Str.occurrences j i 0 j.length 1).isEmpty) else !(Builtin.Str.occurrences j i 0 j.length 1).isEmpty), h)
  | x, y => match seqW y h with
    | some l => if flatW x = true ∧ l.all flatW = true then some (.bl (if neg then !l.any (fun z => eqW z x) else l.any fun z => eqW z x), h) else none
    | none => none
def fIn : F2 := fInB false
def fNotIn : F2 := fInB true
theorem c2_in {neg : Bool} : C2 X G (fun x y H Q => rIn X.K neg x y H Q ∨ ∃ i j, x = .str i ∧ y = .str j ∧ Q (.bl (if neg then !(!(Builtin.Str.occurrences j i 0 j.length 1).isEmpty) else !(Builtin.Str.occurrences j i 0 j.length 1).isEmpty)) H) (fInB neg) := fun φ H h x y v u w h' Q n rx ry e k => by
  have seqs : ∀ l, seqW y h = some l → (if flatW x = true ∧ l.all flatW = true then some (W.bl (if neg then !l.any (fun z => eqW z x) else l.any fun z => eqW z x), h) else none) = some (w, h') → rIn X.K neg v u H Q := fun l el e' => by
    obtain ⟨a, vs, rfl, hs, rs⟩ := seq_rep (X := X) (G := G) n ry el
    by_cases q : flatW x = true ∧ l.all flatW = true
    · rw [if_pos q] at e'
      cases e'
      obtain ⟨i1, i2⟩ := any_rep rx q.1 rs q.2
      exact ⟨a, vs, rfl, hs, flat_rep rx q.1, i1, by rw [i2]; exact k φ H _ (.refl n) (.bl _)⟩
    · rw [if_neg q] at e'; cases e'
  unfold fInB at e
  split at e
  · rename_i i j
    cases e
    rw [rx.str_inv, ry.str_inv]
    exact .inr ⟨i, j, rfl, rfl, k φ H _ (.refl n) (.bl _)⟩
  · cases q : seqW y h with
    | none => rw [q] at e; cases e
    | some l => rw [q] at e; exact .inl (seqs l q e)
theorem op_inA : OpR X (compareOp .In) (fun x y H Q => rIn X.K false x y H Q ∨ ∃ i j, x = .str i ∧ y = .str j ∧ Q (.bl (!(Builtin.Str.occurrences j i 0 j.length 1).isEmpty)) H) := op_in_seq.or op_in_str
theorem op_notInA : OpR X (compareOp .NotIn) (fun x y H Q => rIn X.K true x y H Q ∨ ∃ i j, x = .str i ∧ y = .str j ∧ Q (.bl (!(!(Builtin.Str.occurrences j i 0 j.length 1).isEmpty))) H) := op_notIn_seq.or op_notin_str
theorem me_in (ha : ME X G a ma) (hb : ME X G b mb) (hm : behindInMarks .In b = false := by rfl) : ME X G (.Compare a [.In] [b] pos) (mOp2 fIn ma mb) := me_cmp op_inA (c2_in (neg := false)) ha hb hm
theorem mt_in (ha : ME X G a ma) (hb : ME X G b mb) (hm : behindInMarks .In b = false := by rfl) : MT X G (.Compare a [.In] [b] pos) (tBl (mOp2 fIn ma mb)) := mt_cmp op_inA (c2_in (neg := false)) ha hb hm
theorem me_notIn (ha : ME X G a ma) (hb : ME X G b mb) (hm : behindInMarks .NotIn b = false := by rfl) : ME X G (.Compare a [.NotIn] [b] pos) (mOp2 fNotIn ma mb) := me_cmp op_notInA (c2_in (neg := true)) ha hb hm
theorem mt_notIn (ha : ME X G a ma) (hb : ME X G b mb) (hm : behindInMarks .NotIn b = false := by rfl) : MT X G (.Compare a [.NotIn] [b] pos) (tBl (mOp2 fNotIn ma mb)) := mt_cmp op_notInA (c2_in (neg := true)) ha hb hm
/-! ### subscripts -/
def fIx : F2 := fun x y h => match y with
  | .int i => match x with
    | .str z => if z.length ≤ sizeLine then (atI z.cps.toList i).map fun c => (.str ⟨#[c]⟩, h) else none
    | x => match seqW x h with
      | some l => (atI l i).map fun w => (w, h)
      | none => none
  | _ => none
theorem atI_rep {K : PySem.W.Frag} {φ : List Addr} {H : Hp} {ws : List W} {vs : List V} {i : Int} {w : W} (r : Reps K φ H ws vs) (e : atI ws i = some w) : ∃ v, atI vs i = some v ∧ Rep K φ H w v := by
  unfold atI at e ⊢
  rw [← r.length]
  cases q : ixN ws.length i with
  | none => rw [q] at e; cases e
  | some j => rw [q] at e; exact r.get e
theorem c2_ix : C2 X G (rIx X.K) fIx := fun φ H h x y v u w h' Q n rx ry e k => by
  cases ry with
  | int i =>
    have seqs : ∀ l, seqW x h = some l → ((atI l i).map fun w => (w, h)) = some (w, h') → rIx X.K v (.int i) H Q := fun l el e' => by
      obtain ⟨a, vs, rfl, hs, rs⟩ := seq_rep (X := X) (G := G) n rx el
      cases q : atI l i with
      | none => rw [q] at e'; cases e'
      | some w0 =>
        rw [q] at e'
        cases e'
        obtain ⟨v0, ev, rv⟩ := atI_rep rs q
        rcases hs with hs | hs
        · exact .inl ⟨a, vs, i, v0, rfl, rfl, hs, ev, k φ H _ (.refl n) rv⟩
        · exact .inr (.inl ⟨a, vs, i, v0, rfl, rfl, hs, ev, k φ H _ (.refl n) rv⟩)
    cases rx with
    | str z =>
      have e' : (if z.length ≤ sizeLine then (atI z.cps.toList i).map fun c => (W.str ⟨#[c]⟩, h) else none) = some (w, h') := e
      by_cases q : z.length ≤ sizeLine
      · rw [if_pos q] at e'
        cases q2 : atI z.cps.toList i with
        | none => rw [q2] at e'; cases e'
        | some c =>
          rw [q2] at e'
          cases e'
          exact .inr (.inr ⟨z, i, c, rfl, rfl, q, q2, k φ H _ (.refl n) (.str _)⟩)
      · rw [if_neg q] at e'; cases e'
    | @tup ws aa vs hq rs => exact seqs ws rfl e
    | @lro ws aa vs hq rs => exact seqs ws rfl e
    | @ref nn aa hh =>
      have e' : (match seqW (.ref nn) h with
        | some l => (atI l i).map fun w => (w, h)
        | none => none) = some (w, h') := e
      cases q : seqW (.ref nn) h with
      | none => rw [q] at e'; cases e'
      | some l => rw [q] at e'; exact seqs l q e'
    | _ => cases e
  | _ => cases e
theorem me_sub_ix (ha : ME X G a ma) (hb : ME X G b mb) (hs : PlainIx b := by exact fun _ _ => rfl) : ME X G (.Subscript a b pos) (mOp2 fIx ma mb) := me_ix ix_seq c2_ix ha hb hs
end
end Mp

set_option Elab.async false
set_option linter.all false
set_option autoImplicit false
set_option maxRecDepth 100000
set_option maxHeartbeats 4000000
/-! Mp9: built-in calls, methods of lists, slices, items stored. -/
namespace Mp
open PySem PySem.Spec PyProof.Rows L2
/-! ### calls of built-ins -/
def mCall (F : FL) (as : ShA) : Sh := fun ρ => (as ρ).bind fun ws h => up (F ws h)
section
variable {X : Cx} {G : Gx} {a b e o : Expr} {es : List Expr} {ma mb : Sh} {as : ShA} {x : Str} {p pos : Pos} {id T : String} {r : List V → Hp → VK → Prop} {F : FL}
theorem callB_then {φ : List Addr} {H : Hp} {ρ : Rho} {σ : L2.St} {h : Hw} {Q : VK} {ro : Out W × Hw} (c : CL X G r F) (n : Now X.K X.w G.T φ H h) (er : ERep X.K φ H ρ σ) (z : mCall F as ρ h = some ro) (qx : QX X.K X.w G φ H σ ro) (qv : QV X.K X.w G φ H ro Q) : tCB r (tAA X.K X.w G as) σ H Q :=
  tA_then n er z qx fun ws φ1 H1 h1 vs b1 er1 r1 e1 => by
    obtain ⟨w, h', e3, rfl⟩ := up_some e1
    exact c φ1 H1 h1 ws vs w h' Q b1.n r1 e3 fun φ' H' zz b3 rz => qv w rfl φ' H' zz (b1.trans b3) rz
theorem me_callB (hc : CallR X (.builtin id) r) (c : CL X G r F) (hm : X.mg x = none) (hv : bootBuiltins x = some (.builtin id)) (ha : MA X G (e :: es) as) (hg : Gl X x := by rfl) (hn : x ≠ "__name__" := by decide) (hdb : (x == ("__debug__" : Str)) = false := by decide)
    (he : starEach (e :: es) X.env = (false, eval e X.env) :: starEach es X.env := by rfl) (hpl : (backTo pos (starEach es X.env)).any (·.1) = false := by rfl) : ME X G (.Call (.Name x p) (e :: es) [] pos) (mCall F as) :=
  me_of (pe_callB hc hg hm hv ha hn hdb he hpl) fun φ ρ h ro σ H Q n er z qx qv => callB_then c n er z qx qv
theorem me_callTy (hc : CallR X (.type T) r) (c : CL X G r F) (hm : X.mg x = none) (hv : bootBuiltins x = some (.type T)) (ha : MA X G (e :: es) as) (hg : Gl X x := by rfl) (hn : x ≠ "__name__" := by decide) (hdb : (x == ("__debug__" : Str)) = false := by decide)
    (he : starEach (e :: es) X.env = (false, eval e X.env) :: starEach es X.env := by rfl) (hpl : (backTo pos (starEach es X.env)).any (·.1) = false := by rfl) : ME X G (.Call (.Name x p) (e :: es) [] pos) (mCall F as) :=
  me_of (pe_callTy hc hg hm hv ha hn hdb he hpl) fun φ ρ h ro σ H Q n er z qx qv => callB_then c n er z qx qv
/-- one argument -/
theorem reps1 {K : PySem.W.Frag} {φ : List Addr} {H : Hp} {w : W} {vs : List V} (r : Reps K φ H [w] vs) : ∃ v, vs = [v] ∧ Rep K φ H w v := by
  cases r with | cons r rs => cases rs; exact ⟨_, rfl, r⟩
theorem reps2 {K : PySem.W.Frag} {φ : List Addr} {H : Hp} {w w2 : W} {vs : List V} (r : Reps K φ H [w, w2] vs) : ∃ v v2, vs = [v, v2] ∧ Rep K φ H w v ∧ Rep K φ H w2 v2 := by
  cases r with | cons r rs => cases rs with | cons r2 rs => cases rs; exact ⟨_, _, rfl, r, r2⟩
/-- len -/
def fLen : FL := fun ws h => match ws with
  | [.str z] => if z.length ≤ sizeLine then some (.int z.length, h) else none
  | [w] => match seqW w h with
    | some l => some (.int l.length, h)
    | none => none
  | _ => none
theorem cl_len : CL X G (fun xs H Q => ∃ x n, xs = [x] ∧ LenV X.K x H n ∧ Q (.int n) H) fLen := fun φ H h ws vs w h' Q n rs e k => by
  have seqs : ∀ w0, ws = [w0] → (match seqW w0 h with
    | some l => some (W.int l.length, h)
    | none => none) = some (w, h') → ∃ x n, vs = [x] ∧ LenV X.K x H n ∧ Q (.int n) H := fun w0 ew e' => by
    subst ew
    obtain ⟨v, rfl, r1⟩ := reps1 rs
    cases q : seqW w0 h with
    | none => rw [q] at e'; cases e'
    | some l =>
      rw [q] at e'
      cases e'
      obtain ⟨a, vs, rfl, hs, r2⟩ := seq_rep (X := X) (G := G) n r1 q
      refine ⟨_, vs.length, rfl, ?_, by rw [← r2.length]; exact k φ H _ (.refl n) (.int _)⟩
      rcases hs with hs | hs
      · exact .inl ⟨vs, hs, rfl⟩
      · exact .inr ⟨vs, hs, rfl⟩
  unfold fLen at e
  split at e
  · rename_i z
    by_cases q : z.length ≤ sizeLine
    · rw [if_pos q] at e
      cases e
      obtain ⟨v, rfl, r1⟩ := reps1 rs
      rw [r1.str_inv]
      exact ⟨_, z.length, rfl, ⟨q, rfl⟩, k φ H _ (.refl n) (.int _)⟩
    · rw [if_neg q] at e; cases e
  · exact seqs _ rfl e
  · cases e
theorem me_len (hm : X.mg "len" = none) (ha : MA X G [e] as) (hg : Gl X "len" := by rfl) (he : starEach [e] X.env = (false, eval e X.env) :: starEach [] X.env := by rfl) (hpl : (backTo pos (starEach [] X.env)).any (·.1) = false := by rfl) : ME X G (.Call (.Name "len" p) [e] [] pos) (mCall fLen as) :=
  me_callB call_len cl_len hm (by decide +kernel) ha hg (by decide) (by decide) he hpl
/-- int of an int, of a bool -/
def fInt : FL := fun ws h => match ws with
  | [.int i] => some (.int i, h)
  | [.bl b] => some (.int (if b then 1 else 0), h)
  | _ => none
theorem cl_int : CL X G (fun xs H Q => (∃ i, xs = [.int i] ∧ Q (.int i) H) ∨ ∃ k, xs = [.bl k] ∧ Q (.int (if k then 1 else 0)) H) fInt := fun φ H h ws vs w h' Q n rs e k => by
  unfold fInt at e
  split at e
  · cases e
    obtain ⟨v, rfl, r1⟩ := reps1 rs
    rw [r1.int_inv]
    exact .inl ⟨_, rfl, k φ H _ (.refl n) (.int _)⟩
  · cases e
    obtain ⟨v, rfl, r1⟩ := reps1 rs
    rw [r1.bl_inv]
    exact .inr ⟨_, rfl, k φ H _ (.refl n) (.int _)⟩
  · cases e
theorem me_intc (hm : X.mg "int" = none) (ha : MA X G [e] as) (hg : Gl X "int" := by rfl) (he : starEach [e] X.env = (false, eval e X.env) :: starEach [] X.env := by rfl) (hpl : (backTo pos (starEach [] X.env)).any (·.1) = false := by rfl) : ME X G (.Call (.Name "int" p) [e] [] pos) (mCall fInt as) :=
  me_callTy call_int1 cl_int hm (by decide +kernel) ha hg (by decide) (by decide) he hpl
def fAbs : FL := fun ws h => match ws with
  | [.int i] => some (.int (if i < 0 then -i else i), h)
  | _ => none
theorem cl_abs : CL X G (fun xs H Q => ∃ i, xs = [.int i] ∧ Q (.int (if i < 0 then -i else i)) H) fAbs := fun φ H h ws vs w h' Q n rs e k => by
  unfold fAbs at e
  split at e
  · cases e
    obtain ⟨v, rfl, r1⟩ := reps1 rs
    rw [r1.int_inv]
    exact ⟨_, rfl, k φ H _ (.refl n) (.int _)⟩
  · cases e
theorem me_abs (hm : X.mg "abs" = none) (ha : MA X G [e] as) (hg : Gl X "abs" := by rfl) (he : starEach [e] X.env = (false, eval e X.env) :: starEach [] X.env := by rfl) (hpl : (backTo pos (starEach [] X.env)).any (·.1) = false := by rfl) : ME X G (.Call (.Name "abs" p) [e] [] pos) (mCall fAbs as) :=
  me_callB call_abs cl_abs hm (by decide +kernel) ha hg (by decide) (by decide) he hpl
/-- list of a sequence: a new list -/
def fList : FL := fun ws h => match ws with
  | [w] => match seqW w h with
    | some l => some (.ref h.length, h ++ [.lst l])
    | none => none
  | _ => none
theorem cl_list : CL X G (fun xs H Q => ∃ p ys, xs = [.ref p] ∧ (SqL X.K H p ys ∨ SqT X.K H p ys) ∧ ∀ l, H l = none → Q (.ref l) (upd H l (.lst ys))) fList := fun φ H h ws vs w h' Q n rs e k => by
  unfold fList at e
  split at e
  · rename_i w0
    obtain ⟨v, rfl, r1⟩ := reps1 rs
    cases q : seqW w0 h with
    | none => rw [q] at e; cases e
    | some l =>
      rw [q] at e
      cases e
      obtain ⟨a, vs, rfl, hs, r2⟩ := seq_rep (X := X) (G := G) n r1 q
      refine ⟨a, vs, rfl, hs, fun p hp => ?_⟩
      obtain ⟨b1, r3⟩ := beh_lst (X := X) (G := G) n hp r2
      exact k _ _ _ b1 r3
  · cases e
theorem me_list (hm : X.mg "list" = none) (ha : MA X G [e] as) (hg : Gl X "list" := by rfl) (he : starEach [e] X.env = (false, eval e X.env) :: starEach [] X.env := by rfl) (hpl : (backTo pos (starEach [] X.env)).any (·.1) = false := by rfl) : ME X G (.Call (.Name "list" p) [e] [] pos) (mCall fList as) :=
  me_callTy call_list_of cl_list hm (by decide +kernel) ha hg (by decide) (by decide) he hpl
/-- tuple of a sequence -/
def fTuple : FL := fun ws h => match ws with
  | [w] => match seqW w h with
    | some l => some (.tup l, h)
    | none => none
  | _ => none
theorem cl_tuple : CL X G (fun xs H Q => ∃ p ys, xs = [.ref p] ∧ ((SqL X.K H p ys ∧ ∀ l, H l = none → Q (.ref l) (upd H l (.tup ys))) ∨ (SqT X.K H p ys ∧ Q (.ref p) H))) fTuple := fun φ H h ws vs w h' Q n rs e k => by
  unfold fTuple at e
  split at e
  · rename_i w0
    obtain ⟨v, rfl, r1⟩ := reps1 rs
    cases q : seqW w0 h with
    | none => rw [q] at e; cases e
    | some l =>
      rw [q] at e
      cases e
      obtain ⟨a, vs, rfl, hs, r2⟩ := seq_rep (X := X) (G := G) n r1 q
      rcases hs with hs | hs
      · refine ⟨a, vs, rfl, .inl ⟨hs, fun p hp => ?_⟩⟩
        obtain ⟨b1, r3⟩ := beh_tup (X := X) (G := G) n hp r2
        exact k _ _ _ b1 r3
      · exact ⟨a, vs, rfl, .inr ⟨hs, k φ H _ (.refl n) (.tup hs r2)⟩⟩
  · cases e
theorem me_tuple (hm : X.mg "tuple" = none) (ha : MA X G [e] as) (hg : Gl X "tuple" := by rfl) (he : starEach [e] X.env = (false, eval e X.env) :: starEach [] X.env := by rfl) (hpl : (backTo pos (starEach [] X.env)).any (·.1) = false := by rfl) : ME X G (.Call (.Name "tuple" p) [e] [] pos) (mCall fTuple as) :=
  me_callTy call_tuple_of cl_tuple hm (by decide +kernel) ha hg (by decide) (by decide) he hpl
/-! ### isinstance -/
/-- a type: a built-in one, an own class -/
inductive TyW where
  | bi (n : String) | own (c : Str) | exc (c : Str)
deriving DecidableEq
def TyW.val (K : PySem.W.Frag) : TyW → Value
  | .bi n => .type n
  | .own c => .ref (He.ga K c)
  | .exc c => .ref (He.ga K c)
def typW : W → Hw → Option TyW
  | .non, _ => some (.bi "NoneType")
  | .bl _, _ => some (.bi "bool")
  | .int _, _ => some (.bi "int")
  | .str _, _ => some (.bi "str")
  | .tup _, _ => some (.bi "tuple")
  | .lro _, _ => some (.bi "list")
  | .ref n, h => match h[n]? with
    | some (.lst _) => some (.bi "list")
    | some (.dct _) => some (.bi "dict")
    | some (.ins c _) => some (.own c)
    | some (.exn c _) => some (.exc c)
    | none => none
  | _, _ => none
def fIsOwn (own : TyW → Bool) : TyW → Bool
  | .bi _ => true
  | t => own t
/-- what isinstance knows: of types; own classes -/
structure TyK (K : PySem.W.Frag) (own : TyW → Bool) (sub : TyW → TyW → Option Bool) : Prop where
  ok : ∀ t c b, sub t c = some b → PySem.W.kitOne K (t.val K) (c.val K) = some b
  ins : ∀ c, own (.own c) = true → C8.InsC K (He.ga K c)
  exc : ∀ c, own (.exc c) = true → L2.ExcC K (He.ga K c)
theorem kitW {own : TyW → Bool} {sub : TyW → TyW → Option Bool} (tk : TyK X.K own sub) {pins : List (Addr × Obj)} {σ : L2.St} {H : Hp} {s : Shared} {φ : List Addr} {h : Hw} {w : W} {v : V} {u : Value} {t : TyW} (I : Inv X pins σ H s) (n : Now X.K X.w G.T φ H h) (rv : Rep X.K φ H w v) (ru : RelV v u)
    (e : typW w h = some t) (ho : fIsOwn own t = true) : ∃ P : Heap → Prop, PySem.W.KitX X.K u (t.val X.K) P ∧ P s.heap ∧ u ≠ .builtin "__main__.__loader__#opaque" := by
  cases rv with
  | non => cases e; exact kit_of I ru (.base .non)
  | bl b => cases e; exact kit_of I ru (.base (.bl b))
  | int i => cases e; exact kit_of I ru (.base (.int i))
  | str x => cases e; exact kit_of I ru (.base (.str x))
  | ty _ => cases e
  | glo _ => cases e
  | adr _ => cases e
  | @tup ws aa vs hq rs =>
    cases e
    cases ru
    obtain ⟨its, _, ⟨o, h1, h2, _⟩, _⟩ := I.tuple hq
    exact ⟨_, PySem.W.kitx_tuple, ⟨o, h1, h2⟩, fun z => nomatch z⟩
  | @lro ws aa vs hq rs =>
    cases e
    cases ru
    obtain ⟨its, _, pl, _⟩ := I.list hq.sq
    obtain ⟨o, nn, e, c, hd, _⟩ := pl
    exact ⟨_, PySem.W.kitx_list, ⟨o, e, c⟩, fun z => nomatch z⟩
  | @ref nn aa hh =>
    cases ru
    have e' : (match h[nn]? with
      | some (.lst _) => some (.bi "list")
      | some (.dct _) => some (.bi "dict")
      | some (.ins c _) => some (.own c)
      | some (.exn c _) => some (.exc c)
      | none => none) = some t := e
    cases q : h[nn]? with
    | none => rw [q] at e'; cases e'
    | some o =>
      rw [q] at e'
      obtain ⟨a', g1, r⟩ := n.hr.obj nn _ q
      rw [hh] at g1; cases g1
      cases r with
      | lst hl _ => cases e'; exact kit_of (x := .ref aa) I (show RelV (.ref aa) (.ref aa) from rfl) (.base (.lst hl))
      | dct hd =>
        cases e'
        obtain ⟨es, q1, _⟩ := hd.ex
        obtain ⟨⟨o, ep, h1, h2, h3⟩, _⟩ := I.hok aa _ q1
        exact ⟨_, PySem.W.kitx_dict, ⟨o, h1, h2.1⟩, fun z => nomatch z⟩
      | @exn c fs a d gs hx hdd _ _ =>
        cases e'
        have k := tk.exc c ho
        obtain ⟨⟨oe, vs, g1, g2, g3⟩, _⟩ := (show ObjOk X.prog X.w H s.heap aa (.ext fun h => ∃ (oe : Obj) (vs : Array Value), h.get? aa = some oe ∧ Zc (.ref (He.ga X.K c)) (some d) oe ∧ oe.data = .fields vs) from I.hok aa _ hx)
        obtain ⟨mA, hns, _⟩ := (show ObjOk X.prog X.w H s.heap d (.xd gs) from I.hok d _ hdd)
        obtain ⟨od, ho2, _⟩ := lookIn_ns hns
        have J : PySem.W.InstAt s.heap aa oe (He.ga X.K c) (some od) := ⟨g1, g2.1, by unfold PySem.W.notCls; rw [g3] <;> rfl, by rw [g2.2]; exact ho2⟩
        have hcl : (PySem.W.clsIn X.K (He.ga X.K c)).isSome = true := by
          obtain ⟨cd, hc, _⟩ := PySem.W.any_some k.hd
          rw [hc]; rfl
        exact ⟨_, PySem.W.kitx_exc hcl k.hg k.hk k.hs k.ha k.hn k.ht k.hm, J, fun z => nomatch z⟩
      | @ins c fs a dx gs hi _ =>
        cases e'
        have k := tk.ins c ho
        exact kit_of (x := .ref aa) I (show RelV (.ref aa) (.ref aa) from rfl) (.base (.ins hi k.cl k.ha k.hn k.htk k.hm))
/-- a class as a value -/
def asTy : W → Option TyW
  | .ty n => some (.bi n)
  | .glo c => some (.own c)
  | _ => none
theorem asTy_rep {K : PySem.W.Frag} {φ : List Addr} {H : Hp} {w : W} {v : V} {t : TyW} (r : Rep K φ H w v) (e : asTy w = some t) : ClsV v (t.val K) := by
  cases r <;> first | (cases e; exact .ty _) | (cases e; exact .own _) | cases e
/-- isinstance(x, c) -/
def fIs (own : TyW → Bool) (sub : TyW → TyW → Option Bool) : FL := fun ws h => match ws with
  | [w, c] => match typW w h, asTy c with
    | some t, some tc => if fIsOwn own t = true then (sub t tc).map fun b => (.bl b, h) else none
    | _, _ => none
  | _ => none
/-- isinstance(x, (c, d)) -/
def subAny (sub : TyW → TyW → Option Bool) (t : TyW) : List W → Option Bool
  | [] => some false
  | c :: r => match asTy c with
    | none => none
    | some tc => match sub t tc with
      | some true => some true
      | some false => subAny sub t r
      | none => none
def fIsT (own : TyW → Bool) (sub : TyW → TyW → Option Bool) : FL := fun ws h => match ws with
  | [w, .tup cs] => match typW w h with
    | some t => if fIsOwn own t = true ∧ cs.all (fun c => (asTy c).isSome) = true then (subAny sub t cs).map fun b => (.bl b, h) else none
    | none => none
  | _ => none
def rIsW (X : Cx) (G : Gx) (own : TyW → Bool) (sub : TyW → TyW → Option Bool) : List V → Hp → VK → Prop := fun xs H Q => ∃ φ h w c v cv t tc b, xs = [v, cv] ∧ Now X.K X.w G.T φ H h ∧ Rep X.K φ H w v ∧ typW w h = some t ∧ Rep X.K φ H c cv ∧ asTy c = some tc ∧ fIsOwn own t = true ∧ sub t tc = some b ∧ Q (.bl b) H
theorem call_isW {own : TyW → Bool} {sub : TyW → TyW → Option Bool} (tk : TyK X.K own sub) : CallR X (.builtin "isinstance") (rIsW X G own sub) := by
  intro pins s σ H xs us Q I r h
  obtain ⟨φ, hh, w, c, v, cv, t, tc, b, rfl, n, rw_, et, rc, ec, ho, es, q⟩ := h
  obtain ⟨u1, u2, rfl, r1, r2⟩ := vals2 r
  have e2 := (asTy_rep rc ec).eq r2
  subst e2
  obtain ⟨P, Z, p, hx⟩ := kitW tk I n rw_ r1 et ho
  exact PySem.W.kia_one Z I.kIn p (tk.ok _ _ _ es) hx fun tk => ⟨.bl b, H, I.tok tk, rfl, q⟩
theorem cl_is {own : TyW → Bool} {sub : TyW → TyW → Option Bool} : CL X G (rIsW X G own sub) (fIs own sub) := fun φ H h ws vs w h' Q n rs e k => by
  unfold fIs at e
  split at e
  · rename_i w0 c
    obtain ⟨v, cv, rfl, r1, r2⟩ := reps2 rs
    cases q1 : typW w0 h with
    | none => rw [q1] at e; cases e
    | some t =>
      cases q2 : asTy c with
      | none => rw [q1, q2] at e; cases e
      | some tc =>
        rw [q1, q2] at e
        dsimp only at e
        by_cases ho : fIsOwn own t = true
        · rw [if_pos ho] at e
          cases q3 : sub t tc with
          | none => rw [q3] at e; cases e
          | some b =>
            rw [q3] at e
            cases e
            exact ⟨φ, _, w0, c, v, cv, t, tc, b, rfl, n, r1, q1, r2, q2, ho, q3, k φ H _ (.refl n) (.bl b)⟩
        · rw [if_neg ho] at e; cases e
  · cases e
theorem me_is {own : TyW → Bool} {sub : TyW → TyW → Option Bool} {es : List Expr} (tk : TyK X.K own sub) (hm : X.mg "isinstance" = none) (ha : MA X G (e :: es) as) (hg : Gl X "isinstance" := by rfl) (he : starEach (e :: es) X.env = (false, eval e X.env) :: starEach es X.env := by rfl) (hpl : (backTo pos (starEach es X.env)).any (·.1) = false := by rfl) : ME X G (.Call (.Name "isinstance" p) (e :: es) [] pos) (mCall (fIs own sub) as) :=
  me_callB (call_isW tk) cl_is hm (by decide +kernel) ha hg (by decide) (by decide) he hpl
theorem subAny_kit {K : PySem.W.Frag} {own : TyW → Bool} {sub : TyW → TyW → Option Bool} (tk : TyK K own sub) {t : TyW} : ∀ {cs : List W} {b : Bool}, subAny sub t cs = some b → PySem.W.kitAny K (t.val K) (cs.filterMap fun c => (asTy c).map (TyW.val K)) = some b
  | [], b, e => e
  | c :: r, b, e => by
    unfold subAny at e
    cases q : asTy c with
    | none => rw [q] at e; cases e
    | some tc =>
      rw [q] at e
      dsimp only at e
      rw [List.filterMap_cons, q]
      show PySem.W.kitAny K (t.val K) (tc.val K :: _) = some b
      cases q2 : sub t tc with
      | none => rw [q2] at e; cases e
      | some b2 =>
        rw [q2] at e
        cases b2 with
        | true => cases e; exact kitAny_cons (tk.ok _ _ _ q2) (fun z => by cases z) (fun _ => rfl)
        | false => exact kitAny_cons (tk.ok _ _ _ q2) (fun _ => subAny_kit tk (show subAny sub t r = some b from e)) (fun z => by cases z)
theorem asTys_rep {K : PySem.W.Frag} {φ : List Addr} {H : Hp} : ∀ {ws : List W} {vs : List V}, Reps K φ H ws vs → ws.all (fun c => (asTy c).isSome) = true → Paired ClsV vs (ws.filterMap fun c => (asTy c).map (TyW.val K))
  | _, _, .nil, _ => .nil
  | w :: ws, _, .cons r rs, e => by
    rw [List.all_cons, Bool.and_eq_true] at e
    obtain ⟨t, ht⟩ := Option.isSome_iff_exists.mp e.1
    rw [List.filterMap_cons, ht]
    exact .cons (asTy_rep r ht) (asTys_rep rs e.2)
def rIsWT (X : Cx) (G : Gx) (own : TyW → Bool) (sub : TyW → TyW → Option Bool) : List V → Hp → VK → Prop := fun xs H Q => ∃ φ h w cs v tp cvs t b, xs = [v, .ref tp] ∧ Now X.K X.w G.T φ H h ∧ Rep X.K φ H w v ∧ typW w h = some t ∧ SqT X.K H tp cvs ∧ Reps X.K φ H cs cvs ∧ cs.all (fun c => (asTy c).isSome) = true ∧ fIsOwn own t = true ∧ subAny sub t cs = some b ∧ Q (.bl b) H
theorem call_isWT {own : TyW → Bool} {sub : TyW → TyW → Option Bool} (tk : TyK X.K own sub) : CallR X (.builtin "isinstance") (rIsWT X G own sub) := by
  intro pins s σ H xs us Q I r h
  obtain ⟨φ, hh, w, cs, v, tp, cvs, t, b, rfl, n, rw_, et, hT, rc, ec, ho, es, q⟩ := h
  obtain ⟨u1, u2, rfl, r1, r2⟩ := vals2 r
  cases (show u2 = Value.ref tp from r2)
  obtain ⟨P, Z, p, hx⟩ := kitW tk I n rw_ r1 et ho
  obtain ⟨its, rv, ⟨o, h1, h2, nn, h3⟩, _⟩ := I.tuple hT
  have e3 := ClsV.all (asTys_rep rc ec) rv
  subst e3
  obtain ⟨oc, od, dt, sl⟩ := o
  simp only at h2 h3
  subst h2 h3
  exact PySem.W.kia_tup Z I.kIn p h1 (subAny_kit tk es) hx fun tk => ⟨.bl b, H, I.tok tk, rfl, q⟩
theorem cl_isT {own : TyW → Bool} {sub : TyW → TyW → Option Bool} : CL X G (rIsWT X G own sub) (fIsT own sub) := fun φ H h ws vs w h' Q n rs e k => by
  unfold fIsT at e
  split at e
  · rename_i w0 cs
    obtain ⟨v, cv, rfl, r1, r2⟩ := reps2 rs
    cases q1 : typW w0 h with
    | none => rw [q1] at e; cases e
    | some t =>
      rw [q1] at e
      dsimp only at e
      by_cases ho : fIsOwn own t = true ∧ cs.all (fun c => (asTy c).isSome) = true
      · rw [if_pos ho] at e
        cases q3 : subAny sub t cs with
        | none => rw [q3] at e; cases e
        | some b =>
          rw [q3] at e
          cases e
          obtain ⟨tp, cvs, rfl, hq, rc⟩ := r2.tup_inv
          exact ⟨φ, _, w0, cs, v, tp, cvs, t, b, rfl, n, r1, q1, hq, rc, ho.2, ho.1, q3, k φ H _ (.refl n) (.bl b)⟩
      · rw [if_neg ho] at e; cases e
  · cases e
theorem me_isT {own : TyW → Bool} {sub : TyW → TyW → Option Bool} {es : List Expr} (tk : TyK X.K own sub) (hm : X.mg "isinstance" = none) (ha : MA X G (e :: es) as) (hg : Gl X "isinstance" := by rfl) (he : starEach (e :: es) X.env = (false, eval e X.env) :: starEach es X.env := by rfl) (hpl : (backTo pos (starEach es X.env)).any (·.1) = false := by rfl) : ME X G (.Call (.Name "isinstance" p) (e :: es) [] pos) (mCall (fIsT own sub) as) :=
  me_callB (call_isWT tk) cl_isT hm (by decide +kernel) ha hg (by decide) (by decide) he hpl
/-- the built-in part -/
def subB : TyW → TyW → Option Bool
  | .bi a, .bi b => if ["NoneType", "bool", "int", "str", "tuple", "list", "dict"].contains a = true ∧ ["bool", "int", "str", "tuple", "list", "dict"].contains b = true then some (a == b || (a == "bool" && b == "int")) else none
  | _, _ => none
theorem subB_ok {K : PySem.W.Frag} : ∀ t c b, subB t c = some b → PySem.W.kitOne K (t.val K) (c.val K) = some b := fun t c b e => by
  have tab : ∀ a ∈ (["NoneType", "bool", "int", "str", "tuple", "list", "dict"] : List String), ∀ b ∈ (["bool", "int", "str", "tuple", "list", "dict"] : List String), kitB a b = some (a == b || (a == "bool" && b == "int")) := by decide +kernel
  cases t with
  | own _ => cases e
  | exc _ => cases e
  | bi a =>
    cases c with
    | own _ => cases e
    | exc _ => cases e
    | bi b' =>
      unfold subB at e
      dsimp only at e
      by_cases q : ["NoneType", "bool", "int", "str", "tuple", "list", "dict"].contains a = true ∧ ["bool", "int", "str", "tuple", "list", "dict"].contains b' = true
      · rw [if_pos q] at e
        cases e
        exact kit_ty (tab a (List.contains_iff_mem.mp q.1) b' (List.contains_iff_mem.mp q.2))
      · rw [if_neg q] at e; cases e
end
end Mp

set_option Elab.async false
set_option linter.all false
set_option autoImplicit false
set_option maxRecDepth 100000
set_option maxHeartbeats 4000000
/-! Mp10: f([..]), slices, methods of lists, items stored. -/
namespace Mp
open PySem PySem.Spec PyProof.Rows L2
open Classical
/-! ### f([.. for ..]): the list gets no number -/
abbrev FC := List W → Hw → Option (W × Hw)
def CF (X : Cx) (G : Gx) (r : List V → Hp → VK → Prop) (F : FC) : Prop := ∀ (φ : List Addr) (H : Hp) (h : Hw) (D : Addr) (u : List V) (ws : List W) (w : W) (h' : Hw) (Q : VK), Now X.K X.w G.T φ H h → D ∉ φ → H D = some (.lst u) → Reps X.K φ H ws u → F ws h = some (w, h') →
  (∀ φ' H' z, Beh X.K X.w G.T φ H φ' H' h' → Rep X.K φ' H' w z → Q z H') → r [.ref D] H Q
noncomputable def eFuse (F : FC) (lcs : Rho → M (List W)) : Sh := fun ρ => (okOnly lcs ρ).bind fun ws h => if ws.length ≤ sizeLine then up (F ws h) else none
section
variable {X : Cx} {G : Gx} {elt tg it e o : Expr} {ifs es : List Expr} {me ma mb mo : Sh} {as : ShA} {x id T : String} {p pos pc : Pos} {r : List V → Hp → VK → Prop} {F : FC}
theorem fuse_then {mi : Rho → M Src} {g : Tg} {t : ShT} {vs : List Nat} {φ : List Addr} {H : Hp} {ρ : Rho} {σ : L2.St} {h : Hw} {Q : VK} {ro : Out W × Hw} (c : CF X G r F) (n : Now X.K X.w G.T φ H h) (er : ERep X.K φ H ρ σ) (z : eFuse F (eLcs mi g t me vs) ρ h = some ro) (qv : QV X.K X.w G φ H ro Q) :
    tLc (tII X.K X.w G mi) (tGG X.K X.w G.no (some vs) g) (tTT X.K X.w G.no t) (tE X.K X.w G.no me) vs σ H fun v H1 => r [v] H1 Q := by
  obtain ⟨ws, h1, z1, z2⟩ := okOnly_some z
  by_cases hz : ws.length ≤ sizeLine
  · rw [if_pos hz] at z2
    obtain ⟨w, h', e3, rfl⟩ := up_some z2
    exact lc_read n er z1 hz fun φ' H' D b hn ⟨u, hu, ru⟩ hD => c φ' H' h1 D u ws w h' Q b.n hn hu ru e3 fun φ2 H2 zz b2 rz => qv w rfl φ2 H2 zz (b.trans b2) rz
  · rw [if_neg hz] at z2; cases z2
theorem me_fuseB {nm : Str} {mi : Rho → M Src} {g : Tg} {t : ShT} {scope : Scope} {own : List (Str × Nat)} {vs : List Nat} (hcr : CallR X (.builtin id) r) (c : CF X G r F) (hm : X.mg nm = none) (hb : bootBuiltins nm = some (.builtin id)) (hc : X.calm = true) (hN : X.N.Nodup) (hi : MI X G tg it mi) (ok : BlkOk X.N X.env.scope scope own) (hv : own.map (·.2) = vs)
    (hg : ∀ (s : Shared) (H : Hp) (C : Addr) (cl : List (Str × Addr)) (fp : List Addr), MG (X.blk s H scope (compEnvC scope cl C X.env) fp) G.no (some vs) tg g) (ht : ∀ (s : Shared) (H : Hp) (C : Addr) (cl : List (Str × Addr)) (fp : List Addr), MTs (X.blk s H scope (compEnvC scope cl C X.env) fp) G.no ifs t)
    (he : ∀ (s : Shared) (H : Hp) (C : Addr) (cl : List (Str × Addr)) (fp : List Addr), ME (X.blk s H scope (compEnvC scope cl C X.env) fp) G.no elt me) (hgl : Gl X nm := by rfl) (hs : ∀ x, foldedSetIterable it X.env x = pure x := by intro _; rfl) (hn : nm ≠ "__name__" := by decide) (hdb : (nm == ("__debug__" : Str)) = false := by decide)
    (h1 : starEach [Expr.ListComp elt [⟨tg, it, ifs, 0⟩] scope pc] X.env = (false, eval (Expr.ListComp elt [⟨tg, it, ifs, 0⟩] scope pc) X.env) :: starEach [] X.env := by rfl) (h2 : (backTo pos (starEach [] X.env)).any (·.1) = false := by rfl) :
    ME X G (.Call (.Name nm p) [.ListComp elt [⟨tg, it, ifs, 0⟩] scope pc] [] pos) (eFuse F (eLcs mi g t me vs)) := by
  subst hv
  exact me_of (pe_callB hcr hgl hm hb (pa_cons (pe_lc hc hN hi ok hg ht he hs) pa_nil h1) hn hdb h1 h2) fun φ ρ h ro σ H Q n er z qx qv => fuse_then c n er z qv
theorem me_fuseTy {nm : Str} {mi : Rho → M Src} {g : Tg} {t : ShT} {scope : Scope} {own : List (Str × Nat)} {vs : List Nat} (hcr : CallR X (.type T) r) (c : CF X G r F) (hm : X.mg nm = none) (hb : bootBuiltins nm = some (.type T)) (hc : X.calm = true) (hN : X.N.Nodup) (hi : MI X G tg it mi) (ok : BlkOk X.N X.env.scope scope own) (hv : own.map (·.2) = vs)
    (hg : ∀ (s : Shared) (H : Hp) (C : Addr) (cl : List (Str × Addr)) (fp : List Addr), MG (X.blk s H scope (compEnvC scope cl C X.env) fp) G.no (some vs) tg g) (ht : ∀ (s : Shared) (H : Hp) (C : Addr) (cl : List (Str × Addr)) (fp : List Addr), MTs (X.blk s H scope (compEnvC scope cl C X.env) fp) G.no ifs t)
    (he : ∀ (s : Shared) (H : Hp) (C : Addr) (cl : List (Str × Addr)) (fp : List Addr), ME (X.blk s H scope (compEnvC scope cl C X.env) fp) G.no elt me) (hgl : Gl X nm := by rfl) (hs : ∀ x, foldedSetIterable it X.env x = pure x := by intro _; rfl) (hn : nm ≠ "__name__" := by decide) (hdb : (nm == ("__debug__" : Str)) = false := by decide)
    (h1 : starEach [Expr.ListComp elt [⟨tg, it, ifs, 0⟩] scope pc] X.env = (false, eval (Expr.ListComp elt [⟨tg, it, ifs, 0⟩] scope pc) X.env) :: starEach [] X.env := by rfl) (h2 : (backTo pos (starEach [] X.env)).any (·.1) = false := by rfl) :
    ME X G (.Call (.Name nm p) [.ListComp elt [⟨tg, it, ifs, 0⟩] scope pc] [] pos) (eFuse F (eLcs mi g t me vs)) := by
  subst hv
  exact me_of (pe_callTy hcr hgl hm hb (pa_cons (pe_lc hc hN hi ok hg ht he hs) pa_nil h1) hn hdb h1 h2) fun φ ρ h ro σ H Q n er z qx qv => fuse_then c n er z qv
def blsW : List W → Option (List Bool)
  | [] => some []
  | .bl b :: r => (blsW r).map (b :: ·)
  | _ => none
def intsOf : List W → Option (List Int)
  | [] => some []
  | .int i :: r => (intsOf r).map (i :: ·)
  | _ => none
theorem bls_rep {K : PySem.W.Frag} {φ : List Addr} {H : Hp} : ∀ {ws : List W} {vs : List V} {bs : List Bool}, Reps K φ H ws vs → blsW ws = some bs → vs = bs.map V.bl
  | _, _, _, .nil, e => by cases e; rfl
  | w :: ws, _, bs, .cons r rs, e => by
    cases r with
    | bl b =>
      have e' : (blsW ws).map (b :: ·) = some bs := e
      cases q : blsW ws with
      | none => rw [q] at e'; cases e'
      | some l => rw [q] at e'; cases e'; rw [bls_rep rs q]; rfl
    | _ => cases e
theorem ints_rep {K : PySem.W.Frag} {φ : List Addr} {H : Hp} : ∀ {ws : List W} {vs : List V} {bs : List Int}, Reps K φ H ws vs → intsOf ws = some bs → vs = bs.map V.int
  | _, _, _, .nil, e => by cases e; rfl
  | w :: ws, _, bs, .cons r rs, e => by
    cases r with
    | int b =>
      have e' : (intsOf ws).map (b :: ·) = some bs := e
      cases q : intsOf ws with
      | none => rw [q] at e'; cases e'
      | some l => rw [q] at e'; cases e'; rw [ints_rep rs q]; rfl
    | _ => cases e
def cAll : FC := fun ws h => (blsW ws).map fun bs => (.bl (bs.all fun b => b), h)
def cAny : FC := fun ws h => (blsW ws).map fun bs => (.bl (bs.any fun b => b), h)
def cSum : FC := fun ws h => (intsOf ws).map fun bs => (.int bs.sum, h)
def cTup : FC := fun ws h => some (.tup ws, h)
theorem cf_all : CF X G (rAll X.K) cAll := fun φ H h D u ws w h' Q n hn hD rs e k => by
  unfold cAll at e
  cases q : blsW ws with
  | none => rw [q] at e; cases e
  | some bs => rw [q] at e; cases e; exact ⟨D, bs, rfl, by rw [← bls_rep rs q]; exact SqL.of hD, k φ H _ (.refl n) (.bl _)⟩
theorem cf_any : CF X G (rAny X.K) cAny := fun φ H h D u ws w h' Q n hn hD rs e k => by
  unfold cAny at e
  cases q : blsW ws with
  | none => rw [q] at e; cases e
  | some bs => rw [q] at e; cases e; exact ⟨D, bs, rfl, by rw [← bls_rep rs q]; exact SqL.of hD, k φ H _ (.refl n) (.bl _)⟩
theorem cf_sum : CF X G (rSum X.K) cSum := fun φ H h D u ws w h' Q n hn hD rs e k => by
  unfold cSum at e
  cases q : intsOf ws with
  | none => rw [q] at e; cases e
  | some bs => rw [q] at e; cases e; exact ⟨D, bs, rfl, by rw [← ints_rep rs q]; exact SqL.of hD, k φ H _ (.refl n) (.int _)⟩
theorem cf_tup : CF X G (fun xs H Q => ∃ p ys, xs = [.ref p] ∧ ((SqL X.K H p ys ∧ ∀ l, H l = none → Q (.ref l) (upd H l (.tup ys))) ∨ (SqT X.K H p ys ∧ Q (.ref p) H))) cTup := fun φ H h D u ws w h' Q n hn hD rs e k => by
  cases e
  refine ⟨D, u, rfl, .inl ⟨SqL.of hD, fun p hp => ?_⟩⟩
  obtain ⟨b1, r3⟩ := beh_tup (X := X) (G := G) n hp rs
  exact k _ _ _ b1 r3
/-! ### slices -/
abbrev ShO := Rho → M (Option Int)
def tOO (K : PySem.W.Frag) (w : World) (G : Gx) (m : ShO) : TO := fun σ H Q => ∃ φ ρ h r, Now K w G.T φ H h ∧ ERep K φ H ρ σ ∧ m ρ h = some r ∧ QX K w G φ H σ r ∧ ∀ o, r.1 = .ok o → ∀ φ' H', Beh K w G.T φ H φ' H' r.2 → Q o H'
abbrev MP (X : Cx) (G : Gx) (e : Option Expr) (m : ShO) : Prop := PO X e (tOO X.K X.w G m)
def oNone : ShO := fun _ => M.ret none
def oSome (e : Sh) : ShO := fun ρ => (e ρ).bind fun w => match w with
  | .int i => M.ret (some i)
  | _ => M.none
theorem po_imp {e : Option Expr} {t t' : TO} (h : PO X e t) (i : ∀ σ H Q, t' σ H Q → t σ H Q) : PO X e t' := ⟨fun pins s σ H Q I q => h.run pins s σ H Q I (i σ H Q q)⟩
theorem mp_none : MP X G none oNone := po_imp po_none fun σ H Q ⟨φ, ρ, h, r, n, er, z, qx, q⟩ => by
  cases z
  exact q none rfl φ H (.refl n)
theorem mp_some (ha : ME X G e ma) : MP X G (some e) (oSome ma) := po_imp (po_some ha) fun σ H Q ⟨φ, ρ, h, r, n, er, z, qx, q⟩ =>
  tE_then n er z qx fun w φ1 H1 h1 v b1 er1 r1 e1 => by
    cases w with
    | int i => cases e1; exact ⟨i, r1.int_inv, q (some i) rfl φ1 H1 b1⟩
    | _ => cases e1
theorem tO_then {β : Type} {m : ShO} {k : Option Int → M β} {φ : List Addr} {H : Hp} {ρ : Rho} {σ : L2.St} {h : Hw} {r : Out β × Hw} {Q : Option Int → Hp → Prop} (n : Now X.K X.w G.T φ H h) (er : ERep X.K φ H ρ σ) (e : (m ρ).bind k h = some r) (qx : QX X.K X.w G φ H σ r)
    (hk : ∀ o φ1 H1 h1, Beh X.K X.w G.T φ H φ1 H1 h1 → ERep X.K φ1 H1 ρ σ → k o h1 = some r → Q o H1) : tOO X.K X.w G m σ H Q := by
  unfold M.bind at e
  cases z : m ρ h with
  | none => rw [z] at e; cases e
  | some ra =>
    obtain ⟨o, h1⟩ := ra
    rw [z] at e
    refine ⟨φ, ρ, h, (o, h1), n, er, z, ?_, ?_⟩
    · rintro x rfl
      cases e
      exact qx x rfl
    · rintro w rfl φ1 H1 b
      exact hk w φ1 H1 h1 b (er.ext b.x n.hr.nt) e
def cutW (xs : List W) (lo hi : Option Int) : List W := (xs.drop (HT.sIx xs.length 0 lo)).take (HT.sIx xs.length xs.length hi - HT.sIx xs.length 0 lo)
theorem Reps.cut {K : PySem.W.Frag} {φ : List Addr} {H : Hp} {ws : List W} {vs : List V} (r : Reps K φ H ws vs) (lo hi : Option Int) : Reps K φ H (cutW ws lo hi) (cutV vs lo hi) := by
  unfold cutW cutV
  rw [r.length]
  exact (r.drop _).take _
def lstW : W → Hw → Option (List W)
  | .lro l, _ => some l
  | .ref n, h => match h[n]? with
    | some (.lst l) => some l
    | _ => none
  | _, _ => none
theorem lst_rep {φ : List Addr} {H : Hp} {h : Hw} {w : W} {v : V} {l : List W} (n : Now X.K X.w G.T φ H h) (r : Rep X.K φ H w v) (e : lstW w h = some l) : ∃ a vs, v = .ref a ∧ SqL X.K H a vs ∧ Reps X.K φ H l vs := by
  cases r with
  | lro hq rs => cases e; exact ⟨_, _, rfl, hq.sq, rs⟩
  | @ref nn aa hh =>
    have e' : (match h[nn]? with
      | some (.lst l) => some l
      | _ => none) = some l := e
    cases q : h[nn]? with
    | none => rw [q] at e'; cases e'
    | some o =>
      rw [q] at e'
      cases o with
      | lst l =>
        cases e'
        obtain ⟨a', vs, g1, g2, g3⟩ := now_lst (X := X) (G := G) n q
        rw [hh] at g1; cases g1
        exact ⟨aa, vs, rfl, SqL.of g2, g3⟩
      | _ => cases e'
  | _ => cases e
def fSl (w : W) (lo hi : Option Int) (h : Hw) : Option (W × Hw) := match w with
  | .str z => if z.length ≤ sizeLine then some (.str (cutS z lo hi), h) else none
  | .tup l => some (.tup (cutW l lo hi), h)
  | .lro l => some (.ref h.length, h ++ [.lst (cutW l lo hi)])
  | .ref n => match h[n]? with
    | some (.lst l) => some (.ref h.length, h ++ [.lst (cutW l lo hi)])
    | _ => none
  | _ => none
def eSl (e : Sh) (lo hi : ShO) : Sh := fun ρ => (e ρ).bind fun w => (lo ρ).bind fun l => (hi ρ).bind fun u h => up (fSl w l u h)
theorem cutV_whole {vs : List V} {lo hi : Option Int} (h1 : HT.sIx vs.length 0 lo = 0) (h2 : HT.sIx vs.length vs.length hi = vs.length) : cutV vs lo hi = vs := by
  unfold cutV
  rw [h1, h2, List.drop_zero, Nat.sub_zero, List.take_length]
theorem cutW_whole {vs : List W} {lo hi : Option Int} (h1 : HT.sIx vs.length 0 lo = 0) (h2 : HT.sIx vs.length vs.length hi = vs.length) : cutW vs lo hi = vs := by
  unfold cutW
  rw [h1, h2, List.drop_zero, Nat.sub_zero, List.take_length]
theorem me_sl {lo hi : Option Expr} {ml mh : ShO} {p2 : Pos} (he : ME X G e ma) (hl : MP X G lo ml) (hu : MP X G hi mh) : ME X G (.Subscript e (.Slice lo hi none p2) pos) (eSl ma ml mh) :=
  me_of (pe_slice ((sl_list.or sl_tupA).or sl_str) he hl hu) fun φ ρ h ro σ H Q n er z qx qv => tE_then n er z qx fun w φ1 H1 h1 v b1 er1 r1 e1 => tO_then b1.n er1 e1 (qx.trans b1) fun l φ2 H2 h2 b2 er2 e2 => tO_then b2.n er2 e2 (qx.trans (b1.trans b2)) fun u φ3 H3 h3 b3 er3 e3 => by
    obtain ⟨w', h', e4, rfl⟩ := up_some e3
    have b13 := (b1.trans b2).trans b3
    have rw3 := (r1.ext b2.x b1.n.hr.nt).ext b3.x b2.n.hr.nt
    have seqs : ∀ ls, lstW w h3 = some ls → some (W.ref h3.length, h3 ++ [.lst (cutW ls l u)]) = some (w', h') → ∃ a xs, v = .ref a ∧ SqL X.K H3 a xs ∧ ∀ p, H3 p = none → Q (.ref p) (upd H3 p (.lst (cutV xs l u))) := fun ls el e' => by
      cases e'
      obtain ⟨a, vs, rfl, hs, rs⟩ := lst_rep (X := X) (G := G) b3.n rw3 el
      refine ⟨a, vs, rfl, hs, fun p hp => ?_⟩
      obtain ⟨b4, r4⟩ := beh_lst (X := X) (G := G) b3.n hp (rs.cut l u)
      exact qv _ rfl _ _ _ (b13.trans b4) r4
    cases rw3 with
    | str zz =>
      have e' : (if zz.length ≤ sizeLine then some (W.str (cutS zz l u), h3) else none) = some (w', h') := e4
      by_cases q : zz.length ≤ sizeLine
      · rw [if_pos q] at e'
        cases e'
        exact .inr ⟨zz, rfl, q, qv _ rfl _ _ _ b13 (.str _)⟩
      · rw [if_neg q] at e'; cases e'
    | @tup ws aa vs hq rs =>
      cases e4
      refine .inl (.inr ⟨aa, vs, rfl, hq, fun ⟨w1, w2⟩ => ?_, fun _ p hp => ?_⟩)
      · refine qv _ rfl φ3 H3 _ b13 ?_
        rw [cutW_whole (by rw [rs.length]; exact w1) (by rw [rs.length]; exact w2)]
        exact .tup hq rs
      · obtain ⟨b4, r4⟩ := beh_tup (X := X) (G := G) b3.n hp (rs.cut l u)
        exact qv _ rfl _ _ _ (b13.trans b4) r4
    | @lro ws aa vs hq rs => exact .inl (.inl (seqs ws rfl e4))
    | @ref nn aa hh =>
      have e' : (match h3[nn]? with
        | some (.lst l') => some (W.ref h3.length, h3 ++ [.lst (cutW l' l u)])
        | _ => none) = some (w', h') := e4
      cases q : h3[nn]? with
      | none => rw [q] at e'; cases e'
      | some o =>
        rw [q] at e'
        cases o with
        | lst ls => exact .inl (.inl (seqs ls (by unfold lstW; dsimp only; rw [q]) e'))
        | _ => cases e'
    | _ => cases e4
/-! ### methods of lists -/
abbrev FM := W → List W → Hw → Option (W × Hw)
def isLst (w : W) (h : Hw) : Bool := (lstW w h).isSome
def eMth (F : FM) (o : Sh) (as : ShA) : Sh := fun ρ => (o ρ).bind fun x h => if isLst x h = true then ((as ρ).bind fun xs h => up (F x xs h)) h else none
def CM (X : Cx) (G : Gx) (r : V → List V → Hp → VK → Prop) (F : FM) : Prop := ∀ (φ : List Addr) (H : Hp) (h : Hw) (x : W) (v : V) (xs : List W) (vs : List V) (w : W) (h' : Hw) (Q : VK), Now X.K X.w G.T φ H h → Rep X.K φ H x v → Reps X.K φ H xs vs → F x xs h = some (w, h') →
  (∀ φ' H' z, Beh X.K X.w G.T φ H φ' H' h' → Rep X.K φ' H' w z → Q z H') → r v vs H Q
theorem isLst_ty {φ : List Addr} {H : Hp} {h : Hw} {w : W} {v : V} (n : Now X.K X.w G.T φ H h) (r : Rep X.K φ H w v) (e : isLst w h = true) : tyV X.K "list" v H := by
  obtain ⟨l, hl⟩ := Option.isSome_iff_exists.mp e
  obtain ⟨a, vs, rfl, hs, _⟩ := lst_rep (X := X) (G := G) n r hl
  exact .inl ⟨rfl, vs, hs⟩
theorem me_mth {name : Str} {apos cpos : Pos} {r : V → List V → Hp → VK → Prop} {F : FM} (slot : Slot "list" name id) (hty : typeOf (.builtin id) = pure (.type "method_descriptor")) (hm : MtR X id r) (c : CM X G r F) (ho : ME X G o mo) (ha : MA X G (e :: es) as)
    (hbase : attributeBase o name X.env (eval o X.env) = eval o X.env := by rfl)
    (hfew : ((backTo cpos (starEach (e :: es) X.env)).all (fun x => !x.1) && (backToKw cpos (keywordEach [] X.env)).all (fun x => x.1.isSome)
      && decide ((e :: es).length + ([] : List Keyword).length + (if ([] : List Keyword).isEmpty then 0 else 1) < 30)) = true := by rfl)
    (hline : (apos.endLine == cpos.line) = true := by rfl) (hs : starEach (e :: es) X.env = (false, eval e X.env) :: starEach es X.env := by rfl) (hplain : (backTo cpos (starEach es X.env)).any (·.1) = false := by rfl) :
    ME X G (.Call (.Attribute o name apos) (e :: es) [] cpos) (eMth F mo as) :=
  me_of (pe_bm PySem.F.plainAttrs_list slot hty hm ho ha hbase hfew hline hs hplain) fun φ ρ h ro σ H Q n er z qx qv => tE_then n er z qx fun x φ1 H1 h1 v b1 er1 r1 e1 => by
    by_cases q : isLst x h1 = true
    · rw [if_pos q] at e1
      refine ⟨isLst_ty (X := X) (G := G) b1.n r1 q, tA_then b1.n er1 e1 (qx.trans b1) fun ws φ2 H2 h2 vs b2 er2 r2 e2 => ?_⟩
      obtain ⟨w, h', e3, rfl⟩ := up_some e2
      exact c φ2 H2 h2 x v ws vs w h' Q b2.n (r1.ext b2.x b1.n.hr.nt) r2 e3 fun φ' H' zz b3 rz => qv w rfl φ' H' zz ((b1.trans b2).trans b3) rz
    · rw [if_neg q] at e1; cases e1
theorem me_mth0 {name : Str} {apos cpos : Pos} {r : V → List V → Hp → VK → Prop} {F : FM} (slot : Slot "list" name id) (hty : typeOf (.builtin id) = pure (.type "method_descriptor")) (hm : MtR X id r) (c : CM X G r F) (ho : ME X G o mo)
    (hbase : attributeBase o name X.env (eval o X.env) = eval o X.env := by rfl) (hline : (apos.endLine == cpos.line) = true := by rfl) :
    ME X G (.Call (.Attribute o name apos) [] [] cpos) (eMth F mo aNil) :=
  me_of (pe_bm0 PySem.F.plainAttrs_list slot hty hm ho hbase hline) fun φ ρ h ro σ H Q n er z qx qv => tE_then n er z qx fun x φ1 H1 h1 v b1 er1 r1 e1 => by
    by_cases q : isLst x h1 = true
    · rw [if_pos q] at e1
      obtain ⟨w, h', e3, rfl⟩ := up_some (show up (F x [] h1) = some ro from e1)
      exact ⟨isLst_ty (X := X) (G := G) b1.n r1 q, c φ1 H1 h1 x v [] [] w h' Q b1.n r1 .nil e3 fun φ' H' zz b3 rz => qv w rfl φ' H' zz (b1.trans b3) rz⟩
    · rw [if_neg q] at e1; cases e1
/-- a list at a number, as a partial function -/
def atL {α : Type} (w : W) (h : Hw) (k : Nat → List W → Option α) : Option α := match w with
  | .ref n => match h[n]? with
    | some (.lst l) => k n l
    | _ => none
  | _ => none
theorem atL_some {α : Type} {w : W} {h : Hw} {k : Nat → List W → Option α} {a : α} (e : atL w h k = some a) : ∃ n l, w = .ref n ∧ h[n]? = some (.lst l) ∧ k n l = some a := by
  unfold atL at e
  cases w with
  | ref n =>
    dsimp only at e
    cases q : h[n]? with
    | none => rw [q] at e; cases e
    | some o =>
      rw [q] at e
      cases o with
      | lst l => exact ⟨n, l, rfl, q, e⟩
      | _ => cases e
  | _ => cases e
def fApp : FM := fun x ys h => atL x h fun n l => match ys with
  | [y] => if l.length < sizeLine then some (.non, h.set n (.lst (l ++ [y]))) else none
  | _ => none
theorem cm_app : CM X G rAppend fApp := fun φ H h x v xs vs w h' Q n rx rs e k => by
  obtain ⟨i, l, rfl, el, e2⟩ := atL_some e
  obtain ⟨a, us, rfl, ha, hu, ru⟩ := lst_at (X := X) (G := G) n rx el
  cases rs with
  | nil => cases e2
  | cons ry rs =>
    cases rs with
    | cons _ _ => cases e2
    | nil =>
      dsimp only at e2
      by_cases q : l.length < sizeLine
      · rw [if_pos q] at e2
        cases e2
        exact ⟨a, us, _, rfl, rfl, hu, by rw [← ru.length]; exact q, k _ _ _ (beh_setl n ha hu (ru.append (.cons ry .nil))) .non⟩
      · rw [if_neg q] at e2; cases e2
theorem me_app {apos cpos : Pos} (ho : ME X G o mo) (ha : MA X G [e] as)
    (hbase : attributeBase o "append" X.env (eval o X.env) = eval o X.env := by rfl)
    (hfew : ((backTo cpos (starEach [e] X.env)).all (fun x => !x.1) && (backToKw cpos (keywordEach [] X.env)).all (fun x => x.1.isSome)
      && decide ([e].length + ([] : List Keyword).length + (if ([] : List Keyword).isEmpty then 0 else 1) < 30)) = true := by rfl)
    (hline : (apos.endLine == cpos.line) = true := by rfl) (hs : starEach [e] X.env = (false, eval e X.env) :: starEach [] X.env := by rfl) (hplain : (backTo cpos (starEach [] X.env)).any (·.1) = false := by rfl) :
    ME X G (.Call (.Attribute o "append" apos) [e] [] cpos) (eMth fApp mo as) := me_mth PySem.F.slot_list_append PySem.F.type_list_append mt_append cm_app ho ha hbase hfew hline hs hplain
def fPop : FM := fun x ys h => atL x h fun n l => match ys with
  | [] => match l[l.length - 1]? with
    | some y => some (y, h.set n (.lst l.dropLast))
    | none => none
  | [.int i] => if -(2 ^ 63) ≤ i ∧ i < 2 ^ 63 then match seqIndex? i l.length with
    | some k => match l[k]? with
      | some y => some (y, h.set n (.lst (l.eraseIdx k)))
      | none => none
    | none => none else none
  | _ => none
theorem Reps.dropLast {K : PySem.W.Frag} {φ : List Addr} {H : Hp} {ws : List W} {vs : List V} (r : Reps K φ H ws vs) : Reps K φ H ws.dropLast vs.dropLast := by
  rw [List.dropLast_eq_take, List.dropLast_eq_take, r.length]
  exact r.take _
theorem Reps.eraseIdx {K : PySem.W.Frag} {φ : List Addr} {H : Hp} : ∀ {ws : List W} {vs : List V} (k : Nat), Reps K φ H ws vs → Reps K φ H (ws.eraseIdx k) (vs.eraseIdx k)
  | _, _, _, .nil => .nil
  | _, _, 0, .cons _ t => t
  | _, _, k + 1, .cons r t => .cons r (Reps.eraseIdx k t)
theorem beh_pop {φ : List Addr} {H : Hp} {h : Hw} {i : Nat} {a : Addr} {us us' : List V} {l' : List W} {y : W} {yv : V} (n : Now X.K X.w G.T φ H h) (ha : φ[i]? = some a) (hu : H a = some (.lst us)) (r : Reps X.K φ H l' us') (ry : Rep X.K φ H y yv) :
    Beh X.K X.w G.T φ H φ (upd H a (.lst us')) (h.set i (.lst l')) ∧ Rep X.K φ (upd H a (.lst us')) y yv := by
  have b := beh_setl (X := X) (G := G) n ha hu r
  exact ⟨b, ry.ext b.x n.hr.nt⟩
theorem cm_pop : CM X G (fun x xs H Q => rPop x xs H Q ∨ rPopAt x xs H Q) fPop := fun φ H h x v xs vs w h' Q n rx rs e k => by
  obtain ⟨i, l, rfl, el, e2⟩ := atL_some e
  obtain ⟨a, us, rfl, ha, hu, ru⟩ := lst_at (X := X) (G := G) n rx el
  split at e2
  · cases rs
    cases q : l[l.length - 1]? with
    | none => rw [q] at e2; cases e2
    | some y =>
      rw [q] at e2
      cases e2
      obtain ⟨yv, ey, ry⟩ := ru.get q
      obtain ⟨b, r2⟩ := beh_pop (X := X) (G := G) n ha hu ru.dropLast ry
      exact .inl ⟨a, us, yv, rfl, rfl, hu, by rw [← ru.length]; exact ey, k _ _ _ b r2⟩
  · rename_i j
    obtain ⟨jv, rfl, rj⟩ := reps1 rs
    by_cases c : -(2 ^ 63) ≤ j ∧ j < 2 ^ 63
    · rw [if_pos c] at e2
      cases q : seqIndex? j l.length with
      | none => rw [q] at e2; cases e2
      | some kk =>
        rw [q] at e2
        dsimp only at e2
        cases q2 : l[kk]? with
        | none => rw [q2] at e2; cases e2
        | some y =>
          rw [q2] at e2
          cases e2
          obtain ⟨yv, ey, ry⟩ := ru.get q2
          obtain ⟨b, r2⟩ := beh_pop (X := X) (G := G) n ha hu (ru.eraseIdx kk) ry
          rw [rj.int_inv]
          exact .inr ⟨a, us, j, kk, yv, rfl, rfl, hu, c.1, c.2, by rw [← ru.length]; exact q, ey, k _ _ _ b r2⟩
    · rw [if_neg c] at e2; cases e2
  · cases e2
theorem mt_popA : MtR X "list.pop" (fun x xs H Q => rPop x xs H Q ∨ rPopAt x xs H Q) := MtR.or mt_pop mt_popAt
theorem me_pop0 {apos cpos : Pos} (ho : ME X G o mo) (hbase : attributeBase o "pop" X.env (eval o X.env) = eval o X.env := by rfl) (hline : (apos.endLine == cpos.line) = true := by rfl) :
    ME X G (.Call (.Attribute o "pop" apos) [] [] cpos) (eMth fPop mo aNil) := me_mth0 PySem.F.slot_list_pop PySem.F.type_list_pop mt_popA cm_pop ho hbase hline
theorem me_pop1 {apos cpos : Pos} (ho : ME X G o mo) (ha : MA X G [e] as)
    (hbase : attributeBase o "pop" X.env (eval o X.env) = eval o X.env := by rfl)
    (hfew : ((backTo cpos (starEach [e] X.env)).all (fun x => !x.1) && (backToKw cpos (keywordEach [] X.env)).all (fun x => x.1.isSome)
      && decide ([e].length + ([] : List Keyword).length + (if ([] : List Keyword).isEmpty then 0 else 1) < 30)) = true := by rfl)
    (hline : (apos.endLine == cpos.line) = true := by rfl) (hs : starEach [e] X.env = (false, eval e X.env) :: starEach [] X.env := by rfl) (hplain : (backTo cpos (starEach [] X.env)).any (·.1) = false := by rfl) :
    ME X G (.Call (.Attribute o "pop" apos) [e] [] cpos) (eMth fPop mo as) := me_mth PySem.F.slot_list_pop PySem.F.type_list_pop mt_popA cm_pop ho ha hbase hfew hline hs hplain
/-- extend by a list that stands -/
def fExt : FM := fun x ys h => atL x h fun n l => match ys with
  | [y] => atL y h fun m l2 => if l.length + l2.length ≤ sizeLine then some (.non, h.set n (.lst (l ++ l2))) else none
  | _ => none
theorem cm_ext : CM X G rExtend fExt := fun φ H h x v xs vs w h' Q n rx rs e k => by
  obtain ⟨i, l, rfl, el, e2⟩ := atL_some e
  obtain ⟨a, us, rfl, ha, hu, ru⟩ := lst_at (X := X) (G := G) n rx el
  cases rs with
  | nil => cases e2
  | cons ry rs =>
    cases rs with
    | cons _ _ => cases e2
    | nil =>
      dsimp only at e2
      obtain ⟨i2, l2, rfl, el2, e3⟩ := atL_some e2
      obtain ⟨a2, us2, rfl, ha2, hu2, ru2⟩ := lst_at (X := X) (G := G) n ry el2
      by_cases q : l.length + l2.length ≤ sizeLine
      · rw [if_pos q] at e3
        cases e3
        exact ⟨a, a2, us, us2, rfl, rfl, hu, hu2, by rw [← ru.length, ← ru2.length]; exact q, k _ _ _ (beh_setl n ha hu (ru.append ru2)) .non⟩
      · rw [if_neg q] at e3; cases e3
/-- extend by a list that is laid there: it gets no number -/
def eExtL (o : Sh) (as : ShA) : Sh := fun ρ => (o ρ).bind fun x h => if isLst x h = true then ((as ρ).bind fun xs h => atL x h fun n l => if xs.length ≤ sizeLine ∧ l.length + xs.length ≤ sizeLine then some (.ok .non, h.set n (.lst (l ++ xs))) else none) h else none
theorem me_extL {apos cpos lpos : Pos} (ho : ME X G o mo) (ha : MA X G es as)
    (hbase : attributeBase o "extend" X.env (eval o X.env) = eval o X.env := by rfl)
    (hfew : ((backTo cpos (starEach [Expr.List es lpos] X.env)).all (fun x => !x.1) && (backToKw cpos (keywordEach [] X.env)).all (fun x => x.1.isSome)
      && decide ([Expr.List es lpos].length + ([] : List Keyword).length + (if ([] : List Keyword).isEmpty then 0 else 1) < 30)) = true := by rfl)
    (hline : (apos.endLine == cpos.line) = true := by rfl) (hs : starEach [Expr.List es lpos] X.env = (false, eval (Expr.List es lpos) X.env) :: starEach [] X.env := by rfl) (hplain : (backTo cpos (starEach [] X.env)).any (·.1) = false := by rfl) :
    ME X G (.Call (.Attribute o "extend" apos) [Expr.List es lpos] [] cpos) (eExtL mo as) :=
  me_of (pe_bm PySem.F.plainAttrs_list PySem.F.slot_list_extend PySem.F.type_list_extend mt_extend ho (pa_cons (pe_lst ha) pa_nil hs) hbase hfew hline hs hplain) fun φ ρ h ro σ H Q n er z qx qv => tE_then n er z qx fun x φ1 H1 h1 v b1 er1 r1 e1 => by
    by_cases q : isLst x h1 = true
    · rw [if_pos q] at e1
      refine ⟨isLst_ty (X := X) (G := G) b1.n r1 q, ?_⟩
      refine tA_then b1.n er1 e1 (qx.trans b1) fun ws φ2 H2 h2 vs b2 er2 r2 e2 => ?_
      obtain ⟨i, l, rfl, el, e3⟩ := atL_some e2
      by_cases c : ws.length ≤ sizeLine ∧ l.length + ws.length ≤ sizeLine
      · rw [if_pos c] at e3
        cases e3
        refine ⟨by rw [← r2.length]; exact c.1, fun D hD => ?_⟩
        have b3 := beh_new (X := X) (G := G) (o := .lst vs) b2.n hD
        have rx := (r1.ext b2.x b1.n.hr.nt).ext b3.x b2.n.hr.nt
        obtain ⟨a, us, rfl, ha, hu, ru⟩ := lst_at (X := X) (G := G) b3.n rx el
        refine ⟨a, D, us, vs, rfl, rfl, hu, upd_same, by rw [← ru.length, ← r2.length]; exact c.2, ?_⟩
        have b4 := beh_setl (X := X) (G := G) b3.n ha hu (ru.append (r2.ext b3.x b2.n.hr.nt))
        exact qv _ rfl _ _ _ (((b1.trans b2).trans b3).trans b4) .non
      · rw [if_neg c] at e3; cases e3
    · rw [if_neg q] at e1; cases e1
/-! ### an item is stored -/
def gIx (o i : Sh) : Tg := fun w ρ h => match o ρ h with
  | some (.ok x, h1) => match i ρ h1 with
    | some (.ok (.int k), h2) => atL x h2 fun n l => match ixN l.length k with
      | some j => some (ρ, h2.set n (.lst (l.set j w)))
      | none => none
    | _ => none
  | _ => none
theorem mg_ix {i : Expr} {mi : Sh} {oo : Option (List Nat)} (ho : ME X G o mo) (hi : ME X G i mi)
    (ha : ∀ v, assign (.Subscript o i pos) X.env v = (do
      let ov ← holding [v] (eval o X.env)
      let iv ← holding [v, ov] (eval i X.env)
      standAt pos
      holding [v, ov, iv] (setItem ov iv v)
      release [v, ov, iv] []) := by intro _; rfl) : MG X G oo (.Subscript o i pos) (gIx mo mi) :=
  pg_imp (pg_sub ho hi set_list ha) fun v σ H Q ⟨φ, ρ, h, w, ρ', h', n, er, rw_, e, k⟩ => by
    unfold gIx at e
    cases q1 : mo ρ h with
    | none => rw [q1] at e; cases e
    | some p1 =>
      obtain ⟨o1, h1⟩ := p1
      rw [q1] at e
      cases o1 with
      | exc x => cases e
      | ok x =>
        dsimp only at e
        refine ⟨φ, ρ, h, (.ok x, h1), n, er, q1, (fun e he => by cases he), ?_⟩
        rintro x' ex φ1 H1 v1 b1 r1
        cases ex
        cases q2 : mi ρ h1 with
        | none => rw [q2] at e; cases e
        | some p2 =>
          obtain ⟨o2, h2⟩ := p2
          rw [q2] at e
          cases o2 with
          | exc x => cases e
          | ok y =>
            refine ⟨φ1, ρ, h1, (.ok y, h2), b1.n, er.ext b1.x n.hr.nt, q2, (fun e he => by cases he), ?_⟩
            rintro y' ey φ2 H2 v2 b2 r2
            cases ey
            cases y with
            | int kk =>
              dsimp only at e
              obtain ⟨m, l, rfl, el, e3⟩ := atL_some e
              have b12 := b1.trans b2
              obtain ⟨a, us, rfl, ha, hu, ru⟩ := lst_at (X := X) (G := G) b2.n (r1.ext b2.x b1.n.hr.nt) el
              cases q3 : ixN l.length kk with
              | none => rw [q3] at e3; cases e3
              | some j =>
                rw [q3] at e3
                cases e3
                rw [r2.int_inv]
                have b3 := beh_setl (X := X) (G := G) b2.n ha hu (Reps.set (rw_.ext b12.x n.hr.nt) j ru)
                exact ⟨a, us, kk, j, rfl, rfl, hu, by rw [← ru.length]; exact q3, k _ σ _ (b12.trans b3) (er.ext (b12.trans b3).x n.hr.nt) (.refl _ _)⟩
            | _ => cases e
end
end Mp

set_option Elab.async false
set_option linter.all false
set_option autoImplicit false
set_option maxRecDepth 100000
set_option maxHeartbeats 4000000
/-! Mp11: calls of defs. -/
namespace Mp
open PySem PySem.Spec PyProof.Rows L2
/-! ### how a call binds: the values written, the keywords', the defaults, picked by place -/
def pickL {α : Type} (sel : List Nat) (l : List α) : List α := sel.filterMap fun i => l[i]?
theorem vals_pick {vs : List V} {us : List Value} (r : Vals vs us) : ∀ sel : List Nat, Vals (pickL sel vs) (pickL sel us)
  | [] => .nil
  | i :: sel => by
    have ih := vals_pick r sel
    unfold pickL at ih ⊢
    rw [List.filterMap_cons, List.filterMap_cons]
    cases q : vs[i]? with
    | none =>
      have : us[i]? = none := by
        have h1 := List.getElem?_eq_none_iff.mp q
        exact List.getElem?_eq_none_iff.mpr (by rw [← r.length]; exact h1)
      rw [this]
      exact ih
    | some v =>
      obtain ⟨u, hu, ru⟩ := r.get q
      rw [hu]
      exact .cons ru ih
theorem reps_pick {K : PySem.W.Frag} {φ : List Addr} {H : Hp} {ws : List W} {vs : List V} (r : Reps K φ H ws vs) : ∀ sel : List Nat, Reps K φ H (pickL sel ws) (pickL sel vs)
  | [] => .nil
  | i :: sel => by
    have ih := reps_pick r sel
    unfold pickL at ih ⊢
    rw [List.filterMap_cons, List.filterMap_cons]
    cases q : ws[i]? with
    | none => rw [r.none_of q]; exact ih
    | some w =>
      obtain ⟨v, hv, rv⟩ := r.get q
      rw [hv]
      exact .cons rv ih
structure BG (K : PySem.W.Frag) (fd : FuncData) (ps : List Str) (n : Nat) (ks : List Str) (sel : List Nat) (dvs : List V) : Prop where
  ex : ∃ ds, Vals dvs ds ∧ ∀ (s : Shared) (us ws : List Value), K.In s.heap → us.length = n → ws.length = ks.length → BindsTo s fd ⟨us, ks.zip ws⟩ (ps.zip (pickL sel (us ++ ws ++ ds)))
section
variable {K : PySem.W.Frag} {x qual : Str} {params : Arguments} {body : List Stmt} {scope : Scope} {dvs : List V} {kws : List (Str × V)} {f : Addr} {fd : FuncData} {ps : List Str}
/-- no defaults -/
theorem bg_of0 (F : FunD K x qual params body scope [] kws f fd) (n : Nat) (ks : List Str) (sel : List Nat)
    (h : ∀ (kV doc pm : Value) (an : Option Addr) (cdv ct : Value) (us ws : List Value), us.length = n → ws.length = ks.length → bindArgs (PySem.W.fnOf x qual params body scope .none kV doc pm an cdv ct) ⟨us, ks.zip ws⟩ = pure (ps.zip (pickL sel (us ++ ws)))) : BG K fd ps n ks sel [] := by
  obtain ⟨oc, od, dV, kV, doc, pm, an, cdv, ct, osl, rfl, lk, hcd, hD, hK⟩ := F.ex
  rcases hD with ⟨_, rfl⟩ | ⟨e, _⟩
  · exact ⟨[], .nil, fun s us ws X l1 l2 => by rw [List.append_nil]; exact .of_eq (h kV doc pm an cdv ct us ws l1 l2)⟩
  · exact absurd rfl e
/-- with defaults -/
theorem bg_of1 (F : FunD K x qual params body scope dvs kws f fd) (n : Nat) (ks : List Str) (sel : List Nat) (hd : dvs ≠ [])
    (h : ∀ (T : Addr) (kV doc pm : Value) (an : Option Addr) (cdv ct : Value) (us ws its : List Value), us.length = n → ws.length = ks.length → its.length = dvs.length →
      ∃ k, bindArgs (PySem.W.fnOf x qual params body scope (.ref T) kV doc pm an cdv ct) ⟨us, ks.zip ws⟩ = seqItems? (.ref T) >>= k ∧ k (some its.toArray) = pure (ps.zip (pickL sel (us ++ ws ++ its)))) : BG K fd ps n ks sel dvs := by
  obtain ⟨oc, od, dV, kV, doc, pm, an, cdv, ct, osl, rfl, lk, hcd, hD, hK⟩ := F.ex
  rcases hD with ⟨e, _⟩ | ⟨_, T, o, its, m, rfl, lT, oT, rT⟩
  · exact absurd e hd
  · refine ⟨its, rT, fun s us ws X l1 l2 => ?_⟩
    obtain ⟨k, e1, e2⟩ := h T kV doc pm an cdv ct us ws its l1 l2 rT.length.symm
    refine BindsTo.of_looks fun M => ?_
    rw [e1]
    exact looks_items X lT oT (.of_pure e2)
end
/-! ### the callee runs -/
section
variable {X : Cx} {G : Gx} {k n : Nat} {f C : Addr} {fd : FuncData} {ps ks : List Str} {sel : List Nat} {dvs : List V} {sp : Sp} {W0 : WX}
theorem run_g {pins : List (Addr × Obj)} {σ : L2.St} {H : Hp} {s : Shared} {Q : VK} {us ws : List Value} {vs zs : List V} (F : GOk X.prog X.w X.K X.mg X.base k f fd ps sp) (hr : RoomG k X.A) (hb : BG X.K fd ps n ks sel dvs) (tk : Takes X W0)
    (I : Inv X pins σ H s) (r : Vals vs us) (rz : Vals zs ws) (l1 : vs.length = n) (l2 : zs.length = ks.length) (h : sp (pickL sel (vs ++ zs ++ dvs)) H Q (WE W0 σ)) : wpAny (model X.prog X.w) X.A (call (.ref f) us (ks.zip ws)) (EP X pins σ Q) X.xe s := by
  obtain ⟨ds, rd, hB⟩ := hb.ex
  refine wpAny_call (codeAny_mono (F.run X.A X.stack s H ⟨us, ks.zip ws⟩ (pickL sel (us ++ ws ++ ds)) (pickL sel (vs ++ zs ++ dvs)) Q (WE W0 σ) hr I.env0 (hB s us ws I.kIn (r.length.symm.trans l1) (rz.length.symm.trans l2)) (vals_pick ((r.append rz).append rd) sel) h) fun r s' hq => ?_)
  cases r with
  | error e => exact passAt tk σ pins H s e s' I hq
  | ok fl =>
    cases fl with
    | ret u => exact I.after hq
    | next => exact False.elim hq
    | brk => exact False.elim hq
    | cont => exact False.elim hq
/-- a class is made: its __init__ runs -/
theorem run_mk {pins : List (Addr × Obj)} {σ : L2.St} {H : Hp} {s : Shared} {Q : VK} {us ws : List Value} {vs zs : List V} (M : Mk X.K C f) (F : GOk X.prog X.w X.K X.mg X.base k f fd ps sp) (hr : RoomG (k + 1) X.A) (hb : BG X.K fd ps (n + 1) ks sel dvs) (tk : Takes X W0)
    (I : Inv X pins σ H s) (r : Vals vs us) (rz : Vals zs ws) (l1 : vs.length = n) (l2 : zs.length = ks.length)
    (h : ∀ x dx, H x = none → H dx = none → dx ≠ x → sp (pickL sel (.ref x :: vs ++ zs ++ dvs)) (upd (upd H dx (.own x)) x (.ins C dx [])) (fun v H2 => v = .non ∧ Q (.ref x) H2) (WE W0 σ)) :
    wpAny (model X.prog X.w) X.A (call (.ref C) us (ks.zip ws)) (EP X pins σ Q) X.xe s := by
  obtain ⟨ds, rd, hB⟩ := hb.ex
  have hq := h (s.heap.objs.size + 1) s.heap.objs.size (I.hok.fresh (Nat.le_succ _)) (I.hok.fresh (Nat.le_refl _)) (Nat.ne_of_lt (Nat.lt_succ_self _))
  have I2 := Inv.made (C := C) I
  have rr : Vals (V.ref (s.heap.objs.size + 1) :: vs) (Value.ref (s.heap.objs.size + 1) :: us) := .cons rfl r
  refine wpAny_call (make_map (f := f) I.kIn M.makes M.init (beq_iff_eq.mp M.fn) (codeAny_mono (F.run _ X.stack _ _ ⟨Value.ref (s.heap.objs.size + 1) :: us, ks.zip ws⟩ (pickL sel (Value.ref (s.heap.objs.size + 1) :: us ++ ws ++ ds)) (pickL sel (V.ref (s.heap.objs.size + 1) :: vs ++ zs ++ dvs)) _ (WE W0 σ) (hr.make C us (ks.zip ws))
    (I2.env0.make C us (ks.zip ws)) (hB _ (Value.ref (s.heap.objs.size + 1) :: us) ws I2.kIn (by rw [List.length_cons, ← r.length, l1]) (rz.length.symm.trans l2)) (vals_pick ((rr.append rz).append rd) sel) hq) fun r s' hq' => ?_))
  cases r with
  | error e => exact passAt tk σ pins _ _ e s' I2 hq'
  | ok fl =>
    cases fl with
    | ret u =>
      obtain ⟨v, H', I3, rv, ev, q3⟩ := I2.after hq'
      subst ev
      exact ⟨rv, ⟨V.ref (s.heap.objs.size + 1), H', I3, rfl, q3⟩⟩
    | next => exact False.elim hq'
    | brk => exact False.elim hq'
    | cont => exact False.elim hq'
end
/-! ### the mirror -/
def eCall (m : List W → M W) (n l : Nat) (sel : List Nat) (dws : List W) (as ks : ShA) : Sh := fun ρ => (as ρ).bind fun ws => (ks ρ).bind fun zs => if ws.length = n ∧ zs.length = l then m (pickL sel (ws ++ zs ++ dws)) else M.none
/-- what is known of a def that is called -/
structure Cal (P : Program) (w : World) (K : PySem.W.Frag) (mg : Str → Option Value) (base : Heap) (T : List (Addr × Str)) (k : Nat) (v : Value) (n : Nat) (ks : List Str) (sel : List Nat) (dws : List W) (m : List W → M W) : Prop where
  ex : ∃ (f : Addr) (fd : FuncData) (ps : List Str) (dvs : List V), v = .ref f ∧ GOk P w K mg base k f fd ps (spM K w T ps.length m) ∧ PySem.W.keepIn K (.ref f) = true ∧ BG K fd ps n ks sel dvs ∧ (∀ φ H, Reps K φ H dws dvs) ∧ ∀ {α : Type} (l : List α), l.length = n + ks.length + dws.length → (pickL sel l).length = ps.length
abbrev CalX (X : Cx) (G : Gx) (k : Nat) (v : Value) (n : Nat) (ks : List Str) (sel : List Nat) (dws : List W) (m : List W → M W) : Prop := Cal X.prog X.w X.K X.mg X.base G.T.tabs k v n ks sel dws m
section
variable {X : Cx} {G : Gx} {k n : Nat} {ks : List Str} {sel : List Nat} {dws : List W} {m : List W → M W} {x : Str} {p pos : Pos} {e o : Expr} {es : List Expr} {kws : List Keyword} {as zs : ShA} {ma mo : Sh}
abbrev MK (X : Cx) (G : Gx) (kws : List Keyword) (m : ShA) : Prop := PK X kws (tAA X.K X.w G m)
theorem pk_imp {t t' : TA} (h : PK X kws t) (i : ∀ σ H Q, t' σ H Q → t σ H Q) : PK X kws t' := ⟨fun pos pins s σ H Q I q => h.run pos pins s σ H Q I (i σ H Q q)⟩
theorem mk_nil : MK X G [] aNil := pk_imp pk_nil fun σ H Q ⟨φ, ρ, h, r, n, er, z, qx, qa⟩ => qa.ret z (.refl n) .nil
theorem mk_cons {nm : Option Str} {kpos : Pos} {mr : ShA} (ha : ME X G e ma) (hr : MK X G kws mr) : MK X G (⟨nm, e, kpos⟩ :: kws) (aCons ma mr) := pk_imp (pk_cons ha hr) fun σ H Q ⟨φ, ρ, h, r, n, er, z, qx, qa⟩ =>
  tE_then n er z qx fun w φ1 H1 h1 v b1 er1 r1 e1 => tA_then b1.n er1 e1 (qx.trans b1) fun ws φ2 H2 h2 vs b2 er2 r2 e2 => qa.ret e2 (b1.trans b2) (.cons (r1.ext b2.x b1.n.hr.nt) r2)
/-- the promise is kept from the mirror's run -/
theorem spM_of {φ φ2 : List Addr} {H H2 : Hp} {h2 : Hw} {σ : L2.St} {Q : VK} {ro : Out W × Hw} {ws : List W} {vs : List V} {np : Nat} (b : Beh X.K X.w G.T φ H φ2 H2 h2) (r : Reps X.K φ2 H2 ws vs) (e : m ws h2 = some ro) (hl : vs.length = np) (qx : QX X.K X.w G φ H σ ro) (qv : QV X.K X.w G φ H ro Q) :
    spM X.K X.w G.T.tabs np m vs H2 Q (WE G.Wx σ) :=
  ⟨hl, φ2, h2, ws, ro, b.n.hr, b.n.tb, r, e, fun u eu φ' H' v x hr tb rv => qv u eu φ' H' v (b.trans ⟨x, hr, tb, b.n.x0.trans x⟩) rv, fun ex eu φ' H' cls d x hr tb rx => qx ex eu φ' H' cls d (b.trans ⟨x, hr, tb, b.n.x0.trans x⟩) rx⟩
theorem call_then {φ : List Addr} {H : Hp} {σ : L2.St} {Q : VK} {ro : Out W × Hw} {pins : List (Addr × Obj)} {f : Addr} {fd : FuncData} {ps : List Str} {dvs : List V} (F : GOk X.prog X.w X.K X.mg X.base k f fd ps (spM X.K X.w G.T.tabs ps.length m)) (hr : RoomG k X.A) (tk : Takes X G.Wx) (hb : BG X.K fd ps n ks sel dvs) (hd : ∀ φ H, Reps X.K φ H dws dvs)
    (hl : ∀ {α : Type} (l : List α), l.length = n + ks.length + dws.length → (pickL sel l).length = ps.length) {φ2 : List Addr} {H2 : Hp} {h2 : Hw} {ws wz : List W} {vs vz : List V} {us uz : List Value} {s2 : Shared} (b : Beh X.K X.w G.T φ H φ2 H2 h2) (r1 : Reps X.K φ2 H2 ws vs) (r2 : Reps X.K φ2 H2 wz vz)
    (e : (if ws.length = n ∧ wz.length = ks.length then m (pickL sel (ws ++ wz ++ dws)) else M.none) h2 = some ro) (qx : QX X.K X.w G φ H σ ro) (qv : QV X.K X.w G φ H ro Q) (I : Inv X pins σ H2 s2) (rv : Vals vs us) (rz : Vals vz uz) :
    wpAny (model X.prog X.w) X.A (call (.ref f) us (ks.zip uz)) (EP X pins σ Q) X.xe s2 := by
  by_cases c : ws.length = n ∧ wz.length = ks.length
  · rw [if_pos c] at e
    have l1 : vs.length = n := r1.length.symm.trans c.1
    have l2 : vz.length = ks.length := r2.length.symm.trans c.2
    refine run_g F hr hb tk I rv rz l1 l2 (spM_of b (reps_pick ((r1.append r2).append (hd φ2 H2)) sel) e (hl _ ?_) qx qv)
    rw [List.length_append, List.length_append, l1, l2, (hd φ H).length]
  · rw [if_neg c] at e; cases e
/-- f(e, ..), f(e, .., k = v) -/
theorem me_call (hmg : ∃ v, X.mg x = some v ∧ CalX X G k v n ks sel dws m) (hr : RoomG k X.A) (tk : Takes X G.Wx) (ha : MA X G (e :: es) as) (hk : MK X G kws zs) (hg : Gl X x := by rfl)
    (hall : (backToKw pos (keywordEach kws X.env)).all (·.1.isSome) = true := by rfl) (hks : (backToKw pos (keywordEach kws X.env)).filterMap (·.1) = ks := by rfl)
    (hdb : (x == ("__debug__" : Str)) = false := by decide) (he : starEach (e :: es) X.env = (false, eval e X.env) :: starEach es X.env := by rfl)
    (hpl : ((backTo pos (starEach (e :: es) X.env)).any (·.1) || (backToKw pos (keywordEach kws X.env)).any (·.1.isNone)) = false := by rfl) : ME X G (.Call (.Name x p) (e :: es) kws pos) (eCall m n ks.length sel dws as zs) := by
  obtain ⟨v, hm, c⟩ := hmg
  obtain ⟨f, fd, ps, dvs, rfl, F, kp, hb, hd, hl⟩ := c.ex
  refine ⟨fun pins s σ H Q I ⟨φ, ρ, h, ro, nn, er, z, qx, qv⟩ => ?_⟩
  refine wpAny_Call_Name_kw (ld_glob I hg hm ?_ hdb)
  refine PySem.W.callWith_KW (h₀ := X.base) I.ok.mod.kin kp hall (thn (ha.run pos pins s σ H _ I (tA_then nn er z qx fun ws φ1 H1 h1 vs b1 er1 r1 e1 => (⟨φ1, h1, ws, b1, er1, r1, e1⟩ : ∃ φ1 h1 ws, Beh X.K X.w G.T φ H φ1 H1 h1 ∧ ERep X.K φ1 H1 ρ σ ∧ Reps X.K φ1 H1 ws vs ∧ ((zs ρ).bind fun wz => if ws.length = n ∧ wz.length = ks.length then m (pickL sel (ws ++ wz ++ dws)) else M.none) h1 = some ro))) fun us s1 ⟨vs, H1, I1, rv, φ1, h1, ws, b1, er1, r1, e1⟩ => ?_) hpl he
  refine thn (hk.run pos pins s1 σ H1 _ I1 (tA_then b1.n er1 e1 (qx.trans b1) fun wz φ2 H2 h2 vz b2 er2 r2 e2 => (⟨φ2, h2, wz, b2, r2, e2⟩ : ∃ φ2 h2 wz, Beh X.K X.w G.T φ1 H1 φ2 H2 h2 ∧ Reps X.K φ2 H2 wz vz ∧ (if ws.length = n ∧ wz.length = ks.length then m (pickL sel (ws ++ wz ++ dws)) else M.none) h2 = some ro))) fun uz s2 ⟨vz, H2, I2, rz, φ2, h2, wz, b2, r2, e2⟩ => ⟨I2.kIn, ?_⟩
  rw [hks]
  exact call_then F hr tk hb hd hl (b1.trans b2) (r1.ext b2.x b1.n.hr.nt) r2 e2 qx qv I2 rv rz
/-- f(), f(k = v) -/
theorem me_call0 (hmg : ∃ v, X.mg x = some v ∧ CalX X G k v n ks sel dws m) (hr : RoomG k X.A) (tk : Takes X G.Wx) (hk : MK X G kws zs) (hg : Gl X x := by rfl)
    (hall : (backToKw pos (keywordEach kws X.env)).all (·.1.isSome) = true := by rfl) (hks : (backToKw pos (keywordEach kws X.env)).filterMap (·.1) = ks := by rfl)
    (hdb : (x == ("__debug__" : Str)) = false := by decide)
    (hpl : ((backTo pos (starEach [] X.env)).any (·.1) || (backToKw pos (keywordEach kws X.env)).any (·.1.isNone)) = false := by rfl) : ME X G (.Call (.Name x p) [] kws pos) (eCall m n ks.length sel dws aNil zs) := by
  obtain ⟨v, hm, c⟩ := hmg
  obtain ⟨f, fd, ps, dvs, rfl, F, kp, hb, hd, hl⟩ := c.ex
  refine ⟨fun pins s σ H Q I ⟨φ, ρ, h, ro, nn, er, z, qx, qv⟩ => ?_⟩
  refine wpAny_Call_Name_kw (ld_glob I hg hm ?_ hdb)
  have z' : ((zs ρ).bind fun wz => if ([] : List W).length = n ∧ wz.length = ks.length then m (pickL sel ([] ++ wz ++ dws)) else M.none) h = some ro := z
  refine PySem.W.callWith_KW0 (h₀ := X.base) I.ok.mod.kin kp hall (thn (hk.run pos pins s σ H _ I (tA_then nn er z' qx fun wz φ2 H2 h2 vz b2 er2 r2 e2 => (⟨φ2, h2, wz, b2, r2, e2⟩ : ∃ φ2 h2 wz, Beh X.K X.w G.T φ H φ2 H2 h2 ∧ Reps X.K φ2 H2 wz vz ∧ (if ([] : List W).length = n ∧ wz.length = ks.length then m (pickL sel ([] ++ wz ++ dws)) else M.none) h2 = some ro))) fun uz s2 ⟨vz, H2, I2, rz, φ2, h2, wz, b2, r2, e2⟩ => ⟨I2.kIn, ?_⟩) hpl
  rw [hks]
  exact call_then F hr tk hb hd hl b2 .nil r2 e2 qx qv I2 .nil rz
/-! ### a local name that holds a def -/
/-- what is known of the defs that a local name may hold: by the name of the module -/
def eCallL (i : Nat) (S : Str → Option (List W → M W)) (n : Nat) (as : ShA) : Sh := fun ρ => match ρ[i]? with
  | some (some (.glo g)) => match S g with
    | some m => (as ρ).bind fun ws => if ws.length = n then m ws else M.none
    | none => M.none
  | _ => M.none
theorem pick_range {α : Type} (l : List α) : pickL (List.range l.length) l = l := by
  unfold pickL
  induction l with
  | nil => rfl
  | cons a l ih =>
    rw [List.length_cons, List.range_succ_eq_map, List.filterMap_cons]
    show a :: _ = a :: l
    rw [List.filterMap_map]
    exact congrArg _ ih
theorem me_callL {S : Str → Option (List W → M W)} (i : Nat) (hS : ∀ g m, S g = some m → CalX X G k (.ref (He.ga X.K g)) n [] (List.range n) [] m) (hr : RoomG k X.A) (tk : Takes X G.Wx) (ha : MA X G (e :: es) as) (hN : X.N[i]? = some x := by rfl) (hv : Vis X.env.scope x := by first | exact Or.inl rfl | exact Or.inr (Or.inl rfl) | exact Or.inr (Or.inr rfl))
    (hdb : (x == ("__debug__" : Str)) = false := by decide) (hcd : (x == ("__classdict__" : Str)) = false := by decide)
    (he : starEach (e :: es) X.env = (false, eval e X.env) :: starEach es X.env := by rfl) (hpl : (backTo pos (starEach es X.env)).any (·.1) = false := by rfl) : ME X G (.Call (.Name x p) (e :: es) [] pos) (eCallL i S n as) := by
  refine ⟨fun pins s σ H Q I ⟨φ, ρ, h, ro, nn, er, z, qx, qv⟩ => ?_⟩
  have z0 : ∃ g, ρ[i]? = some (some (.glo g)) ∧ (match S g with
    | some m => (as ρ).bind fun ws => if ws.length = n then m ws else M.none
    | none => M.none) h = some ro := by
    unfold eCallL at z
    cases q : ρ[i]? with
    | none => rw [q] at z; cases z
    | some o =>
      rw [q] at z
      cases o with
      | none => cases z
      | some w =>
        cases w with
        | glo g => exact ⟨g, rfl, z⟩
        | _ => cases z
  obtain ⟨g, hg, z⟩ := z0
  · cases qs : S g with
    | none => rw [qs] at z; cases z
    | some m =>
      rw [qs] at z
      dsimp only at z
      obtain ⟨f, fd, ps, dvs, ef, F, kp, hb, hd, hl⟩ := (hS g m qs).ex
      cases ef
      obtain ⟨vg, hs, rg⟩ := er.2 i _ hg
      cases rg
      refine wpAny_Call_Name_kw (thn ((pe_var (pos := p) hN hv hdb hcd).run pins s σ H (fun v H1 => v = .ref (He.ga X.K g) ∧ H1 = H) I ⟨_, hs, rfl, rfl⟩) fun u s1 ⟨v, H1, I1, r1, q1⟩ => ?_)
      obtain ⟨rfl, rfl⟩ := q1
      cases r1
      refine PySem.W.callWith_K (h₀ := X.base) I.ok.mod.kin kp (thn (ha.run pos pins s1 σ _ _ I1 (tA_then nn er z qx fun ws φ1 H1 h1 vs b1 er1 r1 e1 => (⟨φ1, h1, ws, b1, r1, e1⟩ : ∃ φ1 h1 ws, Beh X.K X.w G.T φ _ φ1 H1 h1 ∧ Reps X.K φ1 H1 ws vs ∧ (if ws.length = n then m ws else M.none) h1 = some ro))) fun us s2 ⟨vs, H2, I2, rv, φ1, h1, ws, b1, r1, e1⟩ => ⟨I2.kIn, ?_⟩) he hpl
      by_cases c : ws.length = n
      · refine call_then (uz := []) (ks := []) F hr tk hb hd hl b1 r1 .nil (ro := ro) ?_ qx qv I2 rv .nil
        rw [if_pos ⟨c, rfl⟩, List.append_nil, List.append_nil]
        rw [if_pos c] at e1
        have := pick_range ws
        rw [c] at this
        rw [this]
        exact e1
      · rw [if_neg c] at e1; cases e1
end
end Mp

set_option Elab.async false
set_option linter.all false
set_option autoImplicit false
set_option maxRecDepth 100000
set_option maxHeartbeats 4000000
/-! Mp12: new objects renamed, garbage dropped; a def's promise from its body's mirror. -/
namespace Mp
open PySem PySem.Spec PyProof.Rows L2
/-! ### renaming -/
mutual
def renW (ι : Nat → Nat) : W → W
  | .non => .non
  | .bl b => .bl b
  | .int i => .int i
  | .str s => .str s
  | .tup l => .tup (renL ι l)
  | .lro l => .lro (renL ι l)
  | .ref n => .ref (ι n)
  | .glo x => .glo x
  | .ty n => .ty n
  | .adr a => .adr a
def renL (ι : Nat → Nat) : List W → List W
  | [] => []
  | w :: r => renW ι w :: renL ι r
end
/-! all numbers are below n -/
mutual
def clW (n : Nat) : W → Prop
  | .tup l => clL n l
  | .lro l => clL n l
  | .ref i => i < n
  | .non => True
  | .bl _ => True
  | .int _ => True
  | .str _ => True
  | .glo _ => True
  | .ty _ => True
  | .adr _ => True
def clL (n : Nat) : List W → Prop
  | [] => True
  | w :: r => clW n w ∧ clL n r
end
mutual
theorem renW_id : ∀ w : W, renW (fun i => i) w = w
  | .non => rfl
  | .bl _ => rfl
  | .int _ => rfl
  | .str _ => rfl
  | .glo _ => rfl
  | .ty _ => rfl
  | .adr _ => rfl
  | .ref _ => rfl
  | .tup l => by unfold renW; rw [renL_id l]
  | .lro l => by unfold renW; rw [renL_id l]
theorem renL_id : ∀ l : List W, renL (fun i => i) l = l
  | [] => rfl
  | w :: r => by unfold renL; rw [renW_id w, renL_id r]
end
mutual
theorem clW_mono {n m : Nat} (h : n ≤ m) : ∀ {w : W}, clW n w → clW m w
  | .non, _ => trivial
  | .bl _, _ => trivial
  | .int _, _ => trivial
  | .str _, _ => trivial
  | .glo _, _ => trivial
  | .ty _, _ => trivial
  | .adr _, _ => trivial
  | .ref _, c => Nat.lt_of_lt_of_le c h
  | .tup l, c => clL_mono h (l := l) c
  | .lro l, c => clL_mono h (l := l) c
theorem clL_mono {n m : Nat} (h : n ≤ m) : ∀ {l : List W}, clL n l → clL m l
  | [], _ => trivial
  | _ :: _, c => ⟨clW_mono h c.1, clL_mono h c.2⟩
end
mutual
theorem rep_cl {K : PySem.W.Frag} {φ : List Addr} {H : Hp} : ∀ {w : W} {v : V}, Rep K φ H w v → clW φ.length w
  | _, _, .non => trivial
  | _, _, .bl _ => trivial
  | _, _, .int _ => trivial
  | _, _, .str _ => trivial
  | _, _, .glo _ => trivial
  | _, _, .ty _ => trivial
  | _, _, .adr _ => trivial
  | _, _, .ref h => (List.getElem?_eq_some_iff.mp h).1
  | _, _, .tup _ r => reps_cl r
  | _, _, .lro _ r => reps_cl r
theorem reps_cl {K : PySem.W.Frag} {φ : List Addr} {H : Hp} : ∀ {l : List W} {vs : List V}, Reps K φ H l vs → clL φ.length l
  | _, _, .nil => trivial
  | _, _, .cons r t => ⟨rep_cl r, reps_cl t⟩
end
mutual
theorem rep_ren {K : PySem.W.Frag} {φ φ2 : List Addr} {H : Hp} {ι : Nat → Nat} {n : Nat} (e : ∀ i, i < n → φ2[ι i]? = φ[i]?) : ∀ (w : W) {v : V}, clW n w → Rep K φ2 H (renW ι w) v → Rep K φ H w v
  | .non, _, _, r => by cases r; exact .non
  | .bl _, _, _, r => by cases r; exact .bl _
  | .int _, _, _, r => by cases r; exact .int _
  | .str _, _, _, r => by cases r; exact .str _
  | .glo _, _, _, r => by cases r; exact .glo _
  | .ty _, _, _, r => by cases r; exact .ty _
  | .adr _, _, _, r => by cases r; exact .adr _
  | .ref i, _, c, r => by cases r with | ref h => exact .ref (by rw [← e i c]; exact h)
  | .tup l, _, c, r => by cases r with | tup h r => exact .tup h (reps_ren e l c r)
  | .lro l, _, c, r => by cases r with | lro h r => exact .lro h (reps_ren e l c r)
theorem reps_ren {K : PySem.W.Frag} {φ φ2 : List Addr} {H : Hp} {ι : Nat → Nat} {n : Nat} (e : ∀ i, i < n → φ2[ι i]? = φ[i]?) : ∀ (l : List W) {vs : List V}, clL n l → Reps K φ2 H (renL ι l) vs → Reps K φ H l vs
  | [], _, _, r => by cases r; exact .nil
  | w :: l, _, c, r => by cases r with | cons r t => exact .cons (rep_ren e w c.1 r) (reps_ren e l c.2 t)
end
mutual
theorem nkey_ren (ι : Nat → Nat) : ∀ w : W, nkey (renW ι w) = nkey w
  | .non => rfl
  | .bl _ => rfl
  | .int _ => rfl
  | .str _ => rfl
  | .glo _ => rfl
  | .ty _ => rfl
  | .adr _ => rfl
  | .ref _ => rfl
  | .tup l => by unfold renW nkey; rw [nkeys_ren ι l]
  | .lro l => rfl
theorem nkeys_ren (ι : Nat → Nat) : ∀ l : List W, nkeys (renL ι l) = nkeys l
  | [] => rfl
  | w :: r => by unfold renL nkeys; rw [nkey_ren ι w, nkeys_ren ι r]
end
def renKV (ι : Nat → Nat) : List (W × W) → List (W × W) := List.map fun p => (renW ι p.1, renW ι p.2)
def renFs (ι : Nat → Nat) : List (Str × W) → List (Str × W) := List.map fun p => (p.1, renW ι p.2)
def renO (ι : Nat → Nat) : MO → MO
  | .lst l => .lst (renL ι l)
  | .dct kvs => .dct (renKV ι kvs)
  | .ins c fs => .ins c (renFs ι fs)
  | .exn c fs => .exn c (renFs ι fs)
def clKV (n : Nat) (kvs : List (W × W)) : Prop := ∀ p ∈ kvs, clW n p.1 ∧ clW n p.2
def clFs (n : Nat) (fs : List (Str × W)) : Prop := ∀ p ∈ fs, clW n p.2
def clO (n : Nat) : MO → Prop
  | .lst l => clL n l
  | .dct kvs => clKV n kvs
  | .ins _ fs => clFs n fs
  | .exn _ fs => clFs n fs
/-- h1 is h2 without some objects: ι tells where they stand in h2; the first n0 stay -/
structure Shr (n0 : Nat) (ι : Nat → Nat) (h2 h1 : Hw) : Prop where
  le : n0 ≤ h1.length
  inj : ∀ i j, i < h1.length → j < h1.length → ι i = ι j → i = j
  fix : ∀ i, i < n0 → ι i = i
  ob : ∀ (i : Nat) (o : MO), h1[i]? = some o → h2[ι i]? = some (renO ι o) ∧ clO h1.length o
def ShrQ (n0 : Nat) : Out W × Hw → Out W × Hw → Prop
  | (.ok w2, h2), (.ok w1, h1) => ∃ ι, Shr n0 ι h2 h1 ∧ w2 = renW ι w1 ∧ clW h1.length w1
  | (.exc e2, h2), (.exc e1, h1) => ∃ ι, Shr n0 ι h2 h1 ∧ e2.cls = e1.cls ∧ e2.fs = renFs ι e1.fs ∧ clFs h1.length e1.fs
  | _, _ => False
/-- the same, or so much less -/
def ShrR (n0 : Nat) (r2 r : Out W × Hw) : Prop := r2 = r ∨ ShrQ n0 r2 r
theorem shrR_rfl {n0 : Nat} {r : Out W × Hw} : ShrR n0 r r := .inl rfl
theorem keyrep_ren {K : PySem.W.Frag} {φ φ2 : List Addr} {H : Hp} {ι : Nat → Nat} {n : Nat} (e : ∀ i, i < n → φ2[ι i]? = φ[i]?) : ∀ (fs : List (Str × W)) {gs : List (Str × V)}, clFs n fs → KeyRep K φ2 H (renFs ι fs) gs → KeyRep K φ H fs gs
  | [], [], _, _ => trivial
  | (x, w) :: r, (y, v) :: s, c, k => ⟨k.1, rep_ren e w (c _ List.mem_cons_self) k.2.1, keyrep_ren e r (fun p hp => c p (List.mem_cons_of_mem _ hp)) k.2.2⟩
  | [], _ :: _, _, k => k.elim
  | _ :: _, [], _, k => k.elim
theorem paired_ren {K : PySem.W.Frag} {w : World} {φ φ2 : List Addr} {H : Hp} {ι : Nat → Nat} {n : Nat} (e : ∀ i, i < n → φ2[ι i]? = φ[i]?) : ∀ (kvs : List (W × W)) {es : List DictEntry}, clKV n kvs → Paired (EntOk K w φ2 H) (renKV ι kvs) es → Paired (EntOk K w φ H) kvs es
  | [], _, _, k => by cases k; exact .nil
  | (a, b) :: r, _, c, k => by
    cases k with
    | cons q t =>
      refine .cons ?_ (paired_ren e r (fun p hp => c p (List.mem_cons_of_mem _ hp)) t)
      obtain ⟨nk, kv, vv, h1, h2, h3, h4, h5, h6, h7⟩ := q.ex
      obtain ⟨c1, c2⟩ := c _ List.mem_cons_self
      exact ⟨nk, kv, vv, (nkey_ren ι a).symm.trans h1, h2, h3, rep_ren e a c1 h4, h5, rep_ren e b c2 h6, h7⟩
theorem orep_ren {K : PySem.W.Frag} {w : World} {φ φ2 : List Addr} {H : Hp} {ι : Nat → Nat} {n : Nat} {a : Addr} (hln : φ.length = n) (e : ∀ i, i < n → φ2[ι i]? = φ[i]?) (o : MO) (c : clO n o) (r : ORep K w φ2 H (renO ι o) a) : ORep K w φ H o a := by
  cases o with
  | lst l => cases r with | lst h r => exact .lst h (reps_ren e l c r)
  | ins x fs => cases r with | ins h r => exact .ins h (keyrep_ren e fs c r)
  | exn x fs =>
    cases r with
    | exn h hd hn r =>
      refine .exn h hd (fun hm => hn ?_) (keyrep_ren e fs c r)
      obtain ⟨i, hi⟩ := List.mem_iff_getElem?.mp hm
      have hil : i < n := by rw [← hln]; exact (List.getElem?_eq_some_iff.mp hi).1
      rw [← e i hil] at hi
      exact List.mem_of_getElem? hi
  | dct kvs =>
    cases r with
    | dct d =>
      obtain ⟨es, h1, h2⟩ := d.ex
      refine .dct ⟨⟨es, h1, paired_ren e kvs c h2⟩, d.sys, ?_, by have := d.sz; unfold renKV at this; rw [List.length_map] at this; exact this⟩
      have := d.nd
      unfold renKV at this
      rw [List.map_map] at this
      have e2 : ((fun p : W × W => nkey p.1) ∘ fun p : W × W => (renW ι p.1, renW ι p.2)) = fun p => nkey p.1 := by
        funext p
        exact nkey_ren ι p.1
      rw [e2] at this
      exact this
/-- the numbers of what is kept -/
theorem shr_phi {K : PySem.W.Frag} {w : World} {φ φ2 : List Addr} {H H2 : Hp} {ι : Nat → Nat} {h h2 h1 : Hw} (hl : φ.length = h.length) (s : Shr h.length ι h2 h1) (x : Ext φ H φ2 H2) (r : HRep K w φ2 H2 h2) :
    ∃ φ1, Ext φ H φ1 H2 ∧ HRep K w φ1 H2 h1 ∧ ∀ i, i < h1.length → φ2[ι i]? = φ1[i]? := by
  have at_ : ∀ i, i < h1.length → ∃ a, φ2[ι i]? = some a := fun i hi => by
    obtain ⟨q, _⟩ := s.ob i _ (List.getElem?_eq_getElem hi)
    obtain ⟨a, ha, _⟩ := r.obj _ _ q
    exact ⟨a, ha⟩
  refine ⟨(List.range h1.length).map fun i => φ2.getD (ι i) 0, ?_, ?_, ?_⟩
  case refine_3 =>
    intro i hi
    obtain ⟨a, ha⟩ := at_ i hi
    rw [List.getElem?_map, List.getElem?_range hi, ha]
    show some a = some (φ2.getD (ι i) 0)
    rw [List.getD_eq_getElem?_getD, ha]
    rfl
  case refine_1 =>
    have mem : ∀ a ∈ (List.range h1.length).map fun i => φ2.getD (ι i) 0, a ∈ φ2 := fun a ha => by
      obtain ⟨i, hi, rfl⟩ := List.mem_map.mp ha
      obtain ⟨a, ha⟩ := at_ i (List.mem_range.mp hi)
      rw [List.getD_eq_getElem?_getD, ha]
      exact List.mem_of_getElem? ha
    refine ⟨?_, x.keep, fun a ha hn => x.new a (mem a ha) hn, x.tbl⟩
    refine List.prefix_iff_getElem?.mpr fun i hi => ?_
    have hi2 : i < h1.length := Nat.lt_of_lt_of_le (by rw [← hl]; exact hi) s.le
    rw [List.getElem?_map, List.getElem?_range hi2]
    show some (φ2.getD (ι i) 0) = some φ[i]
    rw [s.fix i (by rw [← hl]; exact hi), List.getD_eq_getElem?_getD, prefix_get x.pre (List.getElem?_eq_getElem hi)]
    rfl
  case refine_2 =>
    have e : ∀ i, i < h1.length → φ2[ι i]? = ((List.range h1.length).map fun i => φ2.getD (ι i) 0)[i]? := fun i hi => by
      obtain ⟨a, ha⟩ := at_ i hi
      rw [List.getElem?_map, List.getElem?_range hi, ha]
      show some a = some (φ2.getD (ι i) 0)
      rw [List.getD_eq_getElem?_getD, ha]
      rfl
    refine ⟨by simp, ?_, fun i o q => ?_⟩
    · refine List.pairwise_map.mpr (List.Pairwise.imp_of_mem (fun {i j} hi hj hne ee => hne ?_) List.nodup_range)
      have hi' := List.mem_range.mp hi
      have hj' := List.mem_range.mp hj
      obtain ⟨a, ha⟩ := at_ i hi'
      obtain ⟨b, hb⟩ := at_ j hj'
      rw [List.getD_eq_getElem?_getD, List.getD_eq_getElem?_getD, ha, hb] at ee
      have ee' : a = b := ee
      subst ee'
      exact s.inj i j hi' hj' (nd_get r.nd ha hb)
    · have hi : i < h1.length := (List.getElem?_eq_some_iff.mp q).1
      obtain ⟨q2, c⟩ := s.ob i o q
      obtain ⟨a, ha, ro⟩ := r.obj _ _ q2
      exact ⟨a, by rw [← e i hi]; exact ha, orep_ren (by simp) e o c ro⟩
/-- what is wished of the spec's outcome holds of the mirror's -/
theorem shr_wish {K : PySem.W.Frag} {w : World} {T : List (Addr × Str)} {φ : List Addr} {H : Hp} {h : Hw} {r2 r : Out W × Hw} {Q : VK} {E : XK} (hln : φ.length = h.length) (sh : ShrR h.length r2 r)
    (q1 : ∀ u, r.1 = .ok u → ∀ φ' H' v, Ext φ H φ' H' → HRep K w φ' H' r.2 → LamX.Tabs T H' → Rep K φ' H' u v → Q v H')
    (q2 : ∀ e, r.1 = .exc e → ∀ φ' H' cls d, Ext φ H φ' H' → HRep K w φ' H' r.2 → LamX.Tabs T H' → XRep K φ' H' e cls d → E cls d H') :
    (∀ u, r2.1 = .ok u → ∀ φ' H' v, Ext φ H φ' H' → HRep K w φ' H' r2.2 → LamX.Tabs T H' → Rep K φ' H' u v → Q v H') ∧
    (∀ e, r2.1 = .exc e → ∀ φ' H' cls d, Ext φ H φ' H' → HRep K w φ' H' r2.2 → LamX.Tabs T H' → XRep K φ' H' e cls d → E cls d H') := by
  rcases sh with rfl | sh
  · exact ⟨q1, q2⟩
  refine ⟨?_, ?_⟩
  · intro u eu φ2 H2 v x hr2 tb2 rv
    obtain ⟨o1, h1⟩ := r
    obtain ⟨o2, h2⟩ := r2
    cases eu
    cases o1 with
    | exc _ => exact sh.elim
    | ok w1 =>
      obtain ⟨ι, s, e3, c⟩ := sh
      obtain ⟨φ1, x1, hr1, ph⟩ := shr_phi hln s x hr2
      subst e3
      exact q1 w1 rfl φ1 H2 v x1 hr1 tb2 (rep_ren ph w1 c rv)
  · intro ex eu φ2 H2 cls d x hr2 tb2 rx
    obtain ⟨o1, h1⟩ := r
    obtain ⟨o2, h2⟩ := r2
    cases eu
    cases o1 with
    | ok _ => exact sh.elim
    | exc e1 =>
      obtain ⟨ι, s, e3, e4, c⟩ := sh
      obtain ⟨φ1, x1, hr1, ph⟩ := shr_phi hln s x hr2
      refine q2 e1 rfl φ1 H2 cls d x1 hr1 tb2 ⟨by rw [rx.1, e3], ?_⟩
      rcases rx.2 with ⟨z1, z2⟩ | ⟨dd, gs, z1, z2, z3, z4⟩
      · left
        rw [e4] at z1
        refine ⟨?_, z2⟩
        cases hf : e1.fs with
        | nil => rfl
        | cons a b => rw [hf] at z1; cases z1
      · right
        refine ⟨dd, gs, z1, fun hm => z2 ?_, z3, ?_⟩
        · obtain ⟨i, hi⟩ := List.mem_iff_getElem?.mp hm
          have hil : i < h1.length := by rw [← hr1.len]; exact (List.getElem?_eq_some_iff.mp hi).1
          rw [← ph i hil] at hi
          exact List.mem_of_getElem? hi
        · rw [e4] at z4
          exact keyrep_ren ph e1.fs c z4
/-- the promise of the mirror B from that of the spec S -/
theorem spM_imp {K : PySem.W.Frag} {w : World} {T : List (Addr × Str)} {n : Nat} {S B : List W → M W} (hS : ∀ ws h r, ws.length = n → S ws h = some r → ∃ r2, B ws h = some r2 ∧ ShrR h.length r2 r) {vs : List V} {H : Hp} {Q : VK} {E : XK} (s : spM K w T n S vs H Q E) : spM K w T n B vs H Q E := by
  obtain ⟨hl, φ, h, ws, r, hr, tb, rs, e, q1, q2⟩ := s
  obtain ⟨r2, e2, sh⟩ := hS ws h r (rs.length.trans hl) e
  obtain ⟨p1, p2⟩ := shr_wish hr.len sh q1 q2
  exact ⟨hl, φ, h, ws, r2, hr, tb, rs, e2, p1, p2⟩
/-- nothing is renamed, a tail is dropped -/
theorem shrR_drop {w1 : W} {h1 g : Hw} {n0 : Nat} (hn : n0 ≤ h1.length) (c : ∀ (i : Nat) (o : MO), h1[i]? = some o → clO h1.length o) (cw : clW h1.length w1) : ShrR n0 (.ok w1, h1 ++ g) (.ok w1, h1) := by
  refine .inr ⟨fun i => i, ⟨hn, fun i j _ _ e => e, fun _ _ => rfl, fun i o e => ⟨?_, c i o e⟩⟩, (renW_id w1).symm, cw⟩
  have : renO (fun i => i) o = o := by
    cases o with
    | lst l => show MO.lst (renL _ l) = _; rw [renL_id]
    | dct kvs =>
      show MO.dct (List.map _ kvs) = _
      congr 1
      conv => rhs; rw [← List.map_id kvs]
      refine List.map_congr_left fun p _ => ?_
      show (renW _ p.1, renW _ p.2) = p
      rw [renW_id, renW_id]
    | ins x fs =>
      show MO.ins x (List.map _ fs) = _
      congr 1
      conv => rhs; rw [← List.map_id fs]
      refine List.map_congr_left fun p _ => ?_
      show (p.1, renW _ p.2) = p
      rw [renW_id]
    | exn x fs =>
      show MO.exn x (List.map _ fs) = _
      congr 1
      conv => rhs; rw [← List.map_id fs]
      refine List.map_congr_left fun p _ => ?_
      show (p.1, renW _ p.2) = p
      rw [renW_id]
  rw [this, List.getElem?_append_left (List.getElem?_eq_some_iff.mp e).1]
  exact e
end Mp

set_option Elab.async false
set_option linter.all false
set_option autoImplicit false
set_option maxRecDepth 100000
set_option maxHeartbeats 4000000
/-! Mp13: defs: their promises from their bodies; how they are called; names of the module. -/
namespace Mp
open PySem PySem.Spec PyProof.Rows L2
/-- a body's mirror as a def's: n slots in all -/
def runB (n : Nat) (B : Ss) : List W → M W := fun ws h => match B (ws.map some ++ List.replicate (n - ws.length) none) h with
  | some (.nx _, h') => some (.ok .non, h')
  | some (.rt w, h') => some (.ok w, h')
  | some (.exc e _, h') => some (.exc e, h')
  | _ => none
theorem erep_start {K : PySem.W.Frag} {φ : List Addr} {H : Hp} {N : List Str} {ws : List W} {vs : List V} (r : Reps K φ H ws vs) : ERep K φ H (ws.map some ++ List.replicate (N.length - ws.length) none) (L2.start N vs) := by
  refine ⟨by simp [L2.start, r.length], fun i w e => ?_⟩
  by_cases hi : i < ws.length
  · rw [List.getElem?_append_left (by simpa using hi), List.getElem?_map] at e
    cases q : ws[i]? with
    | none => rw [q] at e; cases e
    | some w' =>
      rw [q] at e
      cases e
      obtain ⟨v, hv, rv⟩ := r.get q
      refine ⟨v, ?_, rv⟩
      unfold L2.start
      rw [List.getElem?_append_left (by rw [List.length_map, ← r.length]; exact hi), List.getElem?_map, hv]
      rfl
  · rw [List.getElem?_append_right (by simpa using hi), List.getElem?_replicate] at e
    split at e <;> cases e
section
variable {P : Program} {w : World} {K : PySem.W.Frag} {mg : Str → Option Value} {base : Heap} {T : List (Addr × Str)} {k : Nat} {d : He.DefD} {ps N : List Str} {m : List W → M W} {B : Ss}
/-- the context of the body of the def d -/
abbrev XB (P : Program) (w : World) (K : PySem.W.Frag) (mg : Str → Option Value) (base : Heap) (d : He.DefD) (N : List Str) (cv : Value) (A : Around) (outer : List Env) (s : Shared) (H : Hp) (E : XK) : Cx :=
  cxOf (L2.CX P w) P w K mg base N d.qual d.scope (He.fAd K d.at_) cv A outer s H E
abbrev GB (T : Tb) (E : XK) : Gx := ⟨T, fun cls d _ H' => E cls d H'⟩
theorem takes_b {cv : Value} {A : Around} {outer : List Env} {s : Shared} {H : Hp} {E : XK} {T : Tb} : Takes (XB P w K mg base d N cv A outer s H E) (GB T E).Wx := takes_of rfl rfl rfl rfl
theorem owns_b {cv : Value} {A : Around} {outer : List Env} {s : Shared} {H : Hp} {E : XK} : PassesOwn (model P w) (XB P w K mg base d N cv A outer s H E).A (XB P w K mg base d N cv A outer s H E).env (XB P w K mg base d N cv A outer s H E).xe := passes_of (X := XB P w K mg base d N cv A outer s H E) rfl
/-- the def d keeps the mirror m's promise with k calls -/
structure DOk (P : Program) (w : World) (K : PySem.W.Frag) (mg : Str → Option Value) (base : Heap) (T : List (Addr × Str)) (k : Nat) (d : He.DefD) (ps : List Str) (m : List W → M W) : Prop where
  ex : ∃ fd, FunD K d.name d.qual d.params d.body d.scope (d.dvs K) (d.kws K) (He.fAd K d.at_) fd ∧ GOk P w K mg base k (He.fAd K d.at_) fd ps (spM K w T ps.length m)
theorem dok_zero (h : ∃ fd, FunD K d.name d.qual d.params d.body d.scope (d.dvs K) (d.kws K) (He.fAd K d.at_) fd) (hm : ∀ ws h, m ws h = none) : DOk P w K mg base T k d ps m := by
  obtain ⟨fd, F⟩ := h
  have no : ∀ vs H Q E, ¬ spM K w T ps.length m vs H Q E := fun vs H Q E ⟨_, φ, h, ws, r, _, _, _, e, _⟩ => by rw [hm] at e; cases e
  exact ⟨fd, F, fun vs H Q E h => absurd h (no vs H Q E), fun A outer s H args us vs Q E _ _ _ _ h => absurd h (no vs H Q E)⟩
/-- THE RULE: from the body's derivation -/
theorem dok_of (h : ∃ fd, FunD K d.name d.qual d.params d.body d.scope (d.dvs K) (d.kws K) (He.fAd K d.at_) fd) (S : FnScope N ps d.scope)
    (hB : ∀ ws h r, ws.length = ps.length → m ws h = some r → ∃ r2, runB N.length B ws h = some r2 ∧ ShrR h.length r2 r)
    (hb : ∀ (cv : Value) (A : Around) (outer : List Env) (s : Shared) (H : Hp) (E : XK) (T0 : Tb), cv = .ref (He.codeOf K d.at_) → T0.tabs = T → RoomG k (XB P w K mg base d N cv A outer s H E).A → MSs (XB P w K mg base d N cv A outer s H E) (GB T0 E) d.body B) : DOk P w K mg base T (k + 1) d ps m := by
  obtain ⟨fd, F⟩ := h
  refine ⟨fd, F, gok_of (N := N) F S (fun vs H Q E h => h.1) fun cv A outer s H vs Q E hcv hr hsp => ?_⟩
  have hcode : cv = .ref (He.codeOf K d.at_) := by
    obtain ⟨oc, od, dV, kV, doc, pm, an, cdv, ct, osl, rfl, lk, hcd, _, _⟩ := F.ex
    obtain ⟨c, rfl⟩ := He.codeIn_ref hcd
    rw [← hcv, He.codeOf_eq lk rfl]
  obtain ⟨hl, φ, hh, ws, r, rr, tb, rs, e, q1, q2⟩ := spM_imp hB hsp
  refine ⟨_, hb cv A outer s H E ⟨T, φ, H⟩ hcode rfl hr, ?_⟩
  unfold runB at e
  cases q : B (ws.map some ++ List.replicate (N.length - ws.length) none) hh with
  | none => rw [q] at e; cases e
  | some p =>
    obtain ⟨o, h'⟩ := p
    rw [q] at e
    refine ⟨φ, _, hh, (o, h'), ⟨rr, tb, .refl _ _⟩, erep_start rs, q, ?_⟩
    cases o with
    | nx ρ => cases e; exact fun φ' σ' H' b er => q1 .non rfl φ' H' .non b.x b.n.hr b.n.tb .non
    | rt u => cases e; exact fun φ' H' v b rv => q1 u rfl φ' H' v b.x b.n.hr b.n.tb rv
    | exc ex ρ => cases e; exact fun φ' σ' H' cls dd b er rx => q2 ex rfl φ' H' cls dd b.x b.n.hr b.n.tb rx
    | bk ρ => cases e
    | ct ρ => cases e
/-- how a def without defaults is called -/
theorem cal_of0 (D : DOk P w K mg base T k d ps m) (n : Nat) (ks : List Str) (sel : List Nat) (hd : d.dfl = [])
    (h : ∀ (kV doc pm : Value) (an : Option Addr) (cdv ct : Value) (us ws : List Value), us.length = n → ws.length = ks.length → bindArgs (PySem.W.fnOf d.name d.qual d.params d.body d.scope .none kV doc pm an cdv ct) ⟨us, ks.zip ws⟩ = pure (ps.zip (pickL sel (us ++ ws))))
    (hl : ∀ {α : Type} (l : List α), l.length = n + ks.length → (pickL sel l).length = ps.length) : Cal P w K mg base T k (.ref (He.fAd K d.at_)) n ks sel [] m := by
  obtain ⟨fd, F, G⟩ := D.ex
  have e : d.dvs K = [] := by unfold He.DefD.dvs; rw [hd]; rfl
  rw [e] at F
  exact ⟨_, fd, ps, [], rfl, G, F.kp, bg_of0 F n ks sel h, fun _ _ => .nil, fun l hh => hl l (by simpa using hh)⟩
/-- .. with defaults -/
theorem cal_of1 (D : DOk P w K mg base T k d ps m) (n : Nat) (ks : List Str) (sel : List Nat) (dws : List W) (hd : d.dfl ≠ []) (hw : ∀ φ H, Reps K φ H dws (d.dvs K))
    (h : ∀ (T : Addr) (kV doc pm : Value) (an : Option Addr) (cdv ct : Value) (us ws its : List Value), us.length = n → ws.length = ks.length → its.length = dws.length →
      ∃ k, bindArgs (PySem.W.fnOf d.name d.qual d.params d.body d.scope (.ref T) kV doc pm an cdv ct) ⟨us, ks.zip ws⟩ = seqItems? (.ref T) >>= k ∧ k (some its.toArray) = pure (ps.zip (pickL sel (us ++ ws ++ its))))
    (hl : ∀ {α : Type} (l : List α), l.length = n + ks.length + dws.length → (pickL sel l).length = ps.length) : Cal P w K mg base T k (.ref (He.fAd K d.at_)) n ks sel dws m := by
  obtain ⟨fd, F, G⟩ := D.ex
  refine ⟨_, fd, ps, d.dvs K, rfl, G, F.kp, bg_of1 F n ks sel (fun z => hd ?_) (fun T kV doc pm an cdv ct us ws its h1 h2 h3 => h T kV doc pm an cdv ct us ws its h1 h2 (h3.trans (hw [] (fun _ => none)).length.symm)), hw, hl⟩
  cases q : d.dfl with
  | nil => rfl
  | cons a b =>
    have z' : d.dfl.map (He.Dv.v K) = [] := z
    rw [q] at z'
    cases z'
end
/-! ### names of the module -/
section
variable {X : Cx}
theorem glo_is_int {x : Str} {i : Int} (h : ∃ t, X.mg x = some (.int i t)) : GloIs X x (.int i) := by
  obtain ⟨t, e⟩ := h
  exact ⟨_, .int i, e, ⟨t, rfl⟩, fun _ _ => .int i⟩
theorem glo_is_str {x z : Str} (h : ∃ t, X.mg x = some (.str z t)) : GloIs X x (.str z) := by
  obtain ⟨t, e⟩ := h
  exact ⟨_, .str z, e, ⟨t, rfl⟩, fun _ _ => .str z⟩
theorem glo_is_glo {x : Str} (h : X.mg x = some (.ref (He.ga X.K x))) : GloIs X x (.glo x) := ⟨_, .ref _, h, rfl, fun _ _ => .glo x⟩
/-- a tuple of the module's top -/
theorem glo_is_tup {x : Str} {ws : List W} {vs : List V} (h : X.mg x = some (.ref (He.ga X.K x))) (hT : ∀ H, SqT X.K H (He.ga X.K x) vs) (r : ∀ φ H, Reps X.K φ H ws vs) : GloIs X x (.tup ws) := ⟨_, .ref _, h, rfl, fun φ H => .tup (hT H) (r φ H)⟩
/-- constants as W -/
def dvW : He.Dv → W
  | .non => .non
  | .bl b => .bl b
  | .int i => .int i
  | .str s => .str s
  | .ty n => .ty n
  | .glo x => .glo x
  | _ => .non
def dvOk : He.Dv → Bool
  | .byt _ => false
  | .flt _ => false
  | .adr _ => false
  | _ => true
theorem dv_rep {K : PySem.W.Frag} {φ : List Addr} {H : Hp} {d : He.Dv} (h : dvOk d = true) : Rep K φ H (dvW d) (d.v K) := by
  cases d <;> first | (cases h; done) | constructor
theorem dvs_rep {K : PySem.W.Frag} {φ : List Addr} {H : Hp} : ∀ {l : List He.Dv}, l.all dvOk = true → Reps K φ H (l.map dvW) (l.map (He.Dv.v K))
  | [], _ => .nil
  | d :: l, h => by
    rw [List.all_cons, Bool.and_eq_true] at h
    exact .cons (dv_rep h.1) (dvs_rep h.2)
theorem glo_is_tupB {x : Str} {l : List He.Dv} (h : X.mg x = some (.ref (He.ga X.K x))) (hB : He.tupB X.K x l = true) (hl : l.all dvOk = true) : GloIs X x (.tup (l.map dvW)) :=
  glo_is_tup h (fun H => He.tupB_ok hB H) fun φ H => dvs_rep hl
end
end Mp

set_option Elab.async false
set_option linter.all false
set_option autoImplicit false
set_option maxRecDepth 100000
set_option maxHeartbeats 4000000
/-! Mx1: an own exception over ValueError whose __init__ says super().__init__(x); self.f = x. -/
namespace Mp
open PySem PySem.Spec PySem.W PySem.Calls PyProof.Rows
/-- the body of such an __init__ -/
def IsInit1 (sn x f : Str) (body : List Stmt) : Prop := ∃ p0 p1 p2 p3 p4 p5 p6 p7 p8 p9, body =
  [.Expr (.Call (.Attribute (.Call (.Name "super" p0) [] [] p1) "__init__" p2) [.Name x p3] [] p4) p5, .Assign [.Attribute (.Name sn p6) f p7] (.Name x p8) p9] ∧ ∃ pl : Env → Sem Bool, ∀ env : Env, eval (.Call (.Attribute (.Call (.Name "super" p0) [] [] p1) "__init__" p2) [.Name x p3] [] p4) env = (do
      let ov ← attributeBase (.Call (.Name "super" p0) [] [] p1) "__init__" env (eval (.Call (.Name "super" p0) [] [] p1) env)
      standAt p2.atName
      let (f, first) ← holding [ov] (getMethod ov "__init__" (pl env))
      callWith p4 f first (backTo p4 (starEach [.Name x p3] env)) [])
/-- what K says of the function at fI, of the class at C -/
structure XI1 (P : Program) (K : Frag) (C fI : Addr) (sn x f : Str) : Prop where
  fn : ∃ (name qual : Str) (params : Arguments) (body : List Stmt) (scope : Scope) (dV kV doc pm cdv ct oc : Value) (an od : Option Addr) (osl : Array (Option Value)) (cc cda D : Addr) (vs : Array Value) (file : Str) (tf : Tok) (ccl cl : Value) (cdd cld : Option Addr) (ccs csl : Array (Option Value)) (cdD : ClassData) (ar : Arg),
    K.lookup fI = some ⟨oc, od, .func (ksFn name qual params body scope dV kV doc pm an (.ref cda) ct cc), osl⟩ ∧ codeIn K (.ref cda) qual = true ∧
    K.lookup cda = some ⟨ccl, cdd, .fields vs, ccs⟩ ∧ vs[2]? = some (.str file tf) ∧ ((P.main.file : Str) == file) = true ∧ K.lookup cc = some ⟨cl, cld, .cell (some (.ref D)), csl⟩ ∧ clsIn K D = some cdD ∧ mroIn K C (.ref D) = some true ∧
    ks_superIn K C D "__init__" = some (some (.builtin "ValueError.__init__")) ∧
    IsInit1 sn x f body ∧ (params.posonlyargs ++ params.args).head? = some ar ∧ ar.arg = sn ∧ (∀ us : List Value, us.length = 2 → bindArgs (ksFn name qual params body scope dV kV doc pm an (.ref cda) ct cc) ⟨us, []⟩ = pure ([sn, x].zip us)) ∧
    scope.names.lookup sn = some .local ∧ scope.names.lookup x = some .local ∧ scope.names.lookup ("super" : Str) = some .globalImplicit ∧ scope.names.lookup ("__class__" : Str) = some .free ∧ (∀ y ∈ scope.names, y.2 ≠ .cell) ∧ scope.kind = .function ∧ scope.isCoroutine = false ∧ scope.isGenerator = false
  nx : (sn == x) = false
  dbx : (x == ("__debug__" : Str)) = false
  dbs : (sn == ("__debug__" : Str)) = false
  top_ : (P.main.scope.names.lookup ("super" : Str)).isSome = false
  sup : subIn K (.ref C) (.type "ValueError") = some true
  opq : nsIn K cStatics "thirdparty.any" = some none
  noat : findIn K (.ref C) f = some none
  oex : L2.OexC K C
section
variable {P : Program} {w : World} {K : Frag} {A : Around} {R : Result → Shared → Prop} {h : Heap} {g : Array GenState} {d : Drawn} {t : Nat} {os : OsState} {C fI e t0 : Addr} {sn x f : Str} {mg mb : Str → Option Value} {u : Value}
theorem init1 (T : XI1 P K C fI sn x f) (X : K.In h) (hg : h.Ns mainGlobals mg) (hm : mg "super" = none) (hb : h.Ns builtinsNs mb) (hmb : mb "super" = some (.type "super")) (hlim : h.NoLimit) (room : A.depth < recursionLimit) (he : h.get? e = some (HandSPX.excO C t0)) (hke : K.lookup e = none)
    (hR : ∀ h' t1 dx tk, (∀ b o, b ≠ e → h.get? b = some o → h'.get? b = some o) → h.objs.size ≤ dx → dx ≠ e → h'.get? e = some { cls := .ref C, dict := some dx, data := .fields #[.ref t1, .none, .none, .none, .bool false, .none] } → h'.Ns1 dx (fun y => if y = f then some u else none) → R (.ok (.ret .none)) ⟨h', g, d, tk, os⟩) :
    codeAny (model P w) A (.call (.ref fI) ⟨[.ref e, u], []⟩) R ⟨h, g, d, t, os⟩ := by
  obtain ⟨name, qual, params, body, scope, dV, kV, doc, pm, cdv, ct, oc, an, od, osl, cc, cda, D, vs, file, tf, ccl, cl, cdd, cld, ccs, csl, cdD, ar, hf, hcd, hcode, hvs, hfile, hcell, hD, hsub, hsup, ⟨p0, p1, p2, p3, p4, p5, p6, p7, p8, p9, rfl, pl, hev⟩, hp, rfl, hbind, ls, lx, lsup, lcl, hnc, hk, hco, hgen⟩ := T.fn
  obtain ⟨nm, q, N, bs, bm, sn', sub, ab, col, dd, k0, k1, k2, k3, k5, hC, hbm⟩ := T.oex.cls
  have hcl : clsIn K C = some { name := nm, bases := bs, mro := .ref C :: bm, ns := N, qualname := q, hasDict := true, slotNames := sn', subclasses := sub, abstract := ab, collection := col, hasDel := false } := by unfold clsIn; rw [hC] <;> rfl
  have kb : ∀ b : Value, bindArgs (ksFn name qual params _ scope dV kV doc pm an (.ref cda) ct cc) ⟨[.ref e, b], []⟩ = pure [(ar.arg, .ref e), (x, b)] := fun b => hbind [.ref e, b] rfl
  refine ks_codeAny_call_defAt (s := ⟨h, g, d, t, os⟩) (binds := [(ar.arg, .ref e), (x, u)]) room (X _ _ hf) rfl hlim (codeRec_of X hcd) rfl (.of_eq (kb u)) hnc (fun y hy => ?_) (fun h₀ hns hk₀ => ?_) hco hgen hk
  · rcases List.mem_cons.mp hy with rfl | hy
    · exact ls
    · rcases List.mem_cons.mp hy with rfl | hy
      · exact lx
      · cases hy
  have X0 : K.In h₀ := X.keeps hk₀
  have he0 : h₀.get? e = some (HandSPX.excO C t0) := hk₀ _ _ he
  have lke : ([(ar.arg, Value.ref e), (x, u)] : List (Str × Value)).reverse.lookup ar.arg = some (.ref e) := by
    show List.lookup ar.arg [(x, u), (ar.arg, .ref e)] = _
    rw [List.lookup_cons, T.nx]
    simp
  have lku : ([(ar.arg, Value.ref e), (x, u)] : List (Str × Value)).reverse.lookup x = some u := by
    show List.lookup x [(x, u), (ar.arg, .ref e)] = _
    simp
  obtain ⟨oD, hD1, hD2⟩ : ∃ oD, h₀.get? D = some oD ∧ oD.data = .cls cdD := by
    unfold clsIn at hD
    split at hD
    · rename_i c d cd' sl ho
      cases hD
      exact ⟨_, X0 _ _ ho, rfl⟩
    · cases hD
  have I0 : InstAt h₀ e (HandSPX.excO C t0) C none := ⟨he0, rfl, rfl, trivial⟩
  have hns1 : ∀ (h' : Heap), (∀ b o, h₀.get? b = some o → h'.get? b = some o) → h'.Ns h.objs.size fun y => ([(ar.arg, Value.ref e), (x, u)] : List (Str × Value)).reverse.lookup y := fun h' k => hns.keeps k
  have hi : interactive (ksEnv qual scope h.objs.size fI (.ref cda) cc) = false := by
    unfold interactive
    simp [hk]
  have hsw : swapsWith (.Call (.Attribute (.Call (.Name "super" p0) [] [] p1) "__init__" p2) [.Name x p3] [] p4) none p5.line (ksEnv qual scope h.objs.size fI (.ref cda) cc) = pure false := by rfl
  show _root_.PySem.wpAt (model P w) (A.deeper (ksEnv qual scope h.objs.size fI (.ref cda) cc)) (.func _ (ksEnv qual scope h.objs.size fI (.ref cda) cc)) (execs _ (ksEnv qual scope h.objs.size fI (.ref cda) cc)) _ _ _
  refine ks_wpAt_execs_cons (ks_wpAt_Expr_any (ks_wpAt_MethodCall ?_ (hev _)) hi hsw)
  refine ks_wpAt_super_base (env := ksEnv qual scope h.objs.size fI (.ref cda) cc) lsup lcl rfl rfl (X0 _ _ hf) rfl hp rfl (X0 _ _ hcode) rfl hvs hfile T.top_ ?_
  refine ks_loadName_global hk lsup (loadGlobal_builtin (env := ksEnv qual scope h.objs.size fI (.ref cda) cc) (hg.keeps hk₀) hm (hb.keeps hk₀) hmb ⟨rfl, ?_⟩)
  refine wpAny_loadName_free hk lcl rfl ⟨_, X0 _ _ hcell, rfl⟩ ?_
  refine wpAny_loadName_local hk ls hns lke ?_
  refine ks_wpAny_isType_cls hD1 hD2 ⟨rfl, ?_⟩
  refine ks_wpAny_call_super hD1 hD2 he0 rfl (fun c z => by cases z) (looks_mroIn X0 hsub) (fun h1 hso k1 => ?_)
  have X1 : K.In h1 := X0.keeps k1
  have I1 : InstAt h1 e (HandSPX.excO C t0) C none := ⟨k1 _ _ he0, rfl, rfl, trivial⟩
  have hsup' : alongIn K "__init__" (((Value.ref C :: bm).dropWhile (· != .ref D)).drop 1) = some (some (.builtin "ValueError.__init__")) := by
    have z := hsup
    unfold ks_superIn at z
    rw [hcl] at z
    exact z
  refine kxs_getMethod kxs_ValueError hso (looks_opaque X1 T.opq) (l₀ := .ref C :: bm) ?_ rfl X1 hsup' (I1.type.andThen (looks_subIn X1 T.sup)) (ks_ne X1 I1 hcl) rfl ?_
  · exact fun A Q E s k q => wpAny_bind ((looks_clsIn X1 hcl) A _ E s k (wpAny_pure q))
  have k2 : ∀ b o, h1.get? b = some o → (h1.push (kxs_mw "ValueError.__init__" e)).get? b = some o := fun b o z => Heap.get?_push_of_some _ z
  have hu : (h1.push (kxs_mw "ValueError.__init__" e)).get? h1.objs.size = some (kxs_mw "ValueError.__init__" e) := Heap.get?_push_at rfl rfl
  have he2 : (h1.push (kxs_mw "ValueError.__init__" e)).get? e = some (HandSPX.excO C t0) := k2 _ _ (k1 _ _ he0)
  refine kxs_callWith (i := "ValueError.__init__") (x := e) rfl (evalArgs_plain (spliced_cons (wpAny_Name (wpAny_loadName_local hk lx (hns1 _ fun b o z => k2 _ _ (k1 _ _ z)) lku (spliced_nil ⟨hu, ?_⟩)) T.dbx)))
  -- the wrapper runs
  have hC2 := (X1.keeps k2) _ _ hC
  refine wpAny_call (codeAny_of_tree ?_)
  show wpAny _ _ (callAny (.ref h1.objs.size) ⟨[u], []⟩) _ _ _
  simp only [callAny]
  refine wpAny_bind (wpAny_load hu ?_)
  simp only [kxs_mw, show (Value.type "method-wrapper" == Value.type "method" || Value.type "method-wrapper" == Value.type "builtin_function_or_method" || Value.type "method-wrapper" == Value.type "method-wrapper") = true by decide, if_true]
  refine KFB.if_so (by decide) ?_
  refine wpAny_bind (check_bound_init F.excBase_ValueError.toExcCallFacts hC2 he2 rfl ?_)
  refine wpAny_bind (wpAny_pure (wpAny_pure ?_))
  refine ⟨plainId_quiet F.excBase_ValueError.init.plain _, codeAny_builtin F.excBase_ValueError.initEntry ?_⟩
  refine exc_init_tree (cls := .ref C) (t0 := t0) (dv := none) (c2 := .none) (c3 := .none) (b4 := .bool false) he2 (by show 1 ≤ sizeLine; rw [sizeLine_eq]; omega) fun h3 k3 he3 ht3 => ?_
  -- self.f = x
  have kk : ∀ b o, b ≠ e → h₀.get? b = some o → h3.get? b = some o := fun b o n z => k3 b o n (k2 _ _ (k1 _ _ z))
  have Le : h.objs.size ≠ e := fun z => by
    have := Heap.lt_size he
    rw [← z] at this
    exact Nat.lt_irrefl _ this
  have hns3 : h3.Ns h.objs.size fun y => ([(ar.arg, Value.ref e), (x, u)] : List (Str × Value)).reverse.lookup y := by
    obtain ⟨o, es, ep, ho, hr⟩ := hns
    exact ⟨o, es, ep, kk _ _ Le ho, hr⟩
  have X3 : K.In h3 := fun b o z => kk b o (fun zz => by rw [zz, hke] at z; cases z) (X0 _ _ z)
  refine ks_wpAt_execs_cons (ks_wpAt_Assign_Attr (wpAt_of_wpAny (wpAny_Name (wpAny_loadName_local (env := ksEnv qual scope h.objs.size fI (.ref cda) cc) hk lx hns3 lku (wpAny_Name (wpAny_loadName_local (env := ksEnv qual scope h.objs.size fI (.ref cda) cc) hk ls hns3 lke ?_) T.dbs)) T.dbx)) rfl)
  have he3' : h3.get? e = some { cls := .ref C, dict := none, data := .fields #[.ref (h1.push (kxs_mw "ValueError.__init__" e)).objs.size, .none, .none, .none, .bool false, .none] } := he3
  refine set_plain X3 (ox := { cls := .ref C, dict := none, data := .fields #[.ref (h1.push (kxs_mw "ValueError.__init__" e)).objs.size, .none, .none, .none, .bool false, .none] }) (od := none) ⟨he3', rfl, rfl, trivial⟩ T.oex.sa ?_
  refine HandSPX.exc_osa X3 he3' hcl (show HandSPX.refsVE (.ref C :: bm) = true from hbm) rfl T.noat (fun h4 tk' dx k4 dn dne hx hn => ?_)
  refine wpAt_of_wpAny (wpAny_execs_nil ?_)
  refine hR h4 _ dx _ (fun b o nb z => k4 b o nb (kk b o nb (hk₀ b o z))) ?_ dne hx hn
  obtain ⟨oL, _, _, hL, _⟩ := hns3
  exact Nat.le_of_lt (Nat.lt_of_lt_of_le (Heap.lt_size hL) dn)
end
end Mp

set_option Elab.async false
set_option linter.all false
set_option autoImplicit false
set_option maxRecDepth 100000
set_option maxHeartbeats 4000000
/-! Mx2: C(x) for such a class; raise. -/
namespace Mp
open PySem PySem.Spec PyProof.Rows L2
/-- C(e): the exception's dict holds f -/
def tMkX (C : Addr) (f : Str) (ta : TA) : L2.St → Hp → XK → Prop := fun σ H Q => ta σ H fun vs H1 => ∃ v, vs = [v] ∧ ∀ d, H1 d = none → Q (.ref C) (some d) (upd H1 d (.xd [(f, v)]))
section
variable {X : Cx} {pins : List (Addr × Obj)} {σ : L2.St} {H : Hp} {s : Shared} {a C dx : Addr} {f : Str} {y : V} {u : Value}
/-- the exception got its dict -/
theorem ost_kept {hp h' : Heap} {g : Array GenState} {d : Drawn} {t : Nat} {os : OsState} {t1 : Addr} (I : Inv X pins σ H ⟨hp, g, d, t, os⟩) (e : H a = some (exo a C none)) (ry : RelV y u)
    (k : ∀ b o, b ≠ a → hp.get? b = some o → h'.get? b = some o) (dn : hp.objs.size ≤ dx) (dne : dx ≠ a) (hx : h'.get? a = some { cls := .ref C, dict := some dx, data := .fields #[.ref t1, .none, .none, .none, .bool false, .none] }) (hn : h'.Ns1 dx fun y => if y = f then some u else none) :
    H dx = none ∧ Un (frs X.stack) [] H (upd (upd H dx (exd dx [(f, y)])) a (exo a C (some dx))) hp h' ∧ HOk X.prog X.w (upd (upd H dx (exd dx [(f, y)])) a (exo a C (some dx))) h' := by
  have hnd : H dx = none := I.hok.fresh dn
  have nd : ∀ {b : Addr} {o : Obj}, hp.get? b = some o → b ≠ dx := fun {b o} q => Nat.ne_of_lt (Nat.lt_of_lt_of_le (Heap.lt_size q) dn)
  have na : ∀ {b : Addr}, H b = none → b ≠ a := fun {b} n z => by
    rw [z, e] at n
    cases n
  refine ⟨hnd, ⟨fun b o q n _ _ => k b o (na n) q, fun b o q n _ _ => ⟨o.slots, k b o (na n) q⟩, fun b o q n _ => by rw [upd_ne (na n), upd_ne (nd q)]; exact n, fun b o q _ => ?_, fun b xs q => by rw [upd_ne (at_ne e q exo_tup), upd_ne (ne_of_none q hnd)]; exact q,
    fun b o v q => by rw [upd_ne (at_ne e q exo_frz), upd_ne (ne_of_none q hnd)]; exact q, fun b ps q => ⟨#[], by rw [upd_ne (at_ne e q exo_tbl), upd_ne (ne_of_none q hnd), q]; simp⟩⟩, fun b o q => ?_⟩
  · by_cases hb : b = a
    · exact ⟨_, by rw [hb]; exact hx⟩
    · exact ⟨o, k b o hb q⟩
  by_cases hb : b = a
  · subst hb
    rw [upd_same] at q
    cases q
    exact exo_ok hx
  · rw [upd_ne hb] at q
    by_cases hd : b = dx
    · subst hd
      rw [upd_same] at q
      cases q
      exact exd_ok hn (relO_put (fs := []) ry fun g => True.intro)
    · rw [upd_ne hd] at q
      exact (I.hok b o q).stay (fun c v hc z => k c v (by
          rcases hc with hc | hc
          · rw [hc]
            exact hb
          · exact at_ne e hc exo_own) z)
        (fun c hc => by rw [upd_ne (at_ne e hc exo_own), upd_ne (ne_of_none hc hnd)]; exact hc) (fun c xs hc => by rw [upd_ne (at_ne e hc exo_tup), upd_ne (ne_of_none hc hnd)]; exact hc)
end
section
variable {X : Cx} {e : Expr} {ta : TA} {p pos : Pos} {k : Nat}
theorem pmk_x {nm sn x f : Str} {C fI : Addr} (T : XI1 X.prog X.K C fI sn x f) (iC : PySem.W.findIn X.K (.ref C) "__init__" = some (some (.ref fI))) (tI : PySem.W.typeIn X.K (.ref fI) = some (.type "function")) (hr : Room (k + 1) X.A) (ms : X.mg "super" = none) (hg : Gl X nm) (hm : X.mg nm = some (.ref C)) (ha : PA X [e] ta)
    (hdb : (nm == ("__debug__" : Str)) = false := by decide) (he : starEach [e] X.env = (false, eval e X.env) :: starEach [] X.env := by rfl) (hpl : (backTo pos (starEach [] X.env)).any (·.1) = false := by rfl) :
    PMk X (.Call (.Name nm p) [e] [] pos) (tMkX C f ta) := by
  intro pins s σ H Q I h
  obtain ⟨nm', q, N, bs, bm, sn', sub, ab, col, dd, k0, k1, k2, k3, k5, hC, hbm⟩ := T.oex.cls
  refine wpAny_Call_Name_kw (ld_glob I hg hm ?_ hdb)
  refine PySem.W.callWith_K (h₀ := X.base) I.ok.mod.kin T.oex.kC (thn (ha.run pos pins s σ H _ I h) fun us s1 ⟨vs, H1, I1, r1, v, ev, q1⟩ => ⟨I1.kIn, ?_⟩) he hpl
  subst ev
  obtain ⟨u, rfl, ru⟩ := vals1 r1
  show wpAny _ _ (call (.ref C) [u]) _ _ _
  obtain ⟨hp, g, dr, tk, os⟩ := s1
  have hsz : hp.objs.size ≤ hp.objs.size + 1 := Nat.le_succ _
  have hn : H1 (hp.objs.size + 1) = none := I1.hok.fresh hsz
  have kk : ∀ b o, hp.get? b = some o → ((hp.push (PySem.W.kdv_tup [u])).push (PySem.HandSPX.excO C hp.objs.size)).get? b = some o := fun b o e => Heap.get?_push_of_some _ (Heap.get?_push_of_some _ e)
  have hget : ((hp.push (PySem.W.kdv_tup [u])).push (PySem.HandSPX.excO C hp.objs.size)).get? (hp.objs.size + 1) = some (PySem.HandSPX.excO C hp.objs.size) := by heap_get
  have I2 : Inv X pins σ (upd H1 (hp.objs.size + 1) (exo (hp.objs.size + 1) C none)) ⟨(hp.push (PySem.W.kdv_tup [u])).push (PySem.HandSPX.excO C hp.objs.size), g, dr, tk, os⟩ :=
    I1.laid (t' := tk) (a := hp.objs.size + 1) (o := exo (hp.objs.size + 1) C none) (h' := (hp.push (PySem.W.kdv_tup [u])).push (PySem.HandSPX.excO C hp.objs.size)) kk hsz (exo_ok hget)
  have hke : X.K.lookup (hp.objs.size + 1) = none := by
    cases z : X.K.lookup (hp.objs.size + 1) with
    | none => rfl
    | some o =>
      have := Heap.lt_size (I1.kIn _ _ z)
      exact absurd this (by simp)
  obtain ⟨mb, b1, b2⟩ := I2.mod.blt
  refine wpAny_call (PySem.HandSPX.call_own F.excBase_ValueError (fun Y => PySem.HandSPX.refsVE_contains Y bm hbm) (I1.kIn _ _ hC) (PySem.W.looks_findIn I1.kIn iC) (fun self => PySem.W.bind_fn I1.kIn self tI) (by show 1 ≤ sizeLine; rw [sizeLine_eq]; omega)
    (init1 (t0 := hp.objs.size) (mg := X.mg) (mb := mb) T I2.kIn (I2.mod.glob.keeps I2.bk) ms (b1.keeps I2.bk) ((b2 _ (by decide)).trans (by decide +kernel)) (I2.mod.nolimit.keeps I2.bk) (hr.make C [u] []).depth hget hke fun h' t1 dx tk' k dn dne hx hns => ?_))
  obtain ⟨hnd, un, hok⟩ := ost_kept I2 upd_same ru k dn dne hx hns
  have hd1 : H1 dx = none := by rw [upd_ne dne] at hnd; exact hnd
  refine ⟨rfl, mk_end (raises_own T.oex.exC T.oex.tyC) I1 hsz kk un hok rfl I1.bare upd_same (fs := [(f, v)]) (d := dx) ?_ hd1 ?_⟩
  · rw [upd_ne dne, upd_same]
  · have e2 : upd (del (upd (upd (upd H1 (hp.objs.size + 1) (exo (hp.objs.size + 1) C none)) dx (exd dx [(f, v)])) (hp.objs.size + 1) (exo (hp.objs.size + 1) C (some dx))) (hp.objs.size + 1)) dx (.xd [(f, v)]) = upd H1 dx (.xd [(f, v)]) := by
      funext b
      by_cases hb : b = dx
      · rw [hb, upd_same, upd_same]
      · rw [upd_ne hb, upd_ne hb]
        by_cases ha : b = hp.objs.size + 1
        · rw [ha, del_same, hn]
        · rw [del_ne ha, upd_ne ha, upd_ne hb, upd_ne ha]
    rw [e2]
    exact q1 dx hd1
end
/-- what is known of such a class, by its name c; f: what it keeps -/
structure XCls (P : Program) (K : PySem.W.Frag) (mg : Str → Option Value) (c f : Str) : Prop where
  ex : ∃ fI sn x, XI1 P K (He.ga K c) fI sn x f ∧ PySem.W.findIn K (.ref (He.ga K c)) "__init__" = some (some (.ref fI)) ∧ PySem.W.typeIn K (.ref fI) = some (.type "function")
  at_ : mg c = some (.ref (He.ga K c))
  sup : mg "super" = none
/-- raise C(e) -/
def sRaise (c f : Str) (e : Sh) : Ss := sb (aCons e aNil) fun ws ρ h => match ws with
  | [w] => some (.exc ⟨c, [(f, w)]⟩ ρ, h)
  | _ => none
section
variable {X : Cx} {G : Gx} {e : Expr} {m : Sh} {p cpos pos : Pos} {k : Nat} {c f : Str}
theorem ms_raise (hc : X.calm = true) (hr : RoomG (k + 1) X.A) (tk : Takes X G.Wx) (T : XCls X.prog X.K X.mg c f) (ha : ME X G e m) (hg : Gl X c := by rfl) (hdb : (c == ("__debug__" : Str)) = false := by decide)
    (he : starEach [e] X.env = (false, eval e X.env) :: starEach [] X.env := by rfl) (hpl : (backTo cpos (starEach [] X.env)).any (·.1) = false := by rfl) : MS X G (.Raise (some (.Call (.Name c p) [e] [] cpos)) none pos) (sRaise c f m) := by
  obtain ⟨fI, sn, x, T1, iC, tI⟩ := T.ex
  refine ms_of (ps_raise hc tk (pmk_x T1 iC tI hr.rm T.sup hg T.at_ (ma_cons ha ma_nil he) hdb he hpl)) fun φ ρ h r D σ H n er z q => ?_
  refine sbA n er z q fun ws φ1 H1 h1 vs b1 er1 r1 e1 => ?_
  cases r1 with
  | nil => cases e1
  | @cons w ws' v vs' rv rs =>
    cases rs with
    | cons _ _ => cases e1
    | nil =>
      cases e1
      refine ⟨v, rfl, fun d hd => ?_⟩
      have b2 := beh_new (X := X) (G := G) (o := .xd [(f, v)]) b1.n hd
      exact q φ1 σ _ _ _ (b1.trans b2) (er1.ext b2.x b1.n.hr.nt) ⟨rfl, .inr ⟨d, [(f, v)], rfl, b1.n.hr.new hd, upd_same, rfl, rv.ext b2.x b1.n.hr.nt, trivial⟩⟩
end
end Mp

set_option Elab.async false
set_option linter.all false
set_option autoImplicit false
set_option maxRecDepth 100000
set_option maxHeartbeats 4000000
/-! Mx3: try .. except C as n: m = n; the exception stays an object behind it. -/
namespace Mp
open PySem PySem.Spec PyProof.Rows L2
section
variable {X : Cx} {pins : List (Addr × Obj)} {σ : L2.St} {H : Hp} {s : Shared} {a : Addr} {oe : Obj} {vs : Array Value} {cls : Value} {d : Option Addr}
/-- the pin becomes a tracked object -/
theorem track (I : Inv X ((a, oe) :: pins) σ H s) (hz : Zc cls d oe) (hd : oe.data = .fields vs) (n0 : X.s_0.heap.get? a = none) (np : ∀ p ∈ X.pn ++ pins, p.1 ≠ a) : Inv X pins σ (upd H a (exT a cls d)) s := by
  obtain ⟨ha, na, nL, nF, nc⟩ := I.pin (a, oe) (List.mem_append.mpr (.inr List.mem_cons_self))
  have ha : s.heap.get? a = some oe := ha
  have na : H a = none := na
  have s0 : ∀ {b : Addr} {o : Obj}, X.s_0.heap.get? b = some o → b ≠ a := fun {b o} e z => by rw [z, n0] at e; cases e
  have st : ∀ {b : Addr} {o : HO}, H b = some o → b ≠ a := fun {b o} e z => by rw [z, na] at e; cases e
  refine ⟨I.ok, I.os, I.bare, ⟨I.base.keep, I.base.slot, fun b o e n hx => ?_, I.base.there, fun b xs e => ?_, fun b o u e => ?_, fun b ps e => ?_⟩, I.loc, I.cell, ?_, fun y c e => ?_, fun p hp => ?_, fun b ob e => ?_, I.len⟩
  · rw [upd_ne (s0 e)]; exact I.base.free b o e n hx
  · have q := I.base.tups b xs e
    rw [upd_ne (st q)]; exact q
  · have q := I.base.frzs b o u e
    rw [upd_ne (st q)]; exact q
  · obtain ⟨more, q⟩ := I.base.tbls b ps e
    exact ⟨more, by rw [upd_ne (st q)]; exact q⟩
  · rw [upd_ne (Ne.symm nL)]; exact I.free
  · have q := I.freeC y c e
    by_cases z : c = a
    · exfalso
      obtain ⟨v, o, e1, e2⟩ := I.cell y c e
      rw [z, ha] at e1
      cases e1
      rw [hd] at e2
      cases e2
    · rw [upd_ne z]; exact q
  · obtain ⟨p1, p2, p3, p4, p5⟩ := I.pin p (by
      rcases List.mem_append.mp hp with h | h
      · exact List.mem_append_left _ h
      · exact List.mem_append_right _ (List.mem_cons_of_mem _ h))
    exact ⟨p1, by rw [upd_ne (np p hp)]; exact p2, p3, p4, p5⟩
  · by_cases z : b = a
    · subst z
      rw [upd_same] at e
      cases e
      exact ⟨⟨oe, vs, ha, hz, hd⟩, ⟨oe, ha⟩, fun h1 h2 ⟨o, v, e1, e2, e3⟩ k => ⟨o, v, k o e1, e2, e3⟩⟩
    · rw [upd_ne z] at e
      exact (I.hok b ob e).stay (fun c u hc q => q) (fun c hc => by rw [upd_ne (st hc)]; exact hc) (fun c xs hc => by rw [upd_ne (st hc)]; exact hc)
end
/-- what the clause 'except x as n: ..' wishes of an exception of the body, the exception tracked behind it -/
def wKeep (K : PySem.W.Frag) (c : Value) (i : Nat) (ts : Addr → Value → Option Addr → TS) (Wout : WX) (D : Ends) : WX := fun cls d σ H =>
  ∃ b, PySem.W.exmOne K cls c = some b ∧ (b = true → ∀ a, H a = none → ts a cls d { nx := fun σ' H' => D.nx (σ'.set i none) (upd H' a (exT a cls d)), rt := fun _ _ => False, bk := fun _ _ => False, ct := fun _ _ => False } (σ.set i (some (.ref a))) H) ∧ (b = false → Wout cls d σ H)
section
variable {X : Cx} {x n : Str} {c : Value} {i : Nat} {body suite : List Stmt} {b₀ : Stmt} {npp pos pos' : Pos} {tb : WX → TS} {ts : Addr → Value → Option Addr → TS} {Wout : WX}
theorem ps_try_keep (hs : X.stack = X.env :: X.outer) (hf : X.env.frame = some X.env.locals) (hN : X.N.Nodup) (hex : X.ex = []) (hi : X.N[i]? = some n) (hln : X.env.kindOf n = some .local) (hc : Names X x c) (tk : Takes X Wout)
    (hb : ∀ (W : WX) (pn : List (Addr × Obj)) (xe : Value → Shared → Prop), Takes (X.tr pn xe) W → PassesOwn (model X.prog X.w) X.A X.env xe → PSs (X.tr pn xe) body (tb W))
    (hsu : ∀ (a : Addr) (oe : Obj) (cls : Value) (d : Option Addr) (pn : List (Addr × Obj)), Zc cls d oe → (∃ vs, oe.data = .fields vs) → PSs (X.suite a ((a, oe) :: pn)) (b₀ :: suite) (ts a cls d)) :
    PS X (.Try body [.ExceptHandler (some (.Name x npp)) (some n) (b₀ :: suite) pos'] [] [] pos) (fun D σ H => tb (wKeep X.K c i ts Wout D) D σ H) := by
  refine ⟨fun pins s σ H D I h => ?_⟩
  have ok := I.ok
  have hfr : X.A.frames = some (X.env :: X.outer) := by rw [ok.frames, hs]
  have hloc : Loc X.env.scope n := .inl hln
  refine wpAny_Try_except ?_
  refine wpAny_mono ((hb (wKeep X.K c i ts Wout D) (X.pn ++ pins) (fun e s₁ => wpAny (model X.prog X.w) X.A (noteFrame e X.env) (fun _ s₂ => wpAny (model X.prog X.w) X.A (setFlight e none) (fun _ s₃ =>
    wpAny (model X.prog X.w) X.A (handleBy e X.env [.ExceptHandler (some (.Name x npp)) (some n) (b₀ :: suite) pos']) (SP X pins D) X.xe s₃) X.xe s₂) X.xe s₁) (fun u s' xx => ?_) PassesOwn.looking).run [] s σ H D (I.toTry _) h) (fun f s1 hsp => ?_) (fun e s1 he => he)
  · obtain ⟨a, B, sI, pins', σ', H', cls, d, rfl, J', nb, up, sky, na, os, ag, b, hb1, hyes, hno⟩ := xx
    have J : Inv X pins σ' H' sI := J'.ofTry ok
    have sky' : Sky B (X.env :: X.outer) a (Zc cls d) X.env.locals s'.heap := by rw [← hs]; exact sky
    show wpAny (model X.prog X.w) X.A (noteFrame (.ref a) X.env) _ _ _
    refine Sky.land Zc.steady hfr hf sky' fun h3 fl3 up3 => ?_
    have J3 : Inv X pins σ' H' { s' with heap := h3 } := J.landed nb fl3.1 (up.trans up3) os ag
    obtain ⟨oe3, vs3, he3, hz3, hd3⟩ := fl3.there
    have notFr : ∀ {h : Heap} {o : Obj} {vs : Array Value}, h.FunFrames B (X.env :: X.outer) → h.get? a = some o → o.data = .fields vs → a ∉ frs (X.env :: X.outer) := fun {h o vs} ff e dd hm => by
      obtain ⟨_, o', e', hnf⟩ := ff.mem hm
      rw [e] at e'; cases e'
      exact hnf _ dd
    have nfr := notFr fl3.2.2.1 he3 hd3
    have nL : a ≠ X.env.locals := fun z => nfr (List.mem_filterMap.mpr ⟨X.env, List.mem_cons_self, by rw [hf, z]⟩)
    have nF : a ∉ X.fs := fun hm => by
      obtain ⟨e, he, q⟩ := List.mem_filterMap.mp hm
      exact nfr (List.mem_filterMap.mpr ⟨e, List.mem_cons_of_mem _ he, q⟩)
    -- the exception is new since the try began
    have nI : sI.heap.get? a = none := by
      cases z : sI.heap.get? a with
      | none => rfl
      | some o =>
        have q := nb a o z (by rw [hs]; exact nfr)
        have q2 : B.get? a = none := fl3.2.1
        rw [q2] at q
        cases q
    have n0 : X.s_0.heap.get? a = none := by
      cases z : X.s_0.heap.get? a with
      | none => rfl
      | some o =>
        obtain ⟨o', q⟩ := J.base.there a o z (by rw [hex]; simp)
        rw [nI] at q
        cases q
    have np : ∀ p ∈ X.pn ++ pins, p.1 ≠ a := fun p hp z => by
      obtain ⟨q, _⟩ := J.pin p hp
      rw [z, nI] at q
      cases q
    have S3 := J3.suite he3 hd3 na nL nF
    refine wpAny_handleBy_cons (codeAny_handlers_test ?_) (by intro q; cases q)
    have LT : PySem.W.Looks (model X.prog X.w) h3 (typeOf (.ref a)) cls := fun A Q E s k q => wpAny_typeOf_ref (k _ _ he3) (by rw [hz3.1]; exact q)
    have LM := PySem.W.exm_one (M := model X.prog X.w) (J3.kIn) LT hb1
    have test : ∀ {Q : Value → Shared → Prop} {E : Value → Shared → Prop}, Q c { s' with heap := h3 } → wpAny (model X.prog X.w) (X.A.mark (some (.ref a))) (eval (.Name x npp) X.env) Q E { s' with heap := h3 } := fun {Q E} q => by
      obtain ⟨hg, hdbg, hm | ⟨hm, hv, hnn⟩⟩ := hc
      · exact ld_glob (X := X.suite a ((a, oe3) :: (X.pn ++ pins))) S3 hg hm q hdbg
      · exact ld_blt (X := X.suite a ((a, oe3) :: (X.pn ++ pins))) S3 hg hm hv q hnn hdbg
    refine test (LM.here ?_)
    cases b with
    | true =>
      refine codeAny_handlers_suite_as ?_
      refine HandSPX.lands_againZ fl3 fun h4 fl4 up4 => ?_
      have J4 : Inv X pins σ' H' { s' with heap := h4 } := J.landed nb fl4.1 ((up.trans up3).trans up4) os ag
      obtain ⟨oe4, vs4, he4, hz4, hd4⟩ := fl4.there
      have S4 := J4.suite he4 hd4 na nL nF
      refine store_ok (X := X.suite a ((a, oe4) :: (X.pn ++ pins))) (v := .ref a) S4 hN hi hloc rfl (fun s5 S5 => ?_) (.inr hln)
      refine wpAny_mono ((hsu a oe4 cls d (X.pn ++ pins) hz4 ⟨_, hd4⟩).run [] s5 _ H' _ S5 (hyes rfl a na)) (fun f s6 hsp => ?_) (fun _ _ z => False.elim z)
      cases f with
      | next =>
        obtain ⟨σ6, H6, S6, q6⟩ := hsp
        have K6 : Inv X ((a, oe4) :: pins) σ6 H6 s6 := ⟨ok, S6.os, S6.bare, S6.base, S6.loc, S6.cell, S6.free, S6.freeC, fun p hp => by
          refine S6.pin p ?_
          rw [List.append_nil]
          rcases List.mem_append.mp hp with hp | hp
          · exact List.mem_cons_of_mem _ (List.mem_append_left _ hp)
          · rcases List.mem_cons.mp hp with e | hp
            · rw [e]; exact List.mem_cons_self
            · exact List.mem_cons_of_mem _ (List.mem_append_right _ hp), S6.hok, S6.len⟩
        exact gone_ok K6 hN hi hln fun s7 J7 => ⟨_, _, track J7 hz4 hd4 n0 np, q6⟩
      | brk =>
        obtain ⟨σ6, H6, S6, q6⟩ := hsp
        exact q6.elim
      | cont =>
        obtain ⟨σ6, H6, S6, q6⟩ := hsp
        exact q6.elim
      | ret u =>
        obtain ⟨v6, σ6, H6, S6, r6, q6⟩ := hsp
        exact q6.elim
    | false =>
      show wpAny _ X.A (handleBy (.ref a) X.env []) _ _ _
      refine wpAny_handleBy_nil ?_
      obtain ⟨k1, k2, k3, oe, vs, T, oT, ts', he, hz, hd, h1, hr⟩ := id fl3
      unfold PySem.passOn
      refine wpAny_bind (wpAny_field he hd h1 ?_)
      rw [if_neg (show ¬ ((Value.ref T == Value.none) = true) from by simp)]
      have fin : wpAny (model X.prog X.w) X.A (setFlight (.ref a) X.env.frame) (fun _ s4 => wpAny (model X.prog X.w) X.A (throw (.ref a) : Sem Flow) (SP X pins D) X.xe s4) X.xe { s' with heap := h3 } := by
        rw [hf]
        refine HandSPX.setFlight_upZ fl3 fun h4 hh4 up4 => wpAny_throw (tk _ _ ?_)
        exact ⟨a, B, sI, pins, σ', H', cls, d, rfl, J, nb, (up.trans up3).trans up4, .inr (.inr (by rw [hs]; exact hh4)), na, os, ag, hno rfl⟩
      first
        | exact wpAny_bind (wpAny_pure (wpAny_bind fin))
        | exact wpAny_bind fin
  · cases f with
    | next =>
      obtain ⟨σ', H', J', q⟩ := hsp
      exact wpAny_execs_nil ⟨σ', H', J'.ofTry ok, q⟩
    | brk =>
      obtain ⟨σ', H', J', q⟩ := hsp
      exact ⟨σ', H', J'.ofTry ok, q⟩
    | cont =>
      obtain ⟨σ', H', J', q⟩ := hsp
      exact ⟨σ', H', J'.ofTry ok, q⟩
    | ret u =>
      obtain ⟨v, σ', H', J', r, q⟩ := hsp
      exact ⟨v, σ', H', J'.ofTry ok, r, q⟩
end
end Mp
namespace Mp
open PySem PySem.Spec PyProof.Rows L2
/-- what was nothing stays nothing, seen from behind -/
theorem Ext.back {K : PySem.W.Frag} {w : World} {φ φ' : List Addr} {H H' : Hp} {h' : Hw} (x : Ext φ H φ' H') (r : HRep K w φ' H' h') {a : Addr} (n : H' a = none) : H a = none := by
  cases q : H a with
  | none => rfl
  | some o =>
    by_cases hn : a ∈ φ
    · obtain ⟨_, o', _, _, ro⟩ := r.at_ (x.pre.subset hn)
      obtain ⟨u, hu, _⟩ := ro.notup
      rw [n] at hu
      cases hu
    · by_cases ht : ∃ ps, o = .tbl ps
      · obtain ⟨ps, rfl⟩ := ht
        obtain ⟨qs, y⟩ := x.tbl a ps q hn
        rw [n] at y
        cases y
      · have y := x.keep a o q hn fun ps e => ht ⟨ps, e⟩
        rw [n] at y
        cases y
/-- try: body / except C as n: m = n; i is n's slot, j is m's; cat: does the clause take the class -/
def sTry (cat : Str → Option Bool) (i j : Nat) (b : Ss) : Ss := fun ρ h => match b ρ h with
  | some (.exc e ρ', h') => match cat e.cls with
    | some true => if e.fs ≠ [] ∧ i < ρ'.length then some (.nx (((ρ'.set i (some (.ref h'.length))).set j (some (.ref h'.length))).set i none), h' ++ [.exn e.cls e.fs]) else none
    | some false => some (.exc e ρ', h')
    | none => none
  | o => o
section
variable {X : Cx} {G : Gx} {C n m' : Str} {i j : Nat} {body : List Stmt} {npp pos pos' p1 p2 p3 : Pos} {m : Ss} {cat : Str → Option Bool}
theorem ms_try (i j : Nat) (hs : X.stack = X.env :: X.outer) (hf : X.env.frame = some X.env.locals) (hN : X.N.Nodup) (hex : X.ex = []) (tk : Takes X G.Wx) (hat : X.mg C = some (.ref (He.ga X.K C))) (hcat : ∀ c b, cat c = some b → PySem.W.exmOne X.K (.ref (He.ga X.K c)) (.ref (He.ga X.K C)) = some b)
    (hb : ∀ (W : WX) (pn : List (Addr × Obj)) (xe : Value → Shared → Prop), Takes (X.tr pn xe) W → PassesOwn (model X.prog X.w) X.A X.env xe → MSs (X.tr pn xe) ⟨G.T, W⟩ body m)
    (hi : X.N[i]? = some n := by rfl) (hj : X.N[j]? = some m' := by rfl) (hln : X.env.kindOf n = some .local := by rfl) (hlm : X.env.scope.names.lookup m' = some .local := by rfl) (hln2 : X.env.scope.names.lookup n = some .local := by rfl) (hg : Gl X C := by rfl) (hd : (C == ("__debug__" : Str)) = false := by decide) (hdn : (n == ("__debug__" : Str)) = false := by decide) (hcn : (n == ("__classdict__" : Str)) = false := by decide)
    (hsw : ∀ (a : Addr) (pn : List (Addr × Obj)), swapsWith (.Name n p2) (some (.Name m' p1)) p3.line (X.suite a pn).env = pure false := by intro _ _; rfl) :
    MS X G (.Try body [.ExceptHandler (some (.Name C npp)) (some n) [.Assign [.Name m' p1] (.Name n p2) p3] pos'] [] [] pos) (sTry cat i j m) := by
  refine ms_of (ps_try_keep (tb := fun W => tSS X.K X.w ⟨G.T, W⟩ m) hs hf hN hex hi hln (c := .ref (He.ga X.K C)) ⟨hg, hd, .inl hat⟩ tk hb fun a oe cls d pn hz hv => pss_one (ps_set (X := X.suite a ((a, oe) :: pn)) hN hj (.inl hlm) (pe_var (X := X.suite a ((a, oe) :: pn)) hi (.inl hln2) hdn hcn) (hsw a _) (.inr hlm))) fun φ ρ h r D σ H nn er z q => ?_
  unfold sTry at z
  cases qb : m ρ h with
  | none => rw [qb] at z; cases z
  | some rb =>
    obtain ⟨o, h1⟩ := rb
    rw [qb] at z
    refine ⟨φ, ρ, h, (o, h1), nn, er, qb, ?_⟩
    cases o with
    | nx ρ' => cases z; exact q
    | bk ρ' => cases z; exact q
    | ct ρ' => cases z; exact q
    | rt w => cases z; exact q
    | exc e ρ' =>
      intro φ' σ' H' cls d b er' rx
      dsimp only at z
      cases qc : cat e.cls with
      | none => rw [qc] at z; cases z
      | some cb =>
        rw [qc] at z
        have hx := hcat _ _ qc
        refine ⟨cb, by rw [rx.1]; exact hx, ?_, ?_⟩
        · rintro rfl a ha
          dsimp only at z
          by_cases c : e.fs ≠ [] ∧ i < ρ'.length
          · rw [if_pos c] at z
            cases z
            rcases rx.2 with ⟨z1, _⟩ | ⟨dd, gs, rfl, hdn', hdd, kr⟩
            · exact (c.1 z1).elim
            · refine ⟨.ref a, by rw [List.getElem?_set_self (by rw [← er'.1]; exact c.2)], ?_⟩
              have b2 := beh_new (X := X) (G := G) (o := exT a cls (some dd)) b.n ha
              have hne : dd ≠ a := fun z => by rw [z, ha] at hdd; cases hdd
              have b3 := beh_num (X := X) (G := G) (o := .exn e.cls e.fs) nn.x0 (b.trans b2) (b.x.back b.n.hr ha) (b.n.hr.new ha) ⟨_, upd_same, fun _ => exT_tbl, fun _ => exT_tup, fun _ _ => exT_frz, fun gs z => by
                have z' : HO.ext _ = HO.xd gs := z
                cases z'⟩ (.exn (d := dd) (gs := gs) (by rw [upd_same, rx.1]) (by rw [upd_ne hne]; exact hdd) (fun hm => by
                  rcases List.mem_append.mp hm with hm | hm
                  · exact hdn' hm
                  · exact hne (List.mem_singleton.mp hm)) ?_)
              · have rr : Rep X.K (φ' ++ [a]) (upd H' a (exT a cls (some dd))) (.ref h1.length) (.ref a) := .ref (by rw [← b.n.hr.len, List.getElem?_append_right (Nat.le_refl _), Nat.sub_self]; rfl)
                have e3 := er.ext b3.x nn.hr.nt
                have e4 : ERep X.K (φ' ++ [a]) (upd H' a (exT a cls (some dd))) ρ' σ' := (er'.ext b2.x b.n.hr.nt).kp ⟨List.prefix_append _ _, fun _ _ e => e, fun _ _ _ e => e⟩
                exact q _ _ _ b3 (((e4.set i rr).set j rr).unset i)
              · exact ((kr.ext b2.x b.n.hr.nt).kp ⟨List.prefix_append _ _, fun _ _ e => e, fun _ _ _ e => e⟩)
          · rw [if_neg c] at z; cases z
        · rintro rfl
          cases z
          exact q φ' σ' H' cls d b er' rx
end
end Mp

set_option Elab.async false
set_option linter.all false
set_option autoImplicit false
set_option maxRecDepth 100000
set_option maxHeartbeats 4000000
/-! Mx4: attributes. -/
namespace Mp
open PySem PySem.Spec PyProof.Rows L2
/-- which attributes of which classes stand in the instance alone -/
structure FldK (K : PySem.W.Frag) (fk : TyW → Str → Bool) : Prop where
  ins : ∀ c f, fk (.own c) f = true → Cls K (He.ga K c) ∧ NoAttr K (He.ga K c) f
  exc : ∀ c f, fk (.exc c) f = true → XfC K (He.ga K c) ∧ PySem.W.findIn K (.ref (He.ga K c)) f = some none
def fFld (fk : TyW → Str → Bool) (f : Str) : F1 := fun x h => match x with
  | .ref n => match h[n]? with
    | some (.ins c fs) => if fk (.own c) f = true then (fs.lookup f).map fun w => (w, h) else none
    | some (.exn c fs) => if fk (.exc c) f = true then (fs.lookup f).map fun w => (w, h) else none
    | _ => none
  | _ => none
section
variable {X : Cx} {G : Gx} {o : Expr} {mo : Sh} {f : Str} {pos : Pos} {fk : TyW → Str → Bool}
theorem now_exn {φ : List Addr} {H : Hp} {h : Hw} {i : Nat} {c : Str} {fs : List (Str × W)} (n : Now X.K X.w G.T φ H h) (e : h[i]? = some (.exn c fs)) : ∃ a d gs, φ[i]? = some a ∧ H a = some (exT a (.ref (He.ga X.K c)) (some d)) ∧ H d = some (.xd gs) ∧ KeyRep X.K φ H fs gs := by
  obtain ⟨a, h1, r⟩ := n.hr.obj i _ e
  cases r with
  | exn h hd hn r => exact ⟨a, _, _, h1, h, hd, r⟩
theorem fld_get {φ : List Addr} {H : Hp} {h : Hw} {s : Shared} {σ : L2.St} {pins : List (Addr × Obj)} {x : W} {v : V} {u : Value} {w : W} {h' : Hw} {Q : Value → Shared → Prop} (T : FldK X.K fk) (I : Inv X pins σ H s) (n : Now X.K X.w G.T φ H h) (rx : Rep X.K φ H x v) (ru : RelV v u) (e : fFld fk f x h = some (w, h'))
    (hQ : ∀ v' u' s', h' = h → Rep X.K φ H w v' → Inv X pins σ H s' → RelV v' u' → Q u' s') : wpAny (model X.prog X.w) X.A (getAttr u f true) Q X.xe s := by
  cases rx with
  | @ref i a ha =>
    cases ru
    have e' : (match h[i]? with
      | some (.ins c fs) => if fk (.own c) f = true then (fs.lookup f).map fun w => (w, h) else none
      | some (.exn c fs) => if fk (.exc c) f = true then (fs.lookup f).map fun w => (w, h) else none
      | _ => none) = some (w, h') := e
    cases q : h[i]? with
    | none => rw [q] at e'; cases e'
    | some ob =>
      rw [q] at e'
      cases ob with
      | lst l => cases e'
      | dct l => cases e'
      | ins c fs =>
        dsimp only at e'
        by_cases z : fk (.own c) f = true
        · rw [if_pos z] at e'
          obtain ⟨c1, c2⟩ := T.ins c f z
          obtain ⟨a', dx, gs, g1, g2, g3⟩ := now_ins (X := X) (G := G) n q
          rw [ha] at g1; cases g1
          cases ql : fs.lookup f with
          | none => rw [ql] at e'; cases e'
          | some w0 =>
            rw [ql] at e'
            cases e'
            obtain ⟨v', lv, rv⟩ := g3.look ql
            exact getattr_ok I g2 c1 c2 lv fun u' s' I' ru' => hQ v' u' s' rfl rv I' ru'
        · rw [if_neg z] at e'; cases e'
      | exn c fs =>
        dsimp only at e'
        by_cases z : fk (.exc c) f = true
        · rw [if_pos z] at e'
          obtain ⟨c1, c2⟩ := T.exc c f z
          obtain ⟨a', d, gs, g1, hx, hdd, g3⟩ := now_exn (X := X) (G := G) n q
          rw [ha] at g1; cases g1
          cases ql : fs.lookup f with
          | none => rw [ql] at e'; cases e'
          | some w0 =>
            rw [ql] at e'
            cases e'
            obtain ⟨v', lv, rv⟩ := g3.look ql
            obtain ⟨⟨oe, vs, y1, y2, y3⟩, _⟩ := (show ObjOk X.prog X.w H s.heap a (.ext fun h => ∃ (oe : Obj) (vs : Array Value), h.get? a = some oe ∧ Zc (.ref (He.ga X.K c)) (some d) oe ∧ oe.data = .fields vs) from I.hok a _ hx)
            obtain ⟨mA, hns, hr⟩ := (show ObjOk X.prog X.w H s.heap d (.xd gs) from I.hok d _ hdd)
            obtain ⟨od, ho2, hl⟩ := lookIn_ns hns
            obtain ⟨u', hu, ru'⟩ := RelO.some_of (v := v') (o := mA f) (by rw [← lv]; exact hr f)
            have J : PySem.W.InstAt s.heap a oe (He.ga X.K c) (some od) := ⟨y1, y2.1, by unfold PySem.W.notCls; rw [y3] <;> rfl, by rw [y2.2]; exact ho2⟩
            exact HandSPX.exc_get I.kIn J c1.ga c1.gg c1.exC (PySem.W.findObj_own c1.hdC c2 rfl (by rw [hl, hu])) (handed_of ru') (hQ v' u' _ rfl rv (I.tok _) ru')
        · rw [if_neg z] at e'; cases e'
  | _ => cases e
theorem me_fld (T : FldK X.K fk) (ho : ME X G o mo) (hb : attributeBase o f X.env (eval o X.env) = eval o X.env := by rfl) : ME X G (.Attribute o f pos) (mOp1 (fFld fk f) mo) := by
  refine ⟨fun pins s σ H Q I ⟨φ, ρ, h, ro, n, er, z, qx, qv⟩ => ?_⟩
  refine attr_of hb (thn (ho.run pins s σ H _ I (tE_then n er z qx fun x φ1 H1 h1 v b1 er1 r1 e1 => (⟨φ1, h1, x, b1, r1, e1⟩ : ∃ φ1 h1 x, Beh X.K X.w G.T φ H φ1 H1 h1 ∧ Rep X.K φ1 H1 x v ∧ up (fFld fk f x h1) = some ro))) fun u s1 ⟨v, H1, I1, rv, φ1, h1, x, b1, r1, e1⟩ => ?_)
  obtain ⟨w, h', e2, rfl⟩ := up_some e1
  exact fld_get T I1 b1.n r1 rv e2 fun v' u' s' eh rw_ I' ru' => ⟨v', H1, I', ru', qv w rfl φ1 H1 v' (by rw [eh]; exact b1) rw_⟩
end
end Mp

set_option Elab.async false
set_option linter.all false
set_option autoImplicit false
set_option maxRecDepth 100000
set_option maxHeartbeats 4000000
/-! Mx5: repr of data. -/
namespace Mp
open PySem PySem.Spec PyProof.Rows L2
/-- repr: of a text, a tuple, a list -/
def reprOk (d : PyData) : Bool := d.showable && (!d.hasDict && (decide (d.depth ≤ 100) && decide (d.shown.length ≤ sizeLine)))
def isTop : W → Bool
  | .str _ => true
  | .tup _ => true
  | .lro _ => true
  | .ref _ => true
  | _ => false
def fRepr : FL := fun ws h => match ws with
  | [w] => if isTop w = true then match toPD h 70 w with
    | some d => if reprOk d = true then some (.str d.shown, h) else none
    | none => none else none
  | _ => none
section
variable {X : Cx} {G : Gx} {e : Expr} {as : ShA} {p pos : Pos}
def rReprD (K : PySem.W.Frag) : List V → Hp → VK → Prop := fun xs H Q => ∃ v d, xs = [v] ∧ Dp K H v d ∧ reprOk d = true ∧ ((∃ x, v = .str x) ∨ ∃ a, v = .ref a) ∧ Q (.str d.shown) H
theorem call_reprD {k : Nat} (hr : RoomG k X.A) : CallR X (.builtin "repr") (rReprD X.K) := by
  intro pins s σ H xs us Q I r h
  obtain ⟨v, d, rfl, hd, ok, top, q⟩ := h
  obtain ⟨u, rfl, ru⟩ := vals1 r
  unfold reprOk at ok
  simp only [Bool.and_eq_true, Bool.not_eq_true', decide_eq_true_eq] at ok
  obtain ⟨o1, o2, o3, o4⟩ := ok
  rcases top with ⟨x, rfl⟩ | ⟨a, rfl⟩
  · cases hd
    obtain ⟨t, rfl⟩ := ru
    exact PySem.P.repr_of_str ⟨.str _, H, I.tok _, ⟨_, rfl⟩, q⟩ o4
  · cases ru
    obtain ⟨as, rd⟩ := Dp.reads I d _ _ hd rfl
    have un := hr.rm.un
    exact repr_of_reads' rd o1 (fun z => by rw [o2] at z; cases z) hr.gd (by omega) (fun _ _ e => e) (fun h' u tk k => ⟨.str _, H, I.kept (t' := tk) k, ⟨_, rfl⟩, q⟩) o4
theorem cl_repr : CL X G (rReprD X.K) fRepr := fun φ H h ws vs w h' Q n rs e k => by
  unfold fRepr at e
  split at e
  · rename_i w0
    obtain ⟨v, rfl, r1⟩ := reps1 rs
    by_cases t : isTop w0 = true
    · rw [if_pos t] at e
      cases q : toPD h 70 w0 with
      | none => rw [q] at e; cases e
      | some d =>
        rw [q] at e
        dsimp only at e
        by_cases c : reprOk d = true
        · rw [if_pos c] at e
          cases e
          refine ⟨v, d, rfl, toPD_dp (X := X) (G := G) n 70 _ _ _ r1 q, c, ?_, k φ H _ (.refl n) (.str _)⟩
          cases r1 <;> first | exact .inl ⟨_, rfl⟩ | exact .inr ⟨_, rfl⟩ | cases t
        · rw [if_neg c] at e; cases e
    · rw [if_neg t] at e; cases e
  · cases e
theorem me_repr {k : Nat} (hr : RoomG k X.A) (hm : X.mg "repr" = none) (ha : MA X G [e] as) (hg : Gl X "repr" := by rfl) (he : starEach [e] X.env = (false, eval e X.env) :: starEach [] X.env := by rfl) (hpl : (backTo pos (starEach [] X.env)).any (·.1) = false := by rfl) : ME X G (.Call (.Name "repr" p) [e] [] pos) (mCall fRepr as) :=
  me_callB (call_reprD hr) cl_repr hm (by decide +kernel) ha hg (by decide) (by decide) he hpl
end
end Mp

set_option Elab.async false
set_option linter.all false
set_option autoImplicit false
set_option maxRecDepth 100000
set_option maxHeartbeats 4000000
/-! Mx6: a lambda, with a default or without, is made. -/
namespace Mp
open PySem PySem.Spec PySem.W PySem.Calls PyProof.Rows
/-- a lambda's function, dV its defaults -/
abbrev lamF (qual : Str) (params : Arguments) (body : Expr) (scope : Scope) (cl : List (Str × Addr)) (dV pm cdv ct : Value) : FuncData :=
  { name := "<lambda>", qualname := qual, params, body := .expr body, scope, globals := mainGlobals, closure := cl, defaults := dV, kwdefaults := .none, doc := .none, pyModule := pm, annotations := none, code := cdv, closureTuple := ct, builtins := builtinsNs }
abbrev lamO (qual : Str) (params : Arguments) (body : Expr) (scope : Scope) (cl : List (Str × Addr)) (dV pm cdv ct : Value) : Obj := { cls := .type "function", data := .func (lamF qual params body scope cl dV pm cdv ct) }
section
variable {M : Model} {A : Around} {E : Value → Shared → Prop} {s : Shared} {qual : Str} {params : Arguments} {body : Expr} {scope : Scope} {env : Env} {c P : Addr} {ps : Array Value} {pos : Pos} {mg : Str → Option Value} {clos : List (Str × Addr)} {dV : Value}
theorem clo_tuple {l : List Value} {b : Bool} {k : Value → Sem Value} {Q : Value → Shared → Prop} (h : ∀ (v : Value) (h1 : Heap), (∀ b o, s.heap.get? b = some o → h1.get? b = some o) → s.heap.objs.size ≤ h1.objs.size → wpAny M A (k v) Q E { s with heap := h1 }) :
    wpAny M A (if b = true then (pure Value.none >>= k) else (newTextTuple l >>= k)) Q E s := by
  cases b with
  | true => exact wpAny_bind (wpAny_pure (h .none s.heap (fun _ _ e => e) (Nat.le_refl _)))
  | false => exact wpAny_bind (wpAny_newTextTuple (h _ _ (fun b o e => Heap.get?_push_of_some _ e) (by rw [Heap.size_push]; omega)))
/-- the code object is new -/
theorem tail_new {Q : Value → Shared → Prop} (hcl : closureFor scope env = pure clos) (hge : env.globals = mainGlobals) (hg : s.heap.Ns mainGlobals mg) (hcode : env.code = .ref c) (C : CodeHd s.heap c P) (hP : s.heap.get? P = some (tabObj ps)) (ht : TriplesOk ps.toList)
    (hnf : codeAmong pos ps.toList = none) (hgP : mainGlobals ≠ P) (hb : s.heap.BuiltinsAt mg P)
    (h : ∀ c' ctv h' tk, Heap.ExtBut P s.heap h' → s.heap.objs.size ≤ c' → c' < h'.objs.size → h'.CodeRec (.ref c') qual → h'.get? P = some (tabObj (ps ++ #[rawInt pos.line, rawInt pos.col, .ref c'])) →
      Q (.ref h'.objs.size) { s with heap := h'.push (lamO qual params body scope clos dV ((mg "__name__").getD .none) (.ref c') ctv), toks := tk }) :
    wpAny M A (makeTail "<lambda>" qual params (.expr body) scope env dV .none none pos pos.line) Q E s := by
  obtain ⟨bm, ob, hbm, n0, _, nP, hbo, b1, b2, b3⟩ := hb
  unfold makeTail
  rw [hcl, hge]
  refine wpAny_bind (wpAny_pure ?_)
  refine clo_tuple fun ctv h1 k1 z1 => ?_
  have C1 := C.keeps k1
  have P1 := k1 _ _ hP
  refine wpAny_bind (wpAny_functionCodeX hcode (C1.code P1 ht) (C1.tab P1) hnf fun c' h' tk hx g1 g2 _ hrec htb _ => ?_)
  have G := (hg.keeps k1).extBut hx hgP
  have hx' : Heap.ExtBut P s.heap h' := fun b o ne e => hx b o ne (k1 _ _ e)
  refine wpAny_bind (wpAny_builtinsFor G hbm n0 (hx' _ _ nP hbo) b1 b2 b3 (wpAny_bind (wpAny_nsGet G ?_)))
  exact wpAny_bind (wpAny_pure (wpAny_newObj_type (h c' ctv h' tk hx' (Nat.le_trans z1 g1) g2 hrec htb.2) (by size_fits)))
/-- it is found in the table -/
theorem tail_hit {Q : Value → Shared → Prop} {cv : Value} (hcl : closureFor scope env = pure clos) (hge : env.globals = mainGlobals) (hg : s.heap.Ns mainGlobals mg) (hcode : env.code = .ref c) (C : CodeHd s.heap c P) (hP : s.heap.get? P = some (tabObj ps)) (ht : TriplesOk ps.toList)
    (hf : codeAmong pos ps.toList = some cv) (hb : s.heap.BuiltinsAt mg P)
    (h : ∀ (ctv : Value) (h' : Heap) (tk : Tok), (∀ b o, s.heap.get? b = some o → h'.get? b = some o) → s.heap.objs.size ≤ h'.objs.size → Q (.ref h'.objs.size) { s with heap := h'.push (lamO qual params body scope clos dV ((mg "__name__").getD .none) cv ctv), toks := tk }) :
    wpAny M A (makeTail "<lambda>" qual params (.expr body) scope env dV .none none pos pos.line) Q E s := by
  obtain ⟨bm, ob, hbm, n0, _, nP, hbo, b1, b2, b3⟩ := hb
  unfold makeTail
  rw [hcl, hge]
  refine wpAny_bind (wpAny_pure ?_)
  refine clo_tuple fun ctv h1 k1 z1 => ?_
  have C1 := C.keeps k1
  have P1 := k1 _ _ hP
  have G := hg.keeps k1
  refine wpAny_bind (wpAny_functionCode_hit hcode (C1.code P1 ht) hf ?_)
  refine wpAny_bind (wpAny_builtinsFor G hbm n0 (k1 _ _ hbo) b1 b2 b3 (wpAny_bind (wpAny_nsGet G ?_)))
  exact wpAny_bind (wpAny_pure (wpAny_newObj_type (h ctv h1 s.toks k1 z1) (by size_fits)))
/-- the lambda's expression: no default; one int as a default -/
theorem lam_eval {Q : Value → Shared → Prop} {kw : Option Int} (hdef : match kw with
      | none => defaultsOf params env = ([], [])
      | some i => ∃ j p, defaultsOf params env = ([eval (.Constant (.int i) j p) env], []))
    (h : match kw with
      | none => wpAny M A (makeTail "<lambda>" (env.qual ++ "<lambda>") params (.expr body) scope env .none .none none pos pos.line) Q E s
      | some i => ∀ t tk, wpAny M A (makeTail "<lambda>" (env.qual ++ "<lambda>") params (.expr body) scope env (.ref s.heap.objs.size) .none none pos pos.line) Q E { s with heap := s.heap.push { cls := .type "tuple", data := .seq #[Value.int i t] }, toks := tk }) :
    wpAny M A (eval (.Lambda params body scope pos) env) Q E s := by
  cases kw with
  | none =>
    have hdef : defaultsOf params env = ([], []) := hdef
    rw [arm_eval_Lambda, hdef]
    show wpAny M A (do let dv ← evalAll []; let kdv ← holding dv (evalAllOpt []); makeFunction "<lambda>" (env.qual ++ "<lambda>") params (.expr body) scope env dv kdv [] pos pos.line) Q E s
    refine wpAny_bind (wpAny_pure (wpAny_bind (wpAny_holding (wpAny_pure ?_))))
    rw [makeFunction_eq]
    simp only [List.zip_nil_right, List.filterMap_nil, List.isEmpty_nil, if_true, pure_bind]
    exact h
  | some i =>
    obtain ⟨j, p, hdef⟩ := (show ∃ j p, defaultsOf params env = ([eval (.Constant (.int i) j p) env], []) from hdef)
    rw [arm_eval_Lambda, hdef]
    show wpAny M A (do let dv ← evalAll [eval (.Constant (.int i) j p) env]; let kdv ← holding dv (evalAllOpt []); makeFunction "<lambda>" (env.qual ++ "<lambda>") params (.expr body) scope env dv kdv [] pos pos.line) Q E s
    refine wpAny_bind (wpAny_evalAll_cons (wpAny_Constant_int (wpAny_evalAll_nil ?_)))
    refine wpAny_bind (wpAny_holding (wpAny_pure ?_))
    rw [makeFunction_eq]
    simp only [List.zip_nil_right, List.filterMap_nil, List.isEmpty_nil, if_true, pure_bind, List.isEmpty_cons, Bool.false_eq_true, if_false]
    exact wpAny_bind (wpAny_newTextTuple (h s.toks (s.toks + 1)))
end
end Mp

set_option Elab.async false
set_option linter.all false
set_option autoImplicit false
set_option maxRecDepth 100000
set_option maxHeartbeats 4000000
/-! Mx7: the lambda in a tracked state. -/
namespace Mp
open PySem PySem.Spec PyProof.Rows L2
theorem among_snoc {pos : Pos} {c : Value} (l : List Value) (h : TriplesOk l) (hc : codeAmong pos l = none) : codeAmong pos (l ++ [rawInt pos.line, rawInt pos.col, c]) = some c := by
  fun_induction TriplesOk l with
  | case1 =>
    simp only [List.nil_append, rawInt, codeAmong]
    split
    · rfl
    · rename_i q
      exact absurd (by simp) q
  | case2 a t b u x rest ih =>
    simp only [List.cons_append, codeAmong] at hc ⊢
    split at hc
    · cases hc
    · rename_i q
      rw [if_neg q]
      exact ih h hc
  | case3 l h1 h2 => exact h.elim
theorem among_more {pos : Pos} {c : Value} (m : List Value) (l : List Value) (h : TriplesOk l) (hc : codeAmong pos l = some c) : codeAmong pos (l ++ m) = some c := by
  fun_induction TriplesOk l with
  | case1 => simp [codeAmong] at hc
  | case2 a t b u x rest ih =>
    simp only [List.cons_append, codeAmong] at hc ⊢
    split at hc
    · rename_i q
      rw [if_pos q]
      exact hc
    · rename_i q
      rw [if_neg q]
      exact ih h hc
  | case3 l h1 h2 => exact h.elim
/-- all stays, tables stay tables -/
structure LExt (H H1 : Hp) : Prop where
  keep : ∀ b o, H b = some o → (∀ ps, o ≠ .tbl ps) → H1 b = some o
  tbl : ∀ b ps, H b = some (.tbl ps) → ∃ qs, H1 b = some (.tbl qs)
theorem LExt.refl (H : Hp) : LExt H H := ⟨fun _ _ e _ => e, fun _ ps e => ⟨ps, e⟩⟩
theorem LExt.trans {H H1 H2 : Hp} (a : LExt H H1) (b : LExt H1 H2) : LExt H H2 := ⟨fun c o e n => b.keep c o (a.keep c o e n) n, fun c ps e => let ⟨qs, z⟩ := a.tbl c ps e; b.tbl c qs z⟩
section
variable {X : Cx} {pins : List (Addr × Obj)} {σ : L2.St} {H : Hp} {s : Shared} {T : List (Addr × Str)} {c P : Addr} {params : Arguments} {body : Expr} {scope : Scope} {pos : Pos} {E : Value → Shared → Prop} {Q : Value → Shared → Prop}
abbrev lamQ (X : Cx) : Str := X.env.qual ++ "<lambda>"
/-- a new address is no frame -/
theorem noframe (I : Inv X pins σ H s) {f : Addr} (hf : s.heap.objs.size ≤ f) : f ∉ frs X.stack := fun z => by
  rcases List.mem_cons.mp (I.stkSub _ z) with e | e
  · have := I.lt
    rw [← e] at this
    exact Nat.lt_irrefl _ (Nat.lt_of_lt_of_le this hf)
  · exact I.nofs hf e
theorem lam_core {dV : Value} (I : Inv X pins σ H s) (TB : LamX.TabB X.base X.mg c P) (hcode : X.env.code = .ref c) (hm : (P, lamQ X) ∈ T) (hu : ∀ p ∈ T, p.1 = P → p.2 = lamQ X) (hT : LamX.Tabs T H) (hfree : ∀ y ∈ scope.names, y.2 = .free → ∃ c, X.env.cells.lookup y.1 = some c)
    (h : ∀ (f c' : Addr) (pm ctv : Value) (H1 : Hp) (s' : Shared), Inv X pins σ H1 s' → LExt H H1 → LamX.Tabs T H1 → s'.heap.get? f = some (lamO (lamQ X) params body scope (cloFrom X.env.cells scope.names []) dV pm (.ref c') ctv) → H1 f = none → f ∉ frs X.stack → (∃ qs, H1 P = some (.tbl qs) ∧ TriplesOk qs.toList ∧ codeAmong pos qs.toList = some (.ref c')) → Q (.ref f) s') :
    wpAny (model X.prog X.w) X.A (makeTail "<lambda>" (lamQ X) params (.expr body) scope X.env dV .none none pos pos.line) Q E s := by
  obtain ⟨ps, hP, ht, ha⟩ := hT _ hm
  have hP2 : s.heap.get? P = some { cls := .none, data := .fields ps } := I.hok P _ hP
  cases hc : codeAmong pos ps.toList with
  | some cv =>
    obtain ⟨c', e, hco⟩ := ha pos cv hc
    subst e
    refine tail_hit (mg := X.mg) (c := c) (P := P) (ps := ps) (closure_ok hfree) I.ok.glob (I.mod.glob.keeps I.bk) hcode (TB.code.keeps I.bk) hP2 ht hc (TB.bm.keeps I.bk) fun ctv h' tk hx hz => ?_
    exact h h'.objs.size c' _ ctv H _ (I.kept (t' := tk) fun b o e => Heap.get?_push_of_some _ (hx b o e)) (.refl H) hT (Heap.get?_push_size _ rfl) (I.hok.fresh hz) (noframe I hz) ⟨ps, hP, ht, hc⟩
  | none =>
    refine tail_new (mg := X.mg) (c := c) (P := P) (ps := ps) (closure_ok hfree) I.ok.glob (I.mod.glob.keeps I.bk) hcode (TB.code.keeps I.bk) hP2 ht hc TB.gP (TB.bm.keeps I.bk) fun c' ctv h' tk hx hge hlt hrec htb => ?_
    obtain ⟨c2, oc, vs, t, e2, hoc, hd, hv⟩ := hrec
    cases e2
    have hz : s.heap.objs.size ≤ h'.objs.size := Nat.le_trans hge (Nat.le_of_lt hlt)
    have nC : H c' = none := I.hok.fresh hge
    have I1 := LamX.inv_table (t' := tk) (more := #[rawInt pos.line, rawInt pos.col, .ref c']) (h' := h'.push (lamO (lamQ X) params body scope (cloFrom X.env.cells scope.names []) dV ((X.mg "__name__").getD .none) (.ref c') ctv)) I hP
      (fun b o hb e => Heap.get?_push_of_some _ (hx b o hb e)) (Heap.get?_push_of_some _ htb) hge ⟨oc, vs, t, Heap.get?_push_of_some _ hoc, hd, hv⟩
    have at_P : upd (upd H P (.tbl (ps ++ #[rawInt pos.line, rawInt pos.col, .ref c']))) c' (LamX.CodeO c' (lamQ X)) P = some (.tbl (ps ++ #[rawInt pos.line, rawInt pos.col, .ref c'])) := by rw [upd_ne (ne_of_none hP nC), upd_same]
    have hE : LExt H (upd (upd H P (.tbl (ps ++ #[rawInt pos.line, rawInt pos.col, .ref c']))) c' (LamX.CodeO c' (lamQ X))) := by
      refine ⟨fun b o e n => ?_, fun b qs e => ?_⟩
      · have nb : b ≠ P := fun z => by rw [z, hP] at e; exact n ps (Option.some.inj e).symm
        rw [upd_ne (ne_of_none e nC), upd_ne nb]
        exact e
      · by_cases hb : b = P
        · exact ⟨_, by rw [hb]; exact at_P⟩
        · exact ⟨qs, by rw [upd_ne (ne_of_none e nC), upd_ne hb]; exact e⟩
    have eL : (ps ++ #[rawInt pos.line, rawInt pos.col, .ref c']).toList = ps.toList ++ [rawInt pos.line, rawInt pos.col, .ref c'] := by simp
    refine h h'.objs.size c' _ ctv _ _ I1 hE (fun p hp => ?_) (Heap.get?_push_size _ rfl) ?_ (noframe I hz) ⟨_, at_P, by rw [eL]; exact PySem.TriplesOk_snoc _ _ _ _ ht, by rw [eL]; exact among_snoc _ ht hc⟩
    · by_cases hb : p.1 = P
      · rw [hu p hp hb, hb]
        refine ⟨_, at_P, by rw [eL]; exact PySem.TriplesOk_snoc _ _ _ _ ht, fun q cv hcv => ?_⟩
        rw [eL] at hcv
        rcases LamX.among_app _ ht hcv with z | z
        · obtain ⟨c0, e1, e2⟩ := ha q cv z
          exact ⟨c0, e1, hE.keep _ _ e2 LamX.codeO_ne⟩
        · exact ⟨c', z, upd_same⟩
      · obtain ⟨qs, a1, a2, a3⟩ := hT p hp
        refine ⟨qs, by rw [upd_ne (ne_of_none a1 nC), upd_ne hb]; exact a1, a2, fun q cv hcv => ?_⟩
        obtain ⟨c0, e1, e2⟩ := a3 q cv hcv
        exact ⟨c0, e1, hE.keep _ _ e2 LamX.codeO_ne⟩
    · rw [upd_ne (Nat.ne_of_gt hlt), upd_ne (Nat.ne_of_gt (Nat.lt_of_lt_of_le (Heap.lt_size hP2) hz))]
      exact I.hok.fresh hz
/-- the text of its defaults: none; one int -/
def DefIs (kw : Option Int) (params : Arguments) (env : Env) : Prop := match kw with
  | none => defaultsOf params env = ([], [])
  | some i => ∃ j p, defaultsOf params env = ([eval (.Constant (.int i) j p) env], [])
/-- its defaults -/
def DflOk (kw : Option Int) (dV : Value) (H : Hp) : Prop := match kw with
  | none => dV = .none
  | some i => ∃ Tp, dV = .ref Tp ∧ H Tp = some (.tup [.int i])
theorem lam_make3 {kw : Option Int} (I : Inv X pins σ H s) (TB : LamX.TabB X.base X.mg c P) (hcode : X.env.code = .ref c) (hm : (P, lamQ X) ∈ T) (hu : ∀ p ∈ T, p.1 = P → p.2 = lamQ X) (hT : LamX.Tabs T H) (hfree : ∀ y ∈ scope.names, y.2 = .free → ∃ c, X.env.cells.lookup y.1 = some c)
    (hdef : DefIs kw params X.env)
    (h : ∀ (f c' : Addr) (dV pm ctv : Value) (H1 : Hp) (s' : Shared), Inv X pins σ H1 s' → LExt H H1 → LamX.Tabs T H1 → s'.heap.get? f = some (lamO (lamQ X) params body scope (cloFrom X.env.cells scope.names []) dV pm (.ref c') ctv) → DflOk kw dV H1 → H1 f = none → f ∉ frs X.stack → (∃ qs, H1 P = some (.tbl qs) ∧ TriplesOk qs.toList ∧ codeAmong pos qs.toList = some (.ref c')) → Q (.ref f) s') :
    wpAny (model X.prog X.w) X.A (eval (.Lambda params body scope pos) X.env) Q E s := by
  refine lam_eval (kw := kw) (by cases kw <;> exact hdef) ?_
  cases kw with
  | none => exact lam_core I TB hcode hm hu hT hfree fun f c' pm ctv H1 s' I1 e t g n nf hc => h f c' .none pm ctv H1 s' I1 e t g rfl n nf hc
  | some i =>
    intro t tk
    have hn : H s.heap.objs.size = none := I.hok.fresh (Nat.le_refl _)
    have I0 : Inv X pins σ (upd H s.heap.objs.size (.tup [.int i])) { s with heap := s.heap.push { cls := .type "tuple", data := .seq #[Value.int i t] }, toks := tk } :=
      I.laid (t' := tk) (fun b o e => Heap.get?_push_of_some _ e) (Nat.le_refl _) ⟨by show 1 ≤ sizeLine; rw [sizeLine_eq]; omega, [Value.int i t], .cons ⟨t, rfl⟩ .nil, ⟨_, Heap.get?_push_size _ rfl, rfl, 0, rfl⟩⟩
    have L0 : LExt H (upd H s.heap.objs.size (.tup [.int i])) := ⟨fun b o e _ => by rw [upd_ne (ne_of_none e hn)]; exact e, fun b ps e => ⟨ps, by rw [upd_ne (ne_of_none e hn)]; exact e⟩⟩
    refine lam_core I0 TB hcode hm hu (hT.ext fun b o e => by rw [upd_ne (ne_of_none e hn)]; exact e) hfree fun f c' pm ctv H1 s' I1 e t' g n nf hc => h f c' _ pm ctv H1 s' I1 (L0.trans e) t' g ⟨_, rfl, e.keep _ _ upd_same fun ps => nofun⟩ n nf hc
end
end Mp

set_option Elab.async false
set_option linter.all false
set_option autoImplicit false
set_option maxRecDepth 100000
set_option maxHeartbeats 4000000
/-! Mx8: the lambda is called by the def that got it. -/
namespace Mp
open PySem PySem.Spec PyProof.Rows L2
/-- a lambda's names: captured ones, globals, parameters that no slot of the maker bears -/
structure LamN (N : List Str) (sc scope : Scope) : Prop where
  kind : scope.kind = .function
  co : scope.isCoroutine = false
  gen : scope.isGenerator = false
  nocell : ∀ y ∈ scope.names, y.2 ≠ .cell
  own : ∀ y ∈ scope.names, y.2 = .local → y.1 ∉ N
  free : ∀ y ∈ scope.names, y.2 = .free → sc.names.lookup y.1 = some .cell ∨ sc.names.lookup y.1 = some .free
theorem LamN.has {X : Cx} {scope : Scope} (L : LamN X.N X.env.scope scope) (ok : X.Ok) : ∀ y ∈ scope.names, y.2 = .free → ∃ c, X.env.cells.lookup y.1 = some c := fun y hy e =>
  (L.free y hy e).elim (fun k => ok.has _ (.inl k)) fun k => ok.has _ (.inr k)
section
variable {X : Cx} {pins : List (Addr × Obj)} {σ : L2.St} {H HZ : Hp} {s s1 : Shared}
theorem lam_in {A : Around} {outer : List Env} {E : XK} {scope : Scope} {f c' : Addr} {h₁ : Heap} {tk : Nat} {m : Str → Option Value} (I : Inv X pins σ H s) (L : LamN X.N X.env.scope scope) (e0 : Env0 X.prog X.w X.K X.mg X.base A outer s1 HZ) (hd : A.handled = none)
    (un : Un (frs X.stack) [] H HZ s.heap s1.heap) (hns : h₁.Ns s1.heap.objs.size m) (kp : ∀ b o, s1.heap.get? b = some o → h₁.get? b = some o) :
    Inv (LamX.lamCx X A outer s1 HZ E scope f c') [] σ HZ { s1 with heap := h₁, toks := tk } := by
  have has := L.has I.ok
  have back : ∀ {y c}, (cloFrom X.env.cells scope.names []).lookup y = some c → X.env.cells.lookup y = some c := fun {y c} e => by
    rcases cloFrom_mem (PySem.mem_of_lookup e) with hm | ⟨h1, h2⟩
    · cases hm
    · obtain ⟨c1, hc⟩ := has _ h1 rfl
      have hc' : X.env.cells.lookup y = some c1 := hc
      have : c = c1 := by rw [h2, hc'] <;> rfl
      rw [this]; exact hc'
  have there : ∀ {y}, scope.names.lookup y = some .free → ∃ c, (cloFrom X.env.cells scope.names []).lookup y = some c := fun {y} hl =>
    mem_lookup (cloFrom_has (cells := X.env.cells) (acc := []) (show (y, NameKind.free) ∈ scope.names from PySem.mem_of_lookup hl))
  have cellK : ∀ {c : Addr} {v : Option Value}, H c = none → s.heap.IsCell c v → h₁.IsCell c v := fun {c v} n ⟨o, ho, hdd⟩ =>
    let ⟨_, q⟩ := un.any ho n (by simp)
    ⟨_, kp _ _ q, hdd⟩
  have noA : ∀ b : Addr, b ∉ (LamX.lamCx X A outer s1 HZ E scope f c').ex := fun b z => absurd (show b ∈ ([] : List Addr) from z) (by simp)
  have okk : (LamX.lamCx X A outer s1 HZ E scope f c').Ok := {
    mod := e0.mod
    kind := L.kind
    glob := rfl
    blt := rfl
    above := Nat.le_refl _
    inj := fun y z c e1 e2 => I.ok.inj y z c (back e1) (back e2)
    has := fun y hy => hy.elim (fun k => (L.nocell _ (PySem.mem_of_lookup (show scope.names.lookup y = some .cell from k)) rfl).elim) fun k => there k
    cab := fun y c z _ => absurd (show false = true from z) Bool.false_ne_true
    hd := fun _ => hd
    frames := Around.frames_deeper e0.frames
    stk := .inr ⟨rfl, rfl⟩
    exf := fun b z => absurd z (noA b)
    bs := e0.bs
    bsz := e0.bsz
    noex := fun b _ _ => noA b
    exfs := fun b z => absurd z (noA b)
    funs := e0.funs
    frf := e0.frf }
  refine ⟨okk, rfl, e0.bare, Un.kept kp, ⟨_, hns, fun i y v e1 e2 e3 => ?_⟩, fun y c e => ?_, e0.hok.fresh (Nat.le_refl _), fun y c e => ?_, fun q hq => absurd (show q ∈ ([] : List (Addr × Obj)) ++ [] from hq) (by simp), e0.hok.kept kp, I.len⟩
  · rcases (show Vis scope y from e3) with k | k | k
    · exact (L.own _ (PySem.mem_of_lookup k) rfl (List.mem_of_getElem? (show X.N[i]? = some y from e1))).elim
    · exact (L.nocell _ (PySem.mem_of_lookup k) rfl).elim
    · obtain ⟨m', hn', hl⟩ := I.loc
      have fr := L.free _ (PySem.mem_of_lookup k) rfl
      obtain ⟨u, r, q⟩ := hl i y v e1 e2 (fr.elim (fun k => .inr (.inl k)) fun k => .inr (.inr k))
      obtain ⟨c2, h2⟩ := there k
      refine ⟨u, r, .inr ⟨.inr k, c2, h2, ?_⟩⟩
      rcases q with ⟨k', _⟩ | ⟨_, c3, e', z⟩
      · have k2 : X.env.scope.names.lookup y = some .local := k'
        rcases fr with k3 | k3 <;> rw [show X.env.scope.names.lookup y = _ from k3] at k2 <;> cases k2
      · rw [back h2] at e'
        cases e'
        exact cellK (I.freeC y _ (back h2)) z
  · obtain ⟨u, z⟩ := I.cell y c (back e)
    exact ⟨u, cellK (I.freeC y c (back e)) z⟩
  · obtain ⟨v, o, ho, hdd⟩ := I.cell y c (back e)
    exact un.free c o ho (I.freeC y c (back e)) (by simp)
/-- how the lambda binds without arguments -/
def LBind (kw : Option Int) (q : Str) (params : Arguments) (body : Expr) (scope : Scope) (N : List Str) : Prop := match kw with
  | none => ∀ (cl : List (Str × Addr)) (pm cv ct : Value), bindArgs (lamF q params body scope cl .none pm cv ct) ⟨[], []⟩ = pure []
  | some i => ∃ pn : Str, scope.names.lookup pn = some .local ∧ ∀ (cl : List (Str × Addr)) (Tp : Addr) (pm cv ct : Value), ∃ k, bindArgs (lamF q params body scope cl (.ref Tp) pm cv ct) ⟨[], []⟩ = seqItems? (.ref Tp) >>= k ∧ ∀ v, k (some #[v]) = pure [(pn, v)]
/-- x(), in the def that got the lambda: Z is that def's context, entered at s -/
theorem pe_ask {Eg : XK} {Ng : List Str} {qg : Str} {sg : Scope} {g f c' : Addr} {cdg dV pm ctv : Value} {params : Arguments} {body : Expr} {scope : Scope} {k i : Nat} {a : Str} {pn : List (Addr × Obj)} {xe : Value → Shared → Prop} {W0 : WX} {tb : XK → TE} {p1 p2 : Pos} {kw : Option Int}
    (I : Inv X pins σ H s) (L : LamN X.N X.env.scope scope) (hf : s.heap.get? f = some (lamO (lamQ X) params body scope (cloFrom X.env.cells scope.names []) dV pm (.ref c') ctv)) (hfn : H f = none) (hfr : f ∉ frs X.stack) (hbind : LBind kw (lamQ X) params body scope X.N)
    (tk : Takes ((cxOf (L2.CX X.prog X.w) X.prog X.w X.K X.mg X.base Ng qg sg g cdg X.A X.stack s H Eg).tr pn xe) W0) (hr : Room (k + 1) (X.A.deeper (envOfC qg sg s.heap.objs.size g cdg)))
    (hbody : ∀ (A : Around) (outer : List Env) (s1 : Shared) (H : Hp) (E : XK), A.guards = (X.A.deeper (envOfC qg sg s.heap.objs.size g cdg)).guards → Room k (A.deeper (LamX.lamEnv X scope s1.heap.objs.size f c')) → PE (LamX.lamCx X A outer s1 H E scope f c') body (tb E))
    (hN : Ng[i]? = some a) (hv : Vis sg a) (hd : (a == ("__debug__" : Str)) = false) (hcd : (a == ("__classdict__" : Str)) = false) :
    PE ((cxOf (L2.CX X.prog X.w) X.prog X.w X.K X.mg X.base Ng qg sg g cdg X.A X.stack s H Eg).tr pn xe) (.Call (.Name a p1) [] [] p2)
      (fun σZ HZ Q => σZ[i]? = some (some (.ref f)) ∧ HZ c' = some (LamX.CodeO c' (lamQ X)) ∧ DflOk kw dV HZ ∧ tb (WE W0 σZ) σ HZ Q) := by
  refine ⟨fun pinsZ sZ σZ HZ Q IZ ⟨hs, hc, hdf, ht⟩ => ?_⟩
  refine wpAny_Call_Name_kw (thn ((pe_var (pos := p1) (i := i) hN hv hd hcd).run pinsZ sZ σZ HZ (fun v H1 => v = .ref f ∧ H1 = HZ) IZ ⟨.ref f, hs, rfl, rfl⟩) fun u s1 ⟨v, H1, I1, r1, q1⟩ => ?_)
  obtain ⟨rfl, rfl⟩ := q1
  obtain rfl : u = Value.ref f := r1
  have of1 := I1.base.keep f _ hf hfn hfr (fun z => nomatch (show f ∈ ([] : List Addr) from z))
  refine PySem.W.callWith_F0 ⟨_, _, _, _, of1⟩ ?_
  obtain ⟨⟨oc, vs, t, hoc, hdc, hvc⟩, _, _⟩ := I1.hok c' _ hc
  -- the body, whatever is bound
  have inside : ∀ (binds : List (Str × Value)), (∀ y ∈ binds, scope.names.lookup y.1 = some .local) →
      wpAny (model X.prog X.w) (X.A.deeper (envOfC qg sg s.heap.objs.size g cdg)).in1 (newFunctionEnv scope mainGlobals (cloFrom X.env.cells scope.names []) binds (lamQ X ++ ".<locals>.") (some f) (.ref c') none builtinsNs)
        (fun env s₂ => s₂.heap.NoLimit ∧ codeAny (model X.prog X.w) (X.A.deeper (envOfC qg sg s.heap.objs.size g cdg)) (.expr body env) (CR (L2.CX X.prog X.w) (envOfC qg sg s.heap.objs.size g cdg :: X.stack) X.prog X.w H1 s1 Q (WE W0 σZ)) s₂)
        (fun e s' => CR (L2.CX X.prog X.w) (envOfC qg sg s.heap.objs.size g cdg :: X.stack) X.prog X.w H1 s1 Q (WE W0 σZ) (.error e) s') s1 := fun binds hl => by
    refine wpAny_newFunctionEnv (fun y hy => L.nocell y hy) hl (fun h₁ hns hsb => ⟨I1.nolimit.fresh _ hsb, ?_⟩) L.kind
    have kp : ∀ b o, s1.heap.get? b = some o → h₁.get? b = some o := fun b o e => hsb.extBut b o (Nat.ne_of_lt (Heap.lt_size e)) (Heap.get?_push_of_some _ e)
    have J := lam_in (A := X.A.deeper (envOfC qg sg s.heap.objs.size g cdg)) (outer := envOfC qg sg s.heap.objs.size g cdg :: X.stack) (E := WE W0 σZ) (f := f) (c' := c') (tk := s1.toks + binds.length) I L I1.env0 hr.hd I1.base hns kp
    refine PySem.W.kla_codeExpr (wpAny_mono ((hbody _ _ s1 H1 _ rfl (hr.deeper _)).run [] _ _ H1 Q J ht) (fun v s' ⟨w', H', J', rv, q⟩ => ?_) fun e s' hq => hq)
    exact ⟨w', H', J'.os, J'.bare, J'.base, J'.hok, rv, q⟩
  have rc : codeAny (model X.prog X.w) (X.A.deeper (envOfC qg sg s.heap.objs.size g cdg)) (.call (.ref f) ⟨[], []⟩) (CR (L2.CX X.prog X.w) (envOfC qg sg s.heap.objs.size g cdg :: X.stack) X.prog X.w H1 s1 Q (WE W0 σZ)) s1 := by
    refine PySem.W.kla_callFunE hr.depth of1 rfl L.co L.gen rfl ⟨c', oc, vs, t, rfl, hoc, hdc, hvc⟩ ?_
    cases kw with
    | none =>
      have hdV : dV = .none := hdf
      subst hdV
      rw [hbind]
      exact wpAny_pure (inside [] fun y hy => absurd hy (by simp))
    | some i0 =>
      obtain ⟨Tp, rfl, hT⟩ := (show ∃ Tp, dV = .ref Tp ∧ H1 Tp = some (.tup [.int i0]) from hdf)
      obtain ⟨pn0, hl0, hb0⟩ := (show ∃ pn : Str, scope.names.lookup pn = some .local ∧ ∀ (cl : List (Str × Addr)) (Tp : Addr) (pm cv ct : Value), ∃ k, bindArgs (lamF (lamQ X) params body scope cl (.ref Tp) pm cv ct) ⟨[], []⟩ = seqItems? (.ref Tp) >>= k ∧ ∀ v, k (some #[v]) = pure [(pn, v)] from hbind)
      obtain ⟨kk, b1, b2⟩ := hb0 (cloFrom X.env.cells scope.names []) Tp pm (.ref c') ctv
      obtain ⟨its, rv, ⟨oT, g1, g2, nT, g3⟩, _⟩ := I1.tuple (.inl (.inl hT))
      obtain ⟨uT, rfl, rT⟩ := vals1 rv
      rw [b1]
      refine wpAny_bind (wpAny_seqItems g1 g3 ?_)
      rw [b2]
      exact wpAny_pure (inside [(pn0, uT)] fun y hy => by rw [List.mem_singleton.mp hy]; exact hl0)
  refine wpAny_call (codeAny_mono rc fun r s' hq => ?_)
  cases r with
  | error e => exact passAt tk σZ pinsZ H1 s1 e s' I1 hq
  | ok fl =>
    cases fl with
    | ret u => exact I1.after hq
    | next => exact False.elim hq
    | brk => exact False.elim hq
    | cont => exact False.elim hq
end
end Mp

set_option Elab.async false
set_option linter.all false
set_option autoImplicit false
set_option maxRecDepth 100000
set_option maxHeartbeats 4000000
/-! Mx9: x(lambda: body). -/
namespace Mp
open PySem PySem.Spec PyProof.Rows L2
/-- the call of what the slot i holds: the function made at f, that gives m -/
def eAsk (i : Nat) (f : Addr) (m : M W) : Sh := fun ρ => match ρ[i]? with
  | some (some (.adr g)) => if g = f then m else M.none
  | _ => M.none
theorem eAsk_some {i : Nat} {f : Addr} {m : M W} {ρ : Rho} {h : Hw} {r : Out W × Hw} (e : eAsk i f m ρ h = some r) : ρ[i]? = some (some (.adr f)) ∧ m h = some r := by
  unfold eAsk at e
  cases q : ρ[i]? with
  | none => rw [q] at e; cases e
  | some o =>
    rw [q] at e
    cases o with
    | none => cases e
    | some w =>
      cases w with
      | adr g =>
        dsimp only at e
        by_cases z : g = f
        · rw [if_pos z] at e; rw [z]; exact ⟨rfl, e⟩
        · rw [if_neg z] at e; cases e
      | _ => cases e
/-- the reading of a body from the promise of its mirror -/
theorem tss_of {K : PySem.W.Frag} {w : World} {T : List (Addr × Str)} {N : List Str} {B : Ss} {φ : List Addr} {H : Hp} {hh : Hw} {ws : List W} {vs : List V} {r : Out W × Hw} {Q : VK} {E : XK} (rr : HRep K w φ H hh) (tb : LamX.Tabs T H) (rs : Reps K φ H ws vs) (e : runB N.length B ws hh = some r)
    (q1 : ∀ u, r.1 = .ok u → ∀ φ' H' v, Ext φ H φ' H' → HRep K w φ' H' r.2 → LamX.Tabs T H' → Rep K φ' H' u v → Q v H')
    (q2 : ∀ e, r.1 = .exc e → ∀ φ' H' cls d, Ext φ H φ' H' → HRep K w φ' H' r.2 → LamX.Tabs T H' → XRep K φ' H' e cls d → E cls d H') :
    tSS K w (GB ⟨T, φ, H⟩ E) B { nx := fun _ H' => Q .non H', rt := Q } (L2.start N vs) H := by
  unfold runB at e
  cases q : B (ws.map some ++ List.replicate (N.length - ws.length) none) hh with
  | none => rw [q] at e; cases e
  | some p =>
    obtain ⟨o, h'⟩ := p
    rw [q] at e
    refine ⟨φ, _, hh, (o, h'), ⟨rr, tb, .refl _ _⟩, erep_start rs, q, ?_⟩
    cases o with
    | nx ρ => cases e; exact fun φ' σ' H' b er => q1 .non rfl φ' H' .non b.x b.n.hr b.n.tb .non
    | rt u => cases e; exact fun φ' H' v b rv => q1 u rfl φ' H' v b.x b.n.hr b.n.tb rv
    | exc ex ρ => cases e; exact fun φ' σ' H' cls dd b er rx => q2 ex rfl φ' H' cls dd b.x b.n.hr b.n.tb rx
    | bk ρ => cases e
    | ct ρ => cases e
section
variable {X : Cx} {G : Gx} {k : Nat} {d : He.DefD} {Ng : List Str} {a x : Str} {c P : Addr} {params : Arguments} {body : Expr} {scope : Scope} {kw : Option Int} {bm : Sh} {Bh : Sh → Ss} {hm : M W → M W} {p lpos pos : Pos}
theorem me_lamcall (D : ∃ fd, FunD X.K d.name d.qual d.params d.body d.scope (d.dvs X.K) (d.kws X.K) (He.fAd X.K d.at_) fd) (hdfl : d.dfl = []) (hm0 : X.mg x = some (.ref (He.fAd X.K d.at_))) (Sg : FnScope Ng [a] d.scope)
    (hbd : ∀ (kV doc pm : Value) (an : Option Addr) (cdv ct : Value) (us : List Value), us.length = 1 → bindArgs (PySem.W.fnOf d.name d.qual d.params d.body d.scope .none kV doc pm an cdv ct) ⟨us, []⟩ = pure ([a].zip us))
    (hNg : Ng[0]? = some a) (hva : Vis d.scope a) (hda : (a == ("__debug__" : Str)) = false) (hca : (a == ("__classdict__" : Str)) = false)
    (TB : LamX.TabB X.base X.mg c P) (hcode : X.env.code = .ref c) (hmT : (P, lamQ X) ∈ G.T.tabs) (hu : ∀ p ∈ G.T.tabs, p.1 = P → p.2 = lamQ X) (hr : RoomG (k + 2) X.A) (tk : Takes X G.Wx) (L : LamN X.N X.env.scope scope)
    (hdef : DefIs kw params X.env) (hbind : LBind kw (lamQ X) params body scope X.N)
    (hbody : ∀ (A : Around) (outer : List Env) (s : Shared) (H : Hp) (E : XK) (f c' : Addr) (T0 : Tb), T0.tabs = G.T.tabs → RoomG k (LamX.lamCx X A outer s H E scope f c').A → ME (LamX.lamCx X A outer s H E scope f c') (GB T0 E) body bm)
    (hheard : ∀ (cv : Value) (A : Around) (outer : List Env) (s : Shared) (H : Hp) (E : XK) (T0 : Tb) (f : Addr) (m : M W), T0.tabs = G.T.tabs → RoomG (k + 1) (XB X.prog X.w X.K X.mg X.base d Ng cv A outer s H E).A →
      (∀ (W0 : WX) (pn : List (Addr × Obj)) (xe : Value → Shared → Prop) (p1 p2 : Pos), Takes ((XB X.prog X.w X.K X.mg X.base d Ng cv A outer s H E).tr pn xe) W0 → ME ((XB X.prog X.w X.K X.mg X.base d Ng cv A outer s H E).tr pn xe) ⟨T0, W0⟩ (.Call (.Name a p1) [] [] p2) (eAsk 0 f m)) →
      MSs (XB X.prog X.w X.K X.mg X.base d Ng cv A outer s H E) (GB T0 E) d.body (Bh (eAsk 0 f m)))
    (hS : ∀ f m h r, hm m h = some r → ∃ r2, runB Ng.length (Bh (eAsk 0 f m)) [.adr f] h = some r2 ∧ ShrR h.length r2 r)
    (hg : Gl X x := by rfl) (hdb : (x == ("__debug__" : Str)) = false := by decide) : ME X G (.Call (.Name x p) [.Lambda params body scope lpos] [] pos) (fun ρ => hm (bm ρ)) := by
  obtain ⟨fd, F⟩ := D
  have kp := F.kp
  have e0 : d.dvs X.K = [] := by unfold He.DefD.dvs; rw [hdfl]; rfl
  rw [e0] at F
  obtain ⟨oc, od, dVg, kV, doc, pmg, an, cdv, ct, osl, rfl, lk, hcd, hD0, _⟩ := F.ex
  have hdV : dVg = .none := by
    rcases hD0 with ⟨_, e⟩ | ⟨e, _⟩
    · exact e
    · exact absurd rfl e
  subst hdV
  refine ⟨fun pins s σ H Q I ⟨φ, ρ, h, ro, n, er, z, qx, qv⟩ => ?_⟩
  refine wpAny_Call_Name_kw (ld_glob I hg hm0 ?_ hdb)
  refine PySem.W.callWith_K (h₀ := X.base) I.ok.mod.kin kp ?_ (by rfl) (by rfl)
  show wpAny _ _ (spliced ((false, eval (.Lambda params body scope lpos) X.env) :: backTo pos (starEach [] X.env))) _ _ s
  refine Calls.spliced_cons (lam_make3 I TB hcode hmT hu n.tb (L.has I.ok) hdef fun f c' dV pm ctv H1 s' I1 eL T1 hf hdf hfn hfr htab => ?_)
  refine Calls.spliced_nil ⟨I1.kIn, ?_⟩
  have x1 : Ext φ H φ H1 := ⟨List.prefix_refl _, fun b o e _ nn => eL.keep b o e nn, fun b hb hn => (hn hb).elim, fun b ps e _ => eL.tbl b ps e⟩
  have hr1 : HRep X.K X.w φ H1 h := ⟨n.hr.len, n.hr.nd, fun i o e => by
    obtain ⟨b, hb, r⟩ := n.hr.obj i o e
    obtain ⟨u, hu, _, _, nt⟩ := r.notup
    exact ⟨b, hb, r.ext x1 n.hr.nt fun u' e' => by rw [hu] at e'; cases e'; exact eL.keep b _ hu nt⟩⟩
  have er1 := er.ext x1 n.hr.nt
  have rc : codeAny (model X.prog X.w) X.A (.call (.ref (He.fAd X.K d.at_)) ⟨[.ref f], []⟩) (CR (L2.CX X.prog X.w) X.stack X.prog X.w H1 s' Q (WE G.Wx σ)) s' := by
    refine LamX.run_ofS (N := Ng) (ps := [a]) (us := [.ref f]) (vs := [.ref f]) lk hcd Sg hr.rm I1.env0 (.of_eq (hbd _ _ _ _ _ _ [.ref f] rfl)) (.cons rfl .nil) rfl fun hr' => ?_
    have hgd : RoomG (k + 1) (X.A.deeper (envOfC d.qual d.scope s'.heap.objs.size (He.fAd X.K d.at_) cdv)) := ⟨hr', (guards_deeper _ _).trans hr.gd⟩
    obtain ⟨r2, e2, sh⟩ := hS f (bm ρ) h ro z
    obtain ⟨w1, w2⟩ := shr_wish (K := X.K) (w := X.w) (T := G.T.tabs) (φ := φ) (H := H1) (Q := Q) (E := WE G.Wx σ) n.hr.len sh
      (fun u eu φ' H' v x r t rv => qv u eu φ' H' v ⟨x1.trans x, r, t, (n.x0.trans x1).trans x⟩ rv) (fun ex eu φ' H' cls dd x r t rx => qx ex eu φ' H' cls dd ⟨x1.trans x, r, t, (n.x0.trans x1).trans x⟩ rx)
    refine ⟨_, hheard cdv X.A X.stack s' H1 (WE G.Wx σ) ⟨G.T.tabs, φ, H1⟩ f (bm ρ) rfl hgd (fun W0 pn xe p1 p2 tkZ => ?_), tss_of hr1 T1 (.cons (.adr f) .nil) e2 w1 w2⟩
    -- ask()
    refine ⟨fun pinsZ sZ σZ HZ QZ IZ ⟨φZ, ρZ, hZ, rZ, nZ, erZ, zZ, qxZ, qvZ⟩ => ?_⟩
    obtain ⟨sl, zb⟩ := eAsk_some zZ
    obtain ⟨vf, hvf, rvf⟩ := erZ.2 0 _ sl
    cases rvf
    refine (pe_ask (tb := fun E => tE X.K X.w (GB ⟨G.T.tabs, φ, H1⟩ E) bm) I1 L hf hfn hfr hbind tkZ hr' (fun A outer s1 H E gA rA => hbody A outer s1 H E f c' ⟨G.T.tabs, φ, H1⟩ rfl ⟨rA, (guards_deeper _ _).trans (gA.trans hgd.gd)⟩) hNg hva hda hca).run pinsZ sZ σZ HZ QZ IZ ⟨hvf, ?_, ?_, ?_⟩
    · obtain ⟨qs, hq, ht, hc⟩ := htab
      obtain ⟨more, hmore⟩ := IZ.base.tbls P qs hq
      obtain ⟨ps2, t1, t2, t3⟩ := nZ.tb _ hmT
      have t1' : HZ P = some (.tbl ps2) := t1
      rw [hmore] at t1'
      cases t1'
      obtain ⟨c0, y1, y2⟩ := t3 lpos (.ref c') (by rw [show (qs ++ more).toList = qs.toList ++ more.toList from by simp]; exact among_more _ _ ht hc)
      cases y1
      exact y2
    · cases kw with
      | none => exact hdf
      | some i =>
        obtain ⟨Tp, e1, e3⟩ := (show ∃ Tp, dV = .ref Tp ∧ H1 Tp = some (.tup [.int i]) from hdf)
        exact ⟨Tp, e1, IZ.base.tups _ _ e3⟩
    · exact ⟨φZ, ρ, hZ, rZ, nZ, er1.ext nZ.x0 hr1.nt, zb, fun e he φ' H' cls dd b x => qxZ e he φ' H' cls dd b x, qvZ⟩
  refine wpAny_call (codeAny_mono rc fun r s2 hq => ?_)
  cases r with
  | error e => exact passAt tk σ pins H1 s' e s2 I1 hq
  | ok fl =>
    cases fl with
    | ret u => exact I1.after hq
    | next => exact False.elim hq
    | brk => exact False.elim hq
    | cont => exact False.elim hq
end
end Mp

set_option Elab.async false
set_option linter.all false
set_option autoImplicit false
set_option maxRecDepth 100000
set_option maxHeartbeats 4000000
/-! Mx10: the end of a law: the call of law(script), the guards known. -/
namespace Mp
open PySem PySem.Spec PyProof.Rows L2 LamX
section
variable {P : Program} {w : World} {K : PySem.W.Frag} {mg mb : Str → Option Value} {k : Nat} {fa a : Addr} {cs : List (Addr × Addr)} {fd : FuncData} {x : Str} {sp : Sp} {s₁ : Shared} {vs : List Value} {ns : List Int}
/-- what stands when law(script) is called; cs: code objects and their empty tables -/
structure Cald (K : PySem.W.Frag) (mg mb : Str → Option Value) (cs : List (Addr × Addr)) (s₁ : Shared) (a : Addr) (vs : List Value) (ns : List Int) : Prop where
  kin : K.In s₁.heap
  glob : s₁.heap.Ns mainGlobals mg
  blt : s₁.heap.Ns builtinsNs mb
  boot : ∀ x : Str, x ≠ "__name__" → mb x = bootBuiltins x
  lim : s₁.heap.NoLimit
  gens : s₁.gens = #[]
  tabs : ∀ p ∈ cs, s₁.heap.get? p.2 = some { cls := .none, data := .fields #[] }
  out : ∀ p ∈ cs, K.lookup p.2 = none
  code : ∀ p ∈ cs, PySem.W.CodeHd s₁.heap p.1 p.2
  bm : ∃ (bm : Addr) (ob : Obj), mg "__builtins__" = some (.ref bm) ∧ bm ≠ builtinsNs ∧ s₁.heap.get? bm = some ob ∧ ob.cls = .type "module" ∧ ob.dict = some builtinsNs ∧ ob.data = .plain
  script : s₁.heap.get? a = some { cls := .type "list", data := .seq vs.toArray }
  nums : IntsAre vs ns
  small : ns.length ≤ sizeLine
/-- an abstract heap for it: the tables, the script where K does not hold it -/
structure Abst (P : Program) (w : World) (K : PySem.W.Frag) (cs : List (Addr × Addr)) (s₁ : Shared) (a : Addr) (ns : List Int) (H : Hp) : Prop where
  tab : ∀ p ∈ cs, H p.2 = some (.tbl #[])
  only : ∀ b, H b = none ∨ b ∈ cs.map (·.2) ∨ ∃ o xs, H b = some (.frz o (.lst xs))
  scr : RoL K H a (ns.map V.int)
  ok : HOk P w H s₁.heap
  dom : ∀ b, H b ≠ none → b = a ∨ b ∈ cs.map (·.2)
  offK : H a ≠ none → K.lookup a = none
variable (C : Cald K mg mb cs s₁ a vs ns) {H : Hp} (T : Abst P w K cs s₁ a ns H)
include C
theorem Cald.tabK {b : Addr} (hb : b ∈ cs.map (·.2)) : s₁.heap.get? b = some { cls := .none, data := .fields #[] } := by
  obtain ⟨p, hp, rfl⟩ := List.mem_map.mp hb
  exact C.tabs p hp
theorem Cald.aT : a ∉ cs.map (·.2) := fun z => by
  have q := C.tabK z
  rw [C.script] at q
  cases congrArg Obj.data (Option.some.inj q)
include T
/-- what is neither a list nor an empty table is not tracked -/
theorem Abst.offT {b : Addr} {o : Obj} (e : s₁.heap.get? b = some o) (h1 : ∀ vs n, o.data ≠ .seq vs n) (h2 : o.data ≠ .fields #[]) : H b = none := by
  cases q : H b with
  | none => rfl
  | some u =>
    rcases T.dom b (by rw [q]; simp) with rfl | hb
    · rw [C.script] at e
      cases e
      exact (h1 _ _ rfl).elim
    · rw [C.tabK hb] at e
      cases e
      exact (h2 rfl).elim
theorem Abst.baseK {b : Addr} {o : Obj} (e : s₁.heap.get? b = some o) (h1 : ∀ vs n, o.data ≠ .seq vs n) (h2 : o.data ≠ .fields #[]) : (hidT s₁.heap H).get? b = some o := hidT_get e (T.offT C e h1 h2)
theorem Abst.nsK {b : Addr} {m : Str → Option Value} (h : s₁.heap.Ns b m) : (hidT s₁.heap H).Ns b m := by
  obtain ⟨o, es, ep, e, d, r⟩ := h
  exact ⟨o, es, ep, T.baseK C e (fun vs n z => by rw [d] at z; cases z) (fun z => by rw [d] at z; cases z), d, r⟩
theorem Abst.kinK : K.In (hidT s₁.heap H) := fun b o e => hidT_get (C.kin b o e) (by
  cases q : H b with
  | none => rfl
  | some u =>
    rcases T.dom b (by rw [q]; simp) with z | hb
    · rw [z] at e q
      rw [T.offK (by rw [q]; simp)] at e
      cases e
    · obtain ⟨p, hp, ep⟩ := List.mem_map.mp hb
      rw [← ep, C.out p hp] at e
      cases e)
theorem Abst.tabK (p : Addr × Addr) (hp : p ∈ cs) : LamX.TabB (hidT s₁.heap H) mg p.1 p.2 := by
  have tp := C.tabs p hp
  refine ⟨?_, ?_, fun z => ?_⟩
  · obtain ⟨o, us, file, tf, flags, tg, inF, text, tt, e1, r1, r2, r3, rest⟩ := C.code p hp
    refine ⟨o, us, file, tf, flags, tg, inF, text, tt, T.baseK C e1 (fun vs n z => ?_) (fun z => ?_), r1, r2, r3, rest⟩
    · rw [r2] at z
      cases z
    · rw [r2] at z
      cases z
      simp at r3
  · obtain ⟨m, ob, b1, b2, b3, b4, b5, b6⟩ := C.bm
    have nG : m ≠ mainGlobals := fun q => by
      obtain ⟨o, es, ep, e, hd, _⟩ := C.glob
      rw [q, e] at b3
      cases b3
      rw [hd] at b6
      cases b6
    have nP : m ≠ p.2 := fun q => by
      rw [q, tp] at b3
      cases b3
      cases b6
    exact ⟨m, ob, b1, b2, nG, nP, T.baseK C b3 (fun vs n z => by rw [b6] at z; cases z) (fun z => by rw [b6] at z; cases z), b4, b5, b6⟩
  · obtain ⟨o, es, ep, e, hd, _⟩ := C.glob
    rw [z, tp] at e
    cases e
    cases hd
theorem Abst.envK : Env0 P w K mg (hidT s₁.heap H) callerA [] s₁ H := by
  have M : L2.Mod K mg (hidT s₁.heap H) := ⟨T.kinK C, T.nsK C C.glob, ⟨mb, T.nsK C C.blt, C.boot⟩, let ⟨mc, h1, h2⟩ := C.lim; ⟨mc, T.nsK C h1, h2⟩⟩
  exact ⟨rfl, M, fun b o e => of_hidT e, Nat.le_of_eq (hidT_size _ _), trivial, fun b hb => absurd (show b ∈ ([] : List Addr) from hb) (by simp), T.ok, .of_eq C.gens⟩
/-- behind the call -/
theorem Abst.after {s' : Shared} {u : Value} (h : CE [] P w H s₁ (fun v _ => v = .bl true) u s') : (Except.ok (Flow.ret u) : Result) = .ok (.ret (.bool true)) ∧ OldK s₁.heap s'.heap ∧ s'.os = s₁.os ∧ AllBare s'.gens := by
  obtain ⟨v, H', os, bare, un, hok', r', q⟩ := h
  have q' : v = .bl true := q
  subst q'
  obtain rfl : u = Value.bool true := r'
  have kept : ∀ b o, b ∉ cs.map (·.2) → s₁.heap.get? b = some o → s'.heap.get? b = some o := fun b o nb e => by
    rcases T.only b with z | z | ⟨ob, xs, z⟩
    · exact un.keep b o e z (fun m => absurd (show b ∈ ([] : List Addr) from m) (by simp)) (by simp)
    · exact absurd z nb
    · obtain ⟨e1, _⟩ := T.ok b _ z
      obtain ⟨e2, _⟩ := hok' b _ (un.frzs b ob _ z)
      rw [e] at e1
      cases e1
      exact e2
  have grown : ∀ p ∈ cs, ∃ more : Array Value, s'.heap.get? p.2 = some { cls := .none, data := .fields more } := fun p hp =>
    let ⟨_, z⟩ := un.tbls p.2 #[] (T.tab p hp)
    ⟨_, hok' p.2 _ z⟩
  refine ⟨rfl, ⟨fun b o e => ?_, fun b o e => ?_⟩, os, bare⟩ <;> by_cases hb : b ∈ cs.map (·.2)
  · obtain ⟨p, hp, rfl⟩ := List.mem_map.mp hb
    obtain ⟨more, hm⟩ := grown p hp
    rw [C.tabs p hp] at e
    cases e
    exact .inr (.inl ⟨((C.code p hp).tab (C.tabs p hp)).isCodeTable, rfl, #[], more, rfl, by rw [Array.empty_append]; exact hm⟩)
  · exact .inl (kept b o hb e)
  · obtain ⟨p, hp, rfl⟩ := List.mem_map.mp hb
    obtain ⟨more, hm⟩ := grown p hp
    exact ⟨_, hm⟩
  · exact ⟨o, kept b o hb e⟩
end
end Mp

set_option Elab.async false
set_option linter.all false
set_option autoImplicit false
set_option maxRecDepth 100000
set_option maxHeartbeats 4000000
/-! Mx11: the end of a law from a mirror: its mirror tells True. -/
namespace Mp
open PySem PySem.Spec PyProof.Rows L2 LamX
theorem reps_int {K : PySem.W.Frag} {φ : List Addr} {H : Hp} : ∀ l : List Int, Reps K φ H (l.map W.int) (l.map V.int)
  | [] => .nil
  | i :: l => .cons (.int i) (reps_int l)
section
variable {P : Program} {w : World} {K : PySem.W.Frag} {mg mb : Str → Option Value} {k : Nat} {fa a : Addr} {cs : List (Addr × Addr)} {fd : FuncData} {x : Str} {s₁ : Shared} {vs : List Value} {ns : List Int} {Tt : List (Addr × Str)} {m : List W → M W} {h' : Hw}
theorem Cald.ends (C : Cald K mg mb cs s₁ a vs ns) {H : Hp} (T : Abst P w K cs s₁ a ns H) (hr : RoomG k callerA) (G : GOk P w K mg (hidT s₁.heap H) k fa fd [x] (spM K w Tt 1 m)) (hb : BindsTo s₁ fd ⟨[.ref a], []⟩ [(x, .ref a)]) (hT : ∀ p ∈ Tt, ∃ q ∈ cs, q.2 = p.1) (hm : m [.lro (ns.map W.int)] [] = some (.ok (.bl true), h')) :
    codeAny (model P w) callerA (.call (.ref fa) ⟨[.ref a], []⟩) (fun r s' => r = .ok (.ret (.bool true)) ∧ OldK s₁.heap s'.heap ∧ s'.os = s₁.os ∧ AllBare s'.gens) s₁ := by
  have sp : spM K w Tt 1 m [.ref a] H (fun v _ => v = .bl true) fun _ _ _ => False := by
    refine ⟨rfl, [], [], _, _, ⟨rfl, List.nodup_nil, fun n o e => by simp at e⟩, fun p hp => ?_, .cons (.lro T.scr (reps_int ns)) .nil, hm, fun u hu φ' H' v _ _ _ rv => ?_, fun e he => by cases he⟩
    · obtain ⟨q, hq, e⟩ := hT p hp
      rw [← e]
      exact TabS.nil (T.tab q hq)
    · cases hu
      cases rv
      rfl
  refine codeAny_mono (G.run callerA [] s₁ H ⟨[.ref a], []⟩ [.ref a] [.ref a] _ _ hr (T.envK C) hb (.cons rfl .nil) sp) fun r s' z => ?_
  cases r with
  | error e =>
    obtain ⟨_, _, _, _, _, _, _, _, _, _, _, _, z⟩ := z
    exact z.elim
  | ok fl =>
    cases fl with
    | next => exact False.elim z
    | brk => exact False.elim z
    | cont => exact False.elim z
    | ret u => exact T.after C z
/-- the tables, the script where K does not hold it -/
def absH (K : PySem.W.Frag) (cs : List (Addr × Addr)) (a : Addr) (vs : List Value) (ns : List Int) : Hp := fun b =>
  if b ∈ cs.map (·.2) then some (.tbl #[]) else if b = a ∧ K.lookup a = none then some (.frz { cls := .type "list", data := .seq vs.toArray } (.lst (ns.map V.int))) else none
theorem Cald.abst (C : Cald K mg mb cs s₁ a vs ns) : Abst P w K cs s₁ a ns (absH K cs a vs ns) := by
  have rv := vals_ints C.nums
  have atT : ∀ {b : Addr}, b ∈ cs.map (·.2) → absH K cs a vs ns b = some (.tbl #[]) := fun hb => if_pos hb
  have atA : K.lookup a = none → absH K cs a vs ns a = some (.frz { cls := .type "list", data := .seq vs.toArray } (.lst (ns.map V.int))) := fun e => (if_neg C.aT).trans (if_pos ⟨rfl, e⟩)
  have off : ∀ {b : Addr}, b ∉ cs.map (·.2) → ¬ (b = a ∧ K.lookup a = none) → absH K cs a vs ns b = none := fun h1 h2 => (if_neg h1).trans (if_neg h2)
  refine ⟨fun p hp => atT (List.mem_map.mpr ⟨p, hp, rfl⟩), fun b => ?_, ?_, fun b u z => ?_, fun b z => ?_, fun z => ?_⟩
  · by_cases hb : b ∈ cs.map (·.2)
    · exact .inr (.inl hb)
    · by_cases hb2 : b = a ∧ K.lookup a = none
      · exact .inr (.inr ⟨_, _, (if_neg hb).trans (if_pos hb2)⟩)
      · exact .inl (off hb hb2)
  · cases hk : K.lookup a with
    | some o =>
      have e := C.kin a o hk
      rw [C.script] at e
      cases e
      exact .inr ⟨_, vs.toArray, _, hk, rfl, rfl, rfl, by rw [List.size_toArray, C.nums.length]; exact C.small, by simpa using rv⟩
    | none => exact .inl ⟨_, atA hk⟩
  · by_cases hb : b ∈ cs.map (·.2)
    · rw [atT hb] at z
      cases z
      exact C.tabK hb
    · by_cases hb2 : b = a ∧ K.lookup a = none
      · obtain ⟨rfl, hk⟩ := hb2
        rw [atA hk] at z
        cases z
        exact ⟨C.script, by rw [List.length_map]; exact C.small, vs, _, rv, C.script⟩
      · rw [off hb hb2] at z
        cases z
  · by_cases hb : b ∈ cs.map (·.2)
    · exact .inr hb
    · by_cases hb2 : b = a ∧ K.lookup a = none
      · exact .inl hb2.1
      · exact absurd (off hb hb2) z
  · cases hk : K.lookup a with
    | none => rfl
    | some o => exact absurd (off C.aT fun q => by rw [hk] at q; cases q.2) z
end
/-- what is known of the law's promise at the head's heap -/
structure LawG (P : Program) (w : World) (K : PySem.W.Frag) (k n : Nat) (x : Str) (mg : Str → Option Value) (fa : Addr) (h : Heap) : Prop where
  ex : ∃ (fd : FuncData) (cs : List (Addr × Addr)) (Tt : List (Addr × Str)) (m : List W → M W), (∀ p ∈ cs, h.get? p.2 = some { cls := .none, data := .fields #[] }) ∧ (∀ p ∈ cs, K.lookup p.2 = none) ∧ (∀ p ∈ cs, PySem.W.CodeHd h p.1 p.2) ∧ (∀ (s : Shared) (u : Value), BindsTo s fd ⟨[u], []⟩ [(x, u)]) ∧ (∀ p ∈ Tt, ∃ q ∈ cs, q.2 = p.1) ∧
    (∀ ns : List Int, ns.length ≤ n → (∀ z ∈ ns, Builtin.Int.intBits z ≤ 1048576) → ∃ h', m [.lro (ns.map W.int)] [] = some (.ok (.bl true), h')) ∧
    ∀ base : Heap, K.In base → base.Ns mainGlobals mg → (∀ p ∈ cs, TabB base mg p.1 p.2) → GOk P w K mg base k fa fd [x] (spM K w Tt 1 m)
theorem walk_g {l : PySem.W.OpenLaw} {n k : Nat} {q : Program} {loose : List Str} {XP : (Str → Option Value) → Heap → Prop} {YP : World → Heap → Prop} {d : DefRec} {x : Str} (hn : l.most = some n) (hn2 : n ≤ sizeLine) (hdf : d.params.defaults = []) (hr : RoomG k callerA)
    (F : ∀ (w : World) (mg : Str → Option Value) (fa : Addr) (h : Heap), YP w h → h.Ns mainGlobals mg → mg d.name = some (.ref fa) → ∃ K : PySem.W.Frag, K.In h ∧ LawG l.prog w K k n x mg fa h) : PySem.W.WalkO q loose XP YP l.row.toRowW d [] (fun f vs => PySem.call f vs) := by
  refine Att.attach_callB hn hdf fun w s₀ s₁ mg mb fa o pm cd doc a vs ns G Y ho hd hcd hmg hobj hints hlen hbits hg => ?_
  obtain ⟨K, KX, L⟩ := F w mg fa _ Y G.T.g hmg
  obtain ⟨fd, cs, Tt, m, e1, e2, e3, hb, hT, hm, hG⟩ := L.ex
  have C : Cald K mg mb cs s₁ a vs ns := ⟨KX, G.T.g, G.T.b, G.T.builtins, G.T.nolimit, hg, e1, e2, e3, G.T.bmain, hobj, hints, Nat.le_trans hlen hn2⟩
  obtain ⟨h', hh⟩ := hm ns hlen hbits
  have T : Abst l.prog w K cs s₁ a ns (absH K cs a vs ns) := C.abst
  exact C.ends T hr (hG _ (T.kinK C) (T.nsK C G.T.g) fun p hp => T.tabK C p hp) (hb s₁ (.ref a)) hT hh
end Mp

set_option Elab.async false
set_option linter.all false
set_option autoImplicit false
set_option maxRecDepth 100000
set_option maxHeartbeats 4000000
/-! Mx12: what the head's Bools tell of own exceptions. -/
namespace Mp
open PySem PySem.Spec PyProof.Rows L2 He
def dOexB (K : PySem.W.Frag) (C : Addr) : Bool := match K.lookup C with
  | some ⟨.type t, _, .cls cd, sl⟩ => (match cd.mro, sl.toList with
    | .ref C' :: bm, [_, _, _, _, some (.builtin n), _] => decide (t = "type") && (decide (C' = C) && (decide (n = "ValueError.__new__") && (!cd.hasDel && (cd.hasDict && PySem.HandSPX.refsVE bm))))
    | _, _ => false)
  | _ => false
def oexB (K : PySem.W.Frag) (C : Addr) : Bool := dOexB K C && (eqO (PySem.W.findIn K (.ref C) "__setattr__") (some (some (.builtin "object.__setattr__"))) && (decide (PySem.W.subIn K (.ref C) (.type "BaseException") = some true) && (decide (PySem.W.typeIn K (.ref C) = some (.type "type")) && PySem.W.keepIn K (.ref C))))
theorem oexB_ok {K : PySem.W.Frag} {C : Addr} (h : oexB K C = true) : L2.OexC K C := by
  obtain ⟨h1, h⟩ := ba h
  obtain ⟨h2, h⟩ := ba h
  obtain ⟨h3, h⟩ := ba h
  obtain ⟨h4, h5⟩ := ba h
  refine ⟨?_, eqO_ok h2, of_decide_eq_true h3, of_decide_eq_true h4, h5⟩
  unfold dOexB at h1
  split at h1
  · rename_i t dd cd sl ho
    split at h1
    · rename_i C' bm k0 k1 k2 k3 n k5 hm hs
      simp only [Bool.and_eq_true, decide_eq_true_eq, Bool.not_eq_true'] at h1
      obtain ⟨rfl, rfl, rfl, hdel, hd, hb⟩ := h1
      obtain ⟨nm, bs, mro, ns, qn, hdd, sn, sub, ab, col, del⟩ := cd
      dsimp only at hm hdel hd
      subst hm hdel hd
      have hsl : sl = #[k0, k1, k2, k3, some (.builtin "ValueError.__new__"), k5] := by
        obtain ⟨l⟩ := sl
        simp only at hs
        rw [hs]
      subst hsl
      exact ⟨nm, qn, ns, bs, bm, sn, sub, ab, col, dd, k0, k1, k2, k3, k5, ho, hb⟩
    · cases h1
  · cases h1
/-- def __init__(sn, x): super().__init__(x); sn.f = x -/
def isI1 (sn x f : Str) : List Stmt → Bool
  | [.Expr (.Call (.Attribute (.Call (.Name s1 _) [] [] _) i1 p2) [.Name x1 _] [] p4) _, .Assign [.Attribute (.Name s2 _) f1 _] (.Name x2 _) _] => decide (s1 = "super") && (decide (i1 = "__init__") && (decide (x1 = x) && (decide (s2 = sn) && (decide (f1 = f) && (decide (x2 = x) && (p2.endLine == p4.line))))))
  | _ => false
theorem isI1_ok {sn x f : Str} {body : List Stmt} (h : isI1 sn x f body = true) : IsInit1 sn x f body := by
  unfold isI1 at h
  split at h
  · rename_i s1 p0 p1 i1 p2 x1 p3 p4 p5 s2 p6 f1 p7 x2 p8 p9
    obtain ⟨h1, h⟩ := ba h
    obtain ⟨h2, h⟩ := ba h
    obtain ⟨h3, h⟩ := ba h
    obtain ⟨h4, h⟩ := ba h
    obtain ⟨h5, h⟩ := ba h
    obtain ⟨h6, h7⟩ := ba h
    obtain rfl := of_decide_eq_true h1
    obtain rfl := of_decide_eq_true h2
    obtain rfl := of_decide_eq_true h3
    obtain rfl := of_decide_eq_true h4
    obtain rfl := of_decide_eq_true h5
    obtain e6 := of_decide_eq_true h6
    rw [e6]
    refine ⟨p0, p1, p2, p3, p4, p5, p6, p7, p8, p9, rfl, plainOf (.Call (.Name "super" p0) [] [] p1), fun env => ?_⟩
    show (do
      let ov ← attributeBase (.Call (.Name "super" p0) [] [] p1) "__init__" env (eval (.Call (.Name "super" p0) [] [] p1) env)
      standAt p2.atName
      methodCall (.Call (.Name "super" p0) [] [] p1) "__init__" p2 p4 env ov 1 (backTo p4 (starEach [.Name x1 p3] env)) []) = _
    refine congrArg _ (funext fun ov => congrArg _ (funext fun _ => ?_))
    exact mcall_line (by rfl) h7
  · cases h
def parI1 (sn x : Str) : Arguments → Bool
  | ⟨[], [⟨a1, _, _⟩, ⟨a2, _, _⟩], none, [], [], none, []⟩ => decide (a1 = sn) && decide (a2 = x)
  | _ => false
def scI1 (sn x : Str) (sc : Scope) : Bool := decide (sc.names.lookup sn = some .local) && (decide (sc.names.lookup x = some .local) && (decide (sc.names.lookup ("super" : Str) = some .globalImplicit) && (decide (sc.names.lookup ("__class__" : Str) = some .free) && (sc.names.all (fun y => decide (y.2 ≠ .cell)) && (decide (sc.kind = .function) && (!sc.isCoroutine && !sc.isGenerator))))))
def fdI1 (sn x f : Str) (fd : FuncData) : Bool := (match fd.body with | .stmts b => isI1 sn x f b | _ => false) && (parI1 sn x fd.params && (scI1 sn x fd.scope && (decide (fd.globals = mainGlobals) && (decide (fd.builtins = builtinsNs) && (decide (fd.defaults = .none) && decide (fd.kwdefaults = .none))))))
def coI1 (P : Program) (K : PySem.W.Frag) (qual : Str) : Value → Bool
  | .ref cda => PySem.W.codeIn K (.ref cda) qual && (match K.lookup cda with
    | some ⟨_, _, .fields vs, _⟩ => (match (vs[2]? : Option Value) with | some (.str file _) => ((P.main.file : Str) == file) | _ => false)
    | _ => false)
  | _ => false
def ceI1 (K : PySem.W.Frag) (C : Addr) : List (Str × Addr) → Bool
  | [(z, cc)] => decide (z = "__class__") && (match K.lookup cc with
    | some ⟨_, _, .cell (some (.ref D)), _⟩ => (PySem.W.clsIn K D).isSome && (decide (PySem.W.mroIn K C (.ref D) = some true) && decide (PySem.W.ks_superIn K C D "__init__" = some (some (.builtin "ValueError.__init__"))))
    | _ => false)
  | _ => false
def xclsB (P : Program) (K : PySem.W.Frag) (c sn x f : Str) : Bool :=
  oexB K (ga K c) && (decide (PySem.W.subIn K (.ref (ga K c)) (.type "ValueError") = some true) && (eqO (PySem.W.nsIn K cStatics "thirdparty.any") (some none) && (eqO (PySem.W.findIn K (.ref (ga K c)) f) (some none) && (match PySem.W.findIn K (.ref (ga K c)) "__init__" with
    | some (some (.ref fI)) => decide (PySem.W.typeIn K (.ref fI) = some (.type "function")) && (match K.lookup fI with
      | some ⟨_, _, .func fd, _⟩ => fdI1 sn x f fd && (coI1 P K fd.qualname fd.code && ceI1 K (ga K c) fd.closure)
      | _ => false)
    | _ => false))))
def Bd2 (sn x : Str) : Prop := ∀ (fd : FuncData) (a1 a2 : Option Expr) (p1 p2 : Pos), fd.params = ⟨[], [⟨sn, a1, p1⟩, ⟨x, a2, p2⟩], none, [], [], none, []⟩ → fd.defaults = .none → fd.kwdefaults = .none → ∀ u v : Value, bindArgs fd ⟨[u, v], []⟩ = pure [(sn, u), (x, v)]
theorem bd2_part : Bd2 "self" "part" := fun ⟨_, _, _, _, _, _, _, _, _, _, _, _, _, _, _⟩ _ _ _ _ h h1 h2 _ _ => by
  subst h h1 h2
  rfl
theorem xclsB_ok {P : Program} {K : PySem.W.Frag} {mg : Str → Option Value} {c sn x f : Str} (h : xclsB P K c sn x f = true) (hb : Bd2 sn x) (ht : (P.main.scope.names.lookup ("super" : Str)).isSome = false) (hg : mg c = some (.ref (ga K c))) (hs : mg "super" = none) (nx : (sn == x) = false := by decide) (dbx : (x == ("__debug__" : Str)) = false := by decide) (dbs : (sn == ("__debug__" : Str)) = false := by decide) : XCls P K mg c f := by
  obtain ⟨h1, h⟩ := ba h
  obtain ⟨h2, h⟩ := ba h
  obtain ⟨h3, h⟩ := ba h
  obtain ⟨h4, h⟩ := ba h
  split at h
  · rename_i fI efI
    obtain ⟨h5, h⟩ := ba h
    split at h
    · rename_i oc od fd osl efd
      obtain ⟨h6, h⟩ := ba h
      obtain ⟨h7, h8⟩ := ba h
      obtain ⟨name, qual, params, body, scope, g, cl, dV, kV, doc, pm, an, cdv, ct, b⟩ := fd
      obtain ⟨j1, j⟩ := ba h6
      obtain ⟨j2, j⟩ := ba j
      obtain ⟨j3, j⟩ := ba j
      obtain ⟨j4, j⟩ := ba j
      obtain ⟨j5, j⟩ := ba j
      obtain ⟨j6, j7⟩ := ba j
      obtain rfl := of_decide_eq_true j4
      obtain rfl := of_decide_eq_true j5
      obtain rfl := of_decide_eq_true j6
      obtain rfl := of_decide_eq_true j7
      cases body with
      | stmts bd =>
        unfold ceI1 at h8
        split at h8
        · rename_i z cc ecl
          dsimp only at ecl
          obtain ⟨r1, h81⟩ := ba h8
          have ez := of_decide_eq_true r1
          subst ez
          clear h8
          split at h81
          · rename_i cl' cld D csl ecc
            obtain ⟨r2, h82⟩ := ba h81
            obtain ⟨r3, r4⟩ := ba h82
            obtain ⟨cdD, hD⟩ := Option.isSome_iff_exists.mp r2
            unfold coI1 at h7
            split at h7
            · rename_i cda ecd
              dsimp only at ecd
              obtain ⟨k1, k2⟩ := ba h7
              split at k2
              · rename_i ccl cdd vs ccs ecda
                split at k2
                · rename_i file tf efile
                  unfold parI1 at j2
                  split at j2
                  · rename_i a1 b1 c1 a2 b2 c2 epar
                    dsimp only at epar
                    obtain ⟨l1, l2⟩ := ba j2
                    obtain rfl := of_decide_eq_true l1
                    obtain rfl := of_decide_eq_true l2
                    unfold scI1 at j3
                    simp only [Bool.and_eq_true, decide_eq_true_eq, Bool.not_eq_true', List.all_eq_true] at j3
                    obtain ⟨m1, m2, m3, m4, m5, m6, m7, m8⟩ := j3
                    subst ecl ecd
                    refine ⟨⟨fI, _, _, ⟨⟨name, qual, params, bd, scope, .none, .none, doc, pm, .none, ct, oc, an, od, osl, cc, cda, D, vs, file, tf, ccl, cl', cdd, cld, ccs, csl, cdD, ⟨_, b1, c1⟩, efd, k1, ecda, efile, k2, ecc, hD, of_decide_eq_true r3, of_decide_eq_true r4, isI1_ok j1, by rw [epar] <;> rfl, rfl, fun us hu => ?_, m1, m2, m3, m4, m5, m6, m7, m8⟩, nx, dbx, dbs, ht, of_decide_eq_true h2, eqO_ok h3, eqO_ok h4, oexB_ok h1⟩, efI, of_decide_eq_true h5⟩, hg, hs⟩
                    match us, hu with
                    | [u, v], _ => exact hb _ _ _ _ _ epar rfl rfl u v
                  · cases j2
                · cases k2
              · cases k2
            · cases h7
          · cases h81
        · cases h8
      | _ => cases j1
    · cases h
  · cases h
end Mp

set_option Elab.async false
set_option linter.all false
set_option autoImplicit false
set_option maxRecDepth 100000
set_option maxHeartbeats 4000000
/-! Mx13: tables of what isinstance, attributes, except clauses know, checked by one Bool. -/
namespace Mp
open PySem PySem.Spec PyProof.Rows L2 He
def excCB (K : PySem.W.Frag) (D : Addr) : Bool :=
  eqO (PySem.W.findIn K (.ref D) "__getattribute__") (some (some (.builtin "BaseException.__getattribute__"))) && (eqO (PySem.W.findIn K (.ref D) "__getattr__") (some none) && (decide (PySem.W.subIn K (.ref D) (.type "BaseException") = some true) && (PySem.W.hasDictIn K D && (eqO (PySem.W.findIn K (.ref D) "__class__") (some (some (.builtin "object.__class__"))) &&
    (eqO (PySem.W.specialIn K (.builtin "object.__class__") "__get__") (some (some (.builtin "getset_descriptor.__get__"))) && (decide (PySem.W.takesIn K (.builtin "object.__class__") = some true) && decide (PySem.W.mroIn K D (.type "object") = some true)))))))
theorem excCB_ok {K : PySem.W.Frag} {D : Addr} (h : excCB K D = true) : L2.ExcC K D := by
  obtain ⟨h1, h⟩ := ba h
  obtain ⟨h2, h⟩ := ba h
  obtain ⟨h3, h⟩ := ba h
  obtain ⟨h4, h⟩ := ba h
  obtain ⟨h5, h⟩ := ba h
  obtain ⟨h6, h⟩ := ba h
  obtain ⟨h7, h8⟩ := ba h
  exact ⟨eqO_ok h1, eqO_ok h2, of_decide_eq_true h3, h4, eqO_ok h5, eqO_ok h6, of_decide_eq_true h7, of_decide_eq_true h8⟩
def insCB (K : PySem.W.Frag) (c : Str) : Bool :=
  (Fa.cls c).ok K && (eqO (PySem.W.findIn K (.ref (ga K c)) "__class__") (some (some (.builtin "object.__class__"))) && (eqO (PySem.W.specialIn K (.builtin "object.__class__") "__get__") (some (some (.builtin "getset_descriptor.__get__"))) && (decide (PySem.W.takesIn K (.builtin "object.__class__") = some true) &&
    (decide (PySem.W.mroIn K (ga K c) (.type "object") = some true) && decide (PySem.W.kitOne K (.ref (ga K c)) (.ref (ga K c)) = some true)))))
theorem insCB_ok {K : PySem.W.Frag} {c : Str} (h : insCB K c = true) : C8.InsC K (ga K c) := by
  obtain ⟨h1, h⟩ := ba h
  obtain ⟨h2, h⟩ := ba h
  obtain ⟨h3, h⟩ := ba h
  obtain ⟨h4, h⟩ := ba h
  obtain ⟨h5, h6⟩ := ba h
  exact ⟨cls_ok h1, eqO_ok h2, eqO_ok h3, of_decide_eq_true h4, of_decide_eq_true h5, of_decide_eq_true h6⟩
/-- what is known, as tables -/
structure Know where
  own : List TyW
  sub : List (TyW × TyW × Bool)
  fk : List (TyW × Str)
  cat : List (Str × Str × Bool)
def Know.ownT (k : Know) (t : TyW) : Bool := decide (t ∈ k.own)
def Know.subT (k : Know) (t c : TyW) : Option Bool := match t, c with
  | .bi _, .bi _ => subB t c
  | _, _ => (k.sub.find? fun e => decide (e.1 = t ∧ e.2.1 = c)).map fun e => e.2.2
def Know.fkT (k : Know) (t : TyW) (f : Str) : Bool := decide ((t, f) ∈ k.fk)
def Know.catT (k : Know) (C c : Str) : Option Bool := (k.cat.find? fun e => decide (e.1 = C ∧ e.2.1 = c)).map fun e => e.2.2
def knowB (k : Know) (K : PySem.W.Frag) : Bool :=
  (k.own.all fun t => match t with | .bi _ => true | .own c => insCB K c | .exc c => excCB K (ga K c)) && ((k.sub.all fun e => decide (PySem.W.kitOne K (e.1.val K) (e.2.1.val K) = some e.2.2)) &&
    ((k.fk.all fun e => match e.1 with | .bi _ => true | .own c => (Fa.cls c).ok K && eqO (PySem.W.findIn K (.ref (ga K c)) e.2) (some none) | .exc c => xfB K (ga K c) && eqO (PySem.W.findIn K (.ref (ga K c)) e.2) (some none)) && k.cat.all fun e => decide (PySem.W.exmOne K (.ref (ga K e.2.1)) (.ref (ga K e.1)) = some e.2.2)))
section
variable {k : Know} {K : PySem.W.Frag}
theorem knowB_ty (h : knowB k K = true) : TyK K k.ownT k.subT := by
  obtain ⟨h1, h⟩ := ba h
  obtain ⟨h2, _⟩ := ba h
  refine ⟨fun t c b e => ?_, fun c e => ?_, fun c e => ?_⟩
  · have key : ∀ (e : (k.sub.find? fun e => decide (e.1 = t ∧ e.2.1 = c)).map (fun e => e.2.2) = some b), PySem.W.kitOne K (t.val K) (c.val K) = some b := fun e => by
      obtain ⟨q, hq, rfl⟩ := Option.map_eq_some_iff.mp e
      have m := List.mem_of_find?_eq_some hq
      have p := List.find?_some hq
      obtain ⟨e1, e2⟩ := of_decide_eq_true p
      rw [← e1, ← e2]
      exact of_decide_eq_true (List.all_eq_true.mp h2 q m)
    cases t with
    | bi x =>
      cases c with
      | bi y => exact subB_ok _ _ _ e
      | own y => exact key e
      | exc y => exact key e
    | own x => exact key e
    | exc x => exact key e
  · exact insCB_ok (List.all_eq_true.mp h1 _ (of_decide_eq_true e))
  · exact excCB_ok (List.all_eq_true.mp h1 _ (of_decide_eq_true e))
theorem knowB_fld (h : knowB k K = true) : FldK K k.fkT := by
  obtain ⟨_, h⟩ := ba h
  obtain ⟨_, h⟩ := ba h
  obtain ⟨h3, _⟩ := ba h
  refine ⟨fun c f e => ?_, fun c f e => ?_⟩
  · obtain ⟨q1, q2⟩ := ba (List.all_eq_true.mp h3 _ (of_decide_eq_true e))
    exact ⟨cls_ok q1, eqO_ok q2⟩
  · obtain ⟨q1, q2⟩ := ba (List.all_eq_true.mp h3 _ (of_decide_eq_true e))
    exact ⟨xfB_ok q1, eqO_ok q2⟩
theorem knowB_cat (h : knowB k K = true) : ∀ C c b, k.catT C c = some b → PySem.W.exmOne K (.ref (ga K c)) (.ref (ga K C)) = some b := fun C c b e => by
  obtain ⟨_, h⟩ := ba h
  obtain ⟨_, h⟩ := ba h
  obtain ⟨_, h4⟩ := ba h
  obtain ⟨q, hq, rfl⟩ := Option.map_eq_some_iff.mp e
  have m := List.mem_of_find?_eq_some hq
  have p := List.find?_some hq
  obtain ⟨e1, e2⟩ := of_decide_eq_true p
  rw [← e1, ← e2]
  exact of_decide_eq_true (List.all_eq_true.mp h4 q m)
end
end Mp

set_option Elab.async false
set_option linter.all false
set_option autoImplicit false
set_option maxRecDepth 100000
set_option maxHeartbeats 4000000
/-! Mx14: a Hook whose written part starts at more than the module's names. -/
namespace Mp
open PySem PySem.Spec PyProof.Rows L2 He
/-- so many rounds from the module's names, the statics besides -/
def rootsK (n : Nat) (g : Addr → Option Obj) : List Addr := cStatics :: asD g n
/-- the written part -/
def partK (n : Nat) (g : Addr → Option Obj) : PySem.W.Frag := frT g (rootsK n g)
section
variable {n : Nat} {fa : List Fa} {fn : List DefD} {tf : List Defn} {ex : PySem.W.Frag → Bool} {g : Addr → Option Obj} {w : World} {h : Heap}
def lookK (n : Nat) (fa : List Fa) (fn : List DefD) (tf : List Defn) (ex : PySem.W.Frag → Bool) (g : Addr → Option Obj) : AlD × Bool := (obsD fa fn (partK n g), tabsB g tf (partK n g) && ex (partK n g))
/-- what is told -/
structure SaysK (fa : List Fa) (fn : List DefD) (tf : List Defn) (ex : PySem.W.Frag → Bool) (h : Heap) (K : PySem.W.Frag) : Prop where
  d : SaysD fa fn K
  more : ex K = true
  tab : ∀ p ∈ tf, PySem.W.codeHdIn K (cT K p).1 (cT K p).2 = true ∧ K.lookup (cT K p).2 = none ∧ h.get? (cT K p).2 = some { cls := .none, data := .fields #[] }
theorem saysK_of (e : lookK n fa fn tf ex h.get? = (valD fn, true)) : SaysK fa fn tf ex h (partK n h.get?) := by
  obtain ⟨e1, e2⟩ := Prod.mk.inj e
  obtain ⟨e3, e4⟩ := ba e2
  refine ⟨e1, e4, fun p hp => ?_⟩
  have q := List.all_eq_true.mp e3 p hp
  obtain ⟨q1, q2⟩ := ba q
  cases z : h.get? (cT (partK n h.get?) p).2 with
  | none => rw [z] at q2; cases q2
  | some o =>
    rw [z] at q2
    exact ⟨q1, frT_none z q2, by rw [emptyTab_eq q2]⟩
def hookK (n : Nat) (fa : List Fa) (fn : List DefD) (tf : List Defn) (ex : PySem.W.Frag → Bool) : PySem.W.Hook where
  α := AlD × Bool
  obs := fun s => lookK n fa fn tf ex s.heap.get?
  val := fun _ => (valD fn, true)
  says := fun _ h => ∃ K : PySem.W.Frag, K.In h ∧ SaysK fa fn tf ex h K
  of := fun _ _ e => ⟨_, frT_in, saysK_of e⟩
  keeps := fun _ _ _ ⟨K, hK, c⟩ k => ⟨K, PySem.W.Frag.In.keeps hK k, c.d, c.more, fun p hp => let ⟨a, b, d⟩ := c.tab p hp; ⟨a, b, k _ _ d⟩⟩
theorem look_eq {s : PySem.W.SharedT} : lookK n fa fn tf ex (HandSHeadRun.getT s) = (hookK n fa fn tf ex).obs s.abs := by
  rw [show HandSHeadRun.getT s = s.abs.heap.get? from funext fun a => HandSHeadRun.getT_eq s a] <;> rfl
end
end Mp

set_option Elab.async false
set_option linter.all false
set_option autoImplicit false
set_option maxRecDepth 100000
set_option maxHeartbeats 4000000
/-! Mx15: a def is one. -/
namespace Mp
open PySem PySem.Spec PyProof.Rows L2
theorem funD_one {K : PySem.W.Frag} {x qual : Str} {params : Arguments} {body : List Stmt} {scope : Scope} {dvs : List V} {kws : List (Str × V)} {f : Addr} {fd fd2 : FuncData} (a : FunD K x qual params body scope dvs kws f fd) (b : FunD K x qual params body scope dvs kws f fd2) : fd = fd2 := by
  obtain ⟨_, _, _, _, _, _, _, _, _, _, _, l1, _⟩ := a.ex
  obtain ⟨_, _, _, _, _, _, _, _, _, _, _, l2, _⟩ := b.ex
  rw [l1] at l2
  cases l2
  rfl
end Mp

set_option Elab.async false
set_option linter.all false
set_option autoImplicit false
set_option maxRecDepth 100000
set_option maxHeartbeats 4000000
/-! The walk of provenruns_k78_written_ones, printed by wip/gen/gen.py: names, scopes, mirrors, derivations. -/
namespace Wk
open PySem PySem.Spec PyProof.Rows L2 Mp
def top (i : Nat) : Stmt := PySem.Challenge.pw_provenruns_k78_written_ones.main.body.getD i (.Pass ⟨0, 0, 0, 0⟩)
/-- the defs -/
inductive Fk where
  | is_row | is_name | fixed | statement_in | need_statement | parts_in | is_plain | written | row_of | written_one | _law_pen | _law_draw | _law_pick | _law_statement | _law_heard | _law_value | law
deriving DecidableEq
abbrev st_is_row : Stmt := top 6
abbrev d_is_row : He.DefD := { at_ := ("is_row", none), name := "is_row", qual := "is_row", params := defArgs st_is_row, body := defBody st_is_row, scope := defScope st_is_row, dfl := [] }
abbrev N_is_row : List Str := (["value"] : List Str)
abbrev P_is_row : List Str := (["value"] : List Str)
theorem sc_is_row : FnScope N_is_row P_is_row d_is_row.scope := ⟨rfl, rfl, rfl, by decide +kernel, rfl, by decide +kernel, by decide +kernel⟩
abbrev st_is_name : Stmt := top 7
abbrev d_is_name : He.DefD := { at_ := ("is_name", none), name := "is_name", qual := "is_name", params := defArgs st_is_name, body := defBody st_is_name, scope := defScope st_is_name, dfl := [] }
abbrev N_is_name : List Str := (["value", "sign"] : List Str)
abbrev P_is_name : List Str := (["value"] : List Str)
theorem sc_is_name : FnScope N_is_name P_is_name d_is_name.scope := ⟨rfl, rfl, rfl, by decide +kernel, rfl, by decide +kernel, by decide +kernel⟩
abbrev st_fixed : Stmt := top 19
abbrev d_fixed : He.DefD := { at_ := ("fixed", none), name := "fixed", qual := "fixed", params := defArgs st_fixed, body := defBody st_fixed, scope := defScope st_fixed, dfl := [] }
abbrev N_fixed : List Str := (["value", "done", "line", "one", "parts"] : List Str)
abbrev P_fixed : List Str := (["value"] : List Str)
theorem sc_fixed : FnScope N_fixed P_fixed d_fixed.scope := ⟨rfl, rfl, rfl, by decide +kernel, rfl, by decide +kernel, by decide +kernel⟩
abbrev st_statement_in : Stmt := top 28
abbrev d_statement_in : He.DefD := { at_ := ("statement_in", none), name := "statement_in", qual := "statement_in", params := defArgs st_statement_in, body := defBody st_statement_in, scope := defScope st_statement_in, dfl := [] }
abbrev N_statement_in : List Str := (["value", "line", "many", "one"] : List Str)
abbrev P_statement_in : List Str := (["value"] : List Str)
theorem sc_statement_in : FnScope N_statement_in P_statement_in d_statement_in.scope := ⟨rfl, rfl, rfl, by decide +kernel, rfl, by decide +kernel, by decide +kernel⟩
abbrev st_need_statement : Stmt := top 29
abbrev d_need_statement : He.DefD := { at_ := ("need_statement", none), name := "need_statement", qual := "need_statement", params := defArgs st_need_statement, body := defBody st_need_statement, scope := defScope st_need_statement, dfl := [.str "statement"] }
abbrev N_need_statement : List Str := (["value", "part", "found"] : List Str)
abbrev P_need_statement : List Str := (["value", "part"] : List Str)
theorem sc_need_statement : FnScope N_need_statement P_need_statement d_need_statement.scope := ⟨rfl, rfl, rfl, by decide +kernel, rfl, by decide +kernel, by decide +kernel⟩
abbrev st_parts_in : Stmt := top 30
abbrev d_parts_in : He.DefD := { at_ := ("parts_in", none), name := "parts_in", qual := "parts_in", params := defArgs st_parts_in, body := defBody st_parts_in, scope := defScope st_parts_in, dfl := [] }
abbrev N_parts_in : List Str := (["statement", "found", "line", "one"] : List Str)
abbrev P_parts_in : List Str := (["statement"] : List Str)
theorem sc_parts_in : FnScope N_parts_in P_parts_in d_parts_in.scope := ⟨rfl, rfl, rfl, by decide +kernel, rfl, by decide +kernel, by decide +kernel⟩
abbrev st_is_plain : Stmt := top 31
abbrev d_is_plain : He.DefD := { at_ := ("is_plain", none), name := "is_plain", qual := "is_plain", params := defArgs st_is_plain, body := defBody st_is_plain, scope := defScope st_is_plain, dfl := [] }
abbrev N_is_plain : List Str := (["statement", "part"] : List Str)
abbrev P_is_plain : List Str := (["statement"] : List Str)
theorem sc_is_plain : FnScope N_is_plain P_is_plain d_is_plain.scope := ⟨rfl, rfl, rfl, by decide +kernel, rfl, by decide +kernel, by decide +kernel⟩
abbrev st_written : Stmt := top 33
abbrev d_written : He.DefD := { at_ := ("written", none), name := "written", qual := "written", params := defArgs st_written, body := defBody st_written, scope := defScope st_written, dfl := [] }
abbrev N_written : List Str := (["statement", "neutral", "step", "word", "one", "other", "first", "second"] : List Str)
abbrev P_written : List Str := (["statement", "neutral", "step"] : List Str)
theorem sc_written : FnScope N_written P_written d_written.scope := ⟨rfl, rfl, rfl, by decide +kernel, rfl, by decide +kernel, by decide +kernel⟩
abbrev st_row_of : Stmt := top 34
abbrev d_row_of : He.DefD := { at_ := ("row_of", none), name := "row_of", qual := "row_of", params := defArgs st_row_of, body := defBody st_row_of, scope := defScope st_row_of, dfl := [] }
abbrev N_row_of : List Str := (["word", "neutral"] : List Str)
abbrev P_row_of : List Str := (["word", "neutral"] : List Str)
theorem sc_row_of : FnScope N_row_of P_row_of d_row_of.scope := ⟨rfl, rfl, rfl, by decide +kernel, rfl, by decide +kernel, by decide +kernel⟩
abbrev st_written_one : Stmt := top 36
abbrev d_written_one : He.DefD := { at_ := ("written_one", none), name := "written_one", qual := "written_one", params := defArgs st_written_one, body := defBody st_written_one, scope := defScope st_written_one, dfl := [] }
abbrev N_written_one : List Str := (["statement", "neutral"] : List Str)
abbrev P_written_one : List Str := (["statement", "neutral"] : List Str)
theorem sc_written_one : FnScope N_written_one P_written_one d_written_one.scope := ⟨rfl, rfl, rfl, by decide +kernel, rfl, by decide +kernel, by decide +kernel⟩
abbrev st__law_pen : Stmt := top 38
abbrev d__law_pen : He.DefD := { at_ := ("_law_pen", none), name := "_law_pen", qual := "_law_pen", params := defArgs st__law_pen, body := defBody st__law_pen, scope := defScope st__law_pen, dfl := [] }
abbrev N__law_pen : List Str := (["script", "cell"] : List Str)
abbrev P__law_pen : List Str := (["script"] : List Str)
theorem sc__law_pen : FnScope N__law_pen P__law_pen d__law_pen.scope := ⟨rfl, rfl, rfl, by decide +kernel, rfl, by decide +kernel, by decide +kernel⟩
abbrev st__law_draw : Stmt := top 39
abbrev d__law_draw : He.DefD := { at_ := ("_law_draw", none), name := "_law_draw", qual := "_law_draw", params := defArgs st__law_draw, body := defBody st__law_draw, scope := defScope st__law_draw, dfl := [] }
abbrev N__law_draw : List Str := (["pen", "many", "digit", "at", "cell", "great", "mixed"] : List Str)
abbrev P__law_draw : List Str := (["pen", "many"] : List Str)
theorem sc__law_draw : FnScope N__law_draw P__law_draw d__law_draw.scope := ⟨rfl, rfl, rfl, by decide +kernel, rfl, by decide +kernel, by decide +kernel⟩
abbrev st__law_pick : Stmt := top 40
abbrev d__law_pick : He.DefD := { at_ := ("_law_pick", none), name := "_law_pick", qual := "_law_pick", params := defArgs st__law_pick, body := defBody st__law_pick, scope := defScope st__law_pick, dfl := [] }
abbrev N__law_pick : List Str := (["pen", "some"] : List Str)
abbrev P__law_pick : List Str := (["pen", "some"] : List Str)
theorem sc__law_pick : FnScope N__law_pick P__law_pick d__law_pick.scope := ⟨rfl, rfl, rfl, by decide +kernel, rfl, by decide +kernel, by decide +kernel⟩
abbrev st__law_statement : Stmt := top 41
abbrev d__law_statement : He.DefD := { at_ := ("_law_statement", none), name := "_law_statement", qual := "_law_statement", params := defArgs st__law_statement, body := defBody st__law_statement, scope := defScope st__law_statement, dfl := [] }
abbrev N__law_statement : List Str := (["pen", "deep", "way", "word"] : List Str)
abbrev P__law_statement : List Str := (["pen", "deep"] : List Str)
theorem sc__law_statement : FnScope N__law_statement P__law_statement d__law_statement.scope := ⟨rfl, rfl, rfl, by decide +kernel, rfl, by decide +kernel, by decide +kernel⟩
abbrev st__law_heard : Stmt := top 42
abbrev d__law_heard : He.DefD := { at_ := ("_law_heard", none), name := "_law_heard", qual := "_law_heard", params := defArgs st__law_heard, body := defBody st__law_heard, scope := defScope st__law_heard, dfl := [] }
abbrev N__law_heard : List Str := (["ask", "caught", "found", "error", "some", "words", "word", "is_it"] : List Str)
abbrev P__law_heard : List Str := (["ask"] : List Str)
theorem sc__law_heard : FnScope N__law_heard P__law_heard d__law_heard.scope := ⟨rfl, rfl, rfl, by decide +kernel, rfl, by decide +kernel, by decide +kernel⟩
abbrev st__law_value : Stmt := top 43
abbrev d__law_value : He.DefD := { at_ := ("_law_value", none), name := "_law_value", qual := "_law_value", params := defArgs st__law_value, body := defBody st__law_value, scope := defScope st__law_value, dfl := [] }
abbrev N__law_value : List Str := (["statement", "neutral"] : List Str)
abbrev P__law_value : List Str := (["statement", "neutral"] : List Str)
theorem sc__law_value : FnScope N__law_value P__law_value d__law_value.scope := ⟨rfl, rfl, rfl, by decide +kernel, rfl, by decide +kernel, by decide +kernel⟩
abbrev st_law : Stmt := top 44
abbrev d_law : He.DefD := { at_ := ("law", none), name := "law", qual := "law", params := defArgs st_law, body := defBody st_law, scope := defScope st_law, dfl := [] }
abbrev N_law : List Str := (["script", "pen", "turn", "statement", "neutral", "crooked", "bad"] : List Str)
abbrev P_law : List Str := (["script"] : List Str)
theorem sc_law : FnScope N_law P_law d_law.scope := ⟨rfl, rfl, rfl, by decide +kernel, rfl, by decide +kernel, by decide +kernel⟩
/-- what the mirrors lean on: classes known to isinstance, what it answers, attributes, except clauses -/
structure Pk where
  own : TyW → Bool
  sub : TyW → TyW → Option Bool
  fk : TyW → Str → Bool
  cat : Str → Str → Option Bool
def SL_written (S : Fk → List W → M W) : Str → Option (List W → M W) := fun g => if g = "row_of" then some (S .row_of) else none
noncomputable def B_is_row (pk : Pk) (S : Fk → List W → M W) : Ss :=
    (sRet (mCall (fIsT pk.own pk.sub) (aCons (eVar 0) (aCons (eTup (aCons (eC (.ty "list")) (aCons (eC (.ty "tuple")) aNil))) aNil))))
noncomputable def B_is_name (pk : Pk) (S : Fk → List W → M W) : Ss :=
    (sSeq (sIf (tOr (tNot (tBl (mCall (fIs pk.own pk.sub) (aCons (eVar 0) (aCons (eC (.ty "str")) aNil))))) (tOr (tNot (tBl (eChain fLe fLe (eC (.int 1)) (mCall fLen (aCons (eVar 0) aNil)) (eC (.int 8))))) (tBl (mOp2 fIn (eVar 0) (eC (.tup [(.str "and"), (.str "or"), (.str "gives"), (.str "yes"), (.str "no"), (.str "fun"), (.str "call"), (.str "pair"), (.str "first"), (.str "second"), (.str "left"), (.str "right"), (.str "case"), (.str "unit"), (.str "never"), (.str "hole")]))))))
    (sRet (eC (.bl false)))
    sNext)
    (sRet (eFuse cAll (eLcs (srcM srcS (eVar 0)) (gNm 1) tYesM (mOp2 fIn (eVar 1) (eC (.str "abcdefghijklmnopqrstuvwxyz"))) [1]))))
noncomputable def B_fixed (pk : Pk) (S : Fk → List W → M W) : Ss :=
    (sSeq (sPar 1 2 (aCons (eC .non) (aCons (eLst (aCons (eTup (aCons (eVar 0) (aCons (eC .non) aNil))) aNil)) aNil)))
    (sSeq (sWhile (tBl (mOp2 fNe (eVar 2) (eLst aNil)))
    (sSeq (sAsg (eMth fPop (eVar 2) aNil) (gTp (gsCons (gNm 3) (gsCons (gNm 4) gsNil)) 2))
    (sSeq (sIf (tNot (tBl (eCall (S .is_row) 1 0 [0] [] (aCons (eVar 3) aNil) aNil)))
    (sAsg (eVar 3) (gNm 1))
    (sIf (tBl (mOp2 fIsN (eVar 4) (eC .non)))
    (sSeq (sDrop (eMth fApp (eVar 2) (aCons (eTup (aCons (eVar 3) (aCons (eLst aNil) aNil))) aNil)))
    (sSeq (sAsg (eC .non) (gNm 1))
    (sSeq (sIf (tBl (mOp2 fGt (mCall fLen (aCons (eVar 3) aNil)) (eC (.int 0))))
    (sSeq (sDrop (eMth fApp (eVar 2) (aCons (eTup (aCons (mOp2 fIx (eVar 3) (eC (.int 0))) (aCons (eC .non) aNil))) aNil)))
    sCnt)
    sNext)
    (sSeq (sDrop (eMth fPop (eVar 2) aNil))
    (sAsg (eTup aNil) (gNm 1))))))
    (sSeq (sDrop (eMth fApp (eVar 4) (aCons (eVar 1) aNil)))
    (sSeq (sIf (tBl (mOp2 fLt (mCall fLen (aCons (eVar 4) aNil)) (mCall fLen (aCons (eVar 3) aNil))))
    (sSeq (sDrop (eMth fApp (eVar 2) (aCons (eTup (aCons (eVar 3) (aCons (eVar 4) aNil))) aNil)))
    (sSeq (sDrop (eMth fApp (eVar 2) (aCons (eTup (aCons (mOp2 fIx (eVar 3) (mCall fLen (aCons (eVar 4) aNil))) (aCons (eC .non) aNil))) aNil)))
    sCnt))
    sNext)
    (sAsg (mCall fTuple (aCons (eVar 4) aNil)) (gNm 1))))))
    (sIf (tBl (mOp2 fEq (eVar 2) (eLst aNil)))
    (sRet (eVar 1))
    sNext))))
    (sRet (eVar 1))))
noncomputable def B_statement_in (pk : Pk) (S : Fk → List W → M W) : Ss :=
    (sSeq (sPar 1 2 (aCons (eLst (aCons (eVar 0) aNil)) (aCons (eC (.int 0)) aNil)))
    (sSeq (sWhile (tBl (mOp2 fNe (eVar 1) (eLst aNil)))
    (sSeq (sPar 3 2 (aCons (eMth fPop (eVar 1) aNil) (aCons (mOp2 fAdd (eVar 2) (eC (.int 1))) aNil)))
    (sSeq (sIf (tBl (mOp2 fGt (eVar 2) (eC (.int 24))))
    (sRet (eC .non))
    sNext)
    (sIf (tBl (mCall (fIs pk.own pk.sub) (aCons (eVar 3) (aCons (eC (.ty "str")) aNil))))
    (sIf (tAnd (tBl (mOp2 fNotIn (eVar 3) (eTup (aCons (eC (.str "yes")) (aCons (eC (.str "no")) aNil))))) (tNot (tBl (eCall (S .is_name) 1 0 [0] [] (aCons (eVar 3) aNil) aNil))))
    (sRet (eC .non))
    sNext)
    (sIf (tAnd (tBl (mCall (fIsT pk.own pk.sub) (aCons (eVar 3) (aCons (eTup (aCons (eC (.ty "list")) (aCons (eC (.ty "tuple")) aNil))) aNil)))) (tAnd (tBl (mOp2 fEq (mCall fLen (aCons (eVar 3) aNil)) (eC (.int 3)))) (tAnd (tBl (mCall (fIs pk.own pk.sub) (aCons (mOp2 fIx (eVar 3) (eC (.int 0))) (aCons (eC (.ty "str")) aNil)))) (tBl (mOp2 fIn (mOp2 fIx (eVar 3) (eC (.int 0))) (eC (.tup [(.str "and"), (.str "or"), (.str "gives")])))))))
    (sDrop (eExtL (eVar 1) (aCons (mOp2 fIx (eVar 3) (eC (.int 2))) (aCons (mOp2 fIx (eVar 3) (eC (.int 1))) aNil))))
    (sRet (eC .non)))))))
    (sRet (eCall (S .fixed) 1 0 [0] [] (aCons (eVar 0) aNil) aNil))))
noncomputable def B_need_statement (pk : Pk) (S : Fk → List W → M W) : Ss :=
    (sSeq (sAsg (eCall (S .statement_in) 1 0 [0] [] (aCons (eVar 0) aNil) aNil) (gNm 2))
    (sSeq (sIf (tBl (mOp2 fIsN (eVar 2) (eC .non)))
    (sRaise "BadStatement" "part" (eVar 1))
    sNext)
    (sRet (eVar 2))))
noncomputable def B_parts_in (pk : Pk) (S : Fk → List W → M W) : Ss :=
    (sSeq (sPar 1 2 (aCons (eLst aNil) (aCons (eLst (aCons (eVar 0) aNil)) aNil)))
    (sSeq (sWhile (tBl (mOp2 fNe (eVar 2) (eLst aNil)))
    (sSeq (sAsg (eMth fPop (eVar 2) aNil) (gNm 3))
    (sSeq (sDrop (eMth fApp (eVar 1) (aCons (eVar 3) aNil)))
    (sIf (tNot (tBl (mCall (fIs pk.own pk.sub) (aCons (eVar 3) (aCons (eC (.ty "str")) aNil)))))
    (sDrop (eExtL (eVar 2) (aCons (mOp2 fIx (eVar 3) (eC (.int 2))) (aCons (mOp2 fIx (eVar 3) (eC (.int 1))) aNil))))
    sNext))))
    (sRet (mCall fTuple (aCons (eVar 1) aNil)))))
noncomputable def B_is_plain (pk : Pk) (S : Fk → List W → M W) : Ss :=
    (sRet (eNot (eFuse cAny (eLcs (srcM srcT (eCall (S .parts_in) 1 0 [0] [] (aCons (eVar 0) aNil) aNil)) (gNm 1) tYesM (eOr (mOp2 fEq (eVar 1) (eC (.str "no"))) (eAnd (eNot (mCall (fIs pk.own pk.sub) (aCons (eVar 1) (aCons (eC (.ty "str")) aNil)))) (mOp2 fEq (mOp2 fIx (eVar 1) (eC (.int 0))) (eC (.str "or"))))) [1]))))
noncomputable def B_written (pk : Pk) (S : Fk → List W → M W) : Ss :=
    (sSeq (sIf (tBl (mOp2 fEq (eVar 0) (eC (.str "yes"))))
    (sRet (eC (.str "unit")))
    sNext)
    (sSeq (sIf (tBl (mCall (fIs pk.own pk.sub) (aCons (eVar 0) (aCons (eC (.ty "str")) aNil))))
    (sRet (eTup (aCons (eC (.str "token")) (aCons (eVar 0) (aCons (eVar 1) aNil)))))
    sNext)
    (sSeq (sAsg (eVar 0) (gTp (gsCons (gNm 3) (gsCons (gNm 4) (gsCons (gNm 5) gsNil))) 3))
    (sSeq (sIf (tBl (mOp2 fEq (eVar 3) (eC (.str "and"))))
    (sSeq (sPar 6 7 (aCons (eCallL 2 (SL_written S) 2 (aCons (eC (.str "first")) (aCons (eVar 1) aNil))) (aCons (eCallL 2 (SL_written S) 2 (aCons (eC (.str "second")) (aCons (eVar 1) aNil))) aNil)))
    (sRet (eTup (aCons (eC (.str "pair")) (aCons (eCall (S .written) 3 0 [0, 1, 2] [] (aCons (eVar 4) (aCons (eVar 6) (aCons (eVar 2) aNil))) aNil) (aCons (eCall (S .written) 3 0 [0, 1, 2] [] (aCons (eVar 5) (aCons (eVar 7) (aCons (eVar 2) aNil))) aNil) aNil))))))
    sNext)
    (sRet (eTup (aCons (eC (.str "writer")) (aCons (eVar 4) (aCons (eVar 5) (aCons (eVar 1) aNil))))))))))
noncomputable def B_row_of (pk : Pk) (S : Fk → List W → M W) : Ss :=
    (sRet (eTup (aCons (eVar 0) (aCons (eVar 1) aNil))))
noncomputable def B_written_one (pk : Pk) (S : Fk → List W → M W) : Ss :=
    (sSeq (sDrop (eCall (S .need_statement) 1 0 [0, 1] [(.str "statement")] (aCons (eVar 0) aNil) aNil))
    (sSeq (sIf (tNot (tBl (eCall (S .is_plain) 1 0 [0] [] (aCons (eVar 0) aNil) aNil)))
    (sRaise "Misfit" "part" (eC (.str "statement")))
    sNext)
    (sRet (eCall (S .written) 3 0 [0, 1, 2] [] (aCons (eCall (S .fixed) 1 0 [0] [] (aCons (eVar 0) aNil) aNil) (aCons (eVar 1) (aCons (eC (.glo "row_of")) aNil))) aNil))))
noncomputable def B__law_pen (pk : Pk) (S : Fk → List W → M W) : Ss :=
    (sRet (eLst (aCons (eLcK (srcM srcL (eSl (eVar 0) oNone (oSome (eC (.int 64))))) (gNm 1) tYesM (mCall fInt (aCons (eVar 1) aNil)) [1]) (aCons (eC (.int 0)) (aCons (eC (.int 0)) aNil)))))
noncomputable def B__law_draw (pk : Pk) (S : Fk → List W → M W) : Ss :=
    (sSeq (sIf (tBl (mOp2 fGt (mOp2 fIx (eVar 0) (eC (.int 2))) (eC (.int 0))))
    (sSeq (sAsg (mOp2 fMod (mCall fInt (aCons (mOp2 fIx (eVar 0) (eC (.int 2))) aNil)) (eVar 1)) (gNm 2))
    (sSeq (sAsg (mOp2 fDiv (mCall fInt (aCons (mOp2 fIx (eVar 0) (eC (.int 2))) aNil)) (eVar 1)) (gIx (eVar 0) (eC (.int 2))))
    (sRet (eVar 2))))
    sNext)
    (sSeq (sAsg (mOp2 fIx (eVar 0) (eC (.int 1))) (gNm 3))
    (sSeq (sAsg (mOp2 fAdd (eVar 3) (eC (.int 1))) (gIx (eVar 0) (eC (.int 1))))
    (sSeq (sAsg (mOp2 fAdd (mOp2 fMul (eC (.int 73263)) (eVar 3)) (eC (.int 44003))) (gNm 4))
    (sSeq (sIf (tBl (mOp2 fNe (mOp2 fIx (eVar 0) (eC (.int 0))) (eLst aNil)))
    (sAsg (mOp2 fIx (mOp2 fIx (eVar 0) (eC (.int 0))) (mOp2 fMod (mCall fInt (aCons (eVar 3) aNil)) (mCall fLen (aCons (mOp2 fIx (eVar 0) (eC (.int 0))) aNil)))) (gNm 4))
    sNext)
    (sSeq (sIf (tAnd (tBl (mOp2 fLt (eVar 3) (mCall fLen (aCons (mOp2 fIx (eVar 0) (eC (.int 0))) aNil)))) (tBl (mOp2 fGe (mCall fAbs (aCons (eVar 4) aNil)) (mOp2 fPow (eC (.int 10)) (eC (.int 18))))))
    (sSeq (sAsg (mOp2 fAdd (mOp2 fMul (eC (.int 2)) (mOp2 fSub (mCall fAbs (aCons (eVar 4) aNil)) (mOp2 fPow (eC (.int 10)) (eC (.int 18))))) (mCall fInt (aCons (mOp2 fLt (eVar 4) (eC (.int 0))) aNil))) (gNm 5))
    (sSeq (sAsg (mOp2 fDiv (mCall fInt (aCons (eVar 5) aNil)) (eVar 1)) (gIx (eVar 0) (eC (.int 2))))
    (sRet (mOp2 fMod (mCall fInt (aCons (eVar 5) aNil)) (eVar 1)))))
    sNext)
    (sSeq (sAsg (mOp2 fMod (mCall fInt (aCons (mOp2 fPow (mOp2 fAdd (mOp2 fAdd (mOp2 fMod (mCall fInt (aCons (eVar 4) aNil)) (eC (.int 2147483563))) (mOp2 fMul (eC (.int 73263)) (eVar 3))) (eC (.int 44003))) (eC (.int 5))) aNil)) (eC (.int 2147483579))) (gNm 6))
    (sSeq (sAsg (mOp2 fMod (mCall fInt (aCons (mOp2 fPow (mOp2 fAdd (mOp2 fAdd (mOp2 fMul (eVar 6) (mOp2 fAdd (mOp2 fMul (eC (.int 2)) (eVar 3)) (eC (.int 4361)))) (mOp2 fMul (mOp2 fMul (eC (.int 44003)) (eVar 3)) (eVar 3))) (eC (.int 149))) (eC (.int 3))) aNil)) (eC (.int 2147483549))) (gNm 6))
    (sRet (mOp2 fMod (mCall fInt (aCons (mOp2 fDiv (eVar 6) (eC (.int 16))) aNil)) (eVar 1)))))))))))
noncomputable def B__law_pick (pk : Pk) (S : Fk → List W → M W) : Ss :=
    (sRet (mOp2 fIx (eVar 1) (eCall (S ._law_draw) 2 0 [0, 1] [] (aCons (eVar 0) (aCons (mCall fLen (aCons (eVar 1) aNil)) aNil)) aNil)))
noncomputable def B__law_statement (pk : Pk) (S : Fk → List W → M W) : Ss :=
    (sSeq (sAsg (eIf (tBl (mOp2 fGt (eVar 1) (eC (.int 1)))) (eCall (S ._law_draw) 2 0 [0, 1] [] (aCons (eVar 0) (aCons (eC (.int 9)) aNil)) aNil) (eC (.int 0))) (gNm 2))
    (sSeq (sIf (tBl (mOp2 fLt (eVar 2) (eC (.int 4))))
    (sRet (eCall (S ._law_pick) 2 0 [0, 1] [] (aCons (eVar 0) (aCons (eLst (aCons (eC (.str "b")) (aCons (eC (.str "c")) (aCons (eC (.str "b")) (aCons (eC (.str "c")) (aCons (eC (.str "house")) (aCons (eC (.str "b")) (aCons (eC (.str "yes")) (aCons (eC (.str "c")) (aCons (eC (.str "b")) (aCons (eC (.str "c")) (aCons (eC (.str "dd")) (aCons (eC (.str "e")) aNil))))))))))))) aNil)) aNil))
    sNext)
    (sSeq (sAsg (eIf (tBl (mOp2 fEq (eVar 2) (eC (.int 4)))) (eC (.str "and")) (eC (.str "gives"))) (gNm 3))
    (sRet (eTup (aCons (eVar 3) (aCons (eCall (S ._law_statement) 2 0 [0, 1] [] (aCons (eVar 0) (aCons (mOp2 fSub (eVar 1) (eC (.int 1))) aNil)) aNil) (aCons (eCall (S ._law_statement) 2 0 [0, 1] [] (aCons (eVar 0) (aCons (mOp2 fSub (eVar 1) (eC (.int 1))) aNil)) aNil) aNil))))))))
noncomputable def B__law_heard (pk : Pk) (S : Fk → List W → M W) (ask : Sh) : Ss :=
    (sSeq (sAsg (eTup (aCons (eC .non) (aCons (eC .non) aNil))) (gTp (gsCons (gNm 1) (gsCons (gNm 2) gsNil)) 2))
    (sSeq (sTry (pk.cat "RunError") 3 1 (sAsg ask (gNm 2)))
    (sSeq (sIf (tBl (mOp2 fIsN (eVar 1) (eC .non)))
    (sRet (eLst (aCons (eVar 2) aNil)))
    sNext)
    (sSeq (sIf (tBl (mCall (fIs pk.own pk.sub) (aCons (eVar 1) (aCons (eC (.glo "TooMany")) aNil))))
    (sRet (eTup (aCons (eC (.str "many")) (aCons (mOp1 (fFld pk.fk "what") (eVar 1)) (aCons (mOp1 (fFld pk.fk "most") (eVar 1)) aNil)))))
    sNext)
    (sSeq (sAsg (eLst (aCons (eTup (aCons (eC (.str "sheet")) (aCons (mCall (fIs pk.own pk.sub) (aCons (eVar 1) (aCons (eC (.glo "BadSheet")) aNil))) aNil))) (aCons (eTup (aCons (eC (.str "term")) (aCons (mCall (fIs pk.own pk.sub) (aCons (eVar 1) (aCons (eC (.glo "BadTerm")) aNil))) aNil))) (aCons (eTup (aCons (eC (.str "number")) (aCons (mCall (fIs pk.own pk.sub) (aCons (eVar 1) (aCons (eC (.glo "BadNumber")) aNil))) aNil))) aNil)))) (gNm 4))
    (sSeq (sAsg (mOp2 fAdd (eVar 4) (eLst (aCons (eTup (aCons (eC (.str "code")) (aCons (mCall (fIs pk.own pk.sub) (aCons (eVar 1) (aCons (eC (.glo "BadCode")) aNil))) aNil))) (aCons (eTup (aCons (eC (.str "misfit")) (aCons (mCall (fIs pk.own pk.sub) (aCons (eVar 1) (aCons (eC (.glo "Misfit")) aNil))) aNil))) (aCons (eTup (aCons (eC (.str "statement")) (aCons (mCall (fIs pk.own pk.sub) (aCons (eVar 1) (aCons (eC (.glo "BadStatement")) aNil))) aNil))) aNil))))) (gNm 4))
    (sSeq (sAsg (eLcK (srcM srcL (eVar 4)) (gTp (gsCons (gNm 6) (gsCons (gNm 7) gsNil)) 2) (tTru (eVar 7)) (eVar 6) [6, 7]) (gNm 5))
    (sRet (eIf (tBl (mOp2 fEq (mCall fLen (aCons (eVar 5) aNil)) (eC (.int 1)))) (eTup (aCons (mOp2 fIx (eVar 5) (eC (.int 0))) (aCons (mOp1 (fFld pk.fk "part") (eVar 1)) aNil))) (eTup (aCons (eC (.str "other")) (aCons (eC .non) aNil))))))))))))
noncomputable def B__law_value (pk : Pk) (S : Fk → List W → M W) : Ss :=
    (sSeq (sIf (tBl (mOp2 fEq (eVar 0) (eC (.str "yes"))))
    (sRet (eC (.str "unit")))
    sNext)
    (sSeq (sIf (tBl (mCall (fIs pk.own pk.sub) (aCons (eVar 0) (aCons (eC (.ty "str")) aNil))))
    (sRet (eTup (aCons (eC (.str "token")) (aCons (eVar 0) (aCons (eVar 1) aNil)))))
    sNext)
    (sSeq (sIf (tBl (mOp2 fEq (mOp2 fIx (eVar 0) (eC (.int 0))) (eC (.str "gives"))))
    (sRet (eTup (aCons (eC (.str "writer")) (aCons (mOp2 fIx (eVar 0) (eC (.int 1))) (aCons (mOp2 fIx (eVar 0) (eC (.int 2))) (aCons (eVar 1) aNil))))))
    sNext)
    (sRet (eTup (aCons (eC (.str "pair")) (aCons (eCall (S ._law_value) 2 0 [0, 1] [] (aCons (mOp2 fIx (eVar 0) (eC (.int 1))) (aCons (eTup (aCons (eC (.str "first")) (aCons (eVar 1) aNil))) aNil)) aNil) (aCons (eCall (S ._law_value) 2 0 [0, 1] [] (aCons (mOp2 fIx (eVar 0) (eC (.int 2))) (aCons (eTup (aCons (eC (.str "second")) (aCons (eVar 1) aNil))) aNil)) aNil) aNil))))))))
noncomputable def B_law (pk : Pk) (S : Fk → List W → M W) (Hs : M W → M W) : Ss :=
    (sSeq (sAsg (eCall (S ._law_pen) 1 0 [0] [] (aCons (eVar 0) aNil) aNil) (gNm 1))
    (sSeq (sFor (rng1 (aCons (eC (.int 8)) aNil)) (gNm 2)
    (sSeq (sPar 3 4 (aCons (eCall (S ._law_statement) 2 0 [0, 1] [] (aCons (eVar 1) (aCons (eC (.int 4)) aNil)) aNil) (aCons (eCall (S ._law_pick) 2 0 [0, 1] [] (aCons (eVar 1) (aCons (eLst (aCons (eC (.str "f")) (aCons (eTup (aCons (eC (.str "level")) (aCons (eC (.int 3)) aNil))) (aCons (eC .non) (aCons (eC (.int 5)) (aCons (eTup (aCons (eC (.str "call")) (aCons (eC (.str "f")) (aCons (eC (.str "unit")) aNil)))) (aCons (eC (.str "house")) aNil))))))) aNil)) aNil) aNil)))
    (sIf (tOr (tBl (mOp2 fNe (mCall fRepr (aCons (eCall (S .written_one) 2 0 [0, 1] [] (aCons (eVar 3) (aCons (eVar 4) aNil)) aNil) aNil)) (mCall fRepr (aCons (eCall (S ._law_value) 2 0 [0, 1] [] (aCons (eVar 3) (aCons (eVar 4) aNil)) aNil) aNil)))) (tBl (mOp2 fNe (eCall (S .written_one) 0 2 [1, 0] [] aNil (aCons (eVar 4) (aCons (eVar 3) aNil))) (eCall (S ._law_value) 2 0 [0, 1] [] (aCons (eVar 3) (aCons (eVar 4) aNil)) aNil))))
    (sRet (eC (.bl false)))
    sNext)))
    (sSeq (sAsg (eCall (S ._law_pick) 2 0 [0, 1] [] (aCons (eVar 1) (aCons (eLst (aCons (eC (.str "no")) (aCons (eTup (aCons (eC (.str "or")) (aCons (eC (.str "b")) (aCons (eC (.str "c")) aNil)))) (aCons (eTup (aCons (eC (.str "gives")) (aCons (eC (.str "b")) (aCons (eTup (aCons (eC (.str "and")) (aCons (eC (.str "c")) (aCons (eC (.str "no")) aNil)))) aNil)))) aNil)))) aNil)) aNil) (gNm 5))
    (sSeq (sAsg (eCall (S ._law_pick) 2 0 [0, 1] [] (aCons (eVar 1) (aCons (eLst (aCons (eC .non) (aCons (eC (.int 5)) (aCons (eC (.str "or")) (aCons (eTup (aCons (eC (.str "gives")) (aCons (eC (.str "b")) aNil))) (aCons (eTup (aCons (eC (.str "and")) (aCons (eC (.str "b")) (aCons (eC (.str "B")) aNil)))) (aCons (eC (.str "")) aNil))))))) aNil)) aNil) (gNm 6))
    (sRet (mOp2 fEq (eLst (aCons (fun ρ => Hs ((eCall (S .written_one) 2 0 [0, 1] [] (aCons (eVar 5) (aCons (eC (.str "f")) aNil)) aNil) ρ)) (aCons (fun ρ => Hs ((eCall (S .written_one) 2 0 [0, 1] [] (aCons (eVar 6) (aCons (eC (.str "f")) aNil)) aNil) ρ)) aNil))) (eLst (aCons (eTup (aCons (eC (.str "misfit")) (aCons (eC (.str "statement")) aNil))) (aCons (eTup (aCons (eC (.str "statement")) (aCons (eC (.str "statement")) aNil))) aNil)))))))))
/-- what is known of the module's names -/
structure Fx (pk : Pk) (P : Program) (mg : Str → Option Value) (K : PySem.W.Frag) : Prop where
  ty : TyK K pk.own pk.sub
  fld : FldK K pk.fk
  cat : ∀ C c b, pk.cat C c = some b → PySem.W.exmOne K (.ref (He.ga K c)) (.ref (He.ga K C)) = some b
  n_abs : mg "abs" = none
  n_all : mg "all" = none
  n_any : mg "any" = none
  n_int : mg "int" = none
  n_isinstance : mg "isinstance" = none
  n_len : mg "len" = none
  n_list : mg "list" = none
  n_range : mg "range" = none
  n_repr : mg "repr" = none
  n_str : mg "str" = none
  n_tuple : mg "tuple" = none
  g_JOINS : ∀ X : Cx, X.mg = mg → X.K = K → GloIs X "JOINS" (.tup [(.str "and"), (.str "or"), (.str "gives")])
  g_LETTERS : ∀ X : Cx, X.mg = mg → X.K = K → GloIs X "LETTERS" (.str "abcdefghijklmnopqrstuvwxyz")
  g_MOST_PARTS : ∀ X : Cx, X.mg = mg → X.K = K → GloIs X "MOST_PARTS" (.int 24)
  g_MOST_SIGNS : ∀ X : Cx, X.mg = mg → X.K = K → GloIs X "MOST_SIGNS" (.int 8)
  g_NO : ∀ X : Cx, X.mg = mg → X.K = K → GloIs X "NO" (.str "no")
  g_OR : ∀ X : Cx, X.mg = mg → X.K = K → GloIs X "OR" (.str "or")
  g_WORDS : ∀ X : Cx, X.mg = mg → X.K = K → GloIs X "WORDS" (.tup [(.str "and"), (.str "or"), (.str "gives"), (.str "yes"), (.str "no"), (.str "fun"), (.str "call"), (.str "pair"), (.str "first"), (.str "second"), (.str "left"), (.str "right"), (.str "case"), (.str "unit"), (.str "never"), (.str "hole")])
  g_YES : ∀ X : Cx, X.mg = mg → X.K = K → GloIs X "YES" (.str "yes")
  m_BadCode : mg "BadCode" = some (.ref (He.fAd K ("BadCode", none)))
  m_BadNumber : mg "BadNumber" = some (.ref (He.fAd K ("BadNumber", none)))
  m_BadSheet : mg "BadSheet" = some (.ref (He.fAd K ("BadSheet", none)))
  m_BadStatement : mg "BadStatement" = some (.ref (He.fAd K ("BadStatement", none)))
  m_BadTerm : mg "BadTerm" = some (.ref (He.fAd K ("BadTerm", none)))
  m_Misfit : mg "Misfit" = some (.ref (He.fAd K ("Misfit", none)))
  m_RunError : mg "RunError" = some (.ref (He.fAd K ("RunError", none)))
  m_TooMany : mg "TooMany" = some (.ref (He.fAd K ("TooMany", none)))
  m__law_draw : mg "_law_draw" = some (.ref (He.fAd K ("_law_draw", none)))
  m__law_heard : mg "_law_heard" = some (.ref (He.fAd K ("_law_heard", none)))
  m__law_pen : mg "_law_pen" = some (.ref (He.fAd K ("_law_pen", none)))
  m__law_pick : mg "_law_pick" = some (.ref (He.fAd K ("_law_pick", none)))
  m__law_statement : mg "_law_statement" = some (.ref (He.fAd K ("_law_statement", none)))
  m__law_value : mg "_law_value" = some (.ref (He.fAd K ("_law_value", none)))
  m_fixed : mg "fixed" = some (.ref (He.fAd K ("fixed", none)))
  m_is_name : mg "is_name" = some (.ref (He.fAd K ("is_name", none)))
  m_is_plain : mg "is_plain" = some (.ref (He.fAd K ("is_plain", none)))
  m_is_row : mg "is_row" = some (.ref (He.fAd K ("is_row", none)))
  m_need_statement : mg "need_statement" = some (.ref (He.fAd K ("need_statement", none)))
  m_parts_in : mg "parts_in" = some (.ref (He.fAd K ("parts_in", none)))
  m_row_of : mg "row_of" = some (.ref (He.fAd K ("row_of", none)))
  m_statement_in : mg "statement_in" = some (.ref (He.fAd K ("statement_in", none)))
  m_written : mg "written" = some (.ref (He.fAd K ("written", none)))
  m_written_one : mg "written_one" = some (.ref (He.fAd K ("written_one", none)))
  x_BadStatement : XCls P K mg "BadStatement" "part"
  x_Misfit : XCls P K mg "Misfit" "part"
/-- the defs stand there -/
structure Fu (K : PySem.W.Frag) : Prop where
  f_is_row : ∃ fd, FunD K d_is_row.name d_is_row.qual d_is_row.params d_is_row.body d_is_row.scope (d_is_row.dvs K) (d_is_row.kws K) (He.fAd K d_is_row.at_) fd
  f_is_name : ∃ fd, FunD K d_is_name.name d_is_name.qual d_is_name.params d_is_name.body d_is_name.scope (d_is_name.dvs K) (d_is_name.kws K) (He.fAd K d_is_name.at_) fd
  f_fixed : ∃ fd, FunD K d_fixed.name d_fixed.qual d_fixed.params d_fixed.body d_fixed.scope (d_fixed.dvs K) (d_fixed.kws K) (He.fAd K d_fixed.at_) fd
  f_statement_in : ∃ fd, FunD K d_statement_in.name d_statement_in.qual d_statement_in.params d_statement_in.body d_statement_in.scope (d_statement_in.dvs K) (d_statement_in.kws K) (He.fAd K d_statement_in.at_) fd
  f_need_statement : ∃ fd, FunD K d_need_statement.name d_need_statement.qual d_need_statement.params d_need_statement.body d_need_statement.scope (d_need_statement.dvs K) (d_need_statement.kws K) (He.fAd K d_need_statement.at_) fd
  f_parts_in : ∃ fd, FunD K d_parts_in.name d_parts_in.qual d_parts_in.params d_parts_in.body d_parts_in.scope (d_parts_in.dvs K) (d_parts_in.kws K) (He.fAd K d_parts_in.at_) fd
  f_is_plain : ∃ fd, FunD K d_is_plain.name d_is_plain.qual d_is_plain.params d_is_plain.body d_is_plain.scope (d_is_plain.dvs K) (d_is_plain.kws K) (He.fAd K d_is_plain.at_) fd
  f_written : ∃ fd, FunD K d_written.name d_written.qual d_written.params d_written.body d_written.scope (d_written.dvs K) (d_written.kws K) (He.fAd K d_written.at_) fd
  f_row_of : ∃ fd, FunD K d_row_of.name d_row_of.qual d_row_of.params d_row_of.body d_row_of.scope (d_row_of.dvs K) (d_row_of.kws K) (He.fAd K d_row_of.at_) fd
  f_written_one : ∃ fd, FunD K d_written_one.name d_written_one.qual d_written_one.params d_written_one.body d_written_one.scope (d_written_one.dvs K) (d_written_one.kws K) (He.fAd K d_written_one.at_) fd
  f__law_pen : ∃ fd, FunD K d__law_pen.name d__law_pen.qual d__law_pen.params d__law_pen.body d__law_pen.scope (d__law_pen.dvs K) (d__law_pen.kws K) (He.fAd K d__law_pen.at_) fd
  f__law_draw : ∃ fd, FunD K d__law_draw.name d__law_draw.qual d__law_draw.params d__law_draw.body d__law_draw.scope (d__law_draw.dvs K) (d__law_draw.kws K) (He.fAd K d__law_draw.at_) fd
  f__law_pick : ∃ fd, FunD K d__law_pick.name d__law_pick.qual d__law_pick.params d__law_pick.body d__law_pick.scope (d__law_pick.dvs K) (d__law_pick.kws K) (He.fAd K d__law_pick.at_) fd
  f__law_statement : ∃ fd, FunD K d__law_statement.name d__law_statement.qual d__law_statement.params d__law_statement.body d__law_statement.scope (d__law_statement.dvs K) (d__law_statement.kws K) (He.fAd K d__law_statement.at_) fd
  f__law_heard : ∃ fd, FunD K d__law_heard.name d__law_heard.qual d__law_heard.params d__law_heard.body d__law_heard.scope (d__law_heard.dvs K) (d__law_heard.kws K) (He.fAd K d__law_heard.at_) fd
  f__law_value : ∃ fd, FunD K d__law_value.name d__law_value.qual d__law_value.params d__law_value.body d__law_value.scope (d__law_value.dvs K) (d__law_value.kws K) (He.fAd K d__law_value.at_) fd
  f_law : ∃ fd, FunD K d_law.name d_law.qual d_law.params d_law.body d_law.scope (d_law.dvs K) (d_law.kws K) (He.fAd K d_law.at_) fd
/-- all the defs keep their promises -/
structure AllOk (P : Program) (w : World) (K : PySem.W.Frag) (mg : Str → Option Value) (base : Heap) (T : List (Addr × Str)) (k : Nat) (S : Fk → List W → M W) : Prop where
  c_is_row : DOk P w K mg base T k d_is_row P_is_row (S .is_row)
  c_is_name : DOk P w K mg base T k d_is_name P_is_name (S .is_name)
  c_fixed : DOk P w K mg base T k d_fixed P_fixed (S .fixed)
  c_statement_in : DOk P w K mg base T k d_statement_in P_statement_in (S .statement_in)
  c_need_statement : DOk P w K mg base T k d_need_statement P_need_statement (S .need_statement)
  c_parts_in : DOk P w K mg base T k d_parts_in P_parts_in (S .parts_in)
  c_is_plain : DOk P w K mg base T k d_is_plain P_is_plain (S .is_plain)
  c_written : DOk P w K mg base T k d_written P_written (S .written)
  c_row_of : DOk P w K mg base T k d_row_of P_row_of (S .row_of)
  c_written_one : DOk P w K mg base T k d_written_one P_written_one (S .written_one)
  c__law_pen : DOk P w K mg base T k d__law_pen P__law_pen (S ._law_pen)
  c__law_draw : DOk P w K mg base T k d__law_draw P__law_draw (S ._law_draw)
  c__law_pick : DOk P w K mg base T k d__law_pick P__law_pick (S ._law_pick)
  c__law_statement : DOk P w K mg base T k d__law_statement P__law_statement (S ._law_statement)
  c__law_value : DOk P w K mg base T k d__law_value P__law_value (S ._law_value)
section
variable {pk : Pk} {P : Program} {w : World} {K : PySem.W.Frag} {mg : Str → Option Value} {base : Heap} {T : List (Addr × Str)} {k : Nat} {S : Fk → List W → M W}
theorem cal_is_row_1 (C : AllOk P w K mg base T k S) : Cal P w K mg base T k (.ref (He.fAd K d_is_row.at_)) 1 ([] : List Str) [0] [] (S .is_row) := cal_of0 C.c_is_row 1 ([] : List Str) [0] rfl (fun _ _ _ _ _ _ us ws h1 h2 => match us, ws, h1, h2 with | [_], [], _, _ => rfl) (fun l h => match l, h with | [_], _ => rfl)
theorem cal_is_name_1 (C : AllOk P w K mg base T k S) : Cal P w K mg base T k (.ref (He.fAd K d_is_name.at_)) 1 ([] : List Str) [0] [] (S .is_name) := cal_of0 C.c_is_name 1 ([] : List Str) [0] rfl (fun _ _ _ _ _ _ us ws h1 h2 => match us, ws, h1, h2 with | [_], [], _, _ => rfl) (fun l h => match l, h with | [_], _ => rfl)
theorem cal_fixed_1 (C : AllOk P w K mg base T k S) : Cal P w K mg base T k (.ref (He.fAd K d_fixed.at_)) 1 ([] : List Str) [0] [] (S .fixed) := cal_of0 C.c_fixed 1 ([] : List Str) [0] rfl (fun _ _ _ _ _ _ us ws h1 h2 => match us, ws, h1, h2 with | [_], [], _, _ => rfl) (fun l h => match l, h with | [_], _ => rfl)
theorem cal_statement_in_1 (C : AllOk P w K mg base T k S) : Cal P w K mg base T k (.ref (He.fAd K d_statement_in.at_)) 1 ([] : List Str) [0] [] (S .statement_in) := cal_of0 C.c_statement_in 1 ([] : List Str) [0] rfl (fun _ _ _ _ _ _ us ws h1 h2 => match us, ws, h1, h2 with | [_], [], _, _ => rfl) (fun l h => match l, h with | [_], _ => rfl)
theorem cal_parts_in_1 (C : AllOk P w K mg base T k S) : Cal P w K mg base T k (.ref (He.fAd K d_parts_in.at_)) 1 ([] : List Str) [0] [] (S .parts_in) := cal_of0 C.c_parts_in 1 ([] : List Str) [0] rfl (fun _ _ _ _ _ _ us ws h1 h2 => match us, ws, h1, h2 with | [_], [], _, _ => rfl) (fun l h => match l, h with | [_], _ => rfl)
theorem cal_written_3 (C : AllOk P w K mg base T k S) : Cal P w K mg base T k (.ref (He.fAd K d_written.at_)) 3 ([] : List Str) [0, 1, 2] [] (S .written) := cal_of0 C.c_written 3 ([] : List Str) [0, 1, 2] rfl (fun _ _ _ _ _ _ us ws h1 h2 => match us, ws, h1, h2 with | [_, _, _], [], _, _ => rfl) (fun l h => match l, h with | [_, _, _], _ => rfl)
theorem cal_need_statement_1 (C : AllOk P w K mg base T k S) : Cal P w K mg base T k (.ref (He.fAd K d_need_statement.at_)) 1 ([] : List Str) [0, 1] [(.str "statement")] (S .need_statement) := cal_of1 C.c_need_statement 1 ([] : List Str) [0, 1] [(.str "statement")] (by decide) (fun φ H => dvs_rep (l := d_need_statement.dfl) rfl) (fun _ _ _ _ _ _ _ us ws its h1 h2 h3 => match us, ws, its, h1, h2, h3 with | [_], [], [_], _, _, _ => ⟨_, rfl, rfl⟩) (fun l h => match l, h with | [_, _], _ => rfl)
theorem cal_is_plain_1 (C : AllOk P w K mg base T k S) : Cal P w K mg base T k (.ref (He.fAd K d_is_plain.at_)) 1 ([] : List Str) [0] [] (S .is_plain) := cal_of0 C.c_is_plain 1 ([] : List Str) [0] rfl (fun _ _ _ _ _ _ us ws h1 h2 => match us, ws, h1, h2 with | [_], [], _, _ => rfl) (fun l h => match l, h with | [_], _ => rfl)
theorem cal__law_draw_2 (C : AllOk P w K mg base T k S) : Cal P w K mg base T k (.ref (He.fAd K d__law_draw.at_)) 2 ([] : List Str) [0, 1] [] (S ._law_draw) := cal_of0 C.c__law_draw 2 ([] : List Str) [0, 1] rfl (fun _ _ _ _ _ _ us ws h1 h2 => match us, ws, h1, h2 with | [_, _], [], _, _ => rfl) (fun l h => match l, h with | [_, _], _ => rfl)
theorem cal__law_pick_2 (C : AllOk P w K mg base T k S) : Cal P w K mg base T k (.ref (He.fAd K d__law_pick.at_)) 2 ([] : List Str) [0, 1] [] (S ._law_pick) := cal_of0 C.c__law_pick 2 ([] : List Str) [0, 1] rfl (fun _ _ _ _ _ _ us ws h1 h2 => match us, ws, h1, h2 with | [_, _], [], _, _ => rfl) (fun l h => match l, h with | [_, _], _ => rfl)
theorem cal__law_statement_2 (C : AllOk P w K mg base T k S) : Cal P w K mg base T k (.ref (He.fAd K d__law_statement.at_)) 2 ([] : List Str) [0, 1] [] (S ._law_statement) := cal_of0 C.c__law_statement 2 ([] : List Str) [0, 1] rfl (fun _ _ _ _ _ _ us ws h1 h2 => match us, ws, h1, h2 with | [_, _], [], _, _ => rfl) (fun l h => match l, h with | [_, _], _ => rfl)
theorem cal__law_value_2 (C : AllOk P w K mg base T k S) : Cal P w K mg base T k (.ref (He.fAd K d__law_value.at_)) 2 ([] : List Str) [0, 1] [] (S ._law_value) := cal_of0 C.c__law_value 2 ([] : List Str) [0, 1] rfl (fun _ _ _ _ _ _ us ws h1 h2 => match us, ws, h1, h2 with | [_, _], [], _, _ => rfl) (fun l h => match l, h with | [_, _], _ => rfl)
theorem cal__law_pen_1 (C : AllOk P w K mg base T k S) : Cal P w K mg base T k (.ref (He.fAd K d__law_pen.at_)) 1 ([] : List Str) [0] [] (S ._law_pen) := cal_of0 C.c__law_pen 1 ([] : List Str) [0] rfl (fun _ _ _ _ _ _ us ws h1 h2 => match us, ws, h1, h2 with | [_], [], _, _ => rfl) (fun l h => match l, h with | [_], _ => rfl)
theorem cal_written_one_2 (C : AllOk P w K mg base T k S) : Cal P w K mg base T k (.ref (He.fAd K d_written_one.at_)) 2 ([] : List Str) [0, 1] [] (S .written_one) := cal_of0 C.c_written_one 2 ([] : List Str) [0, 1] rfl (fun _ _ _ _ _ _ us ws h1 h2 => match us, ws, h1, h2 with | [_, _], [], _, _ => rfl) (fun l h => match l, h with | [_, _], _ => rfl)
theorem cal_written_one_0_neutral_statement (C : AllOk P w K mg base T k S) : Cal P w K mg base T k (.ref (He.fAd K d_written_one.at_)) 0 (["neutral", "statement"] : List Str) [1, 0] [] (S .written_one) := cal_of0 C.c_written_one 0 (["neutral", "statement"] : List Str) [1, 0] rfl (fun _ _ _ _ _ _ us ws h1 h2 => match us, ws, h1, h2 with | [], [_, _], _, _ => rfl) (fun l h => match l, h with | [_, _], _ => rfl)
theorem sl_written (C : AllOk P w K mg base T k S) (F : Fx pk P mg K) : ∀ g m, SL_written S g = some m → Cal P w K mg base T k (.ref (He.ga K g)) 2 [] (List.range 2) [] m := fun g m e => by
  unfold SL_written at e
  by_cases z : g = "row_of"
  · rw [if_pos z] at e; cases e; subst z
    exact cal_of0 C.c_row_of 2 [] (List.range 2) rfl (fun _ _ _ _ _ _ us ws h1 h2 => match us, ws, h1, h2 with | [_, _], [], _, _ => rfl) (fun l h => match l, h with | [_, _], _ => rfl)
  · rw [if_neg z] at e
    cases e
variable {cv : Value} {A : Around} {outer : List Env} {s : Shared} {H : Hp} {E : XK} {T0 : Tb}
theorem dv_is_row (C : AllOk P w K mg base T0.tabs k S) (F : Fx pk P mg K) (hr : RoomG (k + 1) (XB P w K mg base d_is_row N_is_row cv A outer s H E).A) : MSs (XB P w K mg base d_is_row N_is_row cv A outer s H E) (GB T0 E) d_is_row.body (B_is_row pk S) := by
  have tk : Takes (XB P w K mg base d_is_row N_is_row cv A outer s H E) (GB T0 E).Wx := takes_b
  have own_ := owns_b (P := P) (w := w) (K := K) (mg := mg) (base := base) (d := d_is_row) (N := N_is_row) (cv := cv) (A := A) (outer := outer) (s := s) (H := H) (E := E)
  have hr0 := hr.mono (show k ≤ k + 1 by omega)
  exact (mss_one (ms_ret (me_isT F.ty F.n_isinstance (ma_cons (me_var 0) (ma_cons (me_tup (ma_cons (me_ty F.n_list (by decide +kernel)) (ma_cons (me_ty F.n_tuple (by decide +kernel)) ma_nil))) ma_nil)))))
theorem dv_is_name (C : AllOk P w K mg base T0.tabs k S) (F : Fx pk P mg K) (hr : RoomG (k + 1) (XB P w K mg base d_is_name N_is_name cv A outer s H E).A) : MSs (XB P w K mg base d_is_name N_is_name cv A outer s H E) (GB T0 E) d_is_name.body (B_is_name pk S) := by
  have tk : Takes (XB P w K mg base d_is_name N_is_name cv A outer s H E) (GB T0 E).Wx := takes_b
  have own_ := owns_b (P := P) (w := w) (K := K) (mg := mg) (base := base) (d := d_is_name) (N := N_is_name) (cv := cv) (A := A) (outer := outer) (s := s) (H := H) (E := E)
  have hr0 := hr.mono (show k ≤ k + 1 by omega)
  exact (mss_cons (ms_if (PW.pt (mw_or (mt_not (mt_val (me_is F.ty F.n_isinstance (ma_cons (me_var 0) (ma_cons (me_ty F.n_str (by decide +kernel)) ma_nil))))) (mw_or (mt_not (mt_chain op_le op_le c2_intb c2_intb me_int (me_len F.n_len (ma_cons (me_var 0) ma_nil)) (me_glo (F.g_MOST_SIGNS _ rfl rfl)))) (mw_or1 (mt_in (me_var 0) (me_glo (F.g_WORDS _ rfl rfl)))))))
    (mss_one (ms_ret me_bl))
    mss_nil)
    (mss_one (ms_ret (me_fuseB (cr_all rfl) cf_all F.n_all (by decide +kernel) (own := [("sign", 1)]) rfl sc_is_name.nd (mi_str (me_var 0)) (show BlkOk N_is_name d_is_name.scope _ _ from ⟨rfl, by decide +kernel, by decide +kernel, by decide +kernel, by decide +kernel⟩) rfl (fun _ _ _ _ _ => (mg_nm 1 sc_is_name.nd)) (fun _ _ _ _ _ => mts_nil) (fun _ _ _ _ _ => (me_in (me_var 1) (me_glo (F.g_LETTERS _ rfl rfl))))))))
theorem dv_fixed (C : AllOk P w K mg base T0.tabs k S) (F : Fx pk P mg K) (hr : RoomG (k + 1) (XB P w K mg base d_fixed N_fixed cv A outer s H E).A) : MSs (XB P w K mg base d_fixed N_fixed cv A outer s H E) (GB T0 E) d_fixed.body (B_fixed pk S) := by
  have tk : Takes (XB P w K mg base d_fixed N_fixed cv A outer s H E) (GB T0 E).Wx := takes_b
  have own_ := owns_b (P := P) (w := w) (K := K) (mg := mg) (base := base) (d := d_fixed) (N := N_fixed) (cv := cv) (A := A) (outer := outer) (s := s) (H := H) (E := E)
  have hr0 := hr.mono (show k ≤ k + 1 by omega)
  exact (mss_cons (ms_par 1 2 rfl sc_fixed.nd (ma_cons me_non (ma_cons (me_lst (ma_cons (me_tup (ma_cons (me_var 0) (ma_cons me_non ma_nil))) ma_nil)) ma_nil)))
    (mss_cons (ms_while own_ (mt_ne hr (me_var 2) (me_lst ma_nil))
    (mss_cons (ms_asg (me_pop0 (me_var 2)) (mg_tp rfl (mgs_cons (mg_nm 3 sc_fixed.nd) (mgs_cons (mg_nm 4 sc_fixed.nd) mgs_nil))))
    (mss_cons (ms_if (mt_not (mt_val (me_call ⟨_, F.m_is_row, cal_is_row_1 C⟩ hr0 tk (ma_cons (me_var 3) ma_nil) mk_nil)))
    (mss_one (ms_set 1 sc_fixed.nd (me_var 3)))
    (mss_one (ms_if (mt_isN (me_var 4) me_non)
    (mss_cons (ms_expr (me_app (me_var 2) (ma_cons (me_tup (ma_cons (me_var 3) (ma_cons (me_lst ma_nil) ma_nil))) ma_nil)))
    (mss_cons (ms_set 1 sc_fixed.nd me_non)
    (mss_cons (ms_if (mt_gt (me_len F.n_len (ma_cons (me_var 3) ma_nil)) me_int)
    (mss_cons (ms_expr (me_app (me_var 2) (ma_cons (me_tup (ma_cons (me_sub_ix (me_var 3) me_int) (ma_cons me_non ma_nil))) ma_nil)))
    (mss_one ms_cnt))
    mss_nil)
    (mss_cons (ms_expr (me_pop0 (me_var 2)))
    (mss_one (ms_set 1 sc_fixed.nd (me_tup ma_nil)))))))
    (mss_cons (ms_expr (me_app (me_var 4) (ma_cons (me_var 1) ma_nil)))
    (mss_cons (ms_if (mt_lt (me_len F.n_len (ma_cons (me_var 4) ma_nil)) (me_len F.n_len (ma_cons (me_var 3) ma_nil)))
    (mss_cons (ms_expr (me_app (me_var 2) (ma_cons (me_tup (ma_cons (me_var 3) (ma_cons (me_var 4) ma_nil))) ma_nil)))
    (mss_cons (ms_expr (me_app (me_var 2) (ma_cons (me_tup (ma_cons (me_sub_ix (me_var 3) (me_len F.n_len (ma_cons (me_var 4) ma_nil))) (ma_cons me_non ma_nil))) ma_nil)))
    (mss_one ms_cnt)))
    mss_nil)
    (mss_one (ms_set 1 sc_fixed.nd (me_tuple F.n_tuple (ma_cons (me_var 4) ma_nil)))))))))
    (mss_one (ms_if (mt_eq hr (me_var 2) (me_lst ma_nil))
    (mss_one (ms_ret (me_var 1)))
    mss_nil)))))
    (mss_one (ms_ret (me_var 1)))))
theorem dv_statement_in (C : AllOk P w K mg base T0.tabs k S) (F : Fx pk P mg K) (hr : RoomG (k + 1) (XB P w K mg base d_statement_in N_statement_in cv A outer s H E).A) : MSs (XB P w K mg base d_statement_in N_statement_in cv A outer s H E) (GB T0 E) d_statement_in.body (B_statement_in pk S) := by
  have tk : Takes (XB P w K mg base d_statement_in N_statement_in cv A outer s H E) (GB T0 E).Wx := takes_b
  have own_ := owns_b (P := P) (w := w) (K := K) (mg := mg) (base := base) (d := d_statement_in) (N := N_statement_in) (cv := cv) (A := A) (outer := outer) (s := s) (H := H) (E := E)
  have hr0 := hr.mono (show k ≤ k + 1 by omega)
  exact (mss_cons (ms_par 1 2 rfl sc_statement_in.nd (ma_cons (me_lst (ma_cons (me_var 0) ma_nil)) (ma_cons me_int ma_nil)))
    (mss_cons (ms_while own_ (mt_ne hr (me_var 1) (me_lst ma_nil))
    (mss_cons (ms_par 3 2 rfl sc_statement_in.nd (ma_cons (me_pop0 (me_var 1)) (ma_cons (me_add (me_var 2) me_int) ma_nil)))
    (mss_cons (ms_if (mt_gt (me_var 2) (me_glo (F.g_MOST_PARTS _ rfl rfl)))
    (mss_one (ms_ret me_non))
    mss_nil)
    (mss_one (ms_if (mt_val (me_is F.ty F.n_isinstance (ma_cons (me_var 3) (ma_cons (me_ty F.n_str (by decide +kernel)) ma_nil))))
    (mss_one (ms_if (PW.pt (mw_and (mt_notIn (me_var 3) (me_tup (ma_cons (me_glo (F.g_YES _ rfl rfl)) (ma_cons (me_glo (F.g_NO _ rfl rfl)) ma_nil)))) (mw_and1 (mt_not (mt_val (me_call ⟨_, F.m_is_name, cal_is_name_1 C⟩ hr0 tk (ma_cons (me_var 3) ma_nil) mk_nil))))))
    (mss_one (ms_ret me_non))
    mss_nil))
    (mss_one (ms_if (PW.pt (mw_and (mt_val (me_isT F.ty F.n_isinstance (ma_cons (me_var 3) (ma_cons (me_tup (ma_cons (me_ty F.n_list (by decide +kernel)) (ma_cons (me_ty F.n_tuple (by decide +kernel)) ma_nil))) ma_nil)))) (mw_and (mt_eq hr (me_len F.n_len (ma_cons (me_var 3) ma_nil)) me_int) (mw_and (mt_val (me_is F.ty F.n_isinstance (ma_cons (me_sub_ix (me_var 3) me_int) (ma_cons (me_ty F.n_str (by decide +kernel)) ma_nil)))) (mw_and1 (mt_in (me_sub_ix (me_var 3) me_int) (me_glo (F.g_JOINS _ rfl rfl))))))))
    (mss_one (ms_expr (me_extL (me_var 1) (ma_cons (me_sub_ix (me_var 3) me_int) (ma_cons (me_sub_ix (me_var 3) me_int) ma_nil)))))
    (mss_one (ms_ret me_non)))))))))
    (mss_one (ms_ret (me_call ⟨_, F.m_fixed, cal_fixed_1 C⟩ hr0 tk (ma_cons (me_var 0) ma_nil) mk_nil)))))
theorem dv_need_statement (C : AllOk P w K mg base T0.tabs k S) (F : Fx pk P mg K) (hr : RoomG (k + 1) (XB P w K mg base d_need_statement N_need_statement cv A outer s H E).A) : MSs (XB P w K mg base d_need_statement N_need_statement cv A outer s H E) (GB T0 E) d_need_statement.body (B_need_statement pk S) := by
  have tk : Takes (XB P w K mg base d_need_statement N_need_statement cv A outer s H E) (GB T0 E).Wx := takes_b
  have own_ := owns_b (P := P) (w := w) (K := K) (mg := mg) (base := base) (d := d_need_statement) (N := N_need_statement) (cv := cv) (A := A) (outer := outer) (s := s) (H := H) (E := E)
  have hr0 := hr.mono (show k ≤ k + 1 by omega)
  exact (mss_cons (ms_set 2 sc_need_statement.nd (me_call ⟨_, F.m_statement_in, cal_statement_in_1 C⟩ hr0 tk (ma_cons (me_var 0) ma_nil) mk_nil))
    (mss_cons (ms_if (mt_isN (me_var 2) me_non)
    (mss_one (ms_raise rfl hr tk F.x_BadStatement (me_var 1)))
    mss_nil)
    (mss_one (ms_ret (me_var 2)))))
theorem dv_parts_in (C : AllOk P w K mg base T0.tabs k S) (F : Fx pk P mg K) (hr : RoomG (k + 1) (XB P w K mg base d_parts_in N_parts_in cv A outer s H E).A) : MSs (XB P w K mg base d_parts_in N_parts_in cv A outer s H E) (GB T0 E) d_parts_in.body (B_parts_in pk S) := by
  have tk : Takes (XB P w K mg base d_parts_in N_parts_in cv A outer s H E) (GB T0 E).Wx := takes_b
  have own_ := owns_b (P := P) (w := w) (K := K) (mg := mg) (base := base) (d := d_parts_in) (N := N_parts_in) (cv := cv) (A := A) (outer := outer) (s := s) (H := H) (E := E)
  have hr0 := hr.mono (show k ≤ k + 1 by omega)
  exact (mss_cons (ms_par 1 2 rfl sc_parts_in.nd (ma_cons (me_lst ma_nil) (ma_cons (me_lst (ma_cons (me_var 0) ma_nil)) ma_nil)))
    (mss_cons (ms_while own_ (mt_ne hr (me_var 2) (me_lst ma_nil))
    (mss_cons (ms_set 3 sc_parts_in.nd (me_pop0 (me_var 2)))
    (mss_cons (ms_expr (me_app (me_var 1) (ma_cons (me_var 3) ma_nil)))
    (mss_one (ms_if (mt_not (mt_val (me_is F.ty F.n_isinstance (ma_cons (me_var 3) (ma_cons (me_ty F.n_str (by decide +kernel)) ma_nil)))))
    (mss_one (ms_expr (me_extL (me_var 2) (ma_cons (me_sub_ix (me_var 3) me_int) (ma_cons (me_sub_ix (me_var 3) me_int) ma_nil)))))
    mss_nil)))))
    (mss_one (ms_ret (me_tuple F.n_tuple (ma_cons (me_var 1) ma_nil))))))
theorem dv_is_plain (C : AllOk P w K mg base T0.tabs k S) (F : Fx pk P mg K) (hr : RoomG (k + 1) (XB P w K mg base d_is_plain N_is_plain cv A outer s H E).A) : MSs (XB P w K mg base d_is_plain N_is_plain cv A outer s H E) (GB T0 E) d_is_plain.body (B_is_plain pk S) := by
  have tk : Takes (XB P w K mg base d_is_plain N_is_plain cv A outer s H E) (GB T0 E).Wx := takes_b
  have own_ := owns_b (P := P) (w := w) (K := K) (mg := mg) (base := base) (d := d_is_plain) (N := N_is_plain) (cv := cv) (A := A) (outer := outer) (s := s) (H := H) (E := E)
  have hr0 := hr.mono (show k ≤ k + 1 by omega)
  exact (mss_one (ms_ret (me_not (me_fuseB (cr_any rfl) cf_any F.n_any (by decide +kernel) (own := [("part", 1)]) rfl sc_is_plain.nd (mi_tup (me_call ⟨_, F.m_parts_in, cal_parts_in_1 C⟩ hr0 tk (ma_cons (me_var 0) ma_nil) mk_nil)) (show BlkOk N_is_plain d_is_plain.scope _ _ from ⟨rfl, by decide +kernel, by decide +kernel, by decide +kernel, by decide +kernel⟩) rfl (fun _ _ _ _ _ => (mg_nm 1 sc_is_plain.nd)) (fun _ _ _ _ _ => mts_nil) (fun _ _ _ _ _ => (me_or (me_eq hr (me_var 1) (me_glo (F.g_NO _ rfl rfl))) (me_one (me_and (me_not (me_is F.ty F.n_isinstance (ma_cons (me_var 1) (ma_cons (me_ty F.n_str (by decide +kernel)) ma_nil)))) (me_one (me_eq hr (me_sub_ix (me_var 1) me_int) (me_glo (F.g_OR _ rfl rfl))))))))))))
theorem dv_written (C : AllOk P w K mg base T0.tabs k S) (F : Fx pk P mg K) (hr : RoomG (k + 1) (XB P w K mg base d_written N_written cv A outer s H E).A) : MSs (XB P w K mg base d_written N_written cv A outer s H E) (GB T0 E) d_written.body (B_written pk S) := by
  have tk : Takes (XB P w K mg base d_written N_written cv A outer s H E) (GB T0 E).Wx := takes_b
  have own_ := owns_b (P := P) (w := w) (K := K) (mg := mg) (base := base) (d := d_written) (N := N_written) (cv := cv) (A := A) (outer := outer) (s := s) (H := H) (E := E)
  have hr0 := hr.mono (show k ≤ k + 1 by omega)
  exact (mss_cons (ms_if (mt_eq hr (me_var 0) me_str)
    (mss_one (ms_ret me_str))
    mss_nil)
    (mss_cons (ms_if (mt_val (me_is F.ty F.n_isinstance (ma_cons (me_var 0) (ma_cons (me_ty F.n_str (by decide +kernel)) ma_nil))))
    (mss_one (ms_ret (me_tup (ma_cons me_str (ma_cons (me_var 0) (ma_cons (me_var 1) ma_nil))))))
    mss_nil)
    (mss_cons (ms_asg (me_var 0) (mg_tp rfl (mgs_cons (mg_nm 3 sc_written.nd) (mgs_cons (mg_nm 4 sc_written.nd) (mgs_cons (mg_nm 5 sc_written.nd) mgs_nil)))))
    (mss_cons (ms_if (mt_eq hr (me_var 3) me_str)
    (mss_cons (ms_par 6 7 rfl sc_written.nd (ma_cons (me_callL (S := SL_written S) 2 (sl_written C F) hr0 tk (ma_cons me_str (ma_cons (me_var 1) ma_nil))) (ma_cons (me_callL (S := SL_written S) 2 (sl_written C F) hr0 tk (ma_cons me_str (ma_cons (me_var 1) ma_nil))) ma_nil)))
    (mss_one (ms_ret (me_tup (ma_cons me_str (ma_cons (me_call ⟨_, F.m_written, cal_written_3 C⟩ hr0 tk (ma_cons (me_var 4) (ma_cons (me_var 6) (ma_cons (me_var 2) ma_nil))) mk_nil) (ma_cons (me_call ⟨_, F.m_written, cal_written_3 C⟩ hr0 tk (ma_cons (me_var 5) (ma_cons (me_var 7) (ma_cons (me_var 2) ma_nil))) mk_nil) ma_nil)))))))
    mss_nil)
    (mss_one (ms_ret (me_tup (ma_cons me_str (ma_cons (me_var 4) (ma_cons (me_var 5) (ma_cons (me_var 1) ma_nil)))))))))))
theorem dv_row_of (C : AllOk P w K mg base T0.tabs k S) (F : Fx pk P mg K) (hr : RoomG (k + 1) (XB P w K mg base d_row_of N_row_of cv A outer s H E).A) : MSs (XB P w K mg base d_row_of N_row_of cv A outer s H E) (GB T0 E) d_row_of.body (B_row_of pk S) := by
  have tk : Takes (XB P w K mg base d_row_of N_row_of cv A outer s H E) (GB T0 E).Wx := takes_b
  have own_ := owns_b (P := P) (w := w) (K := K) (mg := mg) (base := base) (d := d_row_of) (N := N_row_of) (cv := cv) (A := A) (outer := outer) (s := s) (H := H) (E := E)
  have hr0 := hr.mono (show k ≤ k + 1 by omega)
  exact (mss_one (ms_ret (me_tup (ma_cons (me_var 0) (ma_cons (me_var 1) ma_nil)))))
theorem dv_written_one (C : AllOk P w K mg base T0.tabs k S) (F : Fx pk P mg K) (hr : RoomG (k + 1) (XB P w K mg base d_written_one N_written_one cv A outer s H E).A) : MSs (XB P w K mg base d_written_one N_written_one cv A outer s H E) (GB T0 E) d_written_one.body (B_written_one pk S) := by
  have tk : Takes (XB P w K mg base d_written_one N_written_one cv A outer s H E) (GB T0 E).Wx := takes_b
  have own_ := owns_b (P := P) (w := w) (K := K) (mg := mg) (base := base) (d := d_written_one) (N := N_written_one) (cv := cv) (A := A) (outer := outer) (s := s) (H := H) (E := E)
  have hr0 := hr.mono (show k ≤ k + 1 by omega)
  exact (mss_cons (ms_expr (me_call ⟨_, F.m_need_statement, cal_need_statement_1 C⟩ hr0 tk (ma_cons (me_var 0) ma_nil) mk_nil))
    (mss_cons (ms_if (mt_not (mt_val (me_call ⟨_, F.m_is_plain, cal_is_plain_1 C⟩ hr0 tk (ma_cons (me_var 0) ma_nil) mk_nil)))
    (mss_one (ms_raise rfl hr tk F.x_Misfit me_str))
    mss_nil)
    (mss_one (ms_ret (me_call ⟨_, F.m_written, cal_written_3 C⟩ hr0 tk (ma_cons (me_call ⟨_, F.m_fixed, cal_fixed_1 C⟩ hr0 tk (ma_cons (me_var 0) ma_nil) mk_nil) (ma_cons (me_var 1) (ma_cons (me_glo (glo_is_glo F.m_row_of)) ma_nil))) mk_nil)))))
theorem dv__law_pen (C : AllOk P w K mg base T0.tabs k S) (F : Fx pk P mg K) (hr : RoomG (k + 1) (XB P w K mg base d__law_pen N__law_pen cv A outer s H E).A) : MSs (XB P w K mg base d__law_pen N__law_pen cv A outer s H E) (GB T0 E) d__law_pen.body (B__law_pen pk S) := by
  have tk : Takes (XB P w K mg base d__law_pen N__law_pen cv A outer s H E) (GB T0 E).Wx := takes_b
  have own_ := owns_b (P := P) (w := w) (K := K) (mg := mg) (base := base) (d := d__law_pen) (N := N__law_pen) (cv := cv) (A := A) (outer := outer) (s := s) (H := H) (E := E)
  have hr0 := hr.mono (show k ≤ k + 1 by omega)
  exact (mss_one (ms_ret (me_lst (ma_cons (me_lc (own := [("cell", 1)]) rfl sc__law_pen.nd (mi_list (me_sl (me_var 0) mp_none (mp_some me_int))) (show BlkOk N__law_pen d__law_pen.scope _ _ from ⟨rfl, by decide +kernel, by decide +kernel, by decide +kernel, by decide +kernel⟩) rfl (fun _ _ _ _ _ => (mg_nm 1 sc__law_pen.nd)) (fun _ _ _ _ _ => mts_nil) (fun _ _ _ _ _ => (me_intc F.n_int (ma_cons (me_var 1) ma_nil)))) (ma_cons me_int (ma_cons me_int ma_nil))))))
theorem dv__law_draw (C : AllOk P w K mg base T0.tabs k S) (F : Fx pk P mg K) (hr : RoomG (k + 1) (XB P w K mg base d__law_draw N__law_draw cv A outer s H E).A) : MSs (XB P w K mg base d__law_draw N__law_draw cv A outer s H E) (GB T0 E) d__law_draw.body (B__law_draw pk S) := by
  have tk : Takes (XB P w K mg base d__law_draw N__law_draw cv A outer s H E) (GB T0 E).Wx := takes_b
  have own_ := owns_b (P := P) (w := w) (K := K) (mg := mg) (base := base) (d := d__law_draw) (N := N__law_draw) (cv := cv) (A := A) (outer := outer) (s := s) (H := H) (E := E)
  have hr0 := hr.mono (show k ≤ k + 1 by omega)
  exact (mss_cons (ms_if (mt_gt (me_sub_ix (me_var 0) me_int) me_int)
    (mss_cons (ms_set 2 sc__law_draw.nd (me_mod (me_intc F.n_int (ma_cons (me_sub_ix (me_var 0) me_int) ma_nil)) (me_var 1)))
    (mss_cons (ms_asg (me_fdiv (me_intc F.n_int (ma_cons (me_sub_ix (me_var 0) me_int) ma_nil)) (me_var 1)) (mg_ix (me_var 0) me_int))
    (mss_one (ms_ret (me_var 2)))))
    mss_nil)
    (mss_cons (ms_set 3 sc__law_draw.nd (me_sub_ix (me_var 0) me_int))
    (mss_cons (ms_asg (me_add (me_var 3) me_int) (mg_ix (me_var 0) me_int))
    (mss_cons (ms_set 4 sc__law_draw.nd (me_add (me_mul me_int (me_var 3)) me_int))
    (mss_cons (ms_if (mt_ne hr (me_sub_ix (me_var 0) me_int) (me_lst ma_nil))
    (mss_one (ms_set 4 sc__law_draw.nd (me_sub_ix (me_sub_ix (me_var 0) me_int) (me_mod (me_intc F.n_int (ma_cons (me_var 3) ma_nil)) (me_len F.n_len (ma_cons (me_sub_ix (me_var 0) me_int) ma_nil))))))
    mss_nil)
    (mss_cons (ms_if (PW.pt (mw_and (mt_lt (me_var 3) (me_len F.n_len (ma_cons (me_sub_ix (me_var 0) me_int) ma_nil))) (mw_and1 (mt_ge (me_abs F.n_abs (ma_cons (me_var 4) ma_nil)) (me_pow me_int me_int)))))
    (mss_cons (ms_set 5 sc__law_draw.nd (me_add (me_mul me_int (me_sub (me_abs F.n_abs (ma_cons (me_var 4) ma_nil)) (me_pow me_int me_int))) (me_intc F.n_int (ma_cons (me_lt (me_var 4) me_int) ma_nil))))
    (mss_cons (ms_asg (me_fdiv (me_intc F.n_int (ma_cons (me_var 5) ma_nil)) (me_var 1)) (mg_ix (me_var 0) me_int))
    (mss_one (ms_ret (me_mod (me_intc F.n_int (ma_cons (me_var 5) ma_nil)) (me_var 1))))))
    mss_nil)
    (mss_cons (ms_set 6 sc__law_draw.nd (me_mod (me_intc F.n_int (ma_cons (me_pow (me_add (me_add (me_mod (me_intc F.n_int (ma_cons (me_var 4) ma_nil)) me_int) (me_mul me_int (me_var 3))) me_int) me_int) ma_nil)) me_int))
    (mss_cons (ms_set 6 sc__law_draw.nd (me_mod (me_intc F.n_int (ma_cons (me_pow (me_add (me_add (me_mul (me_var 6) (me_add (me_mul me_int (me_var 3)) me_int)) (me_mul (me_mul me_int (me_var 3)) (me_var 3))) me_int) me_int) ma_nil)) me_int))
    (mss_one (ms_ret (me_mod (me_intc F.n_int (ma_cons (me_fdiv (me_var 6) me_int) ma_nil)) (me_var 1))))))))))))
theorem dv__law_pick (C : AllOk P w K mg base T0.tabs k S) (F : Fx pk P mg K) (hr : RoomG (k + 1) (XB P w K mg base d__law_pick N__law_pick cv A outer s H E).A) : MSs (XB P w K mg base d__law_pick N__law_pick cv A outer s H E) (GB T0 E) d__law_pick.body (B__law_pick pk S) := by
  have tk : Takes (XB P w K mg base d__law_pick N__law_pick cv A outer s H E) (GB T0 E).Wx := takes_b
  have own_ := owns_b (P := P) (w := w) (K := K) (mg := mg) (base := base) (d := d__law_pick) (N := N__law_pick) (cv := cv) (A := A) (outer := outer) (s := s) (H := H) (E := E)
  have hr0 := hr.mono (show k ≤ k + 1 by omega)
  exact (mss_one (ms_ret (me_sub_ix (me_var 1) (me_call ⟨_, F.m__law_draw, cal__law_draw_2 C⟩ hr0 tk (ma_cons (me_var 0) (ma_cons (me_len F.n_len (ma_cons (me_var 1) ma_nil)) ma_nil)) mk_nil))))
theorem dv__law_statement (C : AllOk P w K mg base T0.tabs k S) (F : Fx pk P mg K) (hr : RoomG (k + 1) (XB P w K mg base d__law_statement N__law_statement cv A outer s H E).A) : MSs (XB P w K mg base d__law_statement N__law_statement cv A outer s H E) (GB T0 E) d__law_statement.body (B__law_statement pk S) := by
  have tk : Takes (XB P w K mg base d__law_statement N__law_statement cv A outer s H E) (GB T0 E).Wx := takes_b
  have own_ := owns_b (P := P) (w := w) (K := K) (mg := mg) (base := base) (d := d__law_statement) (N := N__law_statement) (cv := cv) (A := A) (outer := outer) (s := s) (H := H) (E := E)
  have hr0 := hr.mono (show k ≤ k + 1 by omega)
  exact (mss_cons (ms_set 2 sc__law_statement.nd (me_if (mt_gt (me_var 1) me_int) (me_call ⟨_, F.m__law_draw, cal__law_draw_2 C⟩ hr0 tk (ma_cons (me_var 0) (ma_cons me_int ma_nil)) mk_nil) me_int))
    (mss_cons (ms_if (mt_lt (me_var 2) me_int)
    (mss_one (ms_ret (me_call ⟨_, F.m__law_pick, cal__law_pick_2 C⟩ hr0 tk (ma_cons (me_var 0) (ma_cons (me_lst (ma_cons me_str (ma_cons me_str (ma_cons me_str (ma_cons me_str (ma_cons me_str (ma_cons me_str (ma_cons me_str (ma_cons me_str (ma_cons me_str (ma_cons me_str (ma_cons me_str (ma_cons me_str ma_nil))))))))))))) ma_nil)) mk_nil)))
    mss_nil)
    (mss_cons (ms_set 3 sc__law_statement.nd (me_if (mt_eq hr (me_var 2) me_int) me_str me_str))
    (mss_one (ms_ret (me_tup (ma_cons (me_var 3) (ma_cons (me_call ⟨_, F.m__law_statement, cal__law_statement_2 C⟩ hr0 tk (ma_cons (me_var 0) (ma_cons (me_sub (me_var 1) me_int) ma_nil)) mk_nil) (ma_cons (me_call ⟨_, F.m__law_statement, cal__law_statement_2 C⟩ hr0 tk (ma_cons (me_var 0) (ma_cons (me_sub (me_var 1) me_int) ma_nil)) mk_nil) ma_nil)))))))))
theorem dv__law_heard (C : AllOk P w K mg base T0.tabs k S) (F : Fx pk P mg K) (hr : RoomG (k + 1) (XB P w K mg base d__law_heard N__law_heard cv A outer s H E).A) {fa : Addr} {m : M W} (hask : ∀ (W0 : WX) (pn : List (Addr × Obj)) (xe : Value → Shared → Prop) (p1 p2 : Pos), Takes ((XB P w K mg base d__law_heard N__law_heard cv A outer s H E).tr pn xe) W0 → ME ((XB P w K mg base d__law_heard N__law_heard cv A outer s H E).tr pn xe) ⟨T0, W0⟩ (.Call (.Name "ask" p1) [] [] p2) (eAsk 0 fa m)) : MSs (XB P w K mg base d__law_heard N__law_heard cv A outer s H E) (GB T0 E) d__law_heard.body (B__law_heard pk S (eAsk 0 fa m)) := by
  have tk : Takes (XB P w K mg base d__law_heard N__law_heard cv A outer s H E) (GB T0 E).Wx := takes_b
  have own_ := owns_b (P := P) (w := w) (K := K) (mg := mg) (base := base) (d := d__law_heard) (N := N__law_heard) (cv := cv) (A := A) (outer := outer) (s := s) (H := H) (E := E)
  have hr0 := hr.mono (show k ≤ k + 1 by omega)
  exact (mss_cons (ms_asg (me_tup (ma_cons me_non (ma_cons me_non ma_nil))) (mg_tp rfl (mgs_cons (mg_nm 1 sc__law_heard.nd) (mgs_cons (mg_nm 2 sc__law_heard.nd) mgs_nil))))
    (mss_cons (ms_try 3 1 rfl rfl sc__law_heard.nd rfl tk F.m_RunError (F.cat "RunError") (fun _ _ _ tk own_ => (mss_one (ms_set 2 sc__law_heard.nd (hask _ _ _ _ _ tk)))))
    (mss_cons (ms_if (mt_isN (me_var 1) me_non)
    (mss_one (ms_ret (me_lst (ma_cons (me_var 2) ma_nil))))
    mss_nil)
    (mss_cons (ms_if (mt_val (me_is F.ty F.n_isinstance (ma_cons (me_var 1) (ma_cons (me_glo (glo_is_glo F.m_TooMany)) ma_nil))))
    (mss_one (ms_ret (me_tup (ma_cons me_str (ma_cons (me_fld F.fld (me_var 1)) (ma_cons (me_fld F.fld (me_var 1)) ma_nil))))))
    mss_nil)
    (mss_cons (ms_set 4 sc__law_heard.nd (me_lst (ma_cons (me_tup (ma_cons me_str (ma_cons (me_is F.ty F.n_isinstance (ma_cons (me_var 1) (ma_cons (me_glo (glo_is_glo F.m_BadSheet)) ma_nil))) ma_nil))) (ma_cons (me_tup (ma_cons me_str (ma_cons (me_is F.ty F.n_isinstance (ma_cons (me_var 1) (ma_cons (me_glo (glo_is_glo F.m_BadTerm)) ma_nil))) ma_nil))) (ma_cons (me_tup (ma_cons me_str (ma_cons (me_is F.ty F.n_isinstance (ma_cons (me_var 1) (ma_cons (me_glo (glo_is_glo F.m_BadNumber)) ma_nil))) ma_nil))) ma_nil)))))
    (mss_cons (ms_set 4 sc__law_heard.nd (me_add (me_var 4) (me_lst (ma_cons (me_tup (ma_cons me_str (ma_cons (me_is F.ty F.n_isinstance (ma_cons (me_var 1) (ma_cons (me_glo (glo_is_glo F.m_BadCode)) ma_nil))) ma_nil))) (ma_cons (me_tup (ma_cons me_str (ma_cons (me_is F.ty F.n_isinstance (ma_cons (me_var 1) (ma_cons (me_glo (glo_is_glo F.m_Misfit)) ma_nil))) ma_nil))) (ma_cons (me_tup (ma_cons me_str (ma_cons (me_is F.ty F.n_isinstance (ma_cons (me_var 1) (ma_cons (me_glo (glo_is_glo F.m_BadStatement)) ma_nil))) ma_nil))) ma_nil))))))
    (mss_cons (ms_setLc 5 (own := [("word", 6), ("is_it", 7)]) rfl sc__law_heard.nd (mi_list (me_var 4)) (show BlkOk N__law_heard d__law_heard.scope _ _ from ⟨rfl, by decide +kernel, by decide +kernel, by decide +kernel, by decide +kernel⟩) rfl (fun _ _ _ _ _ => (mg_tp rfl (mgs_cons (mg_nm 6 sc__law_heard.nd) (mgs_cons (mg_nm 7 sc__law_heard.nd) mgs_nil)))) (fun _ _ _ _ _ => (mts_one (mt_tru (me_var 7)))) (fun _ _ _ _ _ => (me_var 6)))
    (mss_one (ms_ret (me_if (mt_eq hr (me_len F.n_len (ma_cons (me_var 5) ma_nil)) me_int) (me_tup (ma_cons (me_sub_ix (me_var 5) me_int) (ma_cons (me_fld F.fld (me_var 1)) ma_nil))) (me_tup (ma_cons me_str (ma_cons me_non ma_nil)))))))))))))
theorem dv__law_value (C : AllOk P w K mg base T0.tabs k S) (F : Fx pk P mg K) (hr : RoomG (k + 1) (XB P w K mg base d__law_value N__law_value cv A outer s H E).A) : MSs (XB P w K mg base d__law_value N__law_value cv A outer s H E) (GB T0 E) d__law_value.body (B__law_value pk S) := by
  have tk : Takes (XB P w K mg base d__law_value N__law_value cv A outer s H E) (GB T0 E).Wx := takes_b
  have own_ := owns_b (P := P) (w := w) (K := K) (mg := mg) (base := base) (d := d__law_value) (N := N__law_value) (cv := cv) (A := A) (outer := outer) (s := s) (H := H) (E := E)
  have hr0 := hr.mono (show k ≤ k + 1 by omega)
  exact (mss_cons (ms_if (mt_eq hr (me_var 0) me_str)
    (mss_one (ms_ret me_str))
    mss_nil)
    (mss_cons (ms_if (mt_val (me_is F.ty F.n_isinstance (ma_cons (me_var 0) (ma_cons (me_ty F.n_str (by decide +kernel)) ma_nil))))
    (mss_one (ms_ret (me_tup (ma_cons me_str (ma_cons (me_var 0) (ma_cons (me_var 1) ma_nil))))))
    mss_nil)
    (mss_cons (ms_if (mt_eq hr (me_sub_ix (me_var 0) me_int) me_str)
    (mss_one (ms_ret (me_tup (ma_cons me_str (ma_cons (me_sub_ix (me_var 0) me_int) (ma_cons (me_sub_ix (me_var 0) me_int) (ma_cons (me_var 1) ma_nil)))))))
    mss_nil)
    (mss_one (ms_ret (me_tup (ma_cons me_str (ma_cons (me_call ⟨_, F.m__law_value, cal__law_value_2 C⟩ hr0 tk (ma_cons (me_sub_ix (me_var 0) me_int) (ma_cons (me_tup (ma_cons me_str (ma_cons (me_var 1) ma_nil))) ma_nil)) mk_nil) (ma_cons (me_call ⟨_, F.m__law_value, cal__law_value_2 C⟩ hr0 tk (ma_cons (me_sub_ix (me_var 0) me_int) (ma_cons (me_tup (ma_cons me_str (ma_cons (me_var 1) ma_nil))) ma_nil)) mk_nil) ma_nil)))))))))
theorem dv_law (C : AllOk P w K mg base T0.tabs k S) (F : Fx pk P mg K) (hr : RoomG (k + 2) (XB P w K mg base d_law N_law cv A outer s H E).A) {Hs : M W → M W} {Pt : Addr} (U : Fu K) (TB : LamX.TabB base mg (He.codeOf K d_law.at_) Pt) (hcv : cv = .ref (He.codeOf K d_law.at_)) (hT0 : T0.tabs = [(Pt, ("law.<locals>.<lambda>" : Str))]) (hH : ∀ f m h r, Hs m h = some r → ∃ r2, runB N__law_heard.length (B__law_heard pk S (eAsk 0 f m)) [.adr f] h = some r2 ∧ ShrR h.length r2 r) : MSs (XB P w K mg base d_law N_law cv A outer s H E) (GB T0 E) d_law.body (B_law pk S Hs) := by
  subst hcv
  have tk : Takes (XB P w K mg base d_law N_law (.ref (He.codeOf K d_law.at_)) A outer s H E) (GB T0 E).Wx := takes_b
  have own_ := owns_b (P := P) (w := w) (K := K) (mg := mg) (base := base) (d := d_law) (N := N_law) (cv := .ref (He.codeOf K d_law.at_)) (A := A) (outer := outer) (s := s) (H := H) (E := E)
  have hr0 := hr.mono (show k ≤ k + 2 by omega)
  exact (mss_cons (ms_set 1 sc_law.nd (me_call ⟨_, F.m__law_pen, cal__law_pen_1 C⟩ hr0 tk (ma_cons (me_var 0) ma_nil) mk_nil))
    (mss_cons (ms_for own_ rfl (mi_range1 (ma_cons me_int ma_nil) F.n_range) (mg_nm 2 sc_law.nd)
    (mss_cons (ms_par 3 4 rfl sc_law.nd (ma_cons (me_call ⟨_, F.m__law_statement, cal__law_statement_2 C⟩ hr0 tk (ma_cons (me_var 1) (ma_cons me_int ma_nil)) mk_nil) (ma_cons (me_call ⟨_, F.m__law_pick, cal__law_pick_2 C⟩ hr0 tk (ma_cons (me_var 1) (ma_cons (me_lst (ma_cons me_str (ma_cons (me_tup (ma_cons me_str (ma_cons me_int ma_nil))) (ma_cons me_non (ma_cons me_int (ma_cons (me_tup (ma_cons me_str (ma_cons me_str (ma_cons me_str ma_nil)))) (ma_cons me_str ma_nil))))))) ma_nil)) mk_nil) ma_nil)))
    (mss_one (ms_if (PW.pt (mw_or (mt_ne hr (me_repr hr F.n_repr (ma_cons (me_call ⟨_, F.m_written_one, cal_written_one_2 C⟩ hr0 tk (ma_cons (me_var 3) (ma_cons (me_var 4) ma_nil)) mk_nil) ma_nil)) (me_repr hr F.n_repr (ma_cons (me_call ⟨_, F.m__law_value, cal__law_value_2 C⟩ hr0 tk (ma_cons (me_var 3) (ma_cons (me_var 4) ma_nil)) mk_nil) ma_nil))) (mw_or1 (mt_ne hr (me_call0 ⟨_, F.m_written_one, cal_written_one_0_neutral_statement C⟩ hr0 tk (mk_cons (me_var 4) (mk_cons (me_var 3) mk_nil))) (me_call ⟨_, F.m__law_value, cal__law_value_2 C⟩ hr0 tk (ma_cons (me_var 3) (ma_cons (me_var 4) ma_nil)) mk_nil)))))
    (mss_one (ms_ret me_bl))
    mss_nil))))
    (mss_cons (ms_set 5 sc_law.nd (me_call ⟨_, F.m__law_pick, cal__law_pick_2 C⟩ hr0 tk (ma_cons (me_var 1) (ma_cons (me_lst (ma_cons me_str (ma_cons (me_tup (ma_cons me_str (ma_cons me_str (ma_cons me_str ma_nil)))) (ma_cons (me_tup (ma_cons me_str (ma_cons me_str (ma_cons (me_tup (ma_cons me_str (ma_cons me_str (ma_cons me_str ma_nil)))) ma_nil)))) ma_nil)))) ma_nil)) mk_nil))
    (mss_cons (ms_set 6 sc_law.nd (me_call ⟨_, F.m__law_pick, cal__law_pick_2 C⟩ hr0 tk (ma_cons (me_var 1) (ma_cons (me_lst (ma_cons me_non (ma_cons me_int (ma_cons me_str (ma_cons (me_tup (ma_cons me_str (ma_cons me_str ma_nil))) (ma_cons (me_tup (ma_cons me_str (ma_cons me_str (ma_cons me_str ma_nil)))) (ma_cons me_str ma_nil))))))) ma_nil)) mk_nil))
    (mss_one (ms_ret (me_eq hr (me_lst (ma_cons (me_lamcall (k := k) (kw := none) (Bh := fun a => B__law_heard pk S a) (hm := Hs) (d := d__law_heard) (Ng := N__law_heard) (a := "ask") U.f__law_heard rfl F.m__law_heard sc__law_heard (fun _ _ _ _ _ _ us h => match us, h with | [_], _ => rfl) rfl (.inl rfl) (by decide) (by decide) TB rfl (by rw [hT0]; exact List.mem_singleton.mpr rfl) (fun p hp _ => by rw [hT0] at hp; rw [List.mem_singleton.mp hp]; rfl) hr tk (show LamN N_law d_law.scope _ from ⟨rfl, rfl, rfl, by decide +kernel, by decide +kernel, by decide +kernel⟩) (show DefIs none _ _ from rfl) (show LBind none _ _ _ _ _ from (fun _ _ _ _ => rfl)) (fun _ _ _ _ _ _ _ T1 hT1 hr0 => by have C : AllOk P w K mg base T1.tabs k S := (by rw [hT1]; exact C); exact (me_call ⟨_, F.m_written_one, cal_written_one_2 C⟩ hr0 (takes_of rfl rfl rfl rfl) (ma_cons (me_var 5) (ma_cons me_str ma_nil)) mk_nil)) (fun _ _ _ _ _ _ _ _ _ hT1 hr1 hask => dv__law_heard (by rw [hT1]; exact C) F hr1 hask) hH) (ma_cons (me_lamcall (k := k) (kw := (some 0)) (Bh := fun a => B__law_heard pk S a) (hm := Hs) (d := d__law_heard) (Ng := N__law_heard) (a := "ask") U.f__law_heard rfl F.m__law_heard sc__law_heard (fun _ _ _ _ _ _ us h => match us, h with | [_], _ => rfl) rfl (.inl rfl) (by decide) (by decide) TB rfl (by rw [hT0]; exact List.mem_singleton.mpr rfl) (fun p hp _ => by rw [hT0] at hp; rw [List.mem_singleton.mp hp]; rfl) hr tk (show LamN N_law d_law.scope _ from ⟨rfl, rfl, rfl, by decide +kernel, by decide +kernel, by decide +kernel⟩) (show DefIs (some 0) _ _ from ⟨_, _, rfl⟩) (show LBind (some 0) _ _ _ _ _ from ⟨"a", rfl, fun _ _ _ _ _ => ⟨_, rfl, fun _ => rfl⟩⟩) (fun _ _ _ _ _ _ _ T1 hT1 hr0 => by have C : AllOk P w K mg base T1.tabs k S := (by rw [hT1]; exact C); exact (me_call ⟨_, F.m_written_one, cal_written_one_2 C⟩ hr0 (takes_of rfl rfl rfl rfl) (ma_cons (me_var 6) (ma_cons me_str ma_nil)) mk_nil)) (fun _ _ _ _ _ _ _ _ _ hT1 hr1 hask => dv__law_heard (by rw [hT1]; exact C) F hr1 hask) hH) ma_nil))) (me_lst (ma_cons (me_tup (ma_cons me_str (ma_cons me_str ma_nil))) (ma_cons (me_tup (ma_cons me_str (ma_cons me_str ma_nil))) ma_nil))))))))))
end
end Wk

set_option Elab.async false
set_option linter.all false
set_option autoImplicit false
set_option maxRecDepth 100000
set_option maxHeartbeats 0
/-! The head of provenruns_k78_written_ones, printed by wip/gen/gen.py. -/
namespace Hd
open PySem PySem.Spec PySem.W PySem.Calls PyProof.Rows L2 Mp
abbrev R : OpenRow := OpenLaw.row PySem.Challenge.rw_provenruns_k78_written_ones
abbrev qv : Program := view R.prog [44]
def names : List PySem.Str := (["LETTERS", "STATEMENT_WORDS", "TERM_WORDS", "WORDS", "MOST_SIGNS", "is_row", "is_name", "RunError", "PartError", "BadStatement", "BadSheet", "BadTerm", "BadCode", "BadNumber", "Misfit", "TooMany", "fixed", "YES", "NO", "AND"] : List PySem.Str) ++ (["OR", "GIVES", "JOINS", "MOST_PARTS", "statement_in", "need_statement", "parts_in", "is_plain", "written", "row_of", "written_one", "_law_pen", "_law_draw", "_law_pick", "_law_statement", "_law_heard", "_law_value"] : List PySem.Str)
def kn : Know := { own := ([.exc "BadStatement", .exc "Misfit"] : List TyW), sub := ([(.exc "BadStatement", .own "BadCode", false), (.exc "BadStatement", .own "BadNumber", false), (.exc "BadStatement", .own "BadSheet", false), (.exc "BadStatement", .own "BadStatement", true), (.exc "BadStatement", .own "BadTerm", false), (.exc "BadStatement", .own "Misfit", false), (.exc "BadStatement", .own "RunError", true), (.exc "BadStatement", .own "TooMany", false), (.exc "Misfit", .own "BadCode", false), (.exc "Misfit", .own "BadNumber", false), (.exc "Misfit", .own "BadSheet", false), (.exc "Misfit", .own "BadStatement", false), (.exc "Misfit", .own "BadTerm", false), (.exc "Misfit", .own "Misfit", true), (.exc "Misfit", .own "RunError", true), (.exc "Misfit", .own "TooMany", false)] : List (TyW × TyW × Bool)), fk := ([(.exc "BadStatement", "part"), (.exc "Misfit", "part")] : List (TyW × Str)), cat := ([("RunError", "BadStatement", true), ("RunError", "Misfit", true)] : List (Str × Str × Bool)) }
abbrev pk : Wk.Pk := ⟨kn.ownT, kn.subT, kn.fkT, kn.catT⟩
def fa : List He.Fa := ([.free "abs", .free "all", .free "any", .free "int", .free "isinstance", .free "len", .free "list", .free "range", .free "repr", .free "str", .free "super", .free "tuple", .glo "BadCode", .glo "BadNumber", .glo "BadSheet", .glo "BadStatement", .glo "BadTerm", .glo "Misfit", .glo "RunError", .glo "TooMany"] : List He.Fa) ++ ([.glo "_law_draw", .glo "_law_heard", .glo "_law_pen", .glo "_law_pick", .glo "_law_statement", .glo "_law_value", .glo "fixed", .glo "is_name", .glo "is_plain", .glo "is_row", .glo "need_statement", .glo "parts_in", .glo "row_of", .glo "statement_in", .glo "written", .glo "written_one", .glo "law", .glo "JOINS", .str "LETTERS" "abcdefghijklmnopqrstuvwxyz", .int "MOST_PARTS" 24] : List He.Fa) ++ ([.int "MOST_SIGNS" 8, .str "NO" "no", .str "OR" "or", .glo "WORDS", .str "YES" "yes"] : List He.Fa)
def fn : List He.DefD := ([Wk.d_is_row, Wk.d_is_name, Wk.d_fixed, Wk.d_statement_in, Wk.d_need_statement, Wk.d_parts_in, Wk.d_is_plain, Wk.d_written, Wk.d_row_of, Wk.d_written_one, Wk.d__law_pen, Wk.d__law_draw, Wk.d__law_pick, Wk.d__law_statement, Wk.d__law_heard, Wk.d__law_value, Wk.d_law] : List He.DefD)
def tf : List He.Defn := [Wk.d_law.at_]
def t_JOINS : List He.Dv := [.str "and", .str "or", .str "gives"]
def t_WORDS : List He.Dv := [.str "and", .str "or", .str "gives", .str "yes", .str "no", .str "fun", .str "call", .str "pair", .str "first", .str "second", .str "left", .str "right", .str "case", .str "unit", .str "never", .str "hole"]
def ex (K : PySem.W.Frag) : Bool := (knowB kn K && (xclsB R.prog K "BadStatement" "self" "part" "part" && (xclsB R.prog K "Misfit" "self" "part" "part" && (He.tupB K "JOINS" t_JOINS && He.tupB K "WORDS" t_WORDS))))
abbrev hook : PySem.W.Hook := hookK 6 fa fn tf ex
theorem run (w : World) : HandSHeadRun.RunEq R qv hook (fun s => lookK 6 fa fn tf ex (HandSHeadRun.getT s)) 3000 names w := by
  intro os
  kernel_rfl
section
variable {K : PySem.W.Frag} {h : Heap} {mg : Str → Option Value}
theorem facts (c : SaysK fa fn tf ex h K) (X : K.In h) (G : h.Ns mainGlobals mg) : Wk.Fx pk R.prog mg K := by
  have D := c.d
  have fact := fun (i : Nat) (f : He.Fa) (hf : fa[i]? = some f) => D.fact i hf
  have y := c.more
  obtain ⟨x0, y0⟩ := He.ba y
  obtain ⟨x1, y1⟩ := He.ba y0
  obtain ⟨x2, y2⟩ := He.ba y1
  obtain ⟨x3, y3⟩ := He.ba y2
  have x4 := y3
  have n_abs : mg "abs" = none := He.free_ok X G (fact 0 _ rfl)
  have n_all : mg "all" = none := He.free_ok X G (fact 1 _ rfl)
  have n_any : mg "any" = none := He.free_ok X G (fact 2 _ rfl)
  have n_int : mg "int" = none := He.free_ok X G (fact 3 _ rfl)
  have n_isinstance : mg "isinstance" = none := He.free_ok X G (fact 4 _ rfl)
  have n_len : mg "len" = none := He.free_ok X G (fact 5 _ rfl)
  have n_list : mg "list" = none := He.free_ok X G (fact 6 _ rfl)
  have n_range : mg "range" = none := He.free_ok X G (fact 7 _ rfl)
  have n_repr : mg "repr" = none := He.free_ok X G (fact 8 _ rfl)
  have n_str : mg "str" = none := He.free_ok X G (fact 9 _ rfl)
  have n_super : mg "super" = none := He.free_ok X G (fact 10 _ rfl)
  have n_tuple : mg "tuple" = none := He.free_ok X G (fact 11 _ rfl)
  have m_BadCode : mg "BadCode" = some (.ref (He.ga K "BadCode")) := He.glo_ok X G (fact 12 _ rfl)
  have m_BadNumber : mg "BadNumber" = some (.ref (He.ga K "BadNumber")) := He.glo_ok X G (fact 13 _ rfl)
  have m_BadSheet : mg "BadSheet" = some (.ref (He.ga K "BadSheet")) := He.glo_ok X G (fact 14 _ rfl)
  have m_BadStatement : mg "BadStatement" = some (.ref (He.ga K "BadStatement")) := He.glo_ok X G (fact 15 _ rfl)
  have m_BadTerm : mg "BadTerm" = some (.ref (He.ga K "BadTerm")) := He.glo_ok X G (fact 16 _ rfl)
  have m_Misfit : mg "Misfit" = some (.ref (He.ga K "Misfit")) := He.glo_ok X G (fact 17 _ rfl)
  have m_RunError : mg "RunError" = some (.ref (He.ga K "RunError")) := He.glo_ok X G (fact 18 _ rfl)
  have m_TooMany : mg "TooMany" = some (.ref (He.ga K "TooMany")) := He.glo_ok X G (fact 19 _ rfl)
  have m__law_draw : mg "_law_draw" = some (.ref (He.ga K "_law_draw")) := He.glo_ok X G (fact 20 _ rfl)
  have m__law_heard : mg "_law_heard" = some (.ref (He.ga K "_law_heard")) := He.glo_ok X G (fact 21 _ rfl)
  have m__law_pen : mg "_law_pen" = some (.ref (He.ga K "_law_pen")) := He.glo_ok X G (fact 22 _ rfl)
  have m__law_pick : mg "_law_pick" = some (.ref (He.ga K "_law_pick")) := He.glo_ok X G (fact 23 _ rfl)
  have m__law_statement : mg "_law_statement" = some (.ref (He.ga K "_law_statement")) := He.glo_ok X G (fact 24 _ rfl)
  have m__law_value : mg "_law_value" = some (.ref (He.ga K "_law_value")) := He.glo_ok X G (fact 25 _ rfl)
  have m_fixed : mg "fixed" = some (.ref (He.ga K "fixed")) := He.glo_ok X G (fact 26 _ rfl)
  have m_is_name : mg "is_name" = some (.ref (He.ga K "is_name")) := He.glo_ok X G (fact 27 _ rfl)
  have m_is_plain : mg "is_plain" = some (.ref (He.ga K "is_plain")) := He.glo_ok X G (fact 28 _ rfl)
  have m_is_row : mg "is_row" = some (.ref (He.ga K "is_row")) := He.glo_ok X G (fact 29 _ rfl)
  have m_need_statement : mg "need_statement" = some (.ref (He.ga K "need_statement")) := He.glo_ok X G (fact 30 _ rfl)
  have m_parts_in : mg "parts_in" = some (.ref (He.ga K "parts_in")) := He.glo_ok X G (fact 31 _ rfl)
  have m_row_of : mg "row_of" = some (.ref (He.ga K "row_of")) := He.glo_ok X G (fact 32 _ rfl)
  have m_statement_in : mg "statement_in" = some (.ref (He.ga K "statement_in")) := He.glo_ok X G (fact 33 _ rfl)
  have m_written : mg "written" = some (.ref (He.ga K "written")) := He.glo_ok X G (fact 34 _ rfl)
  have m_written_one : mg "written_one" = some (.ref (He.ga K "written_one")) := He.glo_ok X G (fact 35 _ rfl)
  exact {
    ty := knowB_ty x0
    fld := knowB_fld x0
    cat := knowB_cat x0
    n_abs := n_abs
    n_all := n_all
    n_any := n_any
    n_int := n_int
    n_isinstance := n_isinstance
    n_len := n_len
    n_list := n_list
    n_range := n_range
    n_repr := n_repr
    n_str := n_str
    n_tuple := n_tuple
    g_JOINS := fun Z e1 e2 => glo_is_tupB (l := t_JOINS) (by rw [e1, e2]; exact He.glo_ok X G (fact 37 _ rfl)) (by rw [e2]; exact x3) rfl
    g_LETTERS := fun Z e1 e2 => glo_is_str (by rw [e1]; exact He.str_ok X G (fact 38 _ rfl))
    g_MOST_PARTS := fun Z e1 e2 => glo_is_int (by rw [e1]; exact He.int_ok X G (fact 39 _ rfl))
    g_MOST_SIGNS := fun Z e1 e2 => glo_is_int (by rw [e1]; exact He.int_ok X G (fact 40 _ rfl))
    g_NO := fun Z e1 e2 => glo_is_str (by rw [e1]; exact He.str_ok X G (fact 41 _ rfl))
    g_OR := fun Z e1 e2 => glo_is_str (by rw [e1]; exact He.str_ok X G (fact 42 _ rfl))
    g_WORDS := fun Z e1 e2 => glo_is_tupB (l := t_WORDS) (by rw [e1, e2]; exact He.glo_ok X G (fact 43 _ rfl)) (by rw [e2]; exact x4) rfl
    g_YES := fun Z e1 e2 => glo_is_str (by rw [e1]; exact He.str_ok X G (fact 44 _ rfl))
    m_BadCode := m_BadCode
    m_BadNumber := m_BadNumber
    m_BadSheet := m_BadSheet
    m_BadStatement := m_BadStatement
    m_BadTerm := m_BadTerm
    m_Misfit := m_Misfit
    m_RunError := m_RunError
    m_TooMany := m_TooMany
    m__law_draw := m__law_draw
    m__law_heard := m__law_heard
    m__law_pen := m__law_pen
    m__law_pick := m__law_pick
    m__law_statement := m__law_statement
    m__law_value := m__law_value
    m_fixed := m_fixed
    m_is_name := m_is_name
    m_is_plain := m_is_plain
    m_is_row := m_is_row
    m_need_statement := m_need_statement
    m_parts_in := m_parts_in
    m_row_of := m_row_of
    m_statement_in := m_statement_in
    m_written := m_written
    m_written_one := m_written_one
    x_BadStatement := xclsB_ok x1 bd2_part rfl (He.glo_ok X G (fact 15 _ rfl)) n_super
    x_Misfit := xclsB_ok x2 bd2_part rfl (He.glo_ok X G (fact 17 _ rfl)) n_super }
theorem defs (c : SaysK fa fn tf ex h K) : Wk.Fu K := by
  have D := c.d
  exact {
    f_is_row := D.defs (d := Wk.d_is_row) (List.mem_of_getElem? (i := 0) rfl)
    f_is_name := D.defs (d := Wk.d_is_name) (List.mem_of_getElem? (i := 1) rfl)
    f_fixed := D.defs (d := Wk.d_fixed) (List.mem_of_getElem? (i := 2) rfl)
    f_statement_in := D.defs (d := Wk.d_statement_in) (List.mem_of_getElem? (i := 3) rfl)
    f_need_statement := D.defs (d := Wk.d_need_statement) (List.mem_of_getElem? (i := 4) rfl)
    f_parts_in := D.defs (d := Wk.d_parts_in) (List.mem_of_getElem? (i := 5) rfl)
    f_is_plain := D.defs (d := Wk.d_is_plain) (List.mem_of_getElem? (i := 6) rfl)
    f_written := D.defs (d := Wk.d_written) (List.mem_of_getElem? (i := 7) rfl)
    f_row_of := D.defs (d := Wk.d_row_of) (List.mem_of_getElem? (i := 8) rfl)
    f_written_one := D.defs (d := Wk.d_written_one) (List.mem_of_getElem? (i := 9) rfl)
    f__law_pen := D.defs (d := Wk.d__law_pen) (List.mem_of_getElem? (i := 10) rfl)
    f__law_draw := D.defs (d := Wk.d__law_draw) (List.mem_of_getElem? (i := 11) rfl)
    f__law_pick := D.defs (d := Wk.d__law_pick) (List.mem_of_getElem? (i := 12) rfl)
    f__law_statement := D.defs (d := Wk.d__law_statement) (List.mem_of_getElem? (i := 13) rfl)
    f__law_heard := D.defs (d := Wk.d__law_heard) (List.mem_of_getElem? (i := 14) rfl)
    f__law_value := D.defs (d := Wk.d__law_value) (List.mem_of_getElem? (i := 15) rfl)
    f_law := D.defs (d := Wk.d_law) (List.mem_of_getElem? (i := 16) rfl) }
end
end Hd

set_option Elab.async false
set_option linter.all false
set_option autoImplicit false
set_option maxRecDepth 100000
set_option maxHeartbeats 4000000
/-! The end of provenruns_k78_written_ones, printed by wip/gen/gen.py: the row from a run of the law's mirror. -/
namespace En
open PySem PySem.Spec PySem.W PySem.Calls PyProof.Rows L2 Mp
/-- the mirrors, one upon the other -/
noncomputable def Sn : Nat → Wk.Fk → List W → M W
  | 0, _ => fun _ _ => none
  | n + 1, f => match f with
    | .is_row => runB Wk.N_is_row.length (Wk.B_is_row Hd.pk (Sn n))
    | .is_name => runB Wk.N_is_name.length (Wk.B_is_name Hd.pk (Sn n))
    | .fixed => runB Wk.N_fixed.length (Wk.B_fixed Hd.pk (Sn n))
    | .statement_in => runB Wk.N_statement_in.length (Wk.B_statement_in Hd.pk (Sn n))
    | .need_statement => runB Wk.N_need_statement.length (Wk.B_need_statement Hd.pk (Sn n))
    | .parts_in => runB Wk.N_parts_in.length (Wk.B_parts_in Hd.pk (Sn n))
    | .is_plain => runB Wk.N_is_plain.length (Wk.B_is_plain Hd.pk (Sn n))
    | .written => runB Wk.N_written.length (Wk.B_written Hd.pk (Sn n))
    | .row_of => runB Wk.N_row_of.length (Wk.B_row_of Hd.pk (Sn n))
    | .written_one => runB Wk.N_written_one.length (Wk.B_written_one Hd.pk (Sn n))
    | ._law_pen => runB Wk.N__law_pen.length (Wk.B__law_pen Hd.pk (Sn n))
    | ._law_draw => runB Wk.N__law_draw.length (Wk.B__law_draw Hd.pk (Sn n))
    | ._law_pick => runB Wk.N__law_pick.length (Wk.B__law_pick Hd.pk (Sn n))
    | ._law_statement => runB Wk.N__law_statement.length (Wk.B__law_statement Hd.pk (Sn n))
    | ._law_heard => fun _ _ => none
    | ._law_value => runB Wk.N__law_value.length (Wk.B__law_value Hd.pk (Sn n))
    | .law => fun _ _ => none
/-- what the def that asks tells of a question -/
noncomputable def Hs (n : Nat) (m : M W) : M W := fun h => open Classical in if hx : ∃ r, ∀ f : Addr, runB Wk.N__law_heard.length (Wk.B__law_heard Hd.pk (Sn n) (eAsk 0 f m)) [.adr f] h = some r then some (Classical.choose hx) else none
theorem hs_ok (n : Nat) (f : Addr) (m : M W) (h : Hw) (r : Out W × Hw) (e : Hs n m h = some r) : ∃ r2, runB Wk.N__law_heard.length (Wk.B__law_heard Hd.pk (Sn n) (eAsk 0 f m)) [.adr f] h = some r2 ∧ ShrR h.length r2 r := by
  unfold Hs at e
  split at e
  · rename_i hx
    cases e
    exact ⟨_, Classical.choose_spec hx f, shrR_rfl⟩
  · cases e
theorem hs_eq {n : Nat} {m : M W} {h : Hw} {r : Out W × Hw} (e : ∀ f : Addr, runB Wk.N__law_heard.length (Wk.B__law_heard Hd.pk (Sn n) (eAsk 0 f m)) [.adr f] h = some r) : Hs n m h = some r := by
  have hx : ∃ r, ∀ f : Addr, runB Wk.N__law_heard.length (Wk.B__law_heard Hd.pk (Sn n) (eAsk 0 f m)) [.adr f] h = some r := ⟨r, e⟩
  unfold Hs
  rw [dif_pos hx]
  have z := Classical.choose_spec hx 0
  rw [e 0] at z
  exact z.symm
section
variable {w : World} {K : PySem.W.Frag} {mg : Str → Option Value} {base : Heap} {T : List (Addr × Str)}
theorem all_ok (F : Wk.Fx Hd.pk Hd.R.prog mg K) (U : Wk.Fu K) : ∀ n : Nat, Wk.AllOk Hd.R.prog w K mg base T (2 * n) (Sn n)
  | 0 => {
    c_is_row := dok_zero U.f_is_row (fun _ _ => rfl)
    c_is_name := dok_zero U.f_is_name (fun _ _ => rfl)
    c_fixed := dok_zero U.f_fixed (fun _ _ => rfl)
    c_statement_in := dok_zero U.f_statement_in (fun _ _ => rfl)
    c_need_statement := dok_zero U.f_need_statement (fun _ _ => rfl)
    c_parts_in := dok_zero U.f_parts_in (fun _ _ => rfl)
    c_is_plain := dok_zero U.f_is_plain (fun _ _ => rfl)
    c_written := dok_zero U.f_written (fun _ _ => rfl)
    c_row_of := dok_zero U.f_row_of (fun _ _ => rfl)
    c_written_one := dok_zero U.f_written_one (fun _ _ => rfl)
    c__law_pen := dok_zero U.f__law_pen (fun _ _ => rfl)
    c__law_draw := dok_zero U.f__law_draw (fun _ _ => rfl)
    c__law_pick := dok_zero U.f__law_pick (fun _ _ => rfl)
    c__law_statement := dok_zero U.f__law_statement (fun _ _ => rfl)
    c__law_value := dok_zero U.f__law_value (fun _ _ => rfl)
    }
  | n + 1 => by
    have C := all_ok F U n
    exact {
      c_is_row := dok_of U.f_is_row Wk.sc_is_row (fun ws h r _ e => ⟨r, e, shrR_rfl⟩) (fun cv A outer s H E T0 hcv hT hr => Wk.dv_is_row (by rw [hT]; exact C) F hr)
      c_is_name := dok_of U.f_is_name Wk.sc_is_name (fun ws h r _ e => ⟨r, e, shrR_rfl⟩) (fun cv A outer s H E T0 hcv hT hr => Wk.dv_is_name (by rw [hT]; exact C) F hr)
      c_fixed := dok_of U.f_fixed Wk.sc_fixed (fun ws h r _ e => ⟨r, e, shrR_rfl⟩) (fun cv A outer s H E T0 hcv hT hr => Wk.dv_fixed (by rw [hT]; exact C) F hr)
      c_statement_in := dok_of U.f_statement_in Wk.sc_statement_in (fun ws h r _ e => ⟨r, e, shrR_rfl⟩) (fun cv A outer s H E T0 hcv hT hr => Wk.dv_statement_in (by rw [hT]; exact C) F hr)
      c_need_statement := dok_of U.f_need_statement Wk.sc_need_statement (fun ws h r _ e => ⟨r, e, shrR_rfl⟩) (fun cv A outer s H E T0 hcv hT hr => Wk.dv_need_statement (by rw [hT]; exact C) F hr)
      c_parts_in := dok_of U.f_parts_in Wk.sc_parts_in (fun ws h r _ e => ⟨r, e, shrR_rfl⟩) (fun cv A outer s H E T0 hcv hT hr => Wk.dv_parts_in (by rw [hT]; exact C) F hr)
      c_is_plain := dok_of U.f_is_plain Wk.sc_is_plain (fun ws h r _ e => ⟨r, e, shrR_rfl⟩) (fun cv A outer s H E T0 hcv hT hr => Wk.dv_is_plain (by rw [hT]; exact C) F hr)
      c_written := dok_of U.f_written Wk.sc_written (fun ws h r _ e => ⟨r, e, shrR_rfl⟩) (fun cv A outer s H E T0 hcv hT hr => Wk.dv_written (by rw [hT]; exact C) F hr)
      c_row_of := dok_of U.f_row_of Wk.sc_row_of (fun ws h r _ e => ⟨r, e, shrR_rfl⟩) (fun cv A outer s H E T0 hcv hT hr => Wk.dv_row_of (by rw [hT]; exact C) F hr)
      c_written_one := dok_of U.f_written_one Wk.sc_written_one (fun ws h r _ e => ⟨r, e, shrR_rfl⟩) (fun cv A outer s H E T0 hcv hT hr => Wk.dv_written_one (by rw [hT]; exact C) F hr)
      c__law_pen := dok_of U.f__law_pen Wk.sc__law_pen (fun ws h r _ e => ⟨r, e, shrR_rfl⟩) (fun cv A outer s H E T0 hcv hT hr => Wk.dv__law_pen (by rw [hT]; exact C) F hr)
      c__law_draw := dok_of U.f__law_draw Wk.sc__law_draw (fun ws h r _ e => ⟨r, e, shrR_rfl⟩) (fun cv A outer s H E T0 hcv hT hr => Wk.dv__law_draw (by rw [hT]; exact C) F hr)
      c__law_pick := dok_of U.f__law_pick Wk.sc__law_pick (fun ws h r _ e => ⟨r, e, shrR_rfl⟩) (fun cv A outer s H E T0 hcv hT hr => Wk.dv__law_pick (by rw [hT]; exact C) F hr)
      c__law_statement := dok_of U.f__law_statement Wk.sc__law_statement (fun ws h r _ e => ⟨r, e, shrR_rfl⟩) (fun cv A outer s H E T0 hcv hT hr => Wk.dv__law_statement (by rw [hT]; exact C) F hr)
      c__law_value := dok_of U.f__law_value Wk.sc__law_value (fun ws h r _ e => ⟨r, e, shrR_rfl⟩) (fun cv A outer s H E T0 hcv hT hr => Wk.dv__law_value (by rw [hT]; exact C) F hr)
      }
theorem law_ok (F : Wk.Fx Hd.pk Hd.R.prog mg K) (U : Wk.Fu K) (TB : LamX.TabB base mg (He.codeOf K Wk.d_law.at_) (He.tabOf K (He.codeOf K Wk.d_law.at_))) (n : Nat) : DOk Hd.R.prog w K mg base [(He.tabOf K (He.codeOf K Wk.d_law.at_), ("law.<locals>.<lambda>" : Str))] (2 * n + 3) Wk.d_law Wk.P_law (runB Wk.N_law.length (Wk.B_law Hd.pk (Sn n) (Hs n))) :=
  dok_of U.f_law Wk.sc_law (fun ws h r _ e => ⟨r, e, shrR_rfl⟩) (fun cv A outer s H E T0 hcv hT hr => Wk.dv_law (by rw [hT]; exact all_ok F U n) F hr U TB hcv hT (hs_ok n))
end
theorem law_of (n : Nat) (hr : RoomG (2 * n + 3) callerA) (plain : ∀ ns : List Int, ns.length ≤ 63 → (∀ z ∈ ns, Builtin.Int.intBits z ≤ 1048576) → ∃ h', runB Wk.N_law.length (Wk.B_law Hd.pk (Sn n) (Hs n)) [.lro (ns.map W.int)] [] = some (.ok (.bl true), h')) (w : World) (mg : Str → Option Value) (fa : Addr) (h : Heap) (Y : Hd.hook.says w h) (G : h.Ns mainGlobals mg) (hmg : mg "law" = some (.ref fa)) :
    ∃ K : PySem.W.Frag, K.In h ∧ LawG Hd.R.prog w K (2 * n + 3) 63 "script" mg fa h := by
  obtain ⟨K, KX, c⟩ := Y
  have F := Hd.facts c KX G
  have U := Hd.defs c
  have efa : fa = He.fAd K Wk.d_law.at_ := by
    have z := He.glo_ok KX G (c.d.fact 36 (f := .glo "law") rfl)
    rw [hmg] at z
    cases z
    rfl
  obtain ⟨fd, FD⟩ := U.f_law
  refine ⟨K, KX, ⟨fd, Hd.tf.map (He.cT K), [(He.tabOf K (He.codeOf K Wk.d_law.at_), ("law.<locals>.<lambda>" : Str))], _, ?_, ?_, ?_, ?_, ?_, plain, fun base Kb Gb TB => ?_⟩⟩
  · intro p hp
    obtain ⟨q, hq, rfl⟩ := List.mem_map.mp hp
    exact (c.tab q hq).2.2
  · intro p hp
    obtain ⟨q, hq, rfl⟩ := List.mem_map.mp hp
    exact (c.tab q hq).2.1
  · intro p hp
    obtain ⟨q, hq, rfl⟩ := List.mem_map.mp hp
    exact PySem.W.codeHd_of_K KX (c.tab q hq).1
  · intro s u
    obtain ⟨oc, od, dV, kV, doc, pm, an, cdv, ct, osl, rfl, lk, _, dv, kv⟩ := FD.ex
    rcases dv with ⟨_, rfl⟩ | ⟨z, _⟩
    · exact .of_eq rfl
    · exact absurd rfl z
  · intro p hp
    rw [List.mem_singleton.mp hp]
    exact ⟨_, List.mem_map.mpr ⟨_, List.mem_singleton.mpr rfl, rfl⟩, rfl⟩
  · subst efa
    obtain ⟨fd2, FD2, GG⟩ := (law_ok F U (TB _ (List.mem_map.mpr ⟨_, List.mem_singleton.mpr rfl, rfl⟩)) n).ex
    rw [funD_one FD FD2]
    exact GG
theorem holds_of (n : Nat) (hr : RoomG (2 * n + 3) callerA) (plain : ∀ ns : List Int, ns.length ≤ 63 → (∀ z ∈ ns, Builtin.Int.intBits z ≤ 1048576) → ∃ h', runB Wk.N_law.length (Wk.B_law Hd.pk (Sn n) (Hs n)) [.lro (ns.map W.int)] [] = some (.ok (.bl true), h')) : PySem.Challenge.rw_provenruns_k78_written_ones.Holds := by
  w_on; o_law
  refine HandSHeadRun.head_any (r := Hd.R) (q := Hd.qv) (H := Hd.hook) (ob := fun s => lookK 6 Hd.fa Hd.fn Hd.tf Hd.ex (HandSHeadRun.getT s)) (M := 3000) (loose := Hd.names) (d := HandSHeadRun.topDef Hd.R.prog 44) (kwd := []) (fun _ => look_eq) (by kernel_rfl) (fun s => by kernel_rfl) Hd.run (by rfl) (by rfl) (by rfl) (by rfl) (by first | assumption | decide +kernel) (by decide +kernel) ⟨rfl, rfl, rfl, rfl, rfl, by decide +kernel⟩ ?hw ?hc
  case hw => w_witness2
  case hc => exact walk_g (l := PySem.Challenge.rw_provenruns_k78_written_ones) (n := 63) rfl (by rw [sizeLine_eq]; omega) rfl hr (law_of n hr plain)
end En

set_option Elab.async false
set_option linter.all false
set_option autoImplicit false
set_option maxRecDepth 100000
set_option maxHeartbeats 4000000
/-! Pa: how mirrors are worked out. -/
namespace Pl
open PySem PySem.Spec PyProof.Rows L2 Mp
open En
theorem sz (k : Nat) (h : k ≤ 1000000) : (k ≤ sizeLine) = True := eq_true (by rw [sizeLine_eq]; omega)
theorem sz0 : (0 ≤ sizeLine) = True := sz _ (by omega)
theorem sz1 : (1 ≤ sizeLine) = True := sz _ (by omega)
theorem sz2 : (2 ≤ sizeLine) = True := sz _ (by omega)
theorem sz3 : (3 ≤ sizeLine) = True := sz _ (by omega)
theorem sz4 : (4 ≤ sizeLine) = True := sz _ (by omega)
theorem sz5 : (5 ≤ sizeLine) = True := sz _ (by omega)
theorem sz6 : (6 ≤ sizeLine) = True := sz _ (by omega)
theorem sz12 : (12 ≤ sizeLine) = True := sz _ (by omega)
/-! ### while -/
def Runs (c : ShT) (b : Ss) (ρ : Rho) (h : Hw) (r : SOut × Hw) : Prop := ∃ n, sWhileN c b n ρ h = some r
section
variable {c : ShT} {b : Ss} {ρ ρ2 : Rho} {h h1 h2 : Hw} {r : SOut × Hw} {w : W}
theorem Runs.go (hc : c ρ h = some (.ok true, h1)) (hb : b ρ h1 = some (.nx ρ2, h2)) (k : Runs c b ρ2 h2 r) : Runs c b ρ h r := by
  obtain ⟨n, e⟩ := k
  refine ⟨n + 1, ?_⟩
  unfold sWhileN sb
  rw [hc]
  simp only [if_true]
  rw [hb]
  exact e
theorem Runs.ct (hc : c ρ h = some (.ok true, h1)) (hb : b ρ h1 = some (.ct ρ2, h2)) (k : Runs c b ρ2 h2 r) : Runs c b ρ h r := by
  obtain ⟨n, e⟩ := k
  refine ⟨n + 1, ?_⟩
  unfold sWhileN sb
  rw [hc]
  simp only [if_true]
  rw [hb]
  exact e
theorem Runs.rt (hc : c ρ h = some (.ok true, h1)) (hb : b ρ h1 = some (.rt w, h2)) : Runs c b ρ h (.rt w, h2) := by
  refine ⟨1, ?_⟩
  unfold sWhileN sb
  rw [hc]
  simp only [if_true]
  rw [hb]
theorem Runs.stop (hc : c ρ h = some (.ok false, h1)) : Runs c b ρ h (.nx ρ, h1) := by
  refine ⟨1, ?_⟩
  unfold sWhileN sb
  rw [hc]
  rfl
theorem Runs.eq (k : Runs c b ρ h r) : sWhile c b ρ h = some r := let ⟨_, e⟩ := k; sWhile_of e
end
/-! ### heaps -/
/-- what stood stays -/
def Gr (p : Nat → Prop) (h h' : Hw) : Prop := h.length ≤ h'.length ∧ ∀ i, i < h.length → ¬ p i → h'[i]? = h[i]?
def no : Nat → Prop := fun _ => False
section
variable {p q : Nat → Prop} {h h1 h2 : Hw}
theorem Gr.rfl' : Gr p h h := ⟨Nat.le_refl _, fun _ _ _ => rfl⟩
theorem Gr.trans (a : Gr p h h1) (b : Gr p h1 h2) : Gr p h h2 := ⟨Nat.le_trans a.1 b.1, fun i hi n => (b.2 i (Nat.lt_of_lt_of_le hi a.1) n).trans (a.2 i hi n)⟩
theorem Gr.app (g : Hw) : Gr p h (h ++ g) := ⟨by rw [List.length_append]; omega, fun i hi _ => List.getElem?_append_left hi⟩
theorem Gr.set {i : Nat} {o : MO} (hp : p i ∨ h.length ≤ i) : Gr p h (h.set i o) := ⟨by rw [List.length_set]; exact Nat.le_refl _, fun j hj n => by
  rw [List.getElem?_set_ne]
  rintro rfl
  rcases hp with q | q
  · exact n q
  · omega⟩
theorem Gr.imp (a : Gr p h h1) (k : ∀ i, i < h.length → p i → q i) : Gr q h h1 := ⟨a.1, fun i hi n => a.2 i hi fun z => n (k i hi z)⟩
/-- from a later point on: what is newer does not count -/
theorem Gr.back (a : Gr p h h1) (b : Gr q h1 h2) (k : ∀ i, i < h.length → q i → p i) : Gr p h h2 := ⟨Nat.le_trans a.1 b.1, fun i hi n => (b.2 i (Nat.lt_of_lt_of_le hi a.1) fun z => n (k i hi z)).trans (a.2 i hi n)⟩
theorem Gr.at_ (a : Gr p h h1) {i : Nat} {o : MO} (e : h[i]? = some o) (n : ¬ p i) : h1[i]? = some o := (a.2 i (List.getElem?_eq_some_iff.mp e).1 n).trans e
theorem lt_of {i : Nat} {o : MO} (e : h[i]? = some o) : i < h.length := (List.getElem?_eq_some_iff.mp e).1
theorem set_at {i : Nat} {o u : MO} (e : h[i]? = some o) : (h.set i u)[i]? = some u := by rw [List.getElem?_set_self (lt_of e)]
theorem new_at {o : MO} : (h ++ [o])[h.length]? = some o := by rw [List.getElem?_append_right (Nat.le_refl _), Nat.sub_self]; rfl
theorem app_at {i : Nat} {o : MO} {g : Hw} (e : h[i]? = some o) : (h ++ g)[i]? = some o := by rw [List.getElem?_append_left (lt_of e)]; exact e
end
/-! ### small functions -/
theorem ev_row_of (n : Nat) (a b : W) (h : Hw) : Sn (n + 1) .row_of [a, b] h = some (.ok (.tup [a, b]), h) := by
  show runB Wk.N_row_of.length (Wk.B_row_of Hd.pk (Sn n)) [a, b] h = _
  simp only [runB, sSeq, sIf, sb, sRet, sDrop, sAsg, sNext, sCnt, sPar, tBl, Mp.tOr, Mp.tAnd, Mp.tNot, tTru, asTru, truW, mOp2, mOp1, mCall, M.bind, M.ret, asBl, up, eVar, eC, eTup, eLst, aCons, aNil, eIf, eAnd, eOr, eNot, eChain, gNm, gTp, gsCons, gsNil, List.set, List.map_cons, List.map_nil, List.length_cons, List.length_nil, List.replicate, List.cons_append, List.nil_append, List.getElem?_cons_zero, List.getElem?_cons_succ, if_true, if_false, reduceIte, Bool.not_true, Bool.not_false, Bool.false_eq_true, Option.map, Nat.reduceAdd, Nat.reduceSub, Nat.reduceLeDiff, sz1, sz2, sz3, sz4, sz5, sz6, sz12, sz0, List.append_nil, eCall, pickL, List.filterMap_cons, List.filterMap_nil, eMth, isLst, lstW, atL, fApp, fPop, eExtL, Option.isSome, and_self, true_and, and_true, Wk.B_row_of, Wk.N_row_of]
/-- what is_row takes for a row -/
def rowT : W → Bool
  | .tup _ => true
  | _ => false
/-- what is told by no number -/
def plainW : W → Bool
  | .non => true
  | .int _ => true
  | .str _ => true
  | .tup _ => true
  | _ => false
theorem ev_is_row (n : Nat) (w : W) (h : Hw) (hp : plainW w = true) : Sn (n + 1) .is_row [w] h = some (.ok (.bl (rowT w)), h) := by
  show runB Wk.N_is_row.length (Wk.B_is_row Hd.pk (Sn n)) [w] h = _
  cases w <;> first | (cases hp; done) | rfl
end Pl

set_option Elab.async false
set_option linter.all false
set_option autoImplicit false
set_option maxRecDepth 100000
set_option maxHeartbeats 4000000
/-! Pb: values as data; what == tells; statements. -/
namespace Pl
open PySem PySem.Spec PyProof.Rows L2 Mp
/-! ### data -/
theorem mapO_imp {α β : Type} {f g : α → Option β} (k : ∀ a b, f a = some b → g a = some b) : ∀ {l : List α} {r : List β}, mapO f l = some r → mapO g l = some r
  | [], r, e => e
  | a :: l, r, e => by
    unfold mapO at e ⊢
    cases e1 : f a with
    | none => rw [e1] at e; cases e
    | some b =>
      cases e2 : mapO f l with
      | none => rw [e1, e2] at e; cases e
      | some bs =>
        rw [e1, e2] at e
        rw [k a b e1, mapO_imp k e2]
        exact e
theorem toPD_up {h : Hw} : ∀ {n : Nat} {w : W} {d : PyData}, toPD h n w = some d → toPD h (n + 1) w = some d
  | 0, _, _, e => by cases e
  | n + 1, w, d, e => by
    have ih : ∀ a b, toPD h n a = some b → toPD h (n + 1) a = some b := fun a b q => toPD_up q
    cases w with
    | tup l =>
      have e' : (mapO (toPD h n) l).map .tuple = some d := e
      obtain ⟨r, hr, rfl⟩ := Option.map_eq_some_iff.mp e'
      show (mapO (toPD h (n + 1)) l).map _ = _
      rw [mapO_imp ih hr]
      rfl
    | lro l =>
      have e' : (mapO (toPD h n) l).map .list = some d := e
      obtain ⟨r, hr, rfl⟩ := Option.map_eq_some_iff.mp e'
      show (mapO (toPD h (n + 1)) l).map _ = _
      rw [mapO_imp ih hr]
      rfl
    | ref i =>
      have e' : (match h[i]? with
        | some (.lst l) => (mapO (toPD h n) l).map .list
        | _ => none) = some d := e
      show (match h[i]? with
        | some (.lst l) => (mapO (toPD h (n + 1)) l).map .list
        | _ => none) = some d
      cases q : h[i]? with
      | none => rw [q] at e'; cases e'
      | some o =>
        rw [q] at e'
        cases o with
        | lst l =>
          obtain ⟨r, hr, rfl⟩ := Option.map_eq_some_iff.mp e'
          show (mapO (toPD h (n + 1)) l).map _ = _
          rw [mapO_imp ih hr]
          rfl
        | _ => cases e'
    | _ => exact e
theorem toPD_le {h : Hw} {n m : Nat} {w : W} {d : PyData} (e : toPD h n w = some d) (l : n ≤ m) : toPD h m w = some d := by
  induction l with
  | refl => exact e
  | step _ ih => exact toPD_up ih
/-- w is data d, at most k deep -/
structure Fits (h : Hw) (k : Nat) (w : W) (d : PyData) : Prop where
  e : toPD h (k + 1) w = some d
  c : d.canLay0 = true
  s : d.depth ≤ k
structure FitsL (h : Hw) (k : Nat) (ws : List W) (ds : List PyData) : Prop where
  e : mapO (toPD h (k + 1)) ws = some ds
  c : PyData.canLayAll0 ds = true
  s : PyData.depthAll ds ≤ k
section
variable {h : Hw} {k : Nat} {w : W} {d : PyData} {ws : List W} {ds : List PyData}
theorem Fits.le (a : Fits h k w d) {m : Nat} (l : k ≤ m) : Fits h m w d := ⟨toPD_le a.e (by omega), a.c, Nat.le_trans a.s l⟩
theorem fits_non : Fits h k .non .none := ⟨rfl, by simp only [PyData.canLay0], by simp [PyData.depth]⟩
theorem fits_int {i : Int} : Fits h k (.int i) (.int i) := ⟨rfl, by simp only [PyData.canLay0], by simp [PyData.depth]⟩
theorem fits_str {s : Str} (o : PyData.strOk s = true) : Fits h k (.str s) (.str s) := ⟨rfl, by simp only [PyData.canLay0]; exact o, by simp [PyData.depth]⟩
theorem fitsL_nil : FitsL h k [] [] := ⟨rfl, by simp only [PyData.canLayAll0], by simp [PyData.depthAll]⟩
theorem FitsL.cons (a : Fits h k w d) (b : FitsL h k ws ds) : FitsL h k (w :: ws) (d :: ds) := ⟨by unfold mapO; rw [a.e, b.e], by simp only [PyData.canLayAll0, a.c, b.c, Bool.and_self], by simp only [PyData.depthAll]; exact Nat.max_le.mpr ⟨a.s, b.s⟩⟩
theorem FitsL.tup (a : FitsL h k ws ds) : Fits h (k + 1) (.tup ws) (.tuple ds) := ⟨by show (mapO (toPD h (k + 1)) ws).map _ = _; rw [a.e]; rfl, by simp only [PyData.canLay0, a.c], by simp only [PyData.depth]; have := a.s; omega⟩
theorem FitsL.ref {i : Nat} (hi : h[i]? = some (.lst ws)) (a : FitsL h k ws ds) : Fits h (k + 1) (.ref i) (.list ds) := ⟨by
  show (match h[i]? with
    | some (.lst l) => (mapO (toPD h (k + 1)) l).map PyData.list
    | _ => none) = _
  rw [hi]
  show (mapO (toPD h (k + 1)) ws).map _ = _
  rw [a.e]
  rfl, by simp only [PyData.canLay0, a.c], by simp only [PyData.depth]; have := a.s; omega⟩
theorem Fits.shaped (a : Fits h k w d) (l : k ≤ 64) : SeqAt.shaped d = true := Bool.and_eq_true_iff.mpr ⟨a.c, decide_eq_true (Nat.le_trans a.s l)⟩
theorem eqB_fits {w2 : W} {d2 : PyData} {k2 : Nat} (neg : Bool) (a : Fits h k w d) (b : Fits h k2 w2 d2) (l : k ≤ 64) (l2 : k2 ≤ 64) : fEqB neg w w2 h = some (.bl (if neg then !PyData.eqv d d2 else PyData.eqv d d2), h) := by
  unfold fEqB
  rw [toPD_le a.e (show k + 1 ≤ 70 by omega), toPD_le b.e (show k2 + 1 ≤ 70 by omega)]
  dsimp only
  rw [if_pos ⟨a.shaped l, b.shaped l2⟩]
theorem eqv_nil : PyData.eqv (.list ds) (.list []) = ds.isEmpty := by
  cases ds <;> simp [PyData.eqv, PyData.eqvAll]
end
theorem mapO_len {α β : Type} {f : α → Option β} : ∀ {l : List α} {r : List β}, mapO f l = some r → r.isEmpty = l.isEmpty
  | [], _, e => by cases e; rfl
  | a :: l, r, e => by
    unfold mapO at e
    cases e1 : f a with
    | none => rw [e1] at e; cases e
    | some b =>
      cases e2 : mapO f l with
      | none => rw [e1, e2] at e; cases e
      | some bs => rw [e1, e2] at e; cases e; rfl
/-- line == [], line != [] -/
theorem eq_nil {h : Hw} {k i j : Nat} {ws : List W} {ds : List PyData} (neg : Bool) (hi : h[i]? = some (.lst ws)) (hj : h[j]? = some (.lst [])) (a : FitsL h k ws ds) (l : k ≤ 60) : fEqB neg (.ref i) (.ref j) h = some (.bl (if neg then !ws.isEmpty else ws.isEmpty), h) := by
  rw [eqB_fits neg (a.ref hi) (FitsL.ref (k := 0) hj fitsL_nil) (by omega) (by omega), eqv_nil, mapO_len a.e]
end Pl

set_option Elab.async false
set_option linter.all false
set_option autoImplicit false
set_option maxRecDepth 100000
set_option maxHeartbeats 4000000
/-! Pc: fixed. -/
namespace Pl
open PySem PySem.Spec PyProof.Rows L2 Mp
open En
section
variable {a b : Ss} {ρ ρ1 : Rho} {h h1 h2 : Hw} {c : ShT} {k : Bool} {e : Sh} {w : W} {r : SOut × Hw} {L i : Nat} {l : List W}
theorem seq_nx (ha : a ρ h = some (.nx ρ1, h1)) : sSeq a b ρ h = b ρ1 h1 := by unfold sSeq; rw [ha]
theorem seq_ct (ha : a ρ h = some (.ct ρ1, h1)) : sSeq a b ρ h = some (.ct ρ1, h1) := by unfold sSeq; rw [ha]
theorem seq_rt (ha : a ρ h = some (.rt w, h1)) : sSeq a b ρ h = some (.rt w, h1) := by unfold sSeq; rw [ha]
theorem if_t (hc : c ρ h = some (.ok true, h1)) : sIf c a b ρ h = a ρ h1 := by unfold sIf sb; rw [hc]; rfl
theorem if_f (hc : c ρ h = some (.ok false, h1)) : sIf c a b ρ h = b ρ h1 := by unfold sIf sb; rw [hc]; rfl
theorem drop_app (hi : ρ[i]? = some (some (.ref L))) (h0 : h[L]? = some (.lst l)) (he : e ρ h = some (.ok w, h1)) (hL : h1[L]? = some (.lst l)) (hl : l.length < 100000) : sDrop (eMth fApp (eVar i) (aCons e aNil)) ρ h = some (.nx ρ, h1.set L (.lst (l ++ [w]))) := by
  have q : l.length < sizeLine := by rw [sizeLine_eq]; omega
  simp only [runB, sSeq, sIf, sb, sRet, sDrop, sAsg, sNext, sCnt, sPar, tBl, Mp.tOr, Mp.tAnd, Mp.tNot, tTru, asTru, truW, mOp2, mOp1, mCall, M.bind, M.ret, asBl, up, eVar, eC, eTup, eLst, aCons, aNil, eIf, eAnd, eOr, eNot, eChain, gNm, gTp, gsCons, gsNil, List.set, List.map_cons, List.map_nil, List.length_cons, List.length_nil, List.replicate, List.cons_append, List.nil_append, List.getElem?_cons_zero, List.getElem?_cons_succ, if_true, if_false, reduceIte, Bool.not_true, Bool.not_false, Bool.false_eq_true, Option.map, Nat.reduceAdd, Nat.reduceSub, Nat.reduceLeDiff, sz1, sz2, sz3, sz4, sz5, sz6, sz12, sz0, List.append_nil, eCall, pickL, List.filterMap_cons, List.filterMap_nil, eMth, isLst, lstW, atL, fApp, fPop, eExtL, Option.isSome, and_self, true_and, and_true, hi, h0, he, hL, if_pos q]
theorem pop_row {x y : W} (hi : ρ[2]? = some (some (.ref L))) (hL : h[L]? = some (.lst (l ++ [.tup [x, y]]))) : sAsg (eMth fPop (eVar 2) aNil) (gTp (gsCons (gNm 3) (gsCons (gNm 4) gsNil)) 2) ρ h = some (.nx ((ρ.set 3 (some x)).set 4 (some y)), h.set L (.lst l)) := by
  have q : (l ++ [W.tup [x, y]])[(l ++ [W.tup [x, y]]).length - 1]? = some (.tup [x, y]) := by simp
  have q2 : (l ++ [W.tup [x, y]]).dropLast = l := by simp
  simp only [runB, sSeq, sIf, sb, sRet, sDrop, sAsg, sNext, sCnt, sPar, tBl, Mp.tOr, Mp.tAnd, Mp.tNot, tTru, asTru, truW, mOp2, mOp1, mCall, M.bind, M.ret, asBl, up, eVar, eC, eTup, eLst, aCons, aNil, eIf, eAnd, eOr, eNot, eChain, gNm, gTp, gsCons, gsNil, List.set, List.map_cons, List.map_nil, List.length_cons, List.length_nil, List.replicate, List.cons_append, List.nil_append, List.getElem?_cons_zero, List.getElem?_cons_succ, if_true, if_false, reduceIte, Bool.not_true, Bool.not_false, Bool.false_eq_true, Option.map, Nat.reduceAdd, Nat.reduceSub, Nat.reduceLeDiff, sz1, sz2, sz3, sz4, sz5, sz6, sz12, sz0, List.append_nil, eCall, pickL, List.filterMap_cons, List.filterMap_nil, eMth, isLst, lstW, atL, fApp, fPop, eExtL, Option.isSome, and_self, true_and, and_true, hi, hL, q, q2]
theorem new_nil {ws : List W} {es : ShA} (he : es ρ h = some (.ok ws, h)) (hl : ws.length < 100000) : eLst es ρ h = some (.ok (.ref h.length), h ++ [.lst ws]) := by
  have q : ws.length ≤ sizeLine := by rw [sizeLine_eq]; omega
  simp only [runB, sSeq, sIf, sb, sRet, sDrop, sAsg, sNext, sCnt, sPar, tBl, Mp.tOr, Mp.tAnd, Mp.tNot, tTru, asTru, truW, mOp2, mOp1, mCall, M.bind, M.ret, asBl, up, eVar, eC, eTup, eLst, aCons, aNil, eIf, eAnd, eOr, eNot, eChain, gNm, gTp, gsCons, gsNil, List.set, List.map_cons, List.map_nil, List.length_cons, List.length_nil, List.replicate, List.cons_append, List.nil_append, List.getElem?_cons_zero, List.getElem?_cons_succ, if_true, if_false, reduceIte, Bool.not_true, Bool.not_false, Bool.false_eq_true, Option.map, Nat.reduceAdd, Nat.reduceSub, Nat.reduceLeDiff, sz1, sz2, sz3, sz4, sz5, sz6, sz12, sz0, List.append_nil, eCall, pickL, List.filterMap_cons, List.filterMap_nil, eMth, isLst, lstW, atL, fApp, fPop, eExtL, Option.isSome, and_self, true_and, and_true, he, if_pos q]
end
/-- statements -/
inductive St where
  | leaf (s : Str) | node (a : Str) (x y : St)
def St.w : St → W
  | .leaf s => .str s
  | .node a x y => .tup [.str a, x.w, y.w]
def St.d : St → PyData
  | .leaf s => .str s
  | .node a x y => .tuple [.str a, x.d, y.d]
def St.dep : St → Nat
  | .leaf _ => 0
  | .node _ x y => max x.dep y.dep + 1
def St.ok : St → Bool
  | .leaf s => PyData.strOk s
  | .node a x y => PyData.strOk a && (x.ok && y.ok)
theorem St.fits {h : Hw} : ∀ {s : St} {k : Nat}, s.ok = true → s.dep ≤ k → Fits h k s.w s.d
  | .leaf s, k, o, _ => fits_str o
  | .node a x y, 0, _, l => by simp [St.dep] at l
  | .node a x y, k + 1, o, l => by
    have o' : (PyData.strOk a && (x.ok && y.ok)) = true := o
    simp only [Bool.and_eq_true] at o'
    have l' : max x.dep y.dep + 1 ≤ k + 1 := l
    exact (FitsL.cons (fits_str o'.1) (FitsL.cons (St.fits o'.2.1 (by omega)) (FitsL.cons (St.fits o'.2.2 (by omega)) fitsL_nil))).tup
/-! ### the loop of fixed -/
noncomputable def fxC : ShT := tBl (mOp2 fNe (eVar 2) (eLst aNil))
noncomputable def fxT : Ss := sIf (tBl (mOp2 fEq (eVar 2) (eLst aNil))) (sRet (eVar 1)) sNext
noncomputable def fxO : Ss := (sSeq (sDrop (eMth fApp (eVar 2) (aCons (eTup (aCons (eVar 3) (aCons (eLst aNil) aNil))) aNil)))
    (sSeq (sAsg (eC .non) (gNm 1))
    (sSeq (sIf (tBl (mOp2 fGt (mCall fLen (aCons (eVar 3) aNil)) (eC (.int 0))))
    (sSeq (sDrop (eMth fApp (eVar 2) (aCons (eTup (aCons (mOp2 fIx (eVar 3) (eC (.int 0))) (aCons (eC .non) aNil))) aNil)))
    sCnt)
    sNext)
    (sSeq (sDrop (eMth fPop (eVar 2) aNil))
    (sAsg (eTup aNil) (gNm 1))))))
noncomputable def fxN : Ss := (sSeq (sDrop (eMth fApp (eVar 4) (aCons (eVar 1) aNil)))
    (sSeq (sIf (tBl (mOp2 fLt (mCall fLen (aCons (eVar 4) aNil)) (mCall fLen (aCons (eVar 3) aNil))))
    (sSeq (sDrop (eMth fApp (eVar 2) (aCons (eTup (aCons (eVar 3) (aCons (eVar 4) aNil))) aNil)))
    (sSeq (sDrop (eMth fApp (eVar 2) (aCons (eTup (aCons (mOp2 fIx (eVar 3) (mCall fLen (aCons (eVar 4) aNil))) (aCons (eC .non) aNil))) aNil)))
    sCnt))
    sNext)
    (sAsg (mCall fTuple (aCons (eVar 4) aNil)) (gNm 1))))
noncomputable def fxI (n : Nat) : Ss := sIf (Mp.tNot (tBl (eCall (Sn n .is_row) 1 0 [0] [] (aCons (eVar 3) aNil) aNil))) (sAsg (eVar 3) (gNm 1)) (sIf (tBl (mOp2 fIsN (eVar 4) (eC .non))) fxO fxN)
noncomputable def fxB (n : Nat) : Ss := sSeq (sAsg (eMth fPop (eVar 2) aNil) (gTp (gsCons (gNm 3) (gsCons (gNm 4) gsNil)) 2)) (sSeq (fxI n) fxT)
theorem fixed_is (n : Nat) : Wk.B_fixed Hd.pk (Sn n) = sSeq (sPar 1 2 (aCons (eC .non) (aCons (eLst (aCons (eTup (aCons (eVar 0) (aCons (eC .non) aNil))) aNil)) aNil))) (sSeq (sWhile fxC (fxB n)) (sRet (eVar 1))) := rfl
/-- a row of the stack -/
def FrOk (h : Hw) (L : Nat) (x : W) : Prop := ∃ (s : St) (q : W), x = .tup [s.w, q] ∧ s.ok = true ∧ s.dep ≤ 20 ∧ (q = .non ∨ ∃ (P : Nat) (ds : List St), q = .ref P ∧ P ≠ L ∧ h[P]? = some (.lst (ds.map St.w)) ∧ ∀ t ∈ ds, t.ok = true ∧ t.dep ≤ 20)
section
variable {h h' h1 : Hw} {L : Nat} {x : W} {st : List W}
theorem sts_fits : ∀ {ds : List St}, (∀ t ∈ ds, t.ok = true ∧ t.dep ≤ 20) → ∃ es, FitsL h 20 (ds.map St.w) es
  | [], _ => ⟨_, fitsL_nil⟩
  | t :: ds, a => by
    obtain ⟨es, e⟩ := sts_fits (ds := ds) fun u hu => a u (List.mem_cons_of_mem _ hu)
    obtain ⟨o, l⟩ := a t List.mem_cons_self
    exact ⟨_, .cons (St.fits o l) e⟩
theorem FrOk.fits (a : FrOk h L x) : ∃ d, Fits h 22 x d := by
  obtain ⟨s, q, rfl, o, l, rfl | ⟨P, ds, rfl, _, hP, k⟩⟩ := a
  · exact ⟨_, (FitsL.cons (St.fits o (show s.dep ≤ 21 by omega)) (FitsL.cons fits_non fitsL_nil)).tup⟩
  · obtain ⟨es, e⟩ := sts_fits (h := h) k
    exact ⟨_, (FitsL.cons (St.fits o (show s.dep ≤ 21 by omega)) (FitsL.cons (e.ref hP) fitsL_nil)).tup⟩
theorem frs_fits : ∀ {st : List W}, (∀ x ∈ st, FrOk h L x) → ∃ ds, FitsL h 22 st ds
  | [], _ => ⟨_, fitsL_nil⟩
  | x :: st, a => by
    obtain ⟨d, e⟩ := (a x List.mem_cons_self).fits
    obtain ⟨ds, es⟩ := frs_fits (st := st) fun u hu => a u (List.mem_cons_of_mem _ hu)
    exact ⟨_, .cons e es⟩
theorem FrOk.gr (a : FrOk h L x) (g : Gr (fun i => i = L) h h') : FrOk h' L x := by
  obtain ⟨s, q, rfl, o, l, k⟩ := a
  refine ⟨s, q, rfl, o, l, ?_⟩
  rcases k with rfl | ⟨P, ds, rfl, hn, hP, k⟩
  · exact .inl rfl
  · exact .inr ⟨P, ds, rfl, hn, g.at_ hP hn, k⟩
theorem nil_eq (neg : Bool) (hL : h[L]? = some (.lst st)) (F : ∀ x ∈ st, FrOk h L x) : fEqB neg (.ref L) (.ref h.length) (h ++ [.lst []]) = some (.bl (if neg then !st.isEmpty else st.isEmpty), h ++ [.lst []]) := by
  obtain ⟨ds, e⟩ := frs_fits (h := h ++ [.lst []]) (L := L) fun x hx => (F x hx).gr (Gr.app _)
  exact eq_nil neg (app_at hL) new_at e (by omega)
theorem fx_c {ρ : Rho} (hi : ρ[2]? = some (some (.ref L))) (hL : h[L]? = some (.lst st)) (F : ∀ x ∈ st, FrOk h L x) : fxC ρ h = some (.ok (!st.isEmpty), h ++ [.lst []]) := by
  have q := nil_eq true hL F
  have e : eLst aNil ρ h = _ := new_nil rfl (by decide)
  unfold fxC fNe
  simp only [runB, sSeq, sIf, sb, sRet, sDrop, sAsg, sNext, sCnt, sPar, tBl, Mp.tOr, Mp.tAnd, Mp.tNot, tTru, asTru, truW, mOp2, mOp1, mCall, M.bind, M.ret, asBl, up, eVar, eC, eTup, eLst, aCons, aNil, eIf, eAnd, eOr, eNot, eChain, gNm, gTp, gsCons, gsNil, List.set, List.map_cons, List.map_nil, List.length_cons, List.length_nil, List.replicate, List.cons_append, List.nil_append, List.getElem?_cons_zero, List.getElem?_cons_succ, if_true, if_false, reduceIte, Bool.not_true, Bool.not_false, Bool.false_eq_true, Option.map, Nat.reduceAdd, Nat.reduceSub, Nat.reduceLeDiff, sz1, sz2, sz3, sz4, sz5, sz6, sz12, sz0, List.append_nil, eCall, pickL, List.filterMap_cons, List.filterMap_nil, eMth, isLst, lstW, atL, fApp, fPop, eExtL, Option.isSome, and_self, true_and, and_true, hi, e, q]
theorem fx_t {ρ : Rho} {w : W} (hi : ρ[2]? = some (some (.ref L))) (hw : ρ[1]? = some (some w)) (hL : h[L]? = some (.lst st)) (F : ∀ x ∈ st, FrOk h L x) : fxT ρ h = some (if st.isEmpty then .rt w else .nx ρ, h ++ [.lst []]) := by
  have q := nil_eq false hL F
  have e : eLst aNil ρ h = _ := new_nil rfl (by decide)
  unfold fxT fEq
  cases st with
  | nil => simp only [runB, sSeq, sIf, sb, sRet, sDrop, sAsg, sNext, sCnt, sPar, tBl, Mp.tOr, Mp.tAnd, Mp.tNot, tTru, asTru, truW, mOp2, mOp1, mCall, M.bind, M.ret, asBl, up, eVar, eC, eTup, eLst, aCons, aNil, eIf, eAnd, eOr, eNot, eChain, gNm, gTp, gsCons, gsNil, List.set, List.map_cons, List.map_nil, List.length_cons, List.length_nil, List.replicate, List.cons_append, List.nil_append, List.getElem?_cons_zero, List.getElem?_cons_succ, if_true, if_false, reduceIte, Bool.not_true, Bool.not_false, Bool.false_eq_true, Option.map, Nat.reduceAdd, Nat.reduceSub, Nat.reduceLeDiff, sz1, sz2, sz3, sz4, sz5, sz6, sz12, sz0, List.append_nil, eCall, pickL, List.filterMap_cons, List.filterMap_nil, eMth, isLst, lstW, atL, fApp, fPop, eExtL, Option.isSome, and_self, true_and, and_true, hi, hw, e, q, List.isEmpty]
  | cons a l => simp only [runB, sSeq, sIf, sb, sRet, sDrop, sAsg, sNext, sCnt, sPar, tBl, Mp.tOr, Mp.tAnd, Mp.tNot, tTru, asTru, truW, mOp2, mOp1, mCall, M.bind, M.ret, asBl, up, eVar, eC, eTup, eLst, aCons, aNil, eIf, eAnd, eOr, eNot, eChain, gNm, gTp, gsCons, gsNil, List.set, List.map_cons, List.map_nil, List.length_cons, List.length_nil, List.replicate, List.cons_append, List.nil_append, List.getElem?_cons_zero, List.getElem?_cons_succ, if_true, if_false, reduceIte, Bool.not_true, Bool.not_false, Bool.false_eq_true, Option.map, Nat.reduceAdd, Nat.reduceSub, Nat.reduceLeDiff, sz1, sz2, sz3, sz4, sz5, sz6, sz12, sz0, List.append_nil, eCall, pickL, List.filterMap_cons, List.filterMap_nil, eMth, isLst, lstW, atL, fApp, fPop, eExtL, Option.isSome, and_self, true_and, and_true, hi, hw, e, q, List.isEmpty]
end
def fxR (v0 d : W) (L : Nat) (o3 o4 : Option W) : Rho := [some v0, some d, some (.ref L), o3, o4]
section
variable {h : Hw} {L P : Nat} {st : List W} {v0 d : W} {o3 o4 : Option W} {n : Nat} {s : Str}
abbrev stL (h : Hw) (L : Nat) (l : List W) : Hw := List.set h L (MO.lst l)
abbrev nwL (h : Hw) (l : List W) : Hw := h ++ [MO.lst l]
theorem fx_pop {x y : W} (hL : h[L]? = some (.lst (st ++ [.tup [x, y]]))) : sAsg (eMth fPop (eVar 2) aNil) (gTp (gsCons (gNm 3) (gsCons (gNm 4) gsNil)) 2) (fxR v0 d L o3 o4) h = some (.nx (fxR v0 d L (some x) (some y)), stL h L st) := pop_row rfl hL
theorem fx_row (n : Nat) (w : W) (hp : plainW w = true) : (Mp.tNot (tBl (eCall (Sn (n + 1) .is_row) 1 0 [0] [] (aCons (eVar 3) aNil) aNil))) (fxR v0 d L (some w) o4) h = some (.ok (!rowT w), h) := by
  have e := ev_is_row n w h hp
  simp only [runB, sSeq, sIf, sb, sRet, sDrop, sAsg, sNext, sCnt, sPar, tBl, Mp.tOr, Mp.tAnd, Mp.tNot, tTru, asTru, truW, mOp2, mOp1, mCall, M.bind, M.ret, asBl, up, eVar, eC, eTup, eLst, aCons, aNil, eIf, eAnd, eOr, eNot, eChain, gNm, gTp, gsCons, gsNil, List.set, List.map_cons, List.map_nil, List.length_cons, List.length_nil, List.replicate, List.cons_append, List.nil_append, List.getElem?_cons_zero, List.getElem?_cons_succ, if_true, if_false, reduceIte, Bool.not_true, Bool.not_false, Bool.false_eq_true, Option.map, Nat.reduceAdd, Nat.reduceSub, Nat.reduceLeDiff, sz1, sz2, sz3, sz4, sz5, sz6, sz12, sz0, List.append_nil, eCall, pickL, List.filterMap_cons, List.filterMap_nil, eMth, isLst, lstW, atL, fApp, fPop, eExtL, Option.isSome, and_self, true_and, and_true, e, fxR]
theorem fx_leaf (hL : h[L]? = some (.lst (st ++ [.tup [.str s, .non]]))) (F : ∀ x ∈ st, FrOk h L x) : fxB (n + 1) (fxR v0 d L o3 o4) h = some (if st.isEmpty then .rt (.str s) else .nx (fxR v0 (.str s) L (some (.str s)) (some .non)), nwL (stL h L st) []) := by
  have hL1 : (stL h L st)[L]? = some (.lst st) := set_at hL
  have F1 : ∀ x ∈ st, FrOk (stL h L st) L x := fun x hx => (F x hx).gr (Gr.set (.inl rfl))
  unfold fxB
  rw [seq_nx (fx_pop hL)]
  have e1 : fxI (n + 1) (fxR v0 d L (some (.str s)) (some .non)) (stL h L st) = some (.nx (fxR v0 (.str s) L (some (.str s)) (some .non)), stL h L st) := by
    unfold fxI
    rw [if_t (fx_row n _ rfl)]
    rfl
  rw [seq_nx e1]
  exact fx_t rfl rfl hL1 F1
theorem fx_open {w0 : W} {ws : List W} (hL : h[L]? = some (.lst (st ++ [.tup [.tup (w0 :: ws), .non]]))) (hs : st.length < 1000) :
    fxB (n + 1) (fxR v0 d L o3 o4) h = some (.ct (fxR v0 .non L (some (.tup (w0 :: ws))) (some .non)), stL (stL (nwL (stL h L st) []) L (st ++ [.tup [.tup (w0 :: ws), .ref h.length]])) L ((st ++ [.tup [.tup (w0 :: ws), .ref h.length]]) ++ [.tup [w0, .non]])) := by
  have hL1 : (stL h L st)[L]? = some (.lst st) := set_at hL
  have hl : (stL h L st).length = h.length := List.length_set
  unfold fxB
  rw [seq_nx (fx_pop hL)]
  refine seq_ct ?_
  unfold fxI
  rw [if_f (fx_row n _ rfl)]
  rw [if_t (show (tBl (mOp2 fIsN (eVar 4) (eC .non))) (fxR v0 d L (some (.tup (w0 :: ws))) (some .non)) _ = some (.ok true, stL h L st) from rfl)]
  unfold fxO
  have e1 : eTup (aCons (eVar 3) (aCons (eLst aNil) aNil)) (fxR v0 d L (some (.tup (w0 :: ws))) (some .non)) (stL h L st) = some (.ok (.tup [.tup (w0 :: ws), .ref h.length]), nwL (stL h L st) []) := by
    rw [← hl]
    have e := new_nil (es := aNil) (ρ := fxR v0 d L (some (.tup (w0 :: ws))) (some .non)) (h := stL h L st) rfl (by decide)
    simp only [runB, sSeq, sIf, sb, sRet, sDrop, sAsg, sNext, sCnt, sPar, tBl, Mp.tOr, Mp.tAnd, Mp.tNot, tTru, asTru, truW, mOp2, mOp1, mCall, M.bind, M.ret, asBl, up, eVar, eC, eTup, eLst, aCons, aNil, eIf, eAnd, eOr, eNot, eChain, gNm, gTp, gsCons, gsNil, List.set, List.map_cons, List.map_nil, List.length_cons, List.length_nil, List.replicate, List.cons_append, List.nil_append, List.getElem?_cons_zero, List.getElem?_cons_succ, if_true, if_false, reduceIte, Bool.not_true, Bool.not_false, Bool.false_eq_true, Option.map, Nat.reduceAdd, Nat.reduceSub, Nat.reduceLeDiff, sz1, sz2, sz3, sz4, sz5, sz6, sz12, sz0, List.append_nil, eCall, pickL, List.filterMap_cons, List.filterMap_nil, eMth, isLst, lstW, atL, fApp, fPop, eExtL, Option.isSome, and_self, true_and, and_true, fxR, e]
  rw [seq_nx (drop_app (i := 2) rfl hL1 e1 (app_at hL1) (by omega))]
  have e2 : sAsg (eC .non) (gNm 1) (fxR v0 d L (some (.tup (w0 :: ws))) (some .non)) (stL (nwL (stL h L st) []) L (st ++ [.tup [.tup (w0 :: ws), .ref h.length]])) = some (.nx (fxR v0 .non L (some (.tup (w0 :: ws))) (some .non)), stL (nwL (stL h L st) []) L (st ++ [.tup [.tup (w0 :: ws), .ref h.length]])) := rfl
  rw [seq_nx e2]
  refine seq_ct ?_
  have e3 : (tBl (mOp2 fGt (mCall fLen (aCons (eVar 3) aNil)) (eC (.int 0)))) (fxR v0 .non L (some (.tup (w0 :: ws))) (some .non)) (stL (nwL (stL h L st) []) L (st ++ [.tup [.tup (w0 :: ws), .ref h.length]])) = some (.ok true, stL (nwL (stL h L st) []) L (st ++ [.tup [.tup (w0 :: ws), .ref h.length]])) := by
    unfold fGt fI
    have z : decide ((0 : Int) < ((ws.length + 1 : Nat) : Int)) = true := decide_eq_true (by omega)
    simp only [runB, sSeq, sIf, sb, sRet, sDrop, sAsg, sNext, sCnt, sPar, tBl, Mp.tOr, Mp.tAnd, Mp.tNot, tTru, asTru, truW, mOp2, mOp1, mCall, M.bind, M.ret, asBl, up, eVar, eC, eTup, eLst, aCons, aNil, eIf, eAnd, eOr, eNot, eChain, gNm, gTp, gsCons, gsNil, List.set, List.map_cons, List.map_nil, List.length_cons, List.length_nil, List.replicate, List.cons_append, List.nil_append, List.getElem?_cons_zero, List.getElem?_cons_succ, if_true, if_false, reduceIte, Bool.not_true, Bool.not_false, Bool.false_eq_true, Option.map, Nat.reduceAdd, Nat.reduceSub, Nat.reduceLeDiff, sz1, sz2, sz3, sz4, sz5, sz6, sz12, sz0, List.append_nil, eCall, pickL, List.filterMap_cons, List.filterMap_nil, eMth, isLst, lstW, atL, fApp, fPop, eExtL, Option.isSome, and_self, true_and, and_true, fxR, fLen, seqW, z]
  rw [if_t e3]
  have hL2 : (stL (nwL (stL h L st) []) L (st ++ [.tup [.tup (w0 :: ws), .ref h.length]]))[L]? = some (.lst (st ++ [.tup [.tup (w0 :: ws), .ref h.length]])) := set_at (app_at hL1)
  have e4 : eTup (aCons (mOp2 fIx (eVar 3) (eC (.int 0))) (aCons (eC .non) aNil)) (fxR v0 .non L (some (.tup (w0 :: ws))) (some .non)) (stL (nwL (stL h L st) []) L (st ++ [.tup [.tup (w0 :: ws), .ref h.length]])) = some (.ok (.tup [w0, .non]), stL (nwL (stL h L st) []) L (st ++ [.tup [.tup (w0 :: ws), .ref h.length]])) := by
    have z : atI (w0 :: ws) 0 = some w0 := by
      unfold atI ixN
      simp
    simp only [runB, sSeq, sIf, sb, sRet, sDrop, sAsg, sNext, sCnt, sPar, tBl, Mp.tOr, Mp.tAnd, Mp.tNot, tTru, asTru, truW, mOp2, mOp1, mCall, M.bind, M.ret, asBl, up, eVar, eC, eTup, eLst, aCons, aNil, eIf, eAnd, eOr, eNot, eChain, gNm, gTp, gsCons, gsNil, List.set, List.map_cons, List.map_nil, List.length_cons, List.length_nil, List.replicate, List.cons_append, List.nil_append, List.getElem?_cons_zero, List.getElem?_cons_succ, if_true, if_false, reduceIte, Bool.not_true, Bool.not_false, Bool.false_eq_true, Option.map, Nat.reduceAdd, Nat.reduceSub, Nat.reduceLeDiff, sz1, sz2, sz3, sz4, sz5, sz6, sz12, sz0, List.append_nil, eCall, pickL, List.filterMap_cons, List.filterMap_nil, eMth, isLst, lstW, atL, fApp, fPop, eExtL, Option.isSome, and_self, true_and, and_true, fxR, fIx, seqW, z]
  rw [seq_nx (drop_app (i := 2) rfl hL2 e4 hL2 (by simp; omega))]
  rfl
end
end Pl

set_option Elab.async false
set_option linter.all false
set_option autoImplicit false
set_option maxRecDepth 100000
set_option maxHeartbeats 4000000
/-! Pd: fixed, on. -/
namespace Pl
open PySem PySem.Spec PyProof.Rows L2 Mp
open En
theorem atI_nat {α : Type} {l : List α} {i : Nat} {w : α} (e : l[i]? = some w) : atI l (i : Int) = some w := by
  have hi : i < l.length := (List.getElem?_eq_some_iff.mp e).1
  unfold atI ixN
  rw [if_pos (by omega), if_pos (by omega)]
  simpa using e
section
variable {h : Hw} {L P : Nat} {st ds one : List W} {v0 d w1 : W} {o3 o4 : Option W} {n : Nat}
abbrev LP (L P : Nat) : Nat → Prop := fun i => i = L ∨ i = P
theorem fx_next (hL : h[L]? = some (.lst (st ++ [.tup [.tup one, .ref P]]))) (hP : h[P]? = some (.lst ds)) (hn : P ≠ L) (hw : one[ds.length + 1]? = some w1) (hs : st.length < 1000) (hd : ds.length < 1000) :
    ∃ h', fxB (n + 1) (fxR v0 d L o3 o4) h = some (.ct (fxR v0 d L (some (.tup one)) (some (.ref P))), h') ∧ Gr (LP L P) h h' ∧ h'[L]? = some (.lst ((st ++ [.tup [.tup one, .ref P]]) ++ [.tup [w1, .non]])) ∧ h'[P]? = some (.lst (ds ++ [d])) := by
  have hP1 : (stL h L st)[P]? = some (.lst ds) := (List.getElem?_set_ne (Ne.symm hn)).trans hP
  have hL1 : (stL h L st)[L]? = some (.lst st) := set_at hL
  have hP2 : (stL (stL h L st) P (ds ++ [d]))[P]? = some (.lst (ds ++ [d])) := set_at hP1
  have hL2 : (stL (stL h L st) P (ds ++ [d]))[L]? = some (.lst st) := (List.getElem?_set_ne hn).trans hL1
  have hL3 : (stL (stL (stL h L st) P (ds ++ [d])) L (st ++ [.tup [.tup one, .ref P]]))[L]? = some (.lst (st ++ [.tup [.tup one, .ref P]])) := set_at hL2
  have hP3 : (stL (stL (stL h L st) P (ds ++ [d])) L (st ++ [.tup [.tup one, .ref P]]))[P]? = some (.lst (ds ++ [d])) := (List.getElem?_set_ne (Ne.symm hn)).trans hP2
  refine ⟨stL (stL (stL (stL h L st) P (ds ++ [d])) L (st ++ [.tup [.tup one, .ref P]])) L ((st ++ [.tup [.tup one, .ref P]]) ++ [.tup [w1, .non]]), ?_, ?_, set_at hL3, (List.getElem?_set_ne (Ne.symm hn)).trans hP3⟩
  · unfold fxB
    rw [seq_nx (fx_pop hL)]
    refine seq_ct ?_
    unfold fxI
    rw [if_f (fx_row n _ rfl)]
    rw [if_f (show (tBl (mOp2 fIsN (eVar 4) (eC .non))) (fxR v0 d L (some (.tup one)) (some (.ref P))) _ = some (.ok false, stL h L st) from rfl)]
    unfold fxN
    rw [seq_nx (drop_app (i := 4) rfl hP1 (show eVar 1 _ _ = some (.ok d, stL h L st) from rfl) hP1 (by omega))]
    refine seq_ct ?_
    have z : decide (((ds ++ [d]).length : Int) < (one.length : Int)) = true := by
      have := (List.getElem?_eq_some_iff.mp hw).1
      exact decide_eq_true (by rw [List.length_append]; simp; omega)
    have e3 : (tBl (mOp2 fLt (mCall fLen (aCons (eVar 4) aNil)) (mCall fLen (aCons (eVar 3) aNil)))) (fxR v0 d L (some (.tup one)) (some (.ref P))) (stL (stL h L st) P (ds ++ [d])) = some (.ok true, stL (stL h L st) P (ds ++ [d])) := by
      unfold fLt fI
      simp only [runB, sSeq, sIf, sb, sRet, sDrop, sAsg, sNext, sCnt, sPar, tBl, Mp.tOr, Mp.tAnd, Mp.tNot, tTru, asTru, truW, mOp2, mOp1, mCall, M.bind, M.ret, asBl, up, eVar, eC, eTup, eLst, aCons, aNil, eIf, eAnd, eOr, eNot, eChain, gNm, gTp, gsCons, gsNil, List.set, List.map_cons, List.map_nil, List.length_cons, List.length_nil, List.replicate, List.cons_append, List.nil_append, List.getElem?_cons_zero, List.getElem?_cons_succ, if_true, if_false, reduceIte, Bool.not_true, Bool.not_false, Bool.false_eq_true, Option.map, Nat.reduceAdd, Nat.reduceSub, Nat.reduceLeDiff, sz1, sz2, sz3, sz4, sz5, sz6, sz12, sz0, List.append_nil, eCall, pickL, List.filterMap_cons, List.filterMap_nil, eMth, isLst, lstW, atL, fApp, fPop, eExtL, Option.isSome, and_self, true_and, and_true, fxR, fLen, seqW, hP2, z]
    rw [if_t e3]
    rw [seq_nx (drop_app (i := 2) rfl hL2 (show eTup (aCons (eVar 3) (aCons (eVar 4) aNil)) (fxR v0 d L (some (.tup one)) (some (.ref P))) (stL (stL h L st) P (ds ++ [d])) = some (.ok (.tup [.tup one, .ref P]), stL (stL h L st) P (ds ++ [d])) by simp only [runB, sSeq, sIf, sb, sRet, sDrop, sAsg, sNext, sCnt, sPar, tBl, Mp.tOr, Mp.tAnd, Mp.tNot, tTru, asTru, truW, mOp2, mOp1, mCall, M.bind, M.ret, asBl, up, eVar, eC, eTup, eLst, aCons, aNil, eIf, eAnd, eOr, eNot, eChain, gNm, gTp, gsCons, gsNil, List.set, List.map_cons, List.map_nil, List.length_cons, List.length_nil, List.replicate, List.cons_append, List.nil_append, List.getElem?_cons_zero, List.getElem?_cons_succ, if_true, if_false, reduceIte, Bool.not_true, Bool.not_false, Bool.false_eq_true, Option.map, Nat.reduceAdd, Nat.reduceSub, Nat.reduceLeDiff, sz1, sz2, sz3, sz4, sz5, sz6, sz12, sz0, List.append_nil, eCall, pickL, List.filterMap_cons, List.filterMap_nil, eMth, isLst, lstW, atL, fApp, fPop, eExtL, Option.isSome, and_self, true_and, and_true, fxR]) hL2 (by omega))]
    have z2 : atI one (((ds ++ [d]).length : Nat) : Int) = some w1 := atI_nat (by rw [List.length_append]; exact hw)
    have e4 : eTup (aCons (mOp2 fIx (eVar 3) (mCall fLen (aCons (eVar 4) aNil))) (aCons (eC .non) aNil)) (fxR v0 d L (some (.tup one)) (some (.ref P))) (stL (stL (stL h L st) P (ds ++ [d])) L (st ++ [.tup [.tup one, .ref P]])) = some (.ok (.tup [w1, .non]), stL (stL (stL h L st) P (ds ++ [d])) L (st ++ [.tup [.tup one, .ref P]])) := by
      simp only [runB, sSeq, sIf, sb, sRet, sDrop, sAsg, sNext, sCnt, sPar, tBl, Mp.tOr, Mp.tAnd, Mp.tNot, tTru, asTru, truW, mOp2, mOp1, mCall, M.bind, M.ret, asBl, up, eVar, eC, eTup, eLst, aCons, aNil, eIf, eAnd, eOr, eNot, eChain, gNm, gTp, gsCons, gsNil, List.set, List.map_cons, List.map_nil, List.length_cons, List.length_nil, List.replicate, List.cons_append, List.nil_append, List.getElem?_cons_zero, List.getElem?_cons_succ, if_true, if_false, reduceIte, Bool.not_true, Bool.not_false, Bool.false_eq_true, Option.map, Nat.reduceAdd, Nat.reduceSub, Nat.reduceLeDiff, sz1, sz2, sz3, sz4, sz5, sz6, sz12, sz0, List.append_nil, eCall, pickL, List.filterMap_cons, List.filterMap_nil, eMth, isLst, lstW, atL, fApp, fPop, eExtL, Option.isSome, and_self, true_and, and_true, fxR, fIx, fLen, seqW, hP3, z2]
    rw [seq_nx (drop_app (i := 2) rfl hL3 e4 hL3 (by simp; omega))]
    rfl
  · exact (Gr.set (.inl (.inl rfl))).trans ((Gr.set (.inl (.inr rfl))).trans ((Gr.set (.inl (.inl rfl))).trans (Gr.set (.inl (.inl rfl)))))
theorem fx_close (hL : h[L]? = some (.lst (st ++ [.tup [.tup one, .ref P]]))) (hP : h[P]? = some (.lst ds)) (hn : P ≠ L) (ho : one.length = ds.length + 1) (hd : ds.length < 1000) (F : ∀ g, Gr (LP L P) h g → ∀ x ∈ st, FrOk g L x) :
    ∃ h', fxB (n + 1) (fxR v0 d L o3 o4) h = some (if st.isEmpty then .rt (.tup (ds ++ [d])) else .nx (fxR v0 (.tup (ds ++ [d])) L (some (.tup one)) (some (.ref P))), h') ∧ Gr (LP L P) h h' ∧ h'[L]? = some (.lst st) := by
  have hP1 : (stL h L st)[P]? = some (.lst ds) := (List.getElem?_set_ne (Ne.symm hn)).trans hP
  have hL1 : (stL h L st)[L]? = some (.lst st) := set_at hL
  have hP2 : (stL (stL h L st) P (ds ++ [d]))[P]? = some (.lst (ds ++ [d])) := set_at hP1
  have hL2 : (stL (stL h L st) P (ds ++ [d]))[L]? = some (.lst st) := (List.getElem?_set_ne hn).trans hL1
  have g2 : Gr (LP L P) h (stL (stL h L st) P (ds ++ [d])) := (Gr.set (.inl (.inl rfl))).trans (Gr.set (.inl (.inr rfl)))
  refine ⟨nwL (stL (stL h L st) P (ds ++ [d])) [], ?_, g2.trans (Gr.app _), app_at hL2⟩
  unfold fxB
  rw [seq_nx (fx_pop hL)]
  have e : fxI (n + 1) (fxR v0 d L (some (.tup one)) (some (.ref P))) (stL h L st) = some (.nx (fxR v0 (.tup (ds ++ [d])) L (some (.tup one)) (some (.ref P))), stL (stL h L st) P (ds ++ [d])) := by
    unfold fxI
    rw [if_f (fx_row n _ rfl)]
    rw [if_f (show (tBl (mOp2 fIsN (eVar 4) (eC .non))) (fxR v0 d L (some (.tup one)) (some (.ref P))) _ = some (.ok false, stL h L st) from rfl)]
    unfold fxN
    rw [seq_nx (drop_app (i := 4) rfl hP1 (show eVar 1 _ _ = some (.ok d, stL h L st) from rfl) hP1 (by omega))]
    have z : decide (((ds ++ [d]).length : Int) < (one.length : Int)) = false := decide_eq_false (by rw [List.length_append, ho]; simp)
    have e3 : (tBl (mOp2 fLt (mCall fLen (aCons (eVar 4) aNil)) (mCall fLen (aCons (eVar 3) aNil)))) (fxR v0 d L (some (.tup one)) (some (.ref P))) (stL (stL h L st) P (ds ++ [d])) = some (.ok false, stL (stL h L st) P (ds ++ [d])) := by
      unfold fLt fI
      simp only [runB, sSeq, sIf, sb, sRet, sDrop, sAsg, sNext, sCnt, sPar, tBl, Mp.tOr, Mp.tAnd, Mp.tNot, tTru, asTru, truW, mOp2, mOp1, mCall, M.bind, M.ret, asBl, up, eVar, eC, eTup, eLst, aCons, aNil, eIf, eAnd, eOr, eNot, eChain, gNm, gTp, gsCons, gsNil, List.set, List.map_cons, List.map_nil, List.length_cons, List.length_nil, List.replicate, List.cons_append, List.nil_append, List.getElem?_cons_zero, List.getElem?_cons_succ, if_true, if_false, reduceIte, Bool.not_true, Bool.not_false, Bool.false_eq_true, Option.map, Nat.reduceAdd, Nat.reduceSub, Nat.reduceLeDiff, sz1, sz2, sz3, sz4, sz5, sz6, sz12, sz0, List.append_nil, eCall, pickL, List.filterMap_cons, List.filterMap_nil, eMth, isLst, lstW, atL, fApp, fPop, eExtL, Option.isSome, and_self, true_and, and_true, fxR, fLen, seqW, hP2, z]
    rw [seq_nx (if_f e3)]
    simp only [runB, sSeq, sIf, sb, sRet, sDrop, sAsg, sNext, sCnt, sPar, tBl, Mp.tOr, Mp.tAnd, Mp.tNot, tTru, asTru, truW, mOp2, mOp1, mCall, M.bind, M.ret, asBl, up, eVar, eC, eTup, eLst, aCons, aNil, eIf, eAnd, eOr, eNot, eChain, gNm, gTp, gsCons, gsNil, List.set, List.map_cons, List.map_nil, List.length_cons, List.length_nil, List.replicate, List.cons_append, List.nil_append, List.getElem?_cons_zero, List.getElem?_cons_succ, if_true, if_false, reduceIte, Bool.not_true, Bool.not_false, Bool.false_eq_true, Option.map, Nat.reduceAdd, Nat.reduceSub, Nat.reduceLeDiff, sz1, sz2, sz3, sz4, sz5, sz6, sz12, sz0, List.append_nil, eCall, pickL, List.filterMap_cons, List.filterMap_nil, eMth, isLst, lstW, atL, fApp, fPop, eExtL, Option.isSome, and_self, true_and, and_true, fxR, fTuple, seqW, hP2]
  rw [seq_nx e]
  exact fx_t rfl rfl hL2 (F _ g2)
end
end Pl

set_option Elab.async false
set_option linter.all false
set_option autoImplicit false
set_option maxRecDepth 100000
set_option maxHeartbeats 4000000
/-! Pe: fixed, done. -/
namespace Pl
open PySem PySem.Spec PyProof.Rows L2 Mp
open En
/-- from a value on top of the stack to the value done -/
def FixP (n : Nat) (s : St) : Prop := ∀ (h : Hw) (L : Nat) (st : List W) (v0 d : W) (o3 o4 : Option W), h[L]? = some (.lst (st ++ [.tup [s.w, .non]])) → (∀ x ∈ st, FrOk h L x) → st.length + s.dep < 900 →
  ∃ h' o3' o4', Gr (fun i => i = L) h h' ∧ h'[L]? = some (.lst st) ∧ ∀ r, (if st.isEmpty = true then r = (.rt s.w, h') else Runs fxC (fxB (n + 1)) (fxR v0 s.w L o3' o4') h' r) → Runs fxC (fxB (n + 1)) (fxR v0 d L o3 o4) h r
section
variable {h : Hw} {L P : Nat} {st : List W} {v0 d : W} {o3 o4 : Option W} {n : Nat} {s c t : St} {ds : List St} {one : List W}
theorem gsL {g : Hw} {i : Nat} {o : MO} : Gr (fun j => j = i) g (List.set g i o) := Gr.set (.inl rfl)
theorem fx_c1 (hL : h[L]? = some (.lst (st ++ [.tup [s.w, d]]))) (F : ∀ x ∈ st ++ [.tup [s.w, d]], FrOk h L x) {v1 : W} : fxC (fxR v0 v1 L o3 o4) h = some (.ok true, nwL h []) := by
  have e := fx_c (ρ := fxR v0 v1 L o3 o4) rfl hL F
  have z : (st ++ [W.tup [s.w, d]]).isEmpty = false := by cases st <;> rfl
  rw [e, z]
  rfl
theorem fr_app {x : W} (F : ∀ x ∈ st, FrOk h L x) (a : FrOk h L x) : ∀ y ∈ st ++ [x], FrOk h L y := fun y hy => by
  rcases List.mem_append.mp hy with q | q
  · exact F y q
  · rw [List.mem_singleton.mp q]; exact a
theorem fixP_leaf (x : Str) (ho : (St.leaf x).ok = true) : FixP n (.leaf x) := fun h L st v0 d o3 o4 hL F hs => by
  have F1 : ∀ y ∈ st ++ [.tup [(St.leaf x).w, .non]], FrOk h L y := fr_app F ⟨.leaf x, .non, rfl, ho, by show 0 ≤ 20; omega, .inl rfl⟩
  have hc := fx_c1 (v0 := v0) (o3 := o3) (o4 := o4) (v1 := d) hL F1
  have hL1 : (nwL h [])[L]? = some (.lst (st ++ [.tup [.str x, .non]])) := app_at hL
  have hb := fx_leaf (n := n) (v0 := v0) (d := d) (o3 := o3) (o4 := o4) hL1 fun y hy => (F y hy).gr (Gr.app _)
  refine ⟨nwL (stL (nwL h []) L st) [], some (.str x), some .non, ((Gr.app _).trans (gsL.trans (Gr.app _))), app_at (set_at hL1), fun r q => ?_⟩
  by_cases z : st.isEmpty = true
  · rw [if_pos z] at q hb
    rw [q]
    exact .rt hc hb
  · rw [if_neg z] at q hb
    exact .go hc hb q
/-- one value of a row after another -/
theorem fx_child (IH : FixP n c) (hs : s.w = .tup one) (so : s.ok = true) (sd : s.dep ≤ 20) (hL : h[L]? = some (.lst (st ++ [.tup [s.w, .ref P]]))) (hP : h[P]? = some (.lst (ds.map St.w))) (hn : P ≠ L) (hone : one[ds.length + 1]? = some c.w) (to : t.ok = true) (td : t.dep ≤ 20) (hds : ∀ u ∈ ds, u.ok = true ∧ u.dep ≤ 20)
    (F : ∀ g, Gr (LP L P) h g → ∀ x ∈ st, FrOk g L x) (hlen : st.length + c.dep < 899) (hd : ds.length < 1000) :
    ∃ h' o3' o4', Gr (LP L P) h h' ∧ h'[L]? = some (.lst (st ++ [.tup [s.w, .ref P]])) ∧ h'[P]? = some (.lst ((ds ++ [t]).map St.w)) ∧ ∀ r, Runs fxC (fxB (n + 1)) (fxR v0 c.w L o3' o4') h' r → Runs fxC (fxB (n + 1)) (fxR v0 t.w L o3 o4) h r := by
  have F1 := fr_app (F h Gr.rfl') ⟨s, .ref P, rfl, so, sd, .inr ⟨P, ds, rfl, hn, hP, hds⟩⟩
  have hc := fx_c1 (v0 := v0) (o3 := o3) (o4 := o4) (v1 := t.w) hL F1
  have hL1 : (nwL h [])[L]? = some (.lst (st ++ [.tup [.tup one, .ref P]])) := by rw [← hs]; exact app_at hL
  obtain ⟨h2, e2, g2, hL2, hP2⟩ := fx_next (n := n) (v0 := v0) (d := t.w) (o3 := o3) (o4 := o4) hL1 (app_at hP) hn (by rw [List.length_map]; exact hone) (by omega) (by rw [List.length_map]; exact hd)
  have g02 : Gr (LP L P) h h2 := (Gr.app _).trans g2
  have hP2' : h2[P]? = some (.lst ((ds ++ [t]).map St.w)) := by rw [List.map_append]; exact hP2
  have F2 := fr_app (F h2 g02) (x := .tup [s.w, .ref P]) ⟨s, .ref P, rfl, so, sd, .inr ⟨P, ds ++ [t], rfl, hn, hP2', fun u hu => by
    rcases List.mem_append.mp hu with q | q
    · exact hds u q
    · rw [List.mem_singleton.mp q]; exact ⟨to, td⟩⟩⟩
  rw [hs] at F2 ⊢
  obtain ⟨h3, p3, p4, g3, hL3, k3⟩ := IH h2 L (st ++ [.tup [.tup one, .ref P]]) v0 t.w (some (.tup one)) (some (.ref P)) hL2 F2 (by simp; omega)
  refine ⟨h3, p3, p4, g02.trans (g3.imp fun i _ q => .inl q), hL3, g3.at_ hP2' hn, fun r q => .ct hc e2 (k3 r ?_)⟩
  have z : (st ++ [W.tup [W.tup one, W.ref P]]).isEmpty = false := by cases st <;> rfl
  rw [z]
  exact q
theorem fixP : ∀ (s : St), s.ok = true → s.dep ≤ 20 → FixP n s
  | .leaf x, ho, _ => fixP_leaf x ho
  | .node a x y, ho, hd => fun h L st v0 d o3 o4 hL F hs => by
    have ho' : (PyData.strOk a && (x.ok && y.ok)) = true := ho
    simp only [Bool.and_eq_true] at ho'
    obtain ⟨oa, ox, oy⟩ := ho'
    have hd' : max x.dep y.dep + 1 ≤ 20 := hd
    have hs' : st.length + (max x.dep y.dep + 1) < 900 := hs
    have dx : x.dep ≤ 20 := by omega
    have dy : y.dep ≤ 20 := by omega
    have IHa : FixP n (.leaf a) := fixP_leaf a oa
    have IHx : FixP n x := fixP x ox dx
    have IHy : FixP n y := fixP y oy dy
    -- opened
    have F1 : ∀ z ∈ st ++ [.tup [(St.node a x y).w, .non]], FrOk h L z := fr_app F ⟨.node a x y, .non, rfl, ho, hd, .inl rfl⟩
    have hc := fx_c1 (v0 := v0) (o3 := o3) (o4 := o4) (v1 := d) hL F1
    have hL1 : (nwL h [])[L]? = some (.lst (st ++ [.tup [.tup [.str a, x.w, y.w], .non]])) := app_at hL
    have hb := fx_open (n := n) (v0 := v0) (d := d) (o3 := o3) (o4 := o4) hL1 (by omega)
    have hPL : (nwL h []).length ≠ L := by
      have := lt_of hL1
      omega
    obtain ⟨P, hPe⟩ : ∃ P, P = (nwL h []).length := ⟨_, rfl⟩
    rw [← hPe] at hb hPL
    obtain ⟨h2, hh2⟩ : ∃ g, g = stL (stL (nwL (stL (nwL h []) L st) []) L (st ++ [.tup [.tup [.str a, x.w, y.w], .ref P]])) L ((st ++ [.tup [.tup [.str a, x.w, y.w], .ref P]]) ++ [.tup [.str a, .non]]) := ⟨_, rfl⟩
    rw [← hh2] at hb
    have hPn : h.length ≤ P := by rw [hPe]; simp
    have g2 : Gr (fun i => i = L) h h2 := by
      rw [hh2]
      exact (Gr.app _).trans (gsL.trans ((Gr.app _).trans (gsL.trans gsL)))
    have hL2 : h2[L]? = some (.lst ((st ++ [.tup [.tup [.str a, x.w, y.w], .ref P]]) ++ [.tup [.str a, .non]])) := by
      rw [hh2]
      exact set_at (set_at (app_at (set_at hL1)))
    have hP2 : h2[P]? = some (.lst (([] : List St).map St.w)) := by
      rw [hh2]
      have q : (nwL (stL (nwL h []) L st) [])[P]? = some (.lst []) := by
        have l : (stL (nwL h []) L st).length = P := by rw [hPe]; exact List.length_set
        rw [← l]
        exact new_at
      exact (List.getElem?_set_ne (Ne.symm hPL)).trans ((List.getElem?_set_ne (Ne.symm hPL)).trans q)
    have frs : ∀ g, Gr (fun i => i = L ∨ h.length ≤ i) h g → ∀ z ∈ st, FrOk g L z := fun g gg z hz => (F z hz).gr ⟨gg.1, fun i hi hne => gg.2 i hi fun q => q.elim hne (fun q => by omega)⟩
    have key : ∀ {g g' : Hw}, Gr (fun i => i = L ∨ h.length ≤ i) h g → Gr (LP L P) g g' → Gr (fun i => i = L ∨ h.length ≤ i) h g' := fun u v => u.trans (v.imp fun i _ q => q.elim .inl fun q => .inr (by rw [q]; exact hPn))
    have G2 : Gr (fun i => i = L ∨ h.length ≤ i) h h2 := g2.imp fun i _ q => .inl q
    have nb : ∀ (l : List W) (u : W), (l ++ [u]).isEmpty = false := fun l u => by cases l <;> rfl
    -- the word
    have F2 := fr_app (frs h2 G2) (x := .tup [.tup [.str a, x.w, y.w], .ref P]) ⟨.node a x y, .ref P, rfl, ho, hd, .inr ⟨P, [], rfl, hPL, hP2, fun u hu => nomatch hu⟩⟩
    obtain ⟨h3, q3, q4, g3, hL3, k3⟩ := IHa h2 L _ v0 .non (some (.tup [.str a, x.w, y.w])) (some .non) hL2 F2 (by show (st ++ [_]).length + 0 < 900; simp; omega)
    have G3 := key G2 (g3.imp fun i _ q => Or.inl q)
    have hP3 := g3.at_ hP2 hPL
    -- the first, the second
    obtain ⟨h4, r3, r4, g4, hL4, hP4, k4⟩ := fx_child (s := .node a x y) (t := .leaf a) (v0 := v0) (o3 := q3) (o4 := q4) IHx rfl ho hd hL3 hP3 hPL rfl oa (by show 0 ≤ 20; omega) (fun u hu => nomatch hu) (fun g gg => frs g (key G3 gg)) (by omega) (by show 0 < 1000; omega)
    have G4 := key G3 g4
    obtain ⟨h5, u3, u4, g5, hL5, hP5, k5⟩ := fx_child (s := .node a x y) (t := x) (v0 := v0) (o3 := r3) (o4 := r4) (ds := [.leaf a]) IHy rfl ho hd hL4 hP4 hPL rfl ox dx (fun u hu => by
      rw [List.mem_singleton.mp hu]; exact ⟨oa, by show 0 ≤ 20; omega⟩) (fun g gg => frs g (key G4 gg)) (by omega) (by show 1 < 1000; omega)
    have G5 := key G4 g5
    -- closed
    have F5 := fr_app (frs h5 G5) (x := .tup [(St.node a x y).w, .ref P]) ⟨.node a x y, .ref P, rfl, ho, hd, .inr ⟨P, [.leaf a, x], rfl, hPL, hP5, fun u hu => by
      rcases List.mem_cons.mp hu with rfl | hu
      · exact ⟨oa, by show 0 ≤ 20; omega⟩
      · rw [List.mem_singleton.mp hu]; exact ⟨ox, dx⟩⟩⟩
    have hc5 := fx_c1 (v0 := v0) (o3 := u3) (o4 := u4) (v1 := y.w) hL5 F5
    obtain ⟨h6, e6, g6, hL6⟩ := fx_close (n := n) (v0 := v0) (d := y.w) (o3 := u3) (o4 := u4) (one := [.str a, x.w, y.w]) (ds := [.str a, x.w]) (app_at hL5) (app_at hP5) hPL rfl (by show 2 < 1000; omega) (fun g gg => frs g (key (key G5 (Gr.app _)) gg))
    have G6 := key (key G5 (Gr.app _)) g6
    refine ⟨h6, some (.tup [.str a, x.w, y.w]), some (.ref P), ⟨G6.1, fun i hi hne => G6.2 i hi fun q => q.elim hne fun q => by omega⟩, hL6, fun r q => .ct hc hb (k3 r ?_)⟩
    rw [nb]
    refine k4 r (k5 r ?_)
    by_cases z : st.isEmpty = true
    · rw [if_pos z] at q e6
      rw [q]
      exact .rt hc5 e6
    · rw [if_neg z] at q e6
      exact .go hc5 e6 q
end
theorem ev_fixed (n : Nat) (s : St) (ho : s.ok = true) (hd : s.dep ≤ 20) (h : Hw) : ∃ h', Gr no h h' ∧ Sn (n + 2) .fixed [s.w] h = some (.ok s.w, h') := by
  obtain ⟨h', o3, o4, g, hL, k⟩ := fixP (n := n) s ho hd (nwL h [.tup [s.w, .non]]) h.length [] s.w .non none none new_at (fun x hx => nomatch hx) (by show 0 + s.dep < 900; omega)
  have q := (k (.rt s.w, h') (by rw [if_pos (show ([] : List W).isEmpty = true from rfl)])).eq
  refine ⟨h', (Gr.app _).back g fun i hi z => by omega, ?_⟩
  show runB Wk.N_fixed.length (Wk.B_fixed Hd.pk (Sn (n + 1))) [s.w] h = _
  rw [fixed_is]
  have e1 : sPar 1 2 (aCons (eC .non) (aCons (eLst (aCons (eTup (aCons (eVar 0) (aCons (eC .non) aNil))) aNil)) aNil)) [some s.w, none, none, none, none] h = some (.nx (fxR s.w .non h.length none none), nwL h [.tup [s.w, .non]]) := by
    simp only [runB, sSeq, sIf, sb, sRet, sDrop, sAsg, sNext, sCnt, sPar, tBl, Mp.tOr, Mp.tAnd, Mp.tNot, tTru, asTru, truW, mOp2, mOp1, mCall, M.bind, M.ret, asBl, up, eVar, eC, eTup, eLst, aCons, aNil, eIf, eAnd, eOr, eNot, eChain, gNm, gTp, gsCons, gsNil, List.set, List.map_cons, List.map_nil, List.length_cons, List.length_nil, List.replicate, List.cons_append, List.nil_append, List.getElem?_cons_zero, List.getElem?_cons_succ, if_true, if_false, reduceIte, Bool.not_true, Bool.not_false, Bool.false_eq_true, Option.map, Nat.reduceAdd, Nat.reduceSub, Nat.reduceLeDiff, sz1, sz2, sz3, sz4, sz5, sz6, sz12, sz0, List.append_nil, eCall, pickL, List.filterMap_cons, List.filterMap_nil, eMth, isLst, lstW, atL, fApp, fPop, eExtL, Option.isSome, and_self, true_and, and_true, fxR]
  unfold runB
  rw [show (List.map some [s.w] ++ List.replicate (Wk.N_fixed.length - [s.w].length) none) = [some s.w, none, none, none, none] from rfl, seq_nx e1, seq_rt q]
end Pl

set_option Elab.async false
set_option linter.all false
set_option autoImplicit false
set_option maxRecDepth 100000
set_option maxHeartbeats 4000000
/-! Pf: names, what a list display by rule tells. -/
namespace Pl
open PySem PySem.Spec PyProof.Rows L2 Mp
open En
section
variable {h : Hw} {i : Nat} {e : Sh} {f : W → W} {l src : List W} {ρ0 : Rho}
theorem lc_its (he : ∀ x ∈ l, e (List.set ρ0 i (some x)) h = some (.ok (f x), h)) : lcL (.its src) (gNm i) tYesM e ρ0 l h = some (.ok (l.map f), h) := by
  induction l with
  | nil =>
    unfold lcL
    exact if_pos True.intro
  | cons x l ih =>
    have q := he x List.mem_cons_self
    have r := ih fun y hy => he y (List.mem_cons_of_mem _ hy)
    unfold lcL
    refine (if_pos True.intro).trans ?_
    simp only [gNm, tYesM, M.bind, M.ret, if_true, q, r, List.map_cons]
end
section
variable {a b : ShT} {e : Sh} {ρ : Rho} {h h1 : Hw} {k : Bool}
theorem or_t (q : a ρ h = some (.ok true, h1)) : Mp.tOr a b ρ h = some (.ok true, h1) := by unfold Mp.tOr M.bind; rw [q]; rfl
theorem or_f (q : a ρ h = some (.ok false, h1)) : Mp.tOr a b ρ h = b ρ h1 := by unfold Mp.tOr M.bind; rw [q]; rfl
theorem and_t (q : a ρ h = some (.ok true, h1)) : Mp.tAnd a b ρ h = b ρ h1 := by unfold Mp.tAnd M.bind; rw [q]; rfl
theorem and_f (q : a ρ h = some (.ok false, h1)) : Mp.tAnd a b ρ h = some (.ok false, h1) := by unfold Mp.tAnd M.bind; rw [q]; rfl
theorem not_b (q : a ρ h = some (.ok k, h1)) : Mp.tNot a ρ h = some (.ok (!k), h1) := by unfold Mp.tNot M.bind; rw [q]; rfl
theorem bl_b (q : e ρ h = some (.ok (.bl k), h1)) : tBl e ρ h = some (.ok k, h1) := by unfold tBl M.bind; rw [q]; rfl
end
/-- isinstance -/
theorem is_of {w : W} {h : Hw} {n : String} {b : Bool} {t : String} (ht : typW w h = some (.bi t)) (hs : subB (.bi t) (.bi n) = some b) : fIs Hd.pk.own Hd.pk.sub [w, .ty n] h = some (.bl b, h) := by
  show (match typW w h, asTy (.ty n) with
    | some t, some tc => if fIsOwn Hd.pk.own t = true then (Hd.pk.sub t tc).map fun b => (W.bl b, h) else none
    | _, _ => none) = _
  rw [ht]
  show (Hd.kn.subT (.bi t) (.bi n)).map _ = _
  rw [show Hd.kn.subT (.bi t) (.bi n) = subB (.bi t) (.bi n) from rfl, hs]
  rfl
def isStr : W → Bool
  | .str _ => true
  | _ => false
theorem is_str {w : W} {h : Hw} (hp : plainW w = true) : fIs Hd.pk.own Hd.pk.sub [w, .ty "str"] h = some (.bl (isStr w), h) := by
  cases w with
  | non => exact is_of (t := "NoneType") rfl (show subB (.bi "NoneType") (.bi "str") = some false by decide)
  | int i => exact is_of (t := "int") rfl (show subB (.bi "int") (.bi "str") = some false by decide)
  | str x => exact is_of (t := "str") rfl (show subB (.bi "str") (.bi "str") = some true by decide)
  | tup l => exact is_of (t := "tuple") rfl (show subB (.bi "tuple") (.bi "str") = some false by decide)
  | _ => cases hp
def letter (c : Nat) : Bool := !(Builtin.Str.occurrences "abcdefghijklmnopqrstuvwxyz" (⟨#[c]⟩ : Str) 0 26 1).isEmpty
abbrev wordsL : List W := [(.str "and"), (.str "or"), (.str "gives"), (.str "yes"), (.str "no"), (.str "fun"), (.str "call"), (.str "pair"), (.str "first"), (.str "second"), (.str "left"), (.str "right"), (.str "case"), (.str "unit"), (.str "never"), (.str "hole")]
def isName (s : Str) : Bool := (decide (1 ≤ s.length) && decide (s.length ≤ 8)) && (!(wordsL.any fun z => eqW z (.str s)) && s.cps.toList.all letter)
theorem bls_map (f : Nat → Bool) : ∀ l : List Nat, blsW (l.map fun c => W.bl (f c)) = some (l.map f)
  | [] => rfl
  | a :: l => by
    have ih := bls_map f l
    show (blsW (l.map fun c => W.bl (f c))).map (f a :: ·) = _
    rw [ih]
    rfl
theorem chain_len (s : Str) (h : Hw) (hl : s.length ≤ 1000) (r : Rho) : eChain fLe fLe (eC (.int 1)) (mCall fLen (aCons (eVar 0) aNil)) (eC (.int 8)) (some (.str s) :: r) h = some (.ok (.bl (decide (1 ≤ s.length) && decide (s.length ≤ 8))), h) := by
  have q : s.length ≤ sizeLine := by rw [sizeLine_eq]; omega
  have z1 : decide ((1 : Int) ≤ (s.length : Int)) = decide (1 ≤ s.length) := decide_eq_decide.mpr (by omega)
  have z2 : decide ((s.length : Int) ≤ 8) = decide (s.length ≤ 8) := decide_eq_decide.mpr (by omega)
  unfold fLe fI
  by_cases c : 1 ≤ s.length
  · simp only [runB, sSeq, sIf, sb, sRet, sDrop, sAsg, sNext, sCnt, sPar, tBl, Mp.tOr, Mp.tAnd, Mp.tNot, tTru, asTru, truW, mOp2, mOp1, mCall, M.bind, M.ret, asBl, up, eVar, eC, eTup, eLst, aCons, aNil, eIf, eAnd, eOr, eNot, eChain, gNm, gTp, gsCons, gsNil, List.set, List.map_cons, List.map_nil, List.length_cons, List.length_nil, List.replicate, List.cons_append, List.nil_append, List.getElem?_cons_zero, List.getElem?_cons_succ, if_true, if_false, reduceIte, Bool.not_true, Bool.not_false, Bool.false_eq_true, Option.map, Nat.reduceAdd, Nat.reduceSub, Nat.reduceLeDiff, sz1, sz2, sz3, sz4, sz5, sz6, sz12, sz0, List.append_nil, eCall, pickL, List.filterMap_cons, List.filterMap_nil, eMth, isLst, lstW, atL, fApp, fPop, eExtL, Option.isSome, and_self, true_and, and_true, fLen, if_pos q, z1, z2, decide_eq_true c, Bool.true_and]
  · simp only [runB, sSeq, sIf, sb, sRet, sDrop, sAsg, sNext, sCnt, sPar, tBl, Mp.tOr, Mp.tAnd, Mp.tNot, tTru, asTru, truW, mOp2, mOp1, mCall, M.bind, M.ret, asBl, up, eVar, eC, eTup, eLst, aCons, aNil, eIf, eAnd, eOr, eNot, eChain, gNm, gTp, gsCons, gsNil, List.set, List.map_cons, List.map_nil, List.length_cons, List.length_nil, List.replicate, List.cons_append, List.nil_append, List.getElem?_cons_zero, List.getElem?_cons_succ, if_true, if_false, reduceIte, Bool.not_true, Bool.not_false, Bool.false_eq_true, Option.map, Nat.reduceAdd, Nat.reduceSub, Nat.reduceLeDiff, sz1, sz2, sz3, sz4, sz5, sz6, sz12, sz0, List.append_nil, eCall, pickL, List.filterMap_cons, List.filterMap_nil, eMth, isLst, lstW, atL, fApp, fPop, eExtL, Option.isSome, and_self, true_and, and_true, fLen, if_pos q, z1, z2, decide_eq_false c, Bool.false_and]
theorem ev_is_name (n : Nat) (s : Str) (h : Hw) (hl : s.length ≤ 1000) : Sn (n + 1) .is_name [.str s] h = some (.ok (.bl (isName s)), h) := by
  show runB Wk.N_is_name.length (Wk.B_is_name Hd.pk (Sn n)) [.str s] h = _
  unfold Wk.B_is_name
  have e0 : ∀ r : Rho, Mp.tNot (tBl (mCall (fIs Hd.pk.own Hd.pk.sub) (aCons (eVar 0) (aCons (eC (.ty "str")) aNil)))) (some (.str s) :: r) h = some (.ok false, h) := fun r => by
    have q := is_str (w := .str s) (h := h) rfl
    simp only [runB, sSeq, sIf, sb, sRet, sDrop, sAsg, sNext, sCnt, sPar, tBl, Mp.tOr, Mp.tAnd, Mp.tNot, tTru, asTru, truW, mOp2, mOp1, mCall, M.bind, M.ret, asBl, up, eVar, eC, eTup, eLst, aCons, aNil, eIf, eAnd, eOr, eNot, eChain, gNm, gTp, gsCons, gsNil, List.set, List.map_cons, List.map_nil, List.length_cons, List.length_nil, List.replicate, List.cons_append, List.nil_append, List.getElem?_cons_zero, List.getElem?_cons_succ, if_true, if_false, reduceIte, Bool.not_true, Bool.not_false, Bool.false_eq_true, Option.map, Nat.reduceAdd, Nat.reduceSub, Nat.reduceLeDiff, sz1, sz2, sz3, sz4, sz5, sz6, sz12, sz0, List.append_nil, eCall, pickL, List.filterMap_cons, List.filterMap_nil, eMth, isLst, lstW, atL, fApp, fPop, eExtL, Option.isSome, and_self, true_and, and_true, q, isStr]
  have e1 := fun r => chain_len s h hl r
  have e2 : ∀ r : Rho, mOp2 fIn (eVar 0) (eC (.tup wordsL)) (some (.str s) :: r) h = some (.ok (.bl (wordsL.any fun z => eqW z (.str s))), h) := fun r => rfl
  have le : s.cps.toList.length = s.length := by unfold Str.length; simp
  have t0 := e0 [none]
  have t1 := not_b (bl_b (e1 [none]))
  have t2 := bl_b (e2 [none])
  unfold runB
  rw [show (List.map some [W.str s] ++ List.replicate (Wk.N_is_name.length - [W.str s].length) none) = [some (.str s), none] from rfl]
  by_cases c1 : (decide (1 ≤ s.length) && decide (s.length ≤ 8)) = true
  · rw [c1] at t1
    by_cases c2 : (wordsL.any fun z => eqW z (.str s)) = true
    · have z : isName s = false := by unfold isName; rw [c2]; simp
      rw [c2] at t2
      rw [z, seq_rt ((if_t ((or_f t0).trans ((or_f t1).trans t2))).trans rfl)]
    · rw [Bool.not_eq_true] at c2
      have z : isName s = s.cps.toList.all letter := by unfold isName; rw [c1, c2]; rfl
      rw [c2] at t2
      rw [seq_nx ((if_f ((or_f t0).trans ((or_f t1).trans t2))).trans rfl)]
      have lc : lcL (.its (signsW s)) (gNm 1) tYesM (mOp2 fIn (eVar 1) (eC (.str "abcdefghijklmnopqrstuvwxyz"))) (wipeR [some (.str s), none] [1]) (signsW s) h = some (.ok ((signsW s).map fun w => match w with
        | .str t => W.bl (!(Builtin.Str.occurrences "abcdefghijklmnopqrstuvwxyz" t 0 26 1).isEmpty)
        | _ => W.non), h) := lc_its fun x hx => by
        unfold signsW at hx
        obtain ⟨c, _, rfl⟩ := List.mem_map.mp hx
        rfl
      have em : ((signsW s).map fun w => match w with
        | .str t => W.bl (!(Builtin.Str.occurrences "abcdefghijklmnopqrstuvwxyz" t 0 26 1).isEmpty)
        | _ => W.non) = s.cps.toList.map fun c => W.bl (letter c) := by
        unfold signsW
        rw [List.map_map]
        rfl
      rw [em] at lc
      have lz : (s.cps.toList.map fun c => W.bl (letter c)).length ≤ sizeLine := by rw [List.length_map, le, sizeLine_eq]; omega
      have es : eFuse cAll (eLcs (srcM srcS (eVar 0)) (gNm 1) tYesM (mOp2 fIn (eVar 1) (eC (.str "abcdefghijklmnopqrstuvwxyz"))) [1]) [some (.str s), none] h = some (.ok (.bl (isName s)), h) := by
        unfold eFuse okOnly eLcs srcM
        simp only [runB, sSeq, sIf, sb, sRet, sDrop, sAsg, sNext, sCnt, sPar, tBl, Mp.tOr, Mp.tAnd, Mp.tNot, tTru, asTru, truW, mOp2, mOp1, mCall, M.bind, M.ret, asBl, up, eVar, eC, eTup, eLst, aCons, aNil, eIf, eAnd, eOr, eNot, eChain, gNm, gTp, gsCons, gsNil, List.set, List.map_cons, List.map_nil, List.length_cons, List.length_nil, List.replicate, List.cons_append, List.nil_append, List.getElem?_cons_zero, List.getElem?_cons_succ, if_true, if_false, reduceIte, Bool.not_true, Bool.not_false, Bool.false_eq_true, Option.map, Nat.reduceAdd, Nat.reduceSub, Nat.reduceLeDiff, sz1, sz2, sz3, sz4, sz5, sz6, sz12, sz0, List.append_nil, eCall, pickL, List.filterMap_cons, List.filterMap_nil, eMth, isLst, lstW, atL, fApp, fPop, eExtL, Option.isSome, and_self, true_and, and_true, srcS, Src.l, lc, if_pos lz, cAll, bls_map letter]
        rw [z]
        simp
      simp only [runB, sSeq, sIf, sb, sRet, sDrop, sAsg, sNext, sCnt, sPar, tBl, Mp.tOr, Mp.tAnd, Mp.tNot, tTru, asTru, truW, mOp2, mOp1, mCall, M.bind, M.ret, asBl, up, eVar, eC, eTup, eLst, aCons, aNil, eIf, eAnd, eOr, eNot, eChain, gNm, gTp, gsCons, gsNil, List.set, List.map_cons, List.map_nil, List.length_cons, List.length_nil, List.replicate, List.cons_append, List.nil_append, List.getElem?_cons_zero, List.getElem?_cons_succ, if_true, if_false, reduceIte, Bool.not_true, Bool.not_false, Bool.false_eq_true, Option.map, Nat.reduceAdd, Nat.reduceSub, Nat.reduceLeDiff, sz1, sz2, sz3, sz4, sz5, sz6, sz12, sz0, List.append_nil, eCall, pickL, List.filterMap_cons, List.filterMap_nil, eMth, isLst, lstW, atL, fApp, fPop, eExtL, Option.isSome, and_self, true_and, and_true, es]
  · rw [Bool.not_eq_true] at c1
    rw [c1] at t1
    have z : isName s = false := by unfold isName; rw [c1]; rfl
    rw [z, seq_rt ((if_t ((or_f t0).trans (or_t t1))).trans rfl)]
end Pl

set_option Elab.async false
set_option linter.all false
set_option autoImplicit false
set_option maxRecDepth 100000
set_option maxHeartbeats 4000000
/-! Pg: statement_in. -/
namespace Pl
open PySem PySem.Spec PyProof.Rows L2 Mp
open En
noncomputable def siC : ShT := tBl (mOp2 fNe (eVar 1) (eLst aNil))
noncomputable def siA : Ss := sPar 3 2 (aCons (eMth fPop (eVar 1) aNil) (aCons (mOp2 fAdd (eVar 2) (eC (.int 1))) aNil))
noncomputable def siM : ShT := tBl (mOp2 fGt (eVar 2) (eC (.int 24)))
noncomputable def siS : ShT := tBl (mCall (fIs Hd.pk.own Hd.pk.sub) (aCons (eVar 3) (aCons (eC (.ty "str")) aNil)))
noncomputable def siW (n : Nat) : ShT := Mp.tAnd (tBl (mOp2 fNotIn (eVar 3) (eTup (aCons (eC (.str "yes")) (aCons (eC (.str "no")) aNil))))) (Mp.tNot (tBl (eCall (Sn n .is_name) 1 0 [0] [] (aCons (eVar 3) aNil) aNil)))
noncomputable def siT : ShT := Mp.tAnd (tBl (mCall (fIsT Hd.pk.own Hd.pk.sub) (aCons (eVar 3) (aCons (eTup (aCons (eC (.ty "list")) (aCons (eC (.ty "tuple")) aNil))) aNil)))) (Mp.tAnd (tBl (mOp2 fEq (mCall fLen (aCons (eVar 3) aNil)) (eC (.int 3)))) (Mp.tAnd (tBl (mCall (fIs Hd.pk.own Hd.pk.sub) (aCons (mOp2 fIx (eVar 3) (eC (.int 0))) (aCons (eC (.ty "str")) aNil)))) (tBl (mOp2 fIn (mOp2 fIx (eVar 3) (eC (.int 0))) (eC (.tup [(.str "and"), (.str "or"), (.str "gives")]))))))
noncomputable def siX : Ss := sDrop (eExtL (eVar 1) (aCons (mOp2 fIx (eVar 3) (eC (.int 2))) (aCons (mOp2 fIx (eVar 3) (eC (.int 1))) aNil)))
noncomputable def siB (n : Nat) : Ss := sSeq siA (sSeq (sIf siM (sRet (eC .non)) sNext) (sIf siS (sIf (siW n) (sRet (eC .non)) sNext) (sIf siT siX (sRet (eC .non)))))
theorem statement_in_is (n : Nat) : Wk.B_statement_in Hd.pk (Sn n) = sSeq (sPar 1 2 (aCons (eLst (aCons (eVar 0) aNil)) (aCons (eC (.int 0)) aNil))) (sSeq (sWhile siC (siB n)) (sRet (eCall (Sn n .fixed) 1 0 [0] [] (aCons (eVar 0) aNil) aNil))) := rfl
/-- data whatever the heap -/
def PF (x : W) : Prop := ∃ d, ∀ g : Hw, Fits g 22 x d
theorem PF.list {g : Hw} : ∀ {st : List W}, (∀ x ∈ st, PF x) → ∃ ds, FitsL g 22 st ds
  | [], _ => ⟨_, fitsL_nil⟩
  | x :: st, a => by
    obtain ⟨d, e⟩ := a x List.mem_cons_self
    obtain ⟨ds, es⟩ := PF.list (st := st) fun u hu => a u (List.mem_cons_of_mem _ hu)
    exact ⟨_, .cons (e g) es⟩
theorem PF.st {s : St} (o : s.ok = true) (l : s.dep ≤ 20) : PF s.w := ⟨_, fun _ => St.fits o (show s.dep ≤ 22 by omega)⟩
def siR (v0 : W) (L : Nat) (m : Int) (o3 : Option W) : Rho := [some v0, some (.ref L), some (.int m), o3]
section
variable {h : Hw} {L : Nat} {st : List W} {v0 x : W} {m : Int} {o3 : Option W} {n : Nat}
theorem ne_nil {i : Nat} {ρ : Rho} (hi : ρ[i]? = some (some (.ref L))) (hL : h[L]? = some (.lst st)) (F : ∀ x ∈ st, PF x) : tBl (mOp2 fNe (eVar i) (eLst aNil)) ρ h = some (.ok (!st.isEmpty), nwL h []) := by
  obtain ⟨ds, e⟩ := PF.list (g := nwL h []) F
  have q := eq_nil true (app_at hL) (new_at (h := h) (o := .lst [])) e (by omega)
  have e : eLst aNil ρ h = _ := new_nil rfl (by decide)
  unfold fNe
  simp only [runB, sSeq, sIf, sb, sRet, sDrop, sAsg, sNext, sCnt, sPar, tBl, Mp.tOr, Mp.tAnd, Mp.tNot, tTru, asTru, truW, mOp2, mOp1, mCall, M.bind, M.ret, asBl, up, eVar, eC, eTup, eLst, aCons, aNil, eIf, eAnd, eOr, eNot, eChain, gNm, gTp, gsCons, gsNil, List.set, List.map_cons, List.map_nil, List.length_cons, List.length_nil, List.replicate, List.cons_append, List.nil_append, List.getElem?_cons_zero, List.getElem?_cons_succ, if_true, if_false, reduceIte, Bool.not_true, Bool.not_false, Bool.false_eq_true, Option.map, Nat.reduceAdd, Nat.reduceSub, Nat.reduceLeDiff, sz1, sz2, sz3, sz4, sz5, sz6, sz12, sz0, List.append_nil, eCall, pickL, List.filterMap_cons, List.filterMap_nil, eMth, isLst, lstW, atL, fApp, fPop, eExtL, Option.isSome, and_self, true_and, and_true, hi, e, q]
theorem si_pop (hL : h[L]? = some (.lst (st ++ [x]))) : siA (siR v0 L m o3) h = some (.nx (siR v0 L (m + 1) (some x)), stL h L st) := by
  have q : (st ++ [x])[(st ++ [x]).length - 1]? = some x := by simp
  have q2 : (st ++ [x]).dropLast = st := by simp
  unfold siA
  simp only [runB, sSeq, sIf, sb, sRet, sDrop, sAsg, sNext, sCnt, sPar, tBl, Mp.tOr, Mp.tAnd, Mp.tNot, tTru, asTru, truW, mOp2, mOp1, mCall, M.bind, M.ret, asBl, up, eVar, eC, eTup, eLst, aCons, aNil, eIf, eAnd, eOr, eNot, eChain, gNm, gTp, gsCons, gsNil, List.set, List.map_cons, List.map_nil, List.length_cons, List.length_nil, List.replicate, List.cons_append, List.nil_append, List.getElem?_cons_zero, List.getElem?_cons_succ, if_true, if_false, reduceIte, Bool.not_true, Bool.not_false, Bool.false_eq_true, Option.map, Nat.reduceAdd, Nat.reduceSub, Nat.reduceLeDiff, sz1, sz2, sz3, sz4, sz5, sz6, sz12, sz0, List.append_nil, eCall, pickL, List.filterMap_cons, List.filterMap_nil, eMth, isLst, lstW, atL, fApp, fPop, eExtL, Option.isSome, and_self, true_and, and_true, siR, hL, q, q2, fAdd]
theorem si_m (hm : m ≤ 24) {g : Hw} : sIf siM (sRet (eC .non)) sNext (siR v0 L m o3) g = some (.nx (siR v0 L m o3), g) := by
  have z : decide ((24 : Int) < m) = false := decide_eq_false (by omega)
  have e : siM (siR v0 L m o3) g = some (.ok false, g) := by
    unfold siM fGt fI
    simp only [runB, sSeq, sIf, sb, sRet, sDrop, sAsg, sNext, sCnt, sPar, tBl, Mp.tOr, Mp.tAnd, Mp.tNot, tTru, asTru, truW, mOp2, mOp1, mCall, M.bind, M.ret, asBl, up, eVar, eC, eTup, eLst, aCons, aNil, eIf, eAnd, eOr, eNot, eChain, gNm, gTp, gsCons, gsNil, List.set, List.map_cons, List.map_nil, List.length_cons, List.length_nil, List.replicate, List.cons_append, List.nil_append, List.getElem?_cons_zero, List.getElem?_cons_succ, if_true, if_false, reduceIte, Bool.not_true, Bool.not_false, Bool.false_eq_true, Option.map, Nat.reduceAdd, Nat.reduceSub, Nat.reduceLeDiff, sz1, sz2, sz3, sz4, sz5, sz6, sz12, sz0, List.append_nil, eCall, pickL, List.filterMap_cons, List.filterMap_nil, eMth, isLst, lstW, atL, fApp, fPop, eExtL, Option.isSome, and_self, true_and, and_true, siR, z]
  rw [if_f e]
  rfl
theorem si_s (hp : plainW x = true) {g : Hw} : siS (siR v0 L m (some x)) g = some (.ok (isStr x), g) := by
  have q := is_str (h := g) hp
  unfold siS
  simp only [runB, sSeq, sIf, sb, sRet, sDrop, sAsg, sNext, sCnt, sPar, tBl, Mp.tOr, Mp.tAnd, Mp.tNot, tTru, asTru, truW, mOp2, mOp1, mCall, M.bind, M.ret, asBl, up, eVar, eC, eTup, eLst, aCons, aNil, eIf, eAnd, eOr, eNot, eChain, gNm, gTp, gsCons, gsNil, List.set, List.map_cons, List.map_nil, List.length_cons, List.length_nil, List.replicate, List.cons_append, List.nil_append, List.getElem?_cons_zero, List.getElem?_cons_succ, if_true, if_false, reduceIte, Bool.not_true, Bool.not_false, Bool.false_eq_true, Option.map, Nat.reduceAdd, Nat.reduceSub, Nat.reduceLeDiff, sz1, sz2, sz3, sz4, sz5, sz6, sz12, sz0, List.append_nil, eCall, pickL, List.filterMap_cons, List.filterMap_nil, eMth, isLst, lstW, atL, fApp, fPop, eExtL, Option.isSome, and_self, true_and, and_true, siR, q]
/-- a word may stand -/
def goodW (s : Str) : Bool := s == "yes" || (s == "no" || isName s)
theorem si_w (s : Str) (hl : s.length ≤ 1000) {g : Hw} : siW (n + 1) (siR v0 L m (some (.str s))) g = some (.ok (!goodW s), g) := by
  have q := ev_is_name n s g hl
  have e2 : (Mp.tNot (tBl (eCall (Sn (n + 1) .is_name) 1 0 [0] [] (aCons (eVar 3) aNil) aNil))) (siR v0 L m (some (.str s))) g = some (.ok (!isName s), g) := by simp only [runB, sSeq, sIf, sb, sRet, sDrop, sAsg, sNext, sCnt, sPar, tBl, Mp.tOr, Mp.tAnd, Mp.tNot, tTru, asTru, truW, mOp2, mOp1, mCall, M.bind, M.ret, asBl, up, eVar, eC, eTup, eLst, aCons, aNil, eIf, eAnd, eOr, eNot, eChain, gNm, gTp, gsCons, gsNil, List.set, List.map_cons, List.map_nil, List.length_cons, List.length_nil, List.replicate, List.cons_append, List.nil_append, List.getElem?_cons_zero, List.getElem?_cons_succ, if_true, if_false, reduceIte, Bool.not_true, Bool.not_false, Bool.false_eq_true, Option.map, Nat.reduceAdd, Nat.reduceSub, Nat.reduceLeDiff, sz1, sz2, sz3, sz4, sz5, sz6, sz12, sz0, List.append_nil, eCall, pickL, List.filterMap_cons, List.filterMap_nil, eMth, isLst, lstW, atL, fApp, fPop, eExtL, Option.isSome, and_self, true_and, and_true, siR, q]
  have e1 : tBl (mOp2 fNotIn (eVar 3) (eTup (aCons (eC (.str "yes")) (aCons (eC (.str "no")) aNil)))) (siR v0 L m (some (.str s))) g = some (.ok (!(([W.str "yes", W.str "no"] : List W).any fun z => eqW z (.str s))), g) := rfl
  have ea : (([W.str "yes", W.str "no"] : List W).any fun z => eqW z (.str s)) = (s == "yes" || s == "no") := by
    show ((("yes" : Str) == s) || ((("no" : Str) == s) || false)) = _
    rw [Bool.or_false, BEq.comm (a := ("yes" : Str)), BEq.comm (a := ("no" : Str))]
  rw [ea] at e1
  unfold siW goodW
  cases c : (s == "yes" || s == "no") with
  | true =>
    rw [c] at e1
    rw [and_f e1, ← Bool.or_assoc, c]
    rfl
  | false =>
    rw [c] at e1
    rw [and_t e1, e2, ← Bool.or_assoc, c]
    rfl
theorem eq_int {i j : Int} {g : Hw} : fEq (.int i) (.int j) g = some (.bl (i == j), g) := by
  have e := eqB_fits (h := g) false (fits_int (k := 0) (i := i)) (fits_int (k := 0) (i := j)) (by omega) (by omega)
  unfold fEq
  rw [e]
  simp [PyData.eqv]
theorem isT_row {w : W} {g : Hw} (hp : plainW w = true) : fIsT Hd.pk.own Hd.pk.sub [w, .tup [.ty "list", .ty "tuple"]] g = some (.bl (rowT w), g) := by
  cases w <;> first | (cases hp; done) | rfl
theorem si_t1 (hp : plainW x = true) {g : Hw} : tBl (mCall (fIsT Hd.pk.own Hd.pk.sub) (aCons (eVar 3) (aCons (eTup (aCons (eC (.ty "list")) (aCons (eC (.ty "tuple")) aNil))) aNil))) (siR v0 L m (some x)) g = some (.ok (rowT x), g) := by
  have q := isT_row (g := g) hp
  simp only [runB, sSeq, sIf, sb, sRet, sDrop, sAsg, sNext, sCnt, sPar, tBl, Mp.tOr, Mp.tAnd, Mp.tNot, tTru, asTru, truW, mOp2, mOp1, mCall, M.bind, M.ret, asBl, up, eVar, eC, eTup, eLst, aCons, aNil, eIf, eAnd, eOr, eNot, eChain, gNm, gTp, gsCons, gsNil, List.set, List.map_cons, List.map_nil, List.length_cons, List.length_nil, List.replicate, List.cons_append, List.nil_append, List.getElem?_cons_zero, List.getElem?_cons_succ, if_true, if_false, reduceIte, Bool.not_true, Bool.not_false, Bool.false_eq_true, Option.map, Nat.reduceAdd, Nat.reduceSub, Nat.reduceLeDiff, sz1, sz2, sz3, sz4, sz5, sz6, sz12, sz0, List.append_nil, eCall, pickL, List.filterMap_cons, List.filterMap_nil, eMth, isLst, lstW, atL, fApp, fPop, eExtL, Option.isSome, and_self, true_and, and_true, siR, q]
theorem si_t_flat (hp : plainW x = true) (hr : rowT x = false) {g : Hw} : siT (siR v0 L m (some x)) g = some (.ok false, g) := by
  have e := si_t1 (v0 := v0) (L := L) (m := m) hp (g := g)
  rw [hr] at e
  exact and_f e
theorem si_t2 {l : List W} {g : Hw} : tBl (mOp2 fEq (mCall fLen (aCons (eVar 3) aNil)) (eC (.int 3))) (siR v0 L m (some (.tup l))) g = some (.ok ((l.length : Int) == 3), g) := by
  have q := eq_int (i := (l.length : Int)) (j := 3) (g := g)
  simp only [runB, sSeq, sIf, sb, sRet, sDrop, sAsg, sNext, sCnt, sPar, tBl, Mp.tOr, Mp.tAnd, Mp.tNot, tTru, asTru, truW, mOp2, mOp1, mCall, M.bind, M.ret, asBl, up, eVar, eC, eTup, eLst, aCons, aNil, eIf, eAnd, eOr, eNot, eChain, gNm, gTp, gsCons, gsNil, List.set, List.map_cons, List.map_nil, List.length_cons, List.length_nil, List.replicate, List.cons_append, List.nil_append, List.getElem?_cons_zero, List.getElem?_cons_succ, if_true, if_false, reduceIte, Bool.not_true, Bool.not_false, Bool.false_eq_true, Option.map, Nat.reduceAdd, Nat.reduceSub, Nat.reduceLeDiff, sz1, sz2, sz3, sz4, sz5, sz6, sz12, sz0, List.append_nil, eCall, pickL, List.filterMap_cons, List.filterMap_nil, eMth, isLst, lstW, atL, fApp, fPop, eExtL, Option.isSome, and_self, true_and, and_true, siR, fLen, seqW, q]
theorem si_t_len {l : List W} (hl : l.length ≠ 3) {g : Hw} : siT (siR v0 L m (some (.tup l))) g = some (.ok false, g) := by
  have e := si_t1 (x := .tup l) (v0 := v0) (L := L) (m := m) rfl (g := g)
  have e2 := si_t2 (l := l) (v0 := v0) (L := L) (m := m) (g := g)
  have z : ((l.length : Int) == 3) = false := by
    rw [beq_eq_false_iff_ne]
    omega
  rw [z] at e2
  exact (and_t e).trans (and_f e2)
def joinW (a : Str) : Bool := ([W.str "and", W.str "or", W.str "gives"] : List W).any fun z => eqW z (.str a)
theorem si_t {a : Str} {x y : W} {g : Hw} : siT (siR v0 L m (some (.tup [.str a, x, y]))) g = some (.ok (joinW a), g) := by
  have e := si_t1 (x := .tup [.str a, x, y]) (v0 := v0) (L := L) (m := m) rfl (g := g)
  have e2 := si_t2 (l := [.str a, x, y]) (v0 := v0) (L := L) (m := m) (g := g)
  have e3 : tBl (mCall (fIs Hd.pk.own Hd.pk.sub) (aCons (mOp2 fIx (eVar 3) (eC (.int 0))) (aCons (eC (.ty "str")) aNil))) (siR v0 L m (some (.tup [.str a, x, y]))) g = some (.ok true, g) := by
    have q := is_str (w := .str a) (h := g) rfl
    have z : atI [W.str a, x, y] 0 = some (.str a) := atI_nat (i := 0) rfl
    simp only [runB, sSeq, sIf, sb, sRet, sDrop, sAsg, sNext, sCnt, sPar, tBl, Mp.tOr, Mp.tAnd, Mp.tNot, tTru, asTru, truW, mOp2, mOp1, mCall, M.bind, M.ret, asBl, up, eVar, eC, eTup, eLst, aCons, aNil, eIf, eAnd, eOr, eNot, eChain, gNm, gTp, gsCons, gsNil, List.set, List.map_cons, List.map_nil, List.length_cons, List.length_nil, List.replicate, List.cons_append, List.nil_append, List.getElem?_cons_zero, List.getElem?_cons_succ, if_true, if_false, reduceIte, Bool.not_true, Bool.not_false, Bool.false_eq_true, Option.map, Nat.reduceAdd, Nat.reduceSub, Nat.reduceLeDiff, sz1, sz2, sz3, sz4, sz5, sz6, sz12, sz0, List.append_nil, eCall, pickL, List.filterMap_cons, List.filterMap_nil, eMth, isLst, lstW, atL, fApp, fPop, eExtL, Option.isSome, and_self, true_and, and_true, siR, fIx, seqW, z, q, isStr]
  have e4 : tBl (mOp2 fIn (mOp2 fIx (eVar 3) (eC (.int 0))) (eC (.tup [(.str "and"), (.str "or"), (.str "gives")]))) (siR v0 L m (some (.tup [.str a, x, y]))) g = some (.ok (joinW a), g) := by
    have z : atI [W.str a, x, y] 0 = some (.str a) := atI_nat (i := 0) rfl
    have q : fIn (.str a) (.tup [(.str "and"), (.str "or"), (.str "gives")]) g = some (.bl (joinW a), g) := rfl
    simp only [runB, sSeq, sIf, sb, sRet, sDrop, sAsg, sNext, sCnt, sPar, tBl, Mp.tOr, Mp.tAnd, Mp.tNot, tTru, asTru, truW, mOp2, mOp1, mCall, M.bind, M.ret, asBl, up, eVar, eC, eTup, eLst, aCons, aNil, eIf, eAnd, eOr, eNot, eChain, gNm, gTp, gsCons, gsNil, List.set, List.map_cons, List.map_nil, List.length_cons, List.length_nil, List.replicate, List.cons_append, List.nil_append, List.getElem?_cons_zero, List.getElem?_cons_succ, if_true, if_false, reduceIte, Bool.not_true, Bool.not_false, Bool.false_eq_true, Option.map, Nat.reduceAdd, Nat.reduceSub, Nat.reduceLeDiff, sz1, sz2, sz3, sz4, sz5, sz6, sz12, sz0, List.append_nil, eCall, pickL, List.filterMap_cons, List.filterMap_nil, eMth, isLst, lstW, atL, fApp, fPop, eExtL, Option.isSome, and_self, true_and, and_true, siR, fIx, seqW, z, q]
  exact (and_t e).trans ((and_t e2).trans ((and_t e3).trans e4))
theorem ext_two {i j : Nat} {ρ : Rho} {a x y : W} (hi : ρ[i]? = some (some (.ref L))) (hj : ρ[j]? = some (some (.tup [a, x, y]))) (hL : h[L]? = some (.lst st)) (hs : st.length < 1000) : sDrop (eExtL (eVar i) (aCons (mOp2 fIx (eVar j) (eC (.int 2))) (aCons (mOp2 fIx (eVar j) (eC (.int 1))) aNil))) ρ h = some (.nx ρ, stL h L (st ++ [y, x])) := by
  have z2 : atI [a, x, y] 2 = some y := atI_nat (i := 2) rfl
  have z1 : atI [a, x, y] 1 = some x := atI_nat (i := 1) rfl
  have q : (st.length + 2 ≤ sizeLine) := by rw [sizeLine_eq]; omega
  simp only [runB, sSeq, sIf, sb, sRet, sDrop, sAsg, sNext, sCnt, sPar, tBl, Mp.tOr, Mp.tAnd, Mp.tNot, tTru, asTru, truW, mOp2, mOp1, mCall, M.bind, M.ret, asBl, up, eVar, eC, eTup, eLst, aCons, aNil, eIf, eAnd, eOr, eNot, eChain, gNm, gTp, gsCons, gsNil, List.set, List.map_cons, List.map_nil, List.length_cons, List.length_nil, List.replicate, List.cons_append, List.nil_append, List.getElem?_cons_zero, List.getElem?_cons_succ, if_true, if_false, reduceIte, Bool.not_true, Bool.not_false, Bool.false_eq_true, Option.map, Nat.reduceAdd, Nat.reduceSub, Nat.reduceLeDiff, sz1, sz2, sz3, sz4, sz5, sz6, sz12, sz0, List.append_nil, eCall, pickL, List.filterMap_cons, List.filterMap_nil, eMth, isLst, lstW, atL, fApp, fPop, eExtL, Option.isSome, and_self, true_and, and_true, hi, hj, hL, fIx, seqW, z1, z2, eq_true q]
/-! ### one turn -/
theorem si_turn (hm : m + 1 ≤ 24) (hL : h[L]? = some (.lst (st ++ [x]))) : siB n (siR v0 L m o3) h = sIf siS (sIf (siW n) (sRet (eC .non)) sNext) (sIf siT siX (sRet (eC .non))) (siR v0 L (m + 1) (some x)) (stL h L st) := by
  unfold siB
  rw [seq_nx (si_pop hL), seq_nx (si_m hm)]
theorem si_leaf {s : Str} (hm : m + 1 ≤ 24) (hL : h[L]? = some (.lst (st ++ [.str s]))) (hl : s.length ≤ 1000) : siB (n + 1) (siR v0 L m o3) h = some (if goodW s = true then .nx (siR v0 L (m + 1) (some (.str s))) else .rt .non, stL h L st) := by
  rw [si_turn hm hL, if_t (si_s (x := .str s) rfl)]
  have e := si_w (n := n) (v0 := v0) (L := L) (m := m + 1) s hl (g := stL h L st)
  cases c : goodW s with
  | true =>
    rw [c] at e
    rw [if_f e]
    rfl
  | false =>
    rw [c] at e
    rw [if_t e]
    rfl
theorem si_flat (hm : m + 1 ≤ 24) (hL : h[L]? = some (.lst (st ++ [x]))) (hp : plainW x = true) (hs : isStr x = false) (hr : rowT x = false) : siB n (siR v0 L m o3) h = some (.rt .non, stL h L st) := by
  have e := si_s (v0 := v0) (L := L) (m := m + 1) hp (g := stL h L st)
  rw [hs] at e
  rw [si_turn hm hL, if_f e, if_f (si_t_flat hp hr)]
  rfl
theorem si_len {l : List W} (hm : m + 1 ≤ 24) (hL : h[L]? = some (.lst (st ++ [.tup l]))) (hl : l.length ≠ 3) : siB n (siR v0 L m o3) h = some (.rt .non, stL h L st) := by
  rw [si_turn hm hL, if_f (si_s (x := .tup l) rfl), if_f (si_t_len hl)]
  rfl
theorem si_node {a : Str} {x y : W} (hm : m + 1 ≤ 24) (hL : h[L]? = some (.lst (st ++ [.tup [.str a, x, y]]))) (ha : joinW a = true) (hs : st.length < 1000) : siB n (siR v0 L m o3) h = some (.nx (siR v0 L (m + 1) (some (.tup [.str a, x, y]))), stL (stL h L st) L (st ++ [y, x])) := by
  have e := si_t (v0 := v0) (L := L) (m := m + 1) (a := a) (x := x) (y := y) (g := stL h L st)
  rw [ha] at e
  rw [si_turn hm hL, if_f (si_s (x := .tup [.str a, x, y]) rfl), if_t e]
  exact ext_two rfl rfl (set_at hL) hs
end
end Pl

set_option Elab.async false
set_option linter.all false
set_option autoImplicit false
set_option maxRecDepth 100000
set_option maxHeartbeats 4000000
/-! Ph: statement_in, need_statement. -/
namespace Pl
open PySem PySem.Spec PyProof.Rows L2 Mp
open En
def St.good : St → Bool
  | .leaf s => goodW s && decide (s.length ≤ 1000)
  | .node a x y => joinW a && (x.good && y.good)
def St.size : St → Nat
  | .leaf _ => 1
  | .node _ x y => 1 + x.size + y.size
section
variable {h : Hw} {L : Nat} {st : List W} {v0 x : W} {m : Int} {o3 : Option W} {n : Nat} {r : SOut × Hw}
theorem pf_app (F : ∀ z ∈ st, PF z) (a : PF x) : ∀ z ∈ st ++ [x], PF z := fun y hy => by
  rcases List.mem_append.mp hy with q | q
  · exact F y q
  · rw [List.mem_singleton.mp q]; exact a
theorem nb {l : List W} {u : W} : (l ++ [u]).isEmpty = false := by cases l <;> rfl
theorem si_c (hL : h[L]? = some (.lst (st ++ [x]))) (F : ∀ z ∈ st, PF z) (a : PF x) : siC (siR v0 L m o3) h = some (.ok true, nwL h []) := by
  have e := ne_nil (ρ := siR v0 L m o3) (i := 1) rfl hL (pf_app F a)
  rw [nb] at e
  exact e
theorem siP : ∀ (s : St), s.ok = true → s.dep ≤ 20 → s.good = true → ∀ (h : Hw) (st : List W) (m : Int) (o3 : Option W), h[L]? = some (.lst (st ++ [s.w])) → (∀ z ∈ st, PF z) → m + s.size ≤ 24 → st.length + s.dep < 900 →
    ∃ h' o3', Gr (fun i => i = L) h h' ∧ h'[L]? = some (.lst st) ∧ ∀ r, Runs siC (siB (n + 1)) (siR v0 L (m + s.size) o3') h' r → Runs siC (siB (n + 1)) (siR v0 L m o3) h r
  | .leaf s, ho, _, hg, h, st, m, o3, hL, F, hm, hs => by
    have hg' : (goodW s && decide (s.length ≤ 1000)) = true := hg
    rw [Bool.and_eq_true, decide_eq_true_eq] at hg'
    have hc := si_c (v0 := v0) (m := m) (o3 := o3) hL F (PF.st ho (by show 0 ≤ 20; omega))
    have hb := si_leaf (n := n) (v0 := v0) (m := m) (o3 := o3) (s := s) (h := nwL h []) (st := st) (show m + ((1 : Nat) : Int) ≤ 24 from hm) (app_at hL) hg'.2
    rw [if_pos hg'.1] at hb
    exact ⟨stL (nwL h []) L st, some (.str s), (Gr.app _).trans gsL, set_at (app_at hL), fun r q => .go hc hb q⟩
  | .node a x y, ho, hd, hg, h, st, m, o3, hL, F, hm, hs => by
    have ho' : (PyData.strOk a && (x.ok && y.ok)) = true := ho
    simp only [Bool.and_eq_true] at ho'
    have hg' : (joinW a && (x.good && y.good)) = true := hg
    simp only [Bool.and_eq_true] at hg'
    have hd' : max x.dep y.dep + 1 ≤ 20 := hd
    have hs' : st.length + (max x.dep y.dep + 1) < 900 := hs
    have hm' : m + ((1 + x.size + y.size : Nat) : Int) ≤ 24 := hm
    have hc := si_c (v0 := v0) (m := m) (o3 := o3) hL F (PF.st ho hd)
    have hb := si_node (n := n + 1) (v0 := v0) (m := m) (o3 := o3) (a := a) (x := x.w) (y := y.w) (h := nwL h []) (st := st) (by omega) (app_at hL) hg'.1 (by omega)
    have F2 := pf_app F (PF.st ho'.2.2 (by omega))
    have hL2 : (stL (stL (nwL h []) L st) L (st ++ [y.w, x.w]))[L]? = some (.lst ((st ++ [y.w]) ++ [x.w])) := by
      rw [List.append_assoc]
      exact set_at (set_at (app_at hL))
    obtain ⟨h3, p3, g3, hL3, k3⟩ := siP x ho'.2.1 (by omega) hg'.2.1 _ (st ++ [y.w]) (m + 1) (some (.tup [.str a, x.w, y.w])) hL2 F2 (by omega) (by simp; omega)
    obtain ⟨h4, p4, g4, hL4, k4⟩ := siP y ho'.2.2 (by omega) hg'.2.2 h3 st (m + 1 + x.size) p3 hL3 F (by omega) (by omega)
    refine ⟨h4, p4, (Gr.app _).trans (gsL.trans (gsL.trans (g3.trans g4))), hL4, fun r q => .go hc hb (k3 r (k4 r ?_))⟩
    have e : m + ((St.node a x y).size : Int) = m + 1 + x.size + y.size := by
      show m + ((1 + x.size + y.size : Nat) : Int) = _
      omega
    rw [← e]
    exact q
theorem si_start (n : Nat) (x : W) (h : Hw) : sPar 1 2 (aCons (eLst (aCons (eVar 0) aNil)) (aCons (eC (.int 0)) aNil)) [some x, none, none, none] h = some (.nx (siR x h.length 0 none), nwL h [x]) := by
  simp only [runB, sSeq, sIf, sb, sRet, sDrop, sAsg, sNext, sCnt, sPar, tBl, Mp.tOr, Mp.tAnd, Mp.tNot, tTru, asTru, truW, mOp2, mOp1, mCall, M.bind, M.ret, asBl, up, eVar, eC, eTup, eLst, aCons, aNil, eIf, eAnd, eOr, eNot, eChain, gNm, gTp, gsCons, gsNil, List.set, List.map_cons, List.map_nil, List.length_cons, List.length_nil, List.replicate, List.cons_append, List.nil_append, List.getElem?_cons_zero, List.getElem?_cons_succ, if_true, if_false, reduceIte, Bool.not_true, Bool.not_false, Bool.false_eq_true, Option.map, Nat.reduceAdd, Nat.reduceSub, Nat.reduceLeDiff, sz1, sz2, sz3, sz4, sz5, sz6, sz12, sz0, List.append_nil, eCall, pickL, List.filterMap_cons, List.filterMap_nil, eMth, isLst, lstW, atL, fApp, fPop, eExtL, Option.isSome, and_self, true_and, and_true, siR]
theorem ev_si_good (n : Nat) (s : St) (ho : s.ok = true) (hd : s.dep ≤ 20) (hg : s.good = true) (hz : s.size ≤ 24) (h : Hw) : ∃ h', Gr no h h' ∧ Sn (n + 3) .statement_in [s.w] h = some (.ok s.w, h') := by
  obtain ⟨h1, o3, g, hL, k⟩ := siP (n := n + 1) (v0 := s.w) (L := h.length) s ho hd hg (nwL h [s.w]) [] 0 none new_at (fun z hz => nomatch hz) (by omega) (by show 0 + s.dep < 900; omega)
  have hc : siC (siR s.w h.length (0 + s.size) o3) h1 = some (.ok false, nwL h1 []) := ne_nil (i := 1) rfl hL fun z hz => nomatch hz
  have q := (k _ (.stop hc)).eq
  obtain ⟨h2, g2, e2⟩ := ev_fixed n s ho hd (nwL h1 [])
  have g1 : Gr no h h1 := (Gr.app _).back g fun i hi z => by omega
  refine ⟨h2, (g1.trans (Gr.app _)).trans g2, ?_⟩
  show runB Wk.N_statement_in.length (Wk.B_statement_in Hd.pk (Sn (n + 2))) [s.w] h = _
  rw [statement_in_is]
  have e3 : sRet (eCall (Sn (n + 2) .fixed) 1 0 [0] [] (aCons (eVar 0) aNil) aNil) (siR s.w h.length (0 + s.size) o3) (nwL h1 []) = some (.rt s.w, h2) := by
    simp only [runB, sSeq, sIf, sb, sRet, sDrop, sAsg, sNext, sCnt, sPar, tBl, Mp.tOr, Mp.tAnd, Mp.tNot, tTru, asTru, truW, mOp2, mOp1, mCall, M.bind, M.ret, asBl, up, eVar, eC, eTup, eLst, aCons, aNil, eIf, eAnd, eOr, eNot, eChain, gNm, gTp, gsCons, gsNil, List.set, List.map_cons, List.map_nil, List.length_cons, List.length_nil, List.replicate, List.cons_append, List.nil_append, List.getElem?_cons_zero, List.getElem?_cons_succ, if_true, if_false, reduceIte, Bool.not_true, Bool.not_false, Bool.false_eq_true, Option.map, Nat.reduceAdd, Nat.reduceSub, Nat.reduceLeDiff, sz1, sz2, sz3, sz4, sz5, sz6, sz12, sz0, List.append_nil, eCall, pickL, List.filterMap_cons, List.filterMap_nil, eMth, isLst, lstW, atL, fApp, fPop, eExtL, Option.isSome, and_self, true_and, and_true, siR, e2]
  unfold runB
  rw [show (List.map some [s.w] ++ List.replicate (Wk.N_statement_in.length - [s.w].length) none) = [some s.w, none, none, none] from rfl, seq_nx (si_start n s.w h), seq_nx q, e3]
/-- a turn that ends it -/
theorem ev_si_end {h1 h2 : Hw} (x : W) (e : Runs siC (siB (n + 1)) (siR x h.length 0 none) (nwL h [x]) (.rt .non, h2)) : Sn (n + 2) .statement_in [x] h = some (.ok .non, h2) := by
  show runB Wk.N_statement_in.length (Wk.B_statement_in Hd.pk (Sn (n + 1))) [x] h = _
  rw [statement_in_is]
  unfold runB
  rw [show (List.map some [x] ++ List.replicate (Wk.N_statement_in.length - [x].length) none) = [some x, none, none, none] from rfl, seq_nx (si_start n x h), seq_rt e.eq]
theorem ev_si_bad (n : Nat) (x : W) (a : PF x) (hb : ∀ (g : Hw) (L : Nat), g[L]? = some (.lst [x]) → siB (n + 1) (siR x L 0 none) g = some (.rt .non, stL g L [])) (h : Hw) : ∃ h', Gr no h h' ∧ Sn (n + 2) .statement_in [x] h = some (.ok .non, h') := by
  have hL : (nwL h [x])[h.length]? = some (.lst ([] ++ [x])) := new_at
  have hc := si_c (v0 := x) (m := 0) (o3 := none) hL (fun z hz => nomatch hz) a
  exact ⟨_, ((Gr.app _).trans (Gr.app _)).back (gsL (i := h.length)) fun i hi z => by omega, ev_si_end (h1 := h) x (.rt hc (hb _ _ (app_at new_at)))⟩
end
end Pl

set_option Elab.async false
set_option linter.all false
set_option autoImplicit false
set_option maxRecDepth 100000
set_option maxHeartbeats 4000000
/-! Pi: what is no statement; need_statement; parts_in; is_plain. -/
namespace Pl
open PySem PySem.Spec PyProof.Rows L2 Mp
open En
section
variable {h : Hw} {L : Nat} {st : List W} {v0 x : W} {m : Int} {o3 : Option W} {n : Nat} {r : SOut × Hw}
/-- a row of two statements, the second no statement -/
theorem ev_si_node (n : Nat) (a b s : Str) (ha : joinW a = true) (oa : PyData.strOk a = true) (hb : (St.leaf b).good = true) (ob : PyData.strOk b = true) (hs : goodW s = false) (ls : s.length ≤ 1000) (os : PyData.strOk s = true) (h : Hw) : ∃ h', Gr no h h' ∧ Sn (n + 2) .statement_in [.tup [.str a, .str b, .str s]] h = some (.ok .non, h') := by
  have pw : PF (St.node a (.leaf b) (.leaf s)).w := PF.st (by show (PyData.strOk a && (PyData.strOk b && PyData.strOk s)) = true; rw [oa, ob, os]; rfl) (by show max 0 0 + 1 ≤ 20; omega)
  have ps : PF (St.leaf s).w := PF.st os (by show 0 ≤ 20; omega)
  have hL : (nwL h [.tup [.str a, .str b, .str s]])[h.length]? = some (.lst ([] ++ [.tup [.str a, .str b, .str s]])) := new_at
  have hc := si_c (v0 := .tup [.str a, .str b, .str s]) (m := 0) (o3 := none) hL (fun z hz => nomatch hz) pw
  have h1 := si_node (n := n + 1) (v0 := .tup [.str a, .str b, .str s]) (m := 0) (o3 := none) (st := []) (x := .str b) (y := .str s) (by omega) (app_at (g := [.lst []]) hL) ha (by show 0 < 1000; omega)
  have hL2 : (stL (stL (nwL (nwL h [.tup [.str a, .str b, .str s]]) []) h.length []) h.length ([] ++ [.str s, .str b]))[h.length]? = some (.lst ([.str s] ++ [.str b])) := set_at (set_at (app_at hL))
  obtain ⟨h3, p3, g3, hL3, k3⟩ := siP (n := n) (v0 := .tup [.str a, .str b, .str s]) (L := h.length) (.leaf b) ob (by show 0 ≤ 20; omega) hb _ [.str s] (0 + 1) (some (.tup [.str a, .str b, .str s])) hL2 (pf_app (st := []) (fun z hz => nomatch hz) ps) (by show (0 + 1 + 1 : Int) ≤ 24; omega) (by show 1 + 0 < 900; omega)
  have hL3' : h3[h.length]? = some (.lst ([] ++ [.str s])) := hL3
  have hc3 := si_c (v0 := .tup [.str a, .str b, .str s]) (m := 0 + 1 + 1) (o3 := p3) hL3' (fun z hz => nomatch hz) ps
  have e3 := si_leaf (n := n) (v0 := .tup [.str a, .str b, .str s]) (m := 0 + 1 + 1) (o3 := p3) (s := s) (st := []) (h := nwL h3 []) (by omega) (app_at hL3') ls
  rw [hs, if_neg (by decide)] at e3
  have gg : Gr (fun i => i = h.length) (nwL h [.tup [.str a, .str b, .str s]]) (stL (nwL h3 []) h.length []) := (Gr.app _).trans (gsL.trans (gsL.trans (g3.trans ((Gr.app _).trans gsL))))
  exact ⟨_, (Gr.app _).back gg fun i hi z => by omega, ev_si_end (h1 := h) _ (.go hc h1 (k3 _ (.rt hc3 e3)))⟩
theorem ev_need_good {s : St} {h' : Hw} (e : Sn n .statement_in [s.w] h = some (.ok s.w, h')) : Sn (n + 1) .need_statement [s.w, .str "statement"] h = some (.ok s.w, h') := by
  show runB Wk.N_need_statement.length (Wk.B_need_statement Hd.pk (Sn n)) [s.w, .str "statement"] h = _
  unfold Wk.B_need_statement
  have z : fIsN s.w .non h' = some (.bl false, h') := by cases s <;> rfl
  simp only [runB, sSeq, sIf, sb, sRet, sDrop, sAsg, sNext, sCnt, sPar, tBl, Mp.tOr, Mp.tAnd, Mp.tNot, tTru, asTru, truW, mOp2, mOp1, mCall, M.bind, M.ret, asBl, up, eVar, eC, eTup, eLst, aCons, aNil, eIf, eAnd, eOr, eNot, eChain, gNm, gTp, gsCons, gsNil, List.set, List.map_cons, List.map_nil, List.length_cons, List.length_nil, List.replicate, List.cons_append, List.nil_append, List.getElem?_cons_zero, List.getElem?_cons_succ, if_true, if_false, reduceIte, Bool.not_true, Bool.not_false, Bool.false_eq_true, Option.map, Nat.reduceAdd, Nat.reduceSub, Nat.reduceLeDiff, sz1, sz2, sz3, sz4, sz5, sz6, sz12, sz0, List.append_nil, eCall, pickL, List.filterMap_cons, List.filterMap_nil, eMth, isLst, lstW, atL, fApp, fPop, eExtL, Option.isSome, and_self, true_and, and_true, e, z]
theorem ev_need_bad {x : W} {h' : Hw} (e : Sn n .statement_in [x] h = some (.ok .non, h')) : Sn (n + 1) .need_statement [x, .str "statement"] h = some (.exc ⟨"BadStatement", [("part", .str "statement")]⟩, h') := by
  show runB Wk.N_need_statement.length (Wk.B_need_statement Hd.pk (Sn n)) [x, .str "statement"] h = _
  unfold Wk.B_need_statement
  have z : fIsN .non .non h' = some (.bl true, h') := rfl
  simp only [runB, sSeq, sIf, sb, sRet, sDrop, sAsg, sNext, sCnt, sPar, tBl, Mp.tOr, Mp.tAnd, Mp.tNot, tTru, asTru, truW, mOp2, mOp1, mCall, M.bind, M.ret, asBl, up, eVar, eC, eTup, eLst, aCons, aNil, eIf, eAnd, eOr, eNot, eChain, gNm, gTp, gsCons, gsNil, List.set, List.map_cons, List.map_nil, List.length_cons, List.length_nil, List.replicate, List.cons_append, List.nil_append, List.getElem?_cons_zero, List.getElem?_cons_succ, if_true, if_false, reduceIte, Bool.not_true, Bool.not_false, Bool.false_eq_true, Option.map, Nat.reduceAdd, Nat.reduceSub, Nat.reduceLeDiff, sz1, sz2, sz3, sz4, sz5, sz6, sz12, sz0, List.append_nil, eCall, pickL, List.filterMap_cons, List.filterMap_nil, eMth, isLst, lstW, atL, fApp, fPop, eExtL, Option.isSome, and_self, true_and, and_true, e, z, sRaise]
end
/-! ### parts_in -/
def St.pre : St → List St
  | .leaf s => [.leaf s]
  | .node a x y => .node a x y :: (x.pre ++ y.pre)
theorem St.pre_len : ∀ s : St, s.pre.length = s.size
  | .leaf _ => rfl
  | .node _ x y => by
    show (x.pre ++ y.pre).length + 1 = 1 + x.size + y.size
    rw [List.length_append, St.pre_len x, St.pre_len y]
    omega
noncomputable def ptC : ShT := tBl (mOp2 fNe (eVar 2) (eLst aNil))
noncomputable def ptB : Ss := (sSeq (sAsg (eMth fPop (eVar 2) aNil) (gNm 3))
    (sSeq (sDrop (eMth fApp (eVar 1) (aCons (eVar 3) aNil)))
    (sIf (Mp.tNot (tBl (mCall (fIs Hd.pk.own Hd.pk.sub) (aCons (eVar 3) (aCons (eC (.ty "str")) aNil)))))
    (sDrop (eExtL (eVar 2) (aCons (mOp2 fIx (eVar 3) (eC (.int 2))) (aCons (mOp2 fIx (eVar 3) (eC (.int 1))) aNil))))
    sNext)))
theorem parts_in_is (n : Nat) : Wk.B_parts_in Hd.pk (Sn n) = sSeq (sPar 1 2 (aCons (eLst aNil) (aCons (eLst (aCons (eVar 0) aNil)) aNil))) (sSeq (sWhile ptC ptB) (sRet (mCall fTuple (aCons (eVar 1) aNil)))) := rfl
def ptR (v0 : W) (F L : Nat) (o3 : Option W) : Rho := [some v0, some (.ref F), some (.ref L), o3]
section
variable {h : Hw} {F L : Nat} {st fs : List W} {v0 x : W} {o3 : Option W} {n : Nat} {r : SOut × Hw}
theorem pt_head (hL : h[L]? = some (.lst (st ++ [x]))) (hF : h[F]? = some (.lst fs)) (hn : F ≠ L) (hf : fs.length < 1000) (hp : plainW x = true) : ∀ b : Ss, sSeq (sAsg (eMth fPop (eVar 2) aNil) (gNm 3)) (sSeq (sDrop (eMth fApp (eVar 1) (aCons (eVar 3) aNil))) b) (ptR v0 F L o3) h = b (ptR v0 F L (some x)) (stL (stL h L st) F (fs ++ [x])) := fun b => by
  have q : (st ++ [x])[(st ++ [x]).length - 1]? = some x := by simp
  have q2 : (st ++ [x]).dropLast = st := by simp
  have e1 : sAsg (eMth fPop (eVar 2) aNil) (gNm 3) (ptR v0 F L o3) h = some (.nx (ptR v0 F L (some x)), stL h L st) := by simp only [runB, sSeq, sIf, sb, sRet, sDrop, sAsg, sNext, sCnt, sPar, tBl, Mp.tOr, Mp.tAnd, Mp.tNot, tTru, asTru, truW, mOp2, mOp1, mCall, M.bind, M.ret, asBl, up, eVar, eC, eTup, eLst, aCons, aNil, eIf, eAnd, eOr, eNot, eChain, gNm, gTp, gsCons, gsNil, List.set, List.map_cons, List.map_nil, List.length_cons, List.length_nil, List.replicate, List.cons_append, List.nil_append, List.getElem?_cons_zero, List.getElem?_cons_succ, if_true, if_false, reduceIte, Bool.not_true, Bool.not_false, Bool.false_eq_true, Option.map, Nat.reduceAdd, Nat.reduceSub, Nat.reduceLeDiff, sz1, sz2, sz3, sz4, sz5, sz6, sz12, sz0, List.append_nil, eCall, pickL, List.filterMap_cons, List.filterMap_nil, eMth, isLst, lstW, atL, fApp, fPop, eExtL, Option.isSome, and_self, true_and, and_true, ptR, hL, q, q2]
  have hF1 : (stL h L st)[F]? = some (.lst fs) := (List.getElem?_set_ne (Ne.symm hn)).trans hF
  rw [seq_nx e1, seq_nx (drop_app (i := 1) rfl hF1 (show eVar 3 _ _ = some (.ok x, stL h L st) from rfl) hF1 (by omega))]
theorem pt_test (hp : plainW x = true) {g : Hw} : (Mp.tNot (tBl (mCall (fIs Hd.pk.own Hd.pk.sub) (aCons (eVar 3) (aCons (eC (.ty "str")) aNil))))) (ptR v0 F L (some x)) g = some (.ok (!isStr x), g) := by
  have q := is_str (h := g) hp
  simp only [runB, sSeq, sIf, sb, sRet, sDrop, sAsg, sNext, sCnt, sPar, tBl, Mp.tOr, Mp.tAnd, Mp.tNot, tTru, asTru, truW, mOp2, mOp1, mCall, M.bind, M.ret, asBl, up, eVar, eC, eTup, eLst, aCons, aNil, eIf, eAnd, eOr, eNot, eChain, gNm, gTp, gsCons, gsNil, List.set, List.map_cons, List.map_nil, List.length_cons, List.length_nil, List.replicate, List.cons_append, List.nil_append, List.getElem?_cons_zero, List.getElem?_cons_succ, if_true, if_false, reduceIte, Bool.not_true, Bool.not_false, Bool.false_eq_true, Option.map, Nat.reduceAdd, Nat.reduceSub, Nat.reduceLeDiff, sz1, sz2, sz3, sz4, sz5, sz6, sz12, sz0, List.append_nil, eCall, pickL, List.filterMap_cons, List.filterMap_nil, eMth, isLst, lstW, atL, fApp, fPop, eExtL, Option.isSome, and_self, true_and, and_true, ptR, q]
theorem ptP (hn : F ≠ L) : ∀ (s : St), s.ok = true → s.dep ≤ 20 → ∀ (h : Hw) (st : List W) (fs : List St) (o3 : Option W), h[L]? = some (.lst (st ++ [s.w])) → h[F]? = some (.lst (fs.map St.w)) → (∀ z ∈ st, PF z) → fs.length + s.size < 900 → st.length + s.dep < 900 →
    ∃ h' o3', Gr (LP L F) h h' ∧ h'[L]? = some (.lst st) ∧ h'[F]? = some (.lst ((fs ++ s.pre).map St.w)) ∧ ∀ r, Runs ptC ptB (ptR v0 F L o3') h' r → Runs ptC ptB (ptR v0 F L o3) h r
  | .leaf s, ho, _, h, st, fs, o3, hL, hF, K, hf, hs => by
    have hc : ptC (ptR v0 F L o3) h = some (.ok true, nwL h []) := by
      have e := ne_nil (ρ := ptR v0 F L o3) (i := 2) rfl hL (pf_app K (PF.st ho (by show 0 ≤ 20; omega)))
      rw [nb] at e
      exact e
    have hf' : fs.length + 1 < 900 := hf
    have hb : ptB (ptR v0 F L o3) (nwL h []) = some (.nx (ptR v0 F L (some (.str s))), stL (stL (nwL h []) L st) F (fs.map St.w ++ [.str s])) := by
      unfold ptB
      rw [pt_head (x := .str s) (app_at hL) (app_at hF) hn (by rw [List.length_map]; omega) rfl, if_f (pt_test (x := .str s) rfl)]
      rfl
    have hF1 : (stL (nwL h []) L st)[F]? = some (.lst (fs.map St.w)) := (List.getElem?_set_ne (Ne.symm hn)).trans (app_at hF)
    exact ⟨_, some (.str s), (Gr.app _).trans ((Gr.set (.inl (.inl rfl))).trans (Gr.set (.inl (.inr rfl)))), (List.getElem?_set_ne hn).trans (set_at (app_at hL)), by rw [List.map_append]; exact set_at hF1, fun r q => .go hc hb q⟩
  | .node a x y, ho, hd, h, st, fs, o3, hL, hF, K, hf, hs => by
    have ho' : (PyData.strOk a && (x.ok && y.ok)) = true := ho
    simp only [Bool.and_eq_true] at ho'
    have hd' : max x.dep y.dep + 1 ≤ 20 := hd
    have hs' : st.length + (max x.dep y.dep + 1) < 900 := hs
    have hf' : fs.length + (1 + x.size + y.size) < 900 := hf
    have hc : ptC (ptR v0 F L o3) h = some (.ok true, nwL h []) := by
      have e := ne_nil (ρ := ptR v0 F L o3) (i := 2) rfl hL (pf_app K (PF.st ho hd))
      rw [nb] at e
      exact e
    have hF1 : (stL (nwL h []) L st)[F]? = some (.lst (fs.map St.w)) := (List.getElem?_set_ne (Ne.symm hn)).trans (app_at hF)
    have hL1 : (stL (stL (nwL h []) L st) F (fs.map St.w ++ [(St.node a x y).w]))[L]? = some (.lst st) := (List.getElem?_set_ne hn).trans (set_at (app_at hL))
    have hF2 : (stL (stL (nwL h []) L st) F (fs.map St.w ++ [(St.node a x y).w]))[F]? = some (.lst (fs.map St.w ++ [(St.node a x y).w])) := set_at hF1
    have hb : ptB (ptR v0 F L o3) (nwL h []) = some (.nx (ptR v0 F L (some (St.node a x y).w)), stL (stL (stL (nwL h []) L st) F (fs.map St.w ++ [(St.node a x y).w])) L (st ++ [y.w, x.w])) := by
      unfold ptB
      rw [pt_head (x := (St.node a x y).w) (app_at hL) (app_at hF) hn (by rw [List.length_map]; omega) rfl, if_t (pt_test (x := (St.node a x y).w) rfl)]
      exact ext_two (i := 2) (j := 3) rfl rfl hL1 (by omega)
    have hL3 : (stL (stL (stL (nwL h []) L st) F (fs.map St.w ++ [(St.node a x y).w])) L (st ++ [y.w, x.w]))[L]? = some (.lst ((st ++ [y.w]) ++ [x.w])) := by
      rw [List.append_assoc]
      exact set_at hL1
    have hF3 : (stL (stL (stL (nwL h []) L st) F (fs.map St.w ++ [(St.node a x y).w])) L (st ++ [y.w, x.w]))[F]? = some (.lst ((fs ++ [St.node a x y]).map St.w)) := by
      rw [List.map_append]
      exact (List.getElem?_set_ne (Ne.symm hn)).trans hF2
    obtain ⟨h4, p4, g4, hL4, hF4, k4⟩ := ptP hn x ho'.2.1 (by omega) _ (st ++ [y.w]) (fs ++ [St.node a x y]) (some (St.node a x y).w) hL3 hF3 (pf_app K (PF.st ho'.2.2 (by omega))) (by simp; omega) (by simp; omega)
    obtain ⟨h5, p5, g5, hL5, hF5, k5⟩ := ptP hn y ho'.2.2 (by omega) h4 st ((fs ++ [St.node a x y]) ++ x.pre) p4 hL4 hF4 K (by simp [St.pre_len]; omega) (by omega)
    refine ⟨h5, p5, (Gr.app _).trans ((Gr.set (.inl (.inl rfl))).trans ((Gr.set (.inl (.inr rfl))).trans ((Gr.set (.inl (.inl rfl))).trans (g4.trans g5)))), hL5, ?_, fun r q => .go hc hb (k4 r (k5 r q))⟩
    rw [hF5]
    show some (MO.lst (List.map St.w (fs ++ [St.node a x y] ++ x.pre ++ y.pre))) = some (MO.lst (List.map St.w (fs ++ (St.node a x y :: (x.pre ++ y.pre)))))
    simp
end
theorem ev_parts_in (n : Nat) (s : St) (ho : s.ok = true) (hd : s.dep ≤ 20) (hz : s.size ≤ 24) (h : Hw) : ∃ h', Gr no h h' ∧ Sn (n + 1) .parts_in [s.w] h = some (.ok (.tup (s.pre.map St.w)), h') := by
  have hF : (nwL (nwL h []) [s.w])[h.length]? = some (.lst (([] : List St).map St.w)) := app_at new_at
  have hl : (nwL h []).length = h.length + 1 := by simp
  have hL : (nwL (nwL h []) [s.w])[(nwL h []).length]? = some (.lst ([] ++ [s.w])) := new_at
  obtain ⟨h1, o3, g, hL1, hF1, k⟩ := ptP (F := h.length) (L := (nwL h []).length) (v0 := s.w) (by omega) s ho hd _ [] [] none hL hF (fun z hz => nomatch hz) (by show 0 + s.size < 900; omega) (by show 0 + s.dep < 900; omega)
  have hc : ptC (ptR s.w h.length (nwL h []).length o3) h1 = some (.ok false, nwL h1 []) := ne_nil (i := 2) rfl hL1 fun z hz => nomatch hz
  have q := (k _ (.stop hc)).eq
  refine ⟨nwL h1 [], (((Gr.app _).trans (Gr.app _)).back g fun i hi z => by rcases z with z | z <;> omega).trans (Gr.app _), ?_⟩
  show runB Wk.N_parts_in.length (Wk.B_parts_in Hd.pk (Sn n)) [s.w] h = _
  rw [parts_in_is]
  have e1 : sPar 1 2 (aCons (eLst aNil) (aCons (eLst (aCons (eVar 0) aNil)) aNil)) [some s.w, none, none, none] h = some (.nx (ptR s.w h.length (nwL h []).length none), nwL (nwL h []) [s.w]) := by
    simp only [runB, sSeq, sIf, sb, sRet, sDrop, sAsg, sNext, sCnt, sPar, tBl, Mp.tOr, Mp.tAnd, Mp.tNot, tTru, asTru, truW, mOp2, mOp1, mCall, M.bind, M.ret, asBl, up, eVar, eC, eTup, eLst, aCons, aNil, eIf, eAnd, eOr, eNot, eChain, gNm, gTp, gsCons, gsNil, List.set, List.map_cons, List.map_nil, List.length_cons, List.length_nil, List.replicate, List.cons_append, List.nil_append, List.getElem?_cons_zero, List.getElem?_cons_succ, if_true, if_false, reduceIte, Bool.not_true, Bool.not_false, Bool.false_eq_true, Option.map, Nat.reduceAdd, Nat.reduceSub, Nat.reduceLeDiff, sz1, sz2, sz3, sz4, sz5, sz6, sz12, sz0, List.append_nil, eCall, pickL, List.filterMap_cons, List.filterMap_nil, eMth, isLst, lstW, atL, fApp, fPop, eExtL, Option.isSome, and_self, true_and, and_true, ptR]
  have hF2 : (nwL h1 [])[h.length]? = some (.lst (s.pre.map St.w)) := app_at hF1
  have e3 : sRet (mCall fTuple (aCons (eVar 1) aNil)) (ptR s.w h.length (nwL h []).length o3) (nwL h1 []) = some (.rt (.tup (s.pre.map St.w)), nwL h1 []) := by
    simp only [runB, sSeq, sIf, sb, sRet, sDrop, sAsg, sNext, sCnt, sPar, tBl, Mp.tOr, Mp.tAnd, Mp.tNot, tTru, asTru, truW, mOp2, mOp1, mCall, M.bind, M.ret, asBl, up, eVar, eC, eTup, eLst, aCons, aNil, eIf, eAnd, eOr, eNot, eChain, gNm, gTp, gsCons, gsNil, List.set, List.map_cons, List.map_nil, List.length_cons, List.length_nil, List.replicate, List.cons_append, List.nil_append, List.getElem?_cons_zero, List.getElem?_cons_succ, if_true, if_false, reduceIte, Bool.not_true, Bool.not_false, Bool.false_eq_true, Option.map, Nat.reduceAdd, Nat.reduceSub, Nat.reduceLeDiff, sz1, sz2, sz3, sz4, sz5, sz6, sz12, sz0, List.append_nil, eCall, pickL, List.filterMap_cons, List.filterMap_nil, eMth, isLst, lstW, atL, fApp, fPop, eExtL, Option.isSome, and_self, true_and, and_true, ptR, fTuple, seqW, hF2]
  unfold runB
  rw [show (List.map some [s.w] ++ List.replicate (Wk.N_parts_in.length - [s.w].length) none) = [some s.w, none, none, none] from rfl, seq_nx e1, seq_nx q, e3]
end Pl

set_option Elab.async false
set_option linter.all false
set_option autoImplicit false
set_option maxRecDepth 100000
set_option maxHeartbeats 4000000
/-! Pj: is_plain, written, written_one, _law_value. -/
namespace Pl
open PySem PySem.Spec PyProof.Rows L2 Mp
open En
theorem eq_str {s t : Str} (os : PyData.strOk s = true) (ot : PyData.strOk t = true) {g : Hw} : fEq (.str s) (.str t) g = some (.bl (s == t), g) := by
  have e := eqB_fits (h := g) false (fits_str (k := 0) os) (fits_str (k := 0) ot) (by omega) (by omega)
  unfold fEq
  rw [e]
  simp [PyData.eqv]
theorem eq_node {s : St} {a t : Str} {x y : St} (hs : s = .node a x y) (o : s.ok = true) (l : s.dep ≤ 20) (ot : PyData.strOk t = true) {g : Hw} : fEq s.w (.str t) g = some (.bl false, g) := by
  have e := eqB_fits (h := g) false (St.fits o l) (fits_str (k := 0) ot) (by omega) (by omega)
  unfold fEq
  rw [e]
  subst hs
  simp [PyData.eqv, St.d]
/-- what is_plain looks for -/
def St.crook : St → Bool
  | .leaf s => s == "no"
  | .node a _ _ => a == "or"
theorem crook_ev (s : St) (o : s.ok = true) (l : s.dep ≤ 20) (r0 : Option W) (h : Hw) : eOr (mOp2 fEq (eVar 1) (eC (.str "no"))) (eAnd (eNot (mCall (fIs Hd.pk.own Hd.pk.sub) (aCons (eVar 1) (aCons (eC (.ty "str")) aNil)))) (mOp2 fEq (mOp2 fIx (eVar 1) (eC (.int 0))) (eC (.str "or")))) [r0, some s.w] h = some (.ok (.bl s.crook), h) := by
  cases s with
  | leaf s =>
    have q := eq_str (s := s) (t := "no") o (by decide +kernel) (g := h)
    have q2 := is_str (w := .str s) (h := h) rfl
    show eOr _ _ [r0, some (.str s)] h = some (.ok (.bl (s == "no")), h)
    cases c : (s == ("no" : Str)) with
    | true =>
      rw [c] at q
      simp only [runB, sSeq, sIf, sb, sRet, sDrop, sAsg, sNext, sCnt, sPar, tBl, Mp.tOr, Mp.tAnd, Mp.tNot, tTru, asTru, truW, mOp2, mOp1, mCall, M.bind, M.ret, asBl, up, eVar, eC, eTup, eLst, aCons, aNil, eIf, eAnd, eOr, eNot, eChain, gNm, gTp, gsCons, gsNil, List.set, List.map_cons, List.map_nil, List.length_cons, List.length_nil, List.replicate, List.cons_append, List.nil_append, List.getElem?_cons_zero, List.getElem?_cons_succ, if_true, if_false, reduceIte, Bool.not_true, Bool.not_false, Bool.false_eq_true, Option.map, Nat.reduceAdd, Nat.reduceSub, Nat.reduceLeDiff, sz1, sz2, sz3, sz4, sz5, sz6, sz12, sz0, List.append_nil, eCall, pickL, List.filterMap_cons, List.filterMap_nil, eMth, isLst, lstW, atL, fApp, fPop, eExtL, Option.isSome, and_self, true_and, and_true, q]
    | false =>
      rw [c] at q
      simp only [runB, sSeq, sIf, sb, sRet, sDrop, sAsg, sNext, sCnt, sPar, tBl, Mp.tOr, Mp.tAnd, Mp.tNot, tTru, asTru, truW, mOp2, mOp1, mCall, M.bind, M.ret, asBl, up, eVar, eC, eTup, eLst, aCons, aNil, eIf, eAnd, eOr, eNot, eChain, gNm, gTp, gsCons, gsNil, List.set, List.map_cons, List.map_nil, List.length_cons, List.length_nil, List.replicate, List.cons_append, List.nil_append, List.getElem?_cons_zero, List.getElem?_cons_succ, if_true, if_false, reduceIte, Bool.not_true, Bool.not_false, Bool.false_eq_true, Option.map, Nat.reduceAdd, Nat.reduceSub, Nat.reduceLeDiff, sz1, sz2, sz3, sz4, sz5, sz6, sz12, sz0, List.append_nil, eCall, pickL, List.filterMap_cons, List.filterMap_nil, eMth, isLst, lstW, atL, fApp, fPop, eExtL, Option.isSome, and_self, true_and, and_true, q, q2, isStr]
  | node a x y =>
    have o' : (PyData.strOk a && (x.ok && y.ok)) = true := o
    simp only [Bool.and_eq_true] at o'
    have q := eq_node (t := "no") rfl o l (by decide +kernel) (g := h)
    have q2 := is_str (w := (St.node a x y).w) (h := h) rfl
    have q3 := eq_str (s := a) (t := "or") o'.1 (by decide +kernel) (g := h)
    have z : atI [W.str a, x.w, y.w] 0 = some (.str a) := atI_nat (i := 0) rfl
    show eOr _ _ [r0, some (.tup [.str a, x.w, y.w])] h = some (.ok (.bl (a == "or")), h)
    have q' : fEq (.tup [.str a, x.w, y.w]) (.str "no") h = some (.bl false, h) := q
    have q2' : fIs Hd.pk.own Hd.pk.sub [.tup [.str a, x.w, y.w], .ty "str"] h = some (.bl false, h) := q2
    simp only [runB, sSeq, sIf, sb, sRet, sDrop, sAsg, sNext, sCnt, sPar, tBl, Mp.tOr, Mp.tAnd, Mp.tNot, tTru, asTru, truW, mOp2, mOp1, mCall, M.bind, M.ret, asBl, up, eVar, eC, eTup, eLst, aCons, aNil, eIf, eAnd, eOr, eNot, eChain, gNm, gTp, gsCons, gsNil, List.set, List.map_cons, List.map_nil, List.length_cons, List.length_nil, List.replicate, List.cons_append, List.nil_append, List.getElem?_cons_zero, List.getElem?_cons_succ, if_true, if_false, reduceIte, Bool.not_true, Bool.not_false, Bool.false_eq_true, Option.map, Nat.reduceAdd, Nat.reduceSub, Nat.reduceLeDiff, sz1, sz2, sz3, sz4, sz5, sz6, sz12, sz0, List.append_nil, eCall, pickL, List.filterMap_cons, List.filterMap_nil, eMth, isLst, lstW, atL, fApp, fPop, eExtL, Option.isSome, and_self, true_and, and_true, q', q2', fIx, seqW, z, q3]
theorem bls_any : ∀ l : List St, blsW (l.map fun s => W.bl s.crook) = some (l.map St.crook)
  | [] => rfl
  | a :: l => by
    have ih := bls_any l
    show (blsW (l.map fun s => W.bl s.crook)).map (a.crook :: ·) = _
    rw [ih]
    rfl
theorem St.pre_ok : ∀ (s : St), s.ok = true → s.dep ≤ 20 → ∀ t ∈ s.pre, t.ok = true ∧ t.dep ≤ 20
  | .leaf s, o, l, t, ht => by
    rw [List.mem_singleton.mp ht]
    exact ⟨o, l⟩
  | .node a x y, o, l, t, ht => by
    have o' : (PyData.strOk a && (x.ok && y.ok)) = true := o
    simp only [Bool.and_eq_true] at o'
    have l' : max x.dep y.dep + 1 ≤ 20 := l
    rcases List.mem_cons.mp ht with rfl | ht
    · exact ⟨o, l⟩
    · rcases List.mem_append.mp ht with ht | ht
      · exact St.pre_ok x o'.2.1 (by omega) t ht
      · exact St.pre_ok y o'.2.2 (by omega) t ht
theorem lc_map {h : Hw} {i : Nat} {e : Sh} {src : List W} {ρ0 : Rho} {α : Type} {f g : α → W} : ∀ {l : List α}, (∀ x ∈ l, e (List.set ρ0 i (some (f x))) h = some (.ok (g x), h)) → lcL (.its src) (gNm i) tYesM e ρ0 (l.map f) h = some (.ok (l.map g), h)
  | [], _ => by
    unfold lcL
    exact if_pos True.intro
  | x :: l, he => by
    have q := he x List.mem_cons_self
    have r := lc_map (src := src) fun y hy => he y (List.mem_cons_of_mem _ hy)
    unfold lcL
    refine (if_pos True.intro).trans ?_
    simp only [gNm, tYesM, M.bind, M.ret, if_true, q, r, List.map_cons]
def St.plain (s : St) : Bool := !s.pre.any St.crook
theorem ev_is_plain (n : Nat) (s : St) (ho : s.ok = true) (hd : s.dep ≤ 20) (hz : s.size ≤ 24) (h : Hw) : ∃ h', Gr no h h' ∧ Sn (n + 2) .is_plain [s.w] h = some (.ok (.bl s.plain), h') := by
  obtain ⟨h1, g1, e1⟩ := ev_parts_in n s ho hd hz h
  refine ⟨h1, g1, ?_⟩
  show runB Wk.N_is_plain.length (Wk.B_is_plain Hd.pk (Sn (n + 1))) [s.w] h = _
  unfold Wk.B_is_plain
  have lc : lcL (.its (s.pre.map St.w)) (gNm 1) tYesM (eOr (mOp2 fEq (eVar 1) (eC (.str "no"))) (eAnd (eNot (mCall (fIs Hd.pk.own Hd.pk.sub) (aCons (eVar 1) (aCons (eC (.ty "str")) aNil)))) (mOp2 fEq (mOp2 fIx (eVar 1) (eC (.int 0))) (eC (.str "or"))))) (wipeR [some s.w, none] [1]) (s.pre.map St.w) h1 = some (.ok (s.pre.map fun t => W.bl t.crook), h1) := lc_map fun t ht => by
    obtain ⟨o, l⟩ := St.pre_ok s ho hd t ht
    exact crook_ev t o l (some s.w) h1
  have lz : (s.pre.map fun t => W.bl t.crook).length ≤ sizeLine := by rw [List.length_map, St.pre_len, sizeLine_eq]; omega
  have e2 : srcM srcT (eCall (Sn (n + 1) .parts_in) 1 0 [0] [] (aCons (eVar 0) aNil) aNil) [some s.w, none] h = some (.ok (.its (s.pre.map St.w)), h1) := by
    unfold srcM
    simp only [runB, sSeq, sIf, sb, sRet, sDrop, sAsg, sNext, sCnt, sPar, tBl, Mp.tOr, Mp.tAnd, Mp.tNot, tTru, asTru, truW, mOp2, mOp1, mCall, M.bind, M.ret, asBl, up, eVar, eC, eTup, eLst, aCons, aNil, eIf, eAnd, eOr, eNot, eChain, gNm, gTp, gsCons, gsNil, List.set, List.map_cons, List.map_nil, List.length_cons, List.length_nil, List.replicate, List.cons_append, List.nil_append, List.getElem?_cons_zero, List.getElem?_cons_succ, if_true, if_false, reduceIte, Bool.not_true, Bool.not_false, Bool.false_eq_true, Option.map, Nat.reduceAdd, Nat.reduceSub, Nat.reduceLeDiff, sz1, sz2, sz3, sz4, sz5, sz6, sz12, sz0, List.append_nil, eCall, pickL, List.filterMap_cons, List.filterMap_nil, eMth, isLst, lstW, atL, fApp, fPop, eExtL, Option.isSome, and_self, true_and, and_true, e1, srcT]
  have e3 : eFuse cAny (eLcs (srcM srcT (eCall (Sn (n + 1) .parts_in) 1 0 [0] [] (aCons (eVar 0) aNil) aNil)) (gNm 1) tYesM (eOr (mOp2 fEq (eVar 1) (eC (.str "no"))) (eAnd (eNot (mCall (fIs Hd.pk.own Hd.pk.sub) (aCons (eVar 1) (aCons (eC (.ty "str")) aNil)))) (mOp2 fEq (mOp2 fIx (eVar 1) (eC (.int 0))) (eC (.str "or"))))) [1]) [some s.w, none] h = some (.ok (.bl (s.pre.any St.crook)), h1) := by
    unfold eFuse okOnly eLcs
    simp only [M.bind, e2, Src.l, lc, if_pos lz, cAny, bls_any, Option.map, up]
    rw [List.any_map]
    rfl
  unfold runB
  rw [show (List.map some [s.w] ++ List.replicate (Wk.N_is_plain.length - [s.w].length) none) = [some s.w, none] from rfl]
  simp only [runB, sSeq, sIf, sb, sRet, sDrop, sAsg, sNext, sCnt, sPar, tBl, Mp.tOr, Mp.tAnd, Mp.tNot, tTru, asTru, truW, mOp2, mOp1, mCall, M.bind, M.ret, asBl, up, eVar, eC, eTup, eLst, aCons, aNil, eIf, eAnd, eOr, eNot, eChain, gNm, gTp, gsCons, gsNil, List.set, List.map_cons, List.map_nil, List.length_cons, List.length_nil, List.replicate, List.cons_append, List.nil_append, List.getElem?_cons_zero, List.getElem?_cons_succ, if_true, if_false, reduceIte, Bool.not_true, Bool.not_false, Bool.false_eq_true, Option.map, Nat.reduceAdd, Nat.reduceSub, Nat.reduceLeDiff, sz1, sz2, sz3, sz4, sz5, sz6, sz12, sz0, List.append_nil, eCall, pickL, List.filterMap_cons, List.filterMap_nil, eMth, isLst, lstW, atL, fApp, fPop, eExtL, Option.isSome, and_self, true_and, and_true, e3]
  rfl
/-- the written one of a statement -/
def St.out : St → W → W
  | .leaf s, v => if s == "yes" then .str "unit" else .tup [.str "token", .str s, v]
  | .node a x y, v => if a == "gives" then .tup [.str "writer", x.w, y.w, v] else .tup [.str "pair", x.out (.tup [.str "first", v]), y.out (.tup [.str "second", v])]
theorem ok_yes : PyData.strOk "yes" = true := by decide +kernel
theorem ok_and : PyData.strOk "and" = true := by decide +kernel
theorem ok_gives : PyData.strOk "gives" = true := by decide +kernel
/-- and, gives: nothing else -/
def St.two : St → Bool
  | .leaf _ => true
  | .node a x y => (a == "and" || a == "gives") && (x.two && y.two)
theorem ev_value : ∀ (s : St) (k n : Nat), s.ok = true → s.dep ≤ 20 → s.two = true → s.dep ≤ k → ∀ (v : W) (h : Hw), Sn (n + k + 1) ._law_value [s.w, v] h = some (.ok (s.out v), h)
  | .leaf s, k, n, o, l, _, _, v, h => by
    show runB Wk.N__law_value.length (Wk.B__law_value Hd.pk (Sn (n + k))) [.str s, v] h = some (.ok (if s == "yes" then .str "unit" else .tup [.str "token", .str s, v]), h)
    unfold Wk.B__law_value
    have q := eq_str (s := s) (t := "yes") o ok_yes (g := h)
    have q2 := is_str (w := .str s) (h := h) rfl
    cases c : (s == ("yes" : Str)) with
    | true =>
      rw [c] at q
      simp only [runB, sSeq, sIf, sb, sRet, sDrop, sAsg, sNext, sCnt, sPar, tBl, Mp.tOr, Mp.tAnd, Mp.tNot, tTru, asTru, truW, mOp2, mOp1, mCall, M.bind, M.ret, asBl, up, eVar, eC, eTup, eLst, aCons, aNil, eIf, eAnd, eOr, eNot, eChain, gNm, gTp, gsCons, gsNil, List.set, List.map_cons, List.map_nil, List.length_cons, List.length_nil, List.replicate, List.cons_append, List.nil_append, List.getElem?_cons_zero, List.getElem?_cons_succ, if_true, if_false, reduceIte, Bool.not_true, Bool.not_false, Bool.false_eq_true, Option.map, Nat.reduceAdd, Nat.reduceSub, Nat.reduceLeDiff, sz1, sz2, sz3, sz4, sz5, sz6, sz12, sz0, List.append_nil, eCall, pickL, List.filterMap_cons, List.filterMap_nil, eMth, isLst, lstW, atL, fApp, fPop, eExtL, Option.isSome, and_self, true_and, and_true, q]
    | false =>
      rw [c] at q
      simp only [runB, sSeq, sIf, sb, sRet, sDrop, sAsg, sNext, sCnt, sPar, tBl, Mp.tOr, Mp.tAnd, Mp.tNot, tTru, asTru, truW, mOp2, mOp1, mCall, M.bind, M.ret, asBl, up, eVar, eC, eTup, eLst, aCons, aNil, eIf, eAnd, eOr, eNot, eChain, gNm, gTp, gsCons, gsNil, List.set, List.map_cons, List.map_nil, List.length_cons, List.length_nil, List.replicate, List.cons_append, List.nil_append, List.getElem?_cons_zero, List.getElem?_cons_succ, if_true, if_false, reduceIte, Bool.not_true, Bool.not_false, Bool.false_eq_true, Option.map, Nat.reduceAdd, Nat.reduceSub, Nat.reduceLeDiff, sz1, sz2, sz3, sz4, sz5, sz6, sz12, sz0, List.append_nil, eCall, pickL, List.filterMap_cons, List.filterMap_nil, eMth, isLst, lstW, atL, fApp, fPop, eExtL, Option.isSome, and_self, true_and, and_true, q, q2, isStr]
  | .node a x y, 0, n, _, _, _, lk, v, h => by simp [St.dep] at lk
  | .node a x y, k + 1, n, o, l, t, lk, v, h => by
    have o' : (PyData.strOk a && (x.ok && y.ok)) = true := o
    simp only [Bool.and_eq_true] at o'
    have t' : ((a == "and" || a == "gives") && (x.two && y.two)) = true := t
    simp only [Bool.and_eq_true] at t'
    have l' : max x.dep y.dep + 1 ≤ 20 := l
    have lk' : max x.dep y.dep + 1 ≤ k + 1 := lk
    show runB Wk.N__law_value.length (Wk.B__law_value Hd.pk (Sn (n + (k + 1)))) [.tup [.str a, x.w, y.w], v] h = some (.ok (if a == "gives" then .tup [.str "writer", x.w, y.w, v] else .tup [.str "pair", x.out (.tup [.str "first", v]), y.out (.tup [.str "second", v])]), h)
    unfold Wk.B__law_value
    have q : fEq (.tup [.str a, x.w, y.w]) (.str "yes") h = some (.bl false, h) := eq_node (s := .node a x y) rfl o l ok_yes
    have q2 : fIs Hd.pk.own Hd.pk.sub [.tup [.str a, x.w, y.w], .ty "str"] h = some (.bl false, h) := is_str (w := .tup [.str a, x.w, y.w]) rfl
    have q3 := eq_str (s := a) (t := "gives") o'.1 ok_gives (g := h)
    have z0 : atI [W.str a, x.w, y.w] 0 = some (.str a) := atI_nat (i := 0) rfl
    have z1 : atI [W.str a, x.w, y.w] 1 = some x.w := atI_nat (i := 1) rfl
    have z2 : atI [W.str a, x.w, y.w] 2 = some y.w := atI_nat (i := 2) rfl
    have i1 := ev_value x k n o'.2.1 (by omega) t'.2.1 (by omega) (.tup [.str "first", v]) h
    have i2 := ev_value y k n o'.2.2 (by omega) t'.2.2 (by omega) (.tup [.str "second", v]) h
    have i1' : Sn (n + (k + 1)) ._law_value [x.w, .tup [.str "first", v]] h = some (.ok (x.out (.tup [.str "first", v])), h) := i1
    have i2' : Sn (n + (k + 1)) ._law_value [y.w, .tup [.str "second", v]] h = some (.ok (y.out (.tup [.str "second", v])), h) := i2
    cases c : (a == ("gives" : Str)) with
    | true =>
      rw [c] at q3
      simp only [runB, sSeq, sIf, sb, sRet, sDrop, sAsg, sNext, sCnt, sPar, tBl, Mp.tOr, Mp.tAnd, Mp.tNot, tTru, asTru, truW, mOp2, mOp1, mCall, M.bind, M.ret, asBl, up, eVar, eC, eTup, eLst, aCons, aNil, eIf, eAnd, eOr, eNot, eChain, gNm, gTp, gsCons, gsNil, List.set, List.map_cons, List.map_nil, List.length_cons, List.length_nil, List.replicate, List.cons_append, List.nil_append, List.getElem?_cons_zero, List.getElem?_cons_succ, if_true, if_false, reduceIte, Bool.not_true, Bool.not_false, Bool.false_eq_true, Option.map, Nat.reduceAdd, Nat.reduceSub, Nat.reduceLeDiff, sz1, sz2, sz3, sz4, sz5, sz6, sz12, sz0, List.append_nil, eCall, pickL, List.filterMap_cons, List.filterMap_nil, eMth, isLst, lstW, atL, fApp, fPop, eExtL, Option.isSome, and_self, true_and, and_true, q, q2, q3, fIx, seqW, z0, z1, z2]
    | false =>
      rw [c] at q3
      simp only [runB, sSeq, sIf, sb, sRet, sDrop, sAsg, sNext, sCnt, sPar, tBl, Mp.tOr, Mp.tAnd, Mp.tNot, tTru, asTru, truW, mOp2, mOp1, mCall, M.bind, M.ret, asBl, up, eVar, eC, eTup, eLst, aCons, aNil, eIf, eAnd, eOr, eNot, eChain, gNm, gTp, gsCons, gsNil, List.set, List.map_cons, List.map_nil, List.length_cons, List.length_nil, List.replicate, List.cons_append, List.nil_append, List.getElem?_cons_zero, List.getElem?_cons_succ, if_true, if_false, reduceIte, Bool.not_true, Bool.not_false, Bool.false_eq_true, Option.map, Nat.reduceAdd, Nat.reduceSub, Nat.reduceLeDiff, sz1, sz2, sz3, sz4, sz5, sz6, sz12, sz0, List.append_nil, eCall, pickL, List.filterMap_cons, List.filterMap_nil, eMth, isLst, lstW, atL, fApp, fPop, eExtL, Option.isSome, and_self, true_and, and_true, q, q2, q3, fIx, seqW, z0, z1, z2, i1', i2']
end Pl

set_option Elab.async false
set_option linter.all false
set_option autoImplicit false
set_option maxRecDepth 100000
set_option maxHeartbeats 4000000
/-! Pk: written, written_one. -/
namespace Pl
open PySem PySem.Spec PyProof.Rows L2 Mp
open En
theorem ev_step (n : Nat) (a : Str) (v : W) (ρ : Rho) (h : Hw) (e1 : ρ[1]? = some (some v)) (e2 : ρ[2]? = some (some (.glo "row_of"))) : eCallL 2 (Wk.SL_written (Sn (n + 1))) 2 (aCons (eC (.str a)) (aCons (eVar 1) aNil)) ρ h = some (.ok (.tup [.str a, v]), h) := by
  have q := ev_row_of n (.str a) v h
  have z : Wk.SL_written (Sn (n + 1)) "row_of" = some (Sn (n + 1) .row_of) := if_pos rfl
  unfold eCallL
  simp only [runB, sSeq, sIf, sb, sRet, sDrop, sAsg, sNext, sCnt, sPar, tBl, Mp.tOr, Mp.tAnd, Mp.tNot, tTru, asTru, truW, mOp2, mOp1, mCall, M.bind, M.ret, asBl, up, eVar, eC, eTup, eLst, aCons, aNil, eIf, eAnd, eOr, eNot, eChain, gNm, gTp, gsCons, gsNil, List.set, List.map_cons, List.map_nil, List.length_cons, List.length_nil, List.replicate, List.cons_append, List.nil_append, List.getElem?_cons_zero, List.getElem?_cons_succ, if_true, if_false, reduceIte, Bool.not_true, Bool.not_false, Bool.false_eq_true, Option.map, Nat.reduceAdd, Nat.reduceSub, Nat.reduceLeDiff, sz1, sz2, sz3, sz4, sz5, sz6, sz12, sz0, List.append_nil, eCall, pickL, List.filterMap_cons, List.filterMap_nil, eMth, isLst, lstW, atL, fApp, fPop, eExtL, Option.isSome, and_self, true_and, and_true, e1, e2, z, q]
theorem ev_written : ∀ (s : St) (k n : Nat), s.ok = true → s.dep ≤ 20 → s.two = true → s.dep ≤ k → ∀ (v : W) (h : Hw), Sn (n + k + 2) .written [s.w, v, .glo "row_of"] h = some (.ok (s.out v), h)
  | .leaf s, k, n, o, l, _, _, v, h => by
    show runB Wk.N_written.length (Wk.B_written Hd.pk (Sn (n + k + 1))) [.str s, v, .glo "row_of"] h = some (.ok (if s == "yes" then .str "unit" else .tup [.str "token", .str s, v]), h)
    unfold Wk.B_written
    have q := eq_str (s := s) (t := "yes") o ok_yes (g := h)
    have q2 := is_str (w := .str s) (h := h) rfl
    cases c : (s == ("yes" : Str)) with
    | true =>
      rw [c] at q
      simp only [runB, sSeq, sIf, sb, sRet, sDrop, sAsg, sNext, sCnt, sPar, tBl, Mp.tOr, Mp.tAnd, Mp.tNot, tTru, asTru, truW, mOp2, mOp1, mCall, M.bind, M.ret, asBl, up, eVar, eC, eTup, eLst, aCons, aNil, eIf, eAnd, eOr, eNot, eChain, gNm, gTp, gsCons, gsNil, List.set, List.map_cons, List.map_nil, List.length_cons, List.length_nil, List.replicate, List.cons_append, List.nil_append, List.getElem?_cons_zero, List.getElem?_cons_succ, if_true, if_false, reduceIte, Bool.not_true, Bool.not_false, Bool.false_eq_true, Option.map, Nat.reduceAdd, Nat.reduceSub, Nat.reduceLeDiff, sz1, sz2, sz3, sz4, sz5, sz6, sz12, sz0, List.append_nil, eCall, pickL, List.filterMap_cons, List.filterMap_nil, eMth, isLst, lstW, atL, fApp, fPop, eExtL, Option.isSome, and_self, true_and, and_true, q]
    | false =>
      rw [c] at q
      simp only [runB, sSeq, sIf, sb, sRet, sDrop, sAsg, sNext, sCnt, sPar, tBl, Mp.tOr, Mp.tAnd, Mp.tNot, tTru, asTru, truW, mOp2, mOp1, mCall, M.bind, M.ret, asBl, up, eVar, eC, eTup, eLst, aCons, aNil, eIf, eAnd, eOr, eNot, eChain, gNm, gTp, gsCons, gsNil, List.set, List.map_cons, List.map_nil, List.length_cons, List.length_nil, List.replicate, List.cons_append, List.nil_append, List.getElem?_cons_zero, List.getElem?_cons_succ, if_true, if_false, reduceIte, Bool.not_true, Bool.not_false, Bool.false_eq_true, Option.map, Nat.reduceAdd, Nat.reduceSub, Nat.reduceLeDiff, sz1, sz2, sz3, sz4, sz5, sz6, sz12, sz0, List.append_nil, eCall, pickL, List.filterMap_cons, List.filterMap_nil, eMth, isLst, lstW, atL, fApp, fPop, eExtL, Option.isSome, and_self, true_and, and_true, q, q2, isStr]
  | .node a x y, 0, n, _, _, _, lk, v, h => by simp [St.dep] at lk
  | .node a x y, k + 1, n, o, l, t, lk, v, h => by
    have o' : (PyData.strOk a && (x.ok && y.ok)) = true := o
    simp only [Bool.and_eq_true] at o'
    have t' : ((a == "and" || a == "gives") && (x.two && y.two)) = true := t
    simp only [Bool.and_eq_true] at t'
    have l' : max x.dep y.dep + 1 ≤ 20 := l
    have lk' : max x.dep y.dep + 1 ≤ k + 1 := lk
    show runB Wk.N_written.length (Wk.B_written Hd.pk (Sn (n + (k + 1) + 1))) [.tup [.str a, x.w, y.w], v, .glo "row_of"] h = some (.ok (if a == "gives" then .tup [.str "writer", x.w, y.w, v] else .tup [.str "pair", x.out (.tup [.str "first", v]), y.out (.tup [.str "second", v])]), h)
    unfold Wk.B_written
    have q : fEq (.tup [.str a, x.w, y.w]) (.str "yes") h = some (.bl false, h) := eq_node (s := .node a x y) rfl o l ok_yes
    have q2 : fIs Hd.pk.own Hd.pk.sub [.tup [.str a, x.w, y.w], .ty "str"] h = some (.bl false, h) := is_str (w := .tup [.str a, x.w, y.w]) rfl
    have q3 := eq_str (s := a) (t := "and") o'.1 ok_and (g := h)
    have i1 : Sn (n + (k + 1) + 1) .written [x.w, .tup [.str "first", v], .glo "row_of"] h = some (.ok (x.out (.tup [.str "first", v])), h) := ev_written x k n o'.2.1 (by omega) t'.2.1 (by omega) (.tup [.str "first", v]) h
    have i2 : Sn (n + (k + 1) + 1) .written [y.w, .tup [.str "second", v], .glo "row_of"] h = some (.ok (y.out (.tup [.str "second", v])), h) := ev_written y k n o'.2.2 (by omega) t'.2.2 (by omega) (.tup [.str "second", v]) h
    have s1 := fun ρ e1 e2 => ev_step (n + (k + 1)) "first" v ρ h e1 e2
    have s2 := fun ρ e1 e2 => ev_step (n + (k + 1)) "second" v ρ h e1 e2
    have s1' := s1 [some (.tup [.str a, x.w, y.w]), some v, some (.glo "row_of"), some (.str a), some x.w, some y.w, none, none] rfl rfl
    have s2' := s2 [some (.tup [.str a, x.w, y.w]), some v, some (.glo "row_of"), some (.str a), some x.w, some y.w, none, none] rfl rfl
    have z3 : (3 : Nat) = 3 := rfl
    cases c : (a == ("and" : Str)) with
    | true =>
      rw [c] at q3
      have ng : (a == ("gives" : Str)) = false := by
        rw [beq_iff_eq.mp c]
        decide +kernel
      rw [ng]
      simp only [runB, sSeq, sIf, sb, sRet, sDrop, sAsg, sNext, sCnt, sPar, tBl, Mp.tOr, Mp.tAnd, Mp.tNot, tTru, asTru, truW, mOp2, mOp1, mCall, M.bind, M.ret, asBl, up, eVar, eC, eTup, eLst, aCons, aNil, eIf, eAnd, eOr, eNot, eChain, gNm, gTp, gsCons, gsNil, List.set, List.map_cons, List.map_nil, List.length_cons, List.length_nil, List.replicate, List.cons_append, List.nil_append, List.getElem?_cons_zero, List.getElem?_cons_succ, if_true, if_false, reduceIte, Bool.not_true, Bool.not_false, Bool.false_eq_true, Option.map, Nat.reduceAdd, Nat.reduceSub, Nat.reduceLeDiff, sz1, sz2, sz3, sz4, sz5, sz6, sz12, sz0, List.append_nil, eCall, pickL, List.filterMap_cons, List.filterMap_nil, eMth, isLst, lstW, atL, fApp, fPop, eExtL, Option.isSome, and_self, true_and, and_true, q, q2, isStr, q3, s1', s2', i1, i2]
    | false =>
      have g : (a == ("gives" : Str)) = true := by
        have z := t'.1
        rw [c] at z
        exact z
      rw [c] at q3
      rw [g]
      simp only [runB, sSeq, sIf, sb, sRet, sDrop, sAsg, sNext, sCnt, sPar, tBl, Mp.tOr, Mp.tAnd, Mp.tNot, tTru, asTru, truW, mOp2, mOp1, mCall, M.bind, M.ret, asBl, up, eVar, eC, eTup, eLst, aCons, aNil, eIf, eAnd, eOr, eNot, eChain, gNm, gTp, gsCons, gsNil, List.set, List.map_cons, List.map_nil, List.length_cons, List.length_nil, List.replicate, List.cons_append, List.nil_append, List.getElem?_cons_zero, List.getElem?_cons_succ, if_true, if_false, reduceIte, Bool.not_true, Bool.not_false, Bool.false_eq_true, Option.map, Nat.reduceAdd, Nat.reduceSub, Nat.reduceLeDiff, sz1, sz2, sz3, sz4, sz5, sz6, sz12, sz0, List.append_nil, eCall, pickL, List.filterMap_cons, List.filterMap_nil, eMth, isLst, lstW, atL, fApp, fPop, eExtL, Option.isSome, and_self, true_and, and_true, q, q2, q3]
/-- statements that the law draws, or that are crooked -/
structure Ok (s : St) : Prop where
  ok : s.ok = true
  dep : s.dep ≤ 10
  good : s.good = true
  size : s.size ≤ 24
theorem ev_one_good (n : Nat) (s : St) (o : Ok s) (t : s.two = true) (hp : s.plain = true) (v : W) (h : Hw) : ∃ h', Gr no h h' ∧ Sn (n + 31) .written_one [s.w, v] h = some (.ok (s.out v), h') := by
  have d20 : s.dep ≤ 20 := Nat.le_trans o.dep (by omega)
  obtain ⟨h1, g1, e1⟩ := ev_si_good (n + 26) s o.ok d20 o.good o.size h
  have e1' : Sn (n + 30) .need_statement [s.w, .str "statement"] h = some (.ok s.w, h1) := ev_need_good e1
  obtain ⟨h2, g2, e2⟩ := ev_is_plain (n + 28) s o.ok d20 o.size h1
  obtain ⟨h3, g3, e3⟩ := ev_fixed (n + 28) s o.ok d20 h2
  have e2' : Sn (n + 30) .is_plain [s.w] h1 = some (.ok (.bl true), h2) := by rw [hp] at e2; exact e2
  have e3' : Sn (n + 30) .fixed [s.w] h2 = some (.ok s.w, h3) := e3
  have e4 : Sn (n + 30) .written [s.w, v, .glo "row_of"] h3 = some (.ok (s.out v), h3) := ev_written s 10 (n + 18) o.ok d20 t o.dep v h3
  refine ⟨h3, g1.trans (g2.trans g3), ?_⟩
  show runB Wk.N_written_one.length (Wk.B_written_one Hd.pk (Sn (n + 30))) [s.w, v] h = _
  unfold Wk.B_written_one
  simp only [runB, sSeq, sIf, sb, sRet, sDrop, sAsg, sNext, sCnt, sPar, tBl, Mp.tOr, Mp.tAnd, Mp.tNot, tTru, asTru, truW, mOp2, mOp1, mCall, M.bind, M.ret, asBl, up, eVar, eC, eTup, eLst, aCons, aNil, eIf, eAnd, eOr, eNot, eChain, gNm, gTp, gsCons, gsNil, List.set, List.map_cons, List.map_nil, List.length_cons, List.length_nil, List.replicate, List.cons_append, List.nil_append, List.getElem?_cons_zero, List.getElem?_cons_succ, if_true, if_false, reduceIte, Bool.not_true, Bool.not_false, Bool.false_eq_true, Option.map, Nat.reduceAdd, Nat.reduceSub, Nat.reduceLeDiff, sz1, sz2, sz3, sz4, sz5, sz6, sz12, sz0, List.append_nil, eCall, pickL, List.filterMap_cons, List.filterMap_nil, eMth, isLst, lstW, atL, fApp, fPop, eExtL, Option.isSome, and_self, true_and, and_true, e1', e2', e3', e4]
theorem ev_one_crook (n : Nat) (s : St) (o : Ok s) (hp : s.plain = false) (v : W) (h : Hw) : ∃ h', Gr no h h' ∧ Sn (n + 31) .written_one [s.w, v] h = some (.exc ⟨"Misfit", [("part", .str "statement")]⟩, h') := by
  have d20 : s.dep ≤ 20 := Nat.le_trans o.dep (by omega)
  obtain ⟨h1, g1, e1⟩ := ev_si_good (n + 26) s o.ok d20 o.good o.size h
  have e1' : Sn (n + 30) .need_statement [s.w, .str "statement"] h = some (.ok s.w, h1) := ev_need_good e1
  obtain ⟨h2, g2, e2⟩ := ev_is_plain (n + 28) s o.ok d20 o.size h1
  have e2' : Sn (n + 30) .is_plain [s.w] h1 = some (.ok (.bl false), h2) := by rw [hp] at e2; exact e2
  refine ⟨h2, g1.trans g2, ?_⟩
  show runB Wk.N_written_one.length (Wk.B_written_one Hd.pk (Sn (n + 30))) [s.w, v] h = _
  unfold Wk.B_written_one
  simp only [runB, sSeq, sIf, sb, sRet, sDrop, sAsg, sNext, sCnt, sPar, tBl, Mp.tOr, Mp.tAnd, Mp.tNot, tTru, asTru, truW, mOp2, mOp1, mCall, M.bind, M.ret, asBl, up, eVar, eC, eTup, eLst, aCons, aNil, eIf, eAnd, eOr, eNot, eChain, gNm, gTp, gsCons, gsNil, List.set, List.map_cons, List.map_nil, List.length_cons, List.length_nil, List.replicate, List.cons_append, List.nil_append, List.getElem?_cons_zero, List.getElem?_cons_succ, if_true, if_false, reduceIte, Bool.not_true, Bool.not_false, Bool.false_eq_true, Option.map, Nat.reduceAdd, Nat.reduceSub, Nat.reduceLeDiff, sz1, sz2, sz3, sz4, sz5, sz6, sz12, sz0, List.append_nil, eCall, pickL, List.filterMap_cons, List.filterMap_nil, eMth, isLst, lstW, atL, fApp, fPop, eExtL, Option.isSome, and_self, true_and, and_true, e1', e2', sRaise]
theorem ev_one_bad (n : Nat) (x : W) (v : W) (h : Hw) (hb : ∃ h', Gr no h h' ∧ Sn (n + 29) .statement_in [x] h = some (.ok .non, h')) : ∃ h', Gr no h h' ∧ Sn (n + 31) .written_one [x, v] h = some (.exc ⟨"BadStatement", [("part", .str "statement")]⟩, h') := by
  obtain ⟨h1, g1, e1⟩ := hb
  have e1' : Sn (n + 30) .need_statement [x, .str "statement"] h = some (.exc ⟨"BadStatement", [("part", .str "statement")]⟩, h1) := ev_need_bad e1
  refine ⟨h1, g1, ?_⟩
  show runB Wk.N_written_one.length (Wk.B_written_one Hd.pk (Sn (n + 30))) [x, v] h = _
  unfold Wk.B_written_one
  simp only [runB, sSeq, sIf, sb, sRet, sDrop, sAsg, sNext, sCnt, sPar, tBl, Mp.tOr, Mp.tAnd, Mp.tNot, tTru, asTru, truW, mOp2, mOp1, mCall, M.bind, M.ret, asBl, up, eVar, eC, eTup, eLst, aCons, aNil, eIf, eAnd, eOr, eNot, eChain, gNm, gTp, gsCons, gsNil, List.set, List.map_cons, List.map_nil, List.length_cons, List.length_nil, List.replicate, List.cons_append, List.nil_append, List.getElem?_cons_zero, List.getElem?_cons_succ, if_true, if_false, reduceIte, Bool.not_true, Bool.not_false, Bool.false_eq_true, Option.map, Nat.reduceAdd, Nat.reduceSub, Nat.reduceLeDiff, sz1, sz2, sz3, sz4, sz5, sz6, sz12, sz0, List.append_nil, eCall, pickL, List.filterMap_cons, List.filterMap_nil, eMth, isLst, lstW, atL, fApp, fPop, eExtL, Option.isSome, and_self, true_and, and_true, e1']
end Pl

set_option Elab.async false
set_option linter.all false
set_option autoImplicit false
set_option maxRecDepth 100000
set_option maxHeartbeats 4000000
/-! Pm: draws. -/
namespace Pl
open PySem PySem.Spec PyProof.Rows L2 Mp
open En
section
variable {i j : Int} {g : Hw}
theorem add_ev : fAdd (.int i) (.int j) g = some (.int (i + j), g) := rfl
theorem sub_ev : fSub (.int i) (.int j) g = some (.int (i - j), g) := by unfold fSub fI; exact if_pos True.intro
theorem lt_ev : fLt (.int i) (.int j) g = some (.bl (decide (i < j)), g) := by unfold fLt fI; exact if_pos True.intro
theorem gt_ev : fGt (.int i) (.int j) g = some (.bl (decide (j < i)), g) := by unfold fGt fI; exact if_pos True.intro
theorem ge_ev : fGe (.int i) (.int j) g = some (.bl (decide (j ≤ i)), g) := by unfold fGe fI; exact if_pos True.intro
theorem mul_ev (c : CMul i j) : fMul (.int i) (.int j) g = some (.int (i * j), g) := by unfold fMul fI; exact if_pos c
theorem mod_ev (c : 0 < j) : fMod (.int i) (.int j) g = some (.int (i % j), g) := by unfold fMod fI; exact if_pos c
theorem div_ev (c : CDiv i j) : fDiv (.int i) (.int j) g = some (.int (i / j), g) := by unfold fDiv fI; exact if_pos c
theorem pow_ev (c : CPow i j) : fPow (.int i) (.int j) g = some (.int (i ^ j.toNat), g) := by unfold fPow fI; exact if_pos c
end
/-- what draws: cells, the next one's index, what is left -/
def Pen (h : Hw) (p t : Nat) : Prop := ∃ (q : Nat) (cells : List Int) (k gr : Int), h[p]? = some (.lst [.ref q, .int k, .int gr]) ∧ h[q]? = some (.lst (cells.map W.int)) ∧ q ≠ p ∧ 0 ≤ k ∧ k ≤ t ∧ cells.length ≤ 1000
theorem Pen.le {h : Hw} {p t u : Nat} (a : Pen h p t) (l : t ≤ u) : Pen h p u := by
  obtain ⟨q, cells, k, gr, h1, h2, h3, h4, h5, h6⟩ := a
  exact ⟨q, cells, k, gr, h1, h2, h3, h4, by omega, h6⟩
theorem Pen.gr {h h' : Hw} {p t : Nat} (a : Pen h p t) (g : Gr no h h') : Pen h' p t := by
  obtain ⟨q, cells, k, gr, h1, h2, h3, h4, h5, h6⟩ := a
  exact ⟨q, cells, k, gr, g.at_ h1 id, g.at_ h2 id, h3, h4, h5, h6⟩
theorem ints_fit (g : Hw) : ∀ l : List Int, ∃ ds, FitsL g 22 (l.map W.int) ds
  | [] => ⟨_, fitsL_nil⟩
  | i :: l => let ⟨_, e⟩ := ints_fit g l; ⟨_, .cons fits_int e⟩
theorem set_ix {ρ : Rho} {p i : Nat} {l : List W} {e : Sh} {w : W} {h : Hw} (h0 : ρ[0]? = some (some (.ref p))) (hp : h[p]? = some (.lst l)) (he : e ρ h = some (.ok w, h)) (hi : i < l.length) : sAsg e (gIx (eVar 0) (eC (.int (i : Int)))) ρ h = some (.nx ρ, stL h p (l.set i w)) := by
  have z : ixN l.length (i : Int) = some i := by
    unfold ixN
    rw [if_pos (by omega), if_pos (by omega)]
    simp
  simp only [runB, sSeq, sIf, sb, sRet, sDrop, sAsg, sNext, sCnt, sPar, tBl, Mp.tOr, Mp.tAnd, Mp.tNot, tTru, asTru, truW, mOp2, mOp1, mCall, M.bind, M.ret, asBl, up, eVar, eC, eTup, eLst, aCons, aNil, eIf, eAnd, eOr, eNot, eChain, gNm, gTp, gsCons, gsNil, List.set, List.map_cons, List.map_nil, List.length_cons, List.length_nil, List.replicate, List.cons_append, List.nil_append, List.getElem?_cons_zero, List.getElem?_cons_succ, if_true, if_false, reduceIte, Bool.not_true, Bool.not_false, Bool.false_eq_true, Option.map, Nat.reduceAdd, Nat.reduceSub, Nat.reduceLeDiff, sz1, sz2, sz3, sz4, sz5, sz6, sz12, sz0, List.append_nil, eCall, pickL, List.filterMap_cons, List.filterMap_nil, eMth, isLst, lstW, atL, fApp, fPop, eExtL, Option.isSome, and_self, true_and, and_true, he, gIx, h0, hp, z]
theorem get_ix {ρ : Rho} {p i : Nat} {l : List W} {w : W} {h : Hw} (h0 : ρ[0]? = some (some (.ref p))) (hp : h[p]? = some (.lst l)) (hi : l[i]? = some w) : mOp2 fIx (eVar 0) (eC (.int (i : Int))) ρ h = some (.ok w, h) := by
  have z := atI_nat hi
  simp only [runB, sSeq, sIf, sb, sRet, sDrop, sAsg, sNext, sCnt, sPar, tBl, Mp.tOr, Mp.tAnd, Mp.tNot, tTru, asTru, truW, mOp2, mOp1, mCall, M.bind, M.ret, asBl, up, eVar, eC, eTup, eLst, aCons, aNil, eIf, eAnd, eOr, eNot, eChain, gNm, gTp, gsCons, gsNil, List.set, List.map_cons, List.map_nil, List.length_cons, List.length_nil, List.replicate, List.cons_append, List.nil_append, List.getElem?_cons_zero, List.getElem?_cons_succ, if_true, if_false, reduceIte, Bool.not_true, Bool.not_false, Bool.false_eq_true, Option.map, Nat.reduceAdd, Nat.reduceSub, Nat.reduceLeDiff, sz1, sz2, sz3, sz4, sz5, sz6, sz12, sz0, List.append_nil, eCall, pickL, List.filterMap_cons, List.filterMap_nil, eMth, isLst, lstW, atL, fApp, fPop, eExtL, Option.isSome, and_self, true_and, and_true, h0, hp, fIx, seqW, z]
theorem at_ints {l : List Int} {i : Int} (a : 0 ≤ i) (b : i < (l.length : Int)) : ∃ v, atI (l.map W.int) i = some (.int v) := by
  obtain ⟨j, rfl⟩ := Int.eq_ofNat_of_zero_le a
  have hj : j < l.length := by omega
  exact ⟨l[j], atI_nat (by rw [List.getElem?_map, List.getElem?_eq_getElem hj]; rfl)⟩
theorem ev_draw (n : Nat) {h : Hw} {p t : Nat} {many : Int} (P : Pen h p t) (ht : t ≤ 10000) (hm : 0 < many) (hm2 : many < 1000000) : ∃ h' d, 0 ≤ d ∧ d < many ∧ Gr (fun i => i = p) h h' ∧ Pen h' p (t + 1) ∧ Sn (n + 1) ._law_draw [.ref p, .int many] h = some (.ok (.int d), h') := by
  obtain ⟨q, cells, k, gr, hp, hq, hn, k0, kt, hc⟩ := P
  have cd : ∀ i : Int, CDiv i many := fun i => ⟨hm, by omega⟩
  have b1 := Int.emod_nonneg gr (show many ≠ 0 by omega)
  have b2 := Int.emod_lt_of_pos gr hm
  have x0 : ∀ ρ : Rho, ρ[0]? = some (some (.ref p)) → mOp2 fIx (eVar 0) (eC (.int 2)) ρ h = some (.ok (.int gr), h) := fun ρ e => get_ix (i := 2) e hp rfl
  by_cases c : 0 < gr
  · refine ⟨stL h p [.ref q, .int k, .int (gr / many)], gr % many, b1, b2, gsL, ⟨q, cells, k, gr / many, set_at hp, (List.getElem?_set_ne (Ne.symm hn)).trans hq, hn, k0, by omega, hc⟩, ?_⟩
    show runB Wk.N__law_draw.length (Wk.B__law_draw Hd.pk (Sn n)) [.ref p, .int many] h = _
    unfold Wk.B__law_draw runB
    rw [show (List.map some [W.ref p, W.int many] ++ List.replicate (Wk.N__law_draw.length - [W.ref p, W.int many].length) none) = [some (.ref p), some (.int many), none, none, none, none, none] from rfl]
    have e0 : (tBl (mOp2 fGt (mOp2 fIx (eVar 0) (eC (.int 2))) (eC (.int 0)))) [some (.ref p), some (.int many), none, none, none, none, none] h = some (.ok true, h) := by
      have z := atI_nat (l := [W.ref q, W.int k, W.int gr]) (i := 2) rfl
      have z' : atI [W.ref q, W.int k, W.int gr] 2 = some (.int gr) := z
      simp only [runB, sSeq, sIf, sb, sRet, sDrop, sAsg, sNext, sCnt, sPar, tBl, Mp.tOr, Mp.tAnd, Mp.tNot, tTru, asTru, truW, mOp2, mOp1, mCall, M.bind, M.ret, asBl, up, eVar, eC, eTup, eLst, aCons, aNil, eIf, eAnd, eOr, eNot, eChain, gNm, gTp, gsCons, gsNil, List.set, List.map_cons, List.map_nil, List.length_cons, List.length_nil, List.replicate, List.cons_append, List.nil_append, List.getElem?_cons_zero, List.getElem?_cons_succ, if_true, if_false, reduceIte, Bool.not_true, Bool.not_false, Bool.false_eq_true, Option.map, Nat.reduceAdd, Nat.reduceSub, Nat.reduceLeDiff, sz1, sz2, sz3, sz4, sz5, sz6, sz12, sz0, List.append_nil, eCall, pickL, List.filterMap_cons, List.filterMap_nil, eMth, isLst, lstW, atL, fApp, fPop, eExtL, Option.isSome, and_self, true_and, and_true, hp, fIx, seqW, z', gt_ev, decide_eq_true c]
    have e1 : sAsg (mOp2 fMod (mCall fInt (aCons (mOp2 fIx (eVar 0) (eC (.int 2))) aNil)) (eVar 1)) (gNm 2) [some (.ref p), some (.int many), none, none, none, none, none] h = some (.nx [some (.ref p), some (.int many), some (.int (gr % many)), none, none, none, none], h) := by
      have z' : atI [W.ref q, W.int k, W.int gr] 2 = some (.int gr) := atI_nat (l := [W.ref q, W.int k, W.int gr]) (i := 2) rfl
      simp only [runB, sSeq, sIf, sb, sRet, sDrop, sAsg, sNext, sCnt, sPar, tBl, Mp.tOr, Mp.tAnd, Mp.tNot, tTru, asTru, truW, mOp2, mOp1, mCall, M.bind, M.ret, asBl, up, eVar, eC, eTup, eLst, aCons, aNil, eIf, eAnd, eOr, eNot, eChain, gNm, gTp, gsCons, gsNil, List.set, List.map_cons, List.map_nil, List.length_cons, List.length_nil, List.replicate, List.cons_append, List.nil_append, List.getElem?_cons_zero, List.getElem?_cons_succ, if_true, if_false, reduceIte, Bool.not_true, Bool.not_false, Bool.false_eq_true, Option.map, Nat.reduceAdd, Nat.reduceSub, Nat.reduceLeDiff, sz1, sz2, sz3, sz4, sz5, sz6, sz12, sz0, List.append_nil, eCall, pickL, List.filterMap_cons, List.filterMap_nil, eMth, isLst, lstW, atL, fApp, fPop, eExtL, Option.isSome, and_self, true_and, and_true, hp, fIx, seqW, z', fInt, mod_ev hm]
    have e2 : sAsg (mOp2 fDiv (mCall fInt (aCons (mOp2 fIx (eVar 0) (eC (.int 2))) aNil)) (eVar 1)) (gIx (eVar 0) (eC (.int 2))) [some (.ref p), some (.int many), some (.int (gr % many)), none, none, none, none] h = some (.nx [some (.ref p), some (.int many), some (.int (gr % many)), none, none, none, none], stL h p [.ref q, .int k, .int (gr / many)]) := set_ix (i := 2) rfl hp (by
      have z' : atI [W.ref q, W.int k, W.int gr] 2 = some (.int gr) := atI_nat (l := [W.ref q, W.int k, W.int gr]) (i := 2) rfl
      simp only [runB, sSeq, sIf, sb, sRet, sDrop, sAsg, sNext, sCnt, sPar, tBl, Mp.tOr, Mp.tAnd, Mp.tNot, tTru, asTru, truW, mOp2, mOp1, mCall, M.bind, M.ret, asBl, up, eVar, eC, eTup, eLst, aCons, aNil, eIf, eAnd, eOr, eNot, eChain, gNm, gTp, gsCons, gsNil, List.set, List.map_cons, List.map_nil, List.length_cons, List.length_nil, List.replicate, List.cons_append, List.nil_append, List.getElem?_cons_zero, List.getElem?_cons_succ, if_true, if_false, reduceIte, Bool.not_true, Bool.not_false, Bool.false_eq_true, Option.map, Nat.reduceAdd, Nat.reduceSub, Nat.reduceLeDiff, sz1, sz2, sz3, sz4, sz5, sz6, sz12, sz0, List.append_nil, eCall, pickL, List.filterMap_cons, List.filterMap_nil, eMth, isLst, lstW, atL, fApp, fPop, eExtL, Option.isSome, and_self, true_and, and_true, hp, fIx, seqW, z', fInt, div_ev (cd gr)]) (by show 2 < 3; omega)
    rw [seq_rt ((if_t e0).trans ((seq_nx e1).trans ((seq_nx e2).trans rfl)))]
  · obtain ⟨h1, hh1⟩ : ∃ g, g = stL h p [.ref q, .int (k + 1), .int gr] := ⟨_, rfl⟩
    have hp1 : h1[p]? = some (.lst [.ref q, .int (k + 1), .int gr]) := by rw [hh1]; exact set_at hp
    have hq1 : h1[q]? = some (.lst (cells.map W.int)) := by rw [hh1]; exact (List.getElem?_set_ne (Ne.symm hn)).trans hq
    have g1 : Gr (fun i => i = p) h h1 := by rw [hh1]; exact gsL
    obtain ⟨h2, hh2⟩ : ∃ g, g = nwL h1 [] := ⟨_, rfl⟩
    have hp2 : h2[p]? = some (.lst [.ref q, .int (k + 1), .int gr]) := by rw [hh2]; exact app_at hp1
    have hq2 : h2[q]? = some (.lst (cells.map W.int)) := by rw [hh2]; exact app_at hq1
    have g2 : Gr (fun i => i = p) h h2 := by rw [hh2]; exact g1.trans (Gr.app _)
    have k1 : k ≤ 10000 := by omega
    have z0 : atI [W.ref q, W.int k, W.int gr] 2 = some (.int gr) := atI_nat (l := [W.ref q, W.int k, W.int gr]) (i := 2) rfl
    have z1 : atI [W.ref q, W.int k, W.int gr] 1 = some (.int k) := atI_nat (l := [W.ref q, W.int k, W.int gr]) (i := 1) rfl
    have z2 : atI [W.ref q, W.int (k + 1), W.int gr] 0 = some (.ref q) := atI_nat (l := [W.ref q, W.int (k + 1), W.int gr]) (i := 0) rfl
    have e0 : (tBl (mOp2 fGt (mOp2 fIx (eVar 0) (eC (.int 2))) (eC (.int 0)))) [some (.ref p), some (.int many), none, none, none, none, none] h = some (.ok false, h) := by
      simp only [runB, sSeq, sIf, sb, sRet, sDrop, sAsg, sNext, sCnt, sPar, tBl, Mp.tOr, Mp.tAnd, Mp.tNot, tTru, asTru, truW, mOp2, mOp1, mCall, M.bind, M.ret, asBl, up, eVar, eC, eTup, eLst, aCons, aNil, eIf, eAnd, eOr, eNot, eChain, gNm, gTp, gsCons, gsNil, List.set, List.map_cons, List.map_nil, List.length_cons, List.length_nil, List.replicate, List.cons_append, List.nil_append, List.getElem?_cons_zero, List.getElem?_cons_succ, if_true, if_false, reduceIte, Bool.not_true, Bool.not_false, Bool.false_eq_true, Option.map, Nat.reduceAdd, Nat.reduceSub, Nat.reduceLeDiff, sz1, sz2, sz3, sz4, sz5, sz6, sz12, sz0, List.append_nil, eCall, pickL, List.filterMap_cons, List.filterMap_nil, eMth, isLst, lstW, atL, fApp, fPop, eExtL, Option.isSome, and_self, true_and, and_true, hp, fIx, seqW, z0, gt_ev, decide_eq_false c]
    have e1 : sAsg (mOp2 fIx (eVar 0) (eC (.int 1))) (gNm 3) [some (.ref p), some (.int many), none, none, none, none, none] h = some (.nx [some (.ref p), some (.int many), none, some (.int k), none, none, none], h) := by
      simp only [runB, sSeq, sIf, sb, sRet, sDrop, sAsg, sNext, sCnt, sPar, tBl, Mp.tOr, Mp.tAnd, Mp.tNot, tTru, asTru, truW, mOp2, mOp1, mCall, M.bind, M.ret, asBl, up, eVar, eC, eTup, eLst, aCons, aNil, eIf, eAnd, eOr, eNot, eChain, gNm, gTp, gsCons, gsNil, List.set, List.map_cons, List.map_nil, List.length_cons, List.length_nil, List.replicate, List.cons_append, List.nil_append, List.getElem?_cons_zero, List.getElem?_cons_succ, if_true, if_false, reduceIte, Bool.not_true, Bool.not_false, Bool.false_eq_true, Option.map, Nat.reduceAdd, Nat.reduceSub, Nat.reduceLeDiff, sz1, sz2, sz3, sz4, sz5, sz6, sz12, sz0, List.append_nil, eCall, pickL, List.filterMap_cons, List.filterMap_nil, eMth, isLst, lstW, atL, fApp, fPop, eExtL, Option.isSome, and_self, true_and, and_true, hp, fIx, seqW, z1]
    have e2 : sAsg (mOp2 fAdd (eVar 3) (eC (.int 1))) (gIx (eVar 0) (eC (.int 1))) [some (.ref p), some (.int many), none, some (.int k), none, none, none] h = some (.nx [some (.ref p), some (.int many), none, some (.int k), none, none, none], h1) := by
      rw [hh1]
      exact set_ix (i := 1) rfl hp rfl (by show 1 < 3; omega)
    have m1 : CMul 73263 k := .inl ⟨by omega, by omega⟩
    have e3 : sAsg (mOp2 fAdd (mOp2 fMul (eC (.int 73263)) (eVar 3)) (eC (.int 44003))) (gNm 4) [some (.ref p), some (.int many), none, some (.int k), none, none, none] h1 = some (.nx [some (.ref p), some (.int many), none, some (.int k), some (.int (73263 * k + 44003)), none, none], h1) := by
      simp only [runB, sSeq, sIf, sb, sRet, sDrop, sAsg, sNext, sCnt, sPar, tBl, Mp.tOr, Mp.tAnd, Mp.tNot, tTru, asTru, truW, mOp2, mOp1, mCall, M.bind, M.ret, asBl, up, eVar, eC, eTup, eLst, aCons, aNil, eIf, eAnd, eOr, eNot, eChain, gNm, gTp, gsCons, gsNil, List.set, List.map_cons, List.map_nil, List.length_cons, List.length_nil, List.replicate, List.cons_append, List.nil_append, List.getElem?_cons_zero, List.getElem?_cons_succ, if_true, if_false, reduceIte, Bool.not_true, Bool.not_false, Bool.false_eq_true, Option.map, Nat.reduceAdd, Nat.reduceSub, Nat.reduceLeDiff, sz1, sz2, sz3, sz4, sz5, sz6, sz12, sz0, List.append_nil, eCall, pickL, List.filterMap_cons, List.filterMap_nil, eMth, isLst, lstW, atL, fApp, fPop, eExtL, Option.isSome, and_self, true_and, and_true, mul_ev m1, add_ev]
    have ec : (tBl (mOp2 fNe (mOp2 fIx (eVar 0) (eC (.int 0))) (eLst aNil))) [some (.ref p), some (.int many), none, some (.int k), some (.int (73263 * k + 44003)), none, none] h1 = some (.ok (!(cells.map W.int).isEmpty), h2) := by
      obtain ⟨ds, e⟩ := ints_fit (nwL h1 []) cells
      have qq := eq_nil true (app_at hq1) (new_at (h := h1) (o := .lst [])) e (by omega)
      have en : eLst aNil [some (.ref p), some (.int many), none, some (.int k), some (.int (73263 * k + 44003)), none, none] h1 = _ := new_nil rfl (by decide)
      rw [hh2]
      unfold fNe
      simp only [runB, sSeq, sIf, sb, sRet, sDrop, sAsg, sNext, sCnt, sPar, tBl, Mp.tOr, Mp.tAnd, Mp.tNot, tTru, asTru, truW, mOp2, mOp1, mCall, M.bind, M.ret, asBl, up, eVar, eC, eTup, eLst, aCons, aNil, eIf, eAnd, eOr, eNot, eChain, gNm, gTp, gsCons, gsNil, List.set, List.map_cons, List.map_nil, List.length_cons, List.length_nil, List.replicate, List.cons_append, List.nil_append, List.getElem?_cons_zero, List.getElem?_cons_succ, if_true, if_false, reduceIte, Bool.not_true, Bool.not_false, Bool.false_eq_true, Option.map, Nat.reduceAdd, Nat.reduceSub, Nat.reduceLeDiff, sz1, sz2, sz3, sz4, sz5, sz6, sz12, sz0, List.append_nil, eCall, pickL, List.filterMap_cons, List.filterMap_nil, eMth, isLst, lstW, atL, fApp, fPop, eExtL, Option.isSome, and_self, true_and, and_true, hp1, fIx, seqW, z2, en, qq]
    have e4 : ∃ v : Int, sIf (tBl (mOp2 fNe (mOp2 fIx (eVar 0) (eC (.int 0))) (eLst aNil))) (sAsg (mOp2 fIx (mOp2 fIx (eVar 0) (eC (.int 0))) (mOp2 fMod (mCall fInt (aCons (eVar 3) aNil)) (mCall fLen (aCons (mOp2 fIx (eVar 0) (eC (.int 0))) aNil)))) (gNm 4)) sNext [some (.ref p), some (.int many), none, some (.int k), some (.int (73263 * k + 44003)), none, none] h1 = some (.nx [some (.ref p), some (.int many), none, some (.int k), some (.int v), none, none], h2) := by
      cases hcs : cells with
      | nil =>
        rw [hcs] at ec
        exact ⟨_, (if_f ec).trans rfl⟩
      | cons c0 cs =>
        have pos : (0 : Int) < ((cells.map W.int).length : Int) := by rw [hcs]; simp
        obtain ⟨v, zi⟩ := at_ints (l := cells) (i := k % ((cells.map W.int).length : Int)) (Int.emod_nonneg k (by omega)) (by have := Int.emod_lt_of_pos k pos; rw [List.length_map] at this ⊢; exact this)
        refine ⟨v, ?_⟩
        have ec' := ec
        rw [show (!(cells.map W.int).isEmpty) = true by rw [hcs]; rfl] at ec'
        rw [if_t ec']
        simp only [runB, sSeq, sIf, sb, sRet, sDrop, sAsg, sNext, sCnt, sPar, tBl, Mp.tOr, Mp.tAnd, Mp.tNot, tTru, asTru, truW, mOp2, mOp1, mCall, M.bind, M.ret, asBl, up, eVar, eC, eTup, eLst, aCons, aNil, eIf, eAnd, eOr, eNot, eChain, gNm, gTp, gsCons, gsNil, List.set, List.map_cons, List.map_nil, List.length_cons, List.length_nil, List.replicate, List.cons_append, List.nil_append, List.getElem?_cons_zero, List.getElem?_cons_succ, if_true, if_false, reduceIte, Bool.not_true, Bool.not_false, Bool.false_eq_true, Option.map, Nat.reduceAdd, Nat.reduceSub, Nat.reduceLeDiff, sz1, sz2, sz3, sz4, sz5, sz6, sz12, sz0, List.append_nil, eCall, pickL, List.filterMap_cons, List.filterMap_nil, eMth, isLst, lstW, atL, fApp, fPop, eExtL, Option.isSome, and_self, true_and, and_true, hp2, fIx, seqW, z2, fInt, fLen, hq2, mod_ev pos, zi]
    obtain ⟨v, e4⟩ := e4
    have p10 : CPow 10 18 := ⟨by decide, by decide, by decide⟩
    have e5 : (Mp.tAnd (tBl (mOp2 fLt (eVar 3) (mCall fLen (aCons (mOp2 fIx (eVar 0) (eC (.int 0))) aNil)))) (tBl (mOp2 fGe (mCall fAbs (aCons (eVar 4) aNil)) (mOp2 fPow (eC (.int 10)) (eC (.int 18)))))) [some (.ref p), some (.int many), none, some (.int k), some (.int v), none, none] h2 = some (.ok (decide (k < ((cells.map W.int).length : Int)) && decide ((10 : Int) ^ ((18 : Int).toNat) ≤ (if v < 0 then -v else v))), h2) := by
      cases cc : decide (k < ((cells.map W.int).length : Int)) with
      | true => simp only [runB, sSeq, sIf, sb, sRet, sDrop, sAsg, sNext, sCnt, sPar, tBl, Mp.tOr, Mp.tAnd, Mp.tNot, tTru, asTru, truW, mOp2, mOp1, mCall, M.bind, M.ret, asBl, up, eVar, eC, eTup, eLst, aCons, aNil, eIf, eAnd, eOr, eNot, eChain, gNm, gTp, gsCons, gsNil, List.set, List.map_cons, List.map_nil, List.length_cons, List.length_nil, List.replicate, List.cons_append, List.nil_append, List.getElem?_cons_zero, List.getElem?_cons_succ, if_true, if_false, reduceIte, Bool.not_true, Bool.not_false, Bool.false_eq_true, Option.map, Nat.reduceAdd, Nat.reduceSub, Nat.reduceLeDiff, sz1, sz2, sz3, sz4, sz5, sz6, sz12, sz0, List.append_nil, eCall, pickL, List.filterMap_cons, List.filterMap_nil, eMth, isLst, lstW, atL, fApp, fPop, eExtL, Option.isSome, and_self, true_and, and_true, hp2, fIx, seqW, z2, fLen, hq2, lt_ev, cc, fAbs, pow_ev p10, ge_ev, Bool.true_and]
      | false => simp only [runB, sSeq, sIf, sb, sRet, sDrop, sAsg, sNext, sCnt, sPar, tBl, Mp.tOr, Mp.tAnd, Mp.tNot, tTru, asTru, truW, mOp2, mOp1, mCall, M.bind, M.ret, asBl, up, eVar, eC, eTup, eLst, aCons, aNil, eIf, eAnd, eOr, eNot, eChain, gNm, gTp, gsCons, gsNil, List.set, List.map_cons, List.map_nil, List.length_cons, List.length_nil, List.replicate, List.cons_append, List.nil_append, List.getElem?_cons_zero, List.getElem?_cons_succ, if_true, if_false, reduceIte, Bool.not_true, Bool.not_false, Bool.false_eq_true, Option.map, Nat.reduceAdd, Nat.reduceSub, Nat.reduceLeDiff, sz1, sz2, sz3, sz4, sz5, sz6, sz12, sz0, List.append_nil, eCall, pickL, List.filterMap_cons, List.filterMap_nil, eMth, isLst, lstW, atL, fApp, fPop, eExtL, Option.isSome, and_self, true_and, and_true, hp2, fIx, seqW, z2, fLen, hq2, lt_ev, cc, Bool.false_and]
    have P2 : Pen h2 p (t + 1) := ⟨q, cells, k + 1, gr, hp2, hq2, hn, by omega, by omega, hc⟩
    have start : runB Wk.N__law_draw.length (Wk.B__law_draw Hd.pk (Sn n)) [.ref p, .int many] h = runB Wk.N__law_draw.length (Wk.B__law_draw Hd.pk (Sn n)) [.ref p, .int many] h := rfl
    by_cases cg : (decide (k < ((cells.map W.int).length : Int)) && decide ((10 : Int) ^ ((18 : Int).toNat) ≤ (if v < 0 then -v else v))) = true
    · obtain ⟨G, hG⟩ : ∃ G, G = 2 * ((if v < 0 then -v else v) - (10 : Int) ^ ((18 : Int).toNat)) + (if decide (v < 0) = true then 1 else 0) := ⟨_, rfl⟩
      have m2 : ∀ x, CMul 2 x := fun x => .inl ⟨by omega, by omega⟩
      rw [cg] at e5
      have e6 : sAsg (mOp2 fAdd (mOp2 fMul (eC (.int 2)) (mOp2 fSub (mCall fAbs (aCons (eVar 4) aNil)) (mOp2 fPow (eC (.int 10)) (eC (.int 18))))) (mCall fInt (aCons (mOp2 fLt (eVar 4) (eC (.int 0))) aNil))) (gNm 5) [some (.ref p), some (.int many), none, some (.int k), some (.int v), none, none] h2 = some (.nx [some (.ref p), some (.int many), none, some (.int k), some (.int v), some (.int G), none], h2) := by
        rw [hG]
        simp only [runB, sSeq, sIf, sb, sRet, sDrop, sAsg, sNext, sCnt, sPar, tBl, Mp.tOr, Mp.tAnd, Mp.tNot, tTru, asTru, truW, mOp2, mOp1, mCall, M.bind, M.ret, asBl, up, eVar, eC, eTup, eLst, aCons, aNil, eIf, eAnd, eOr, eNot, eChain, gNm, gTp, gsCons, gsNil, List.set, List.map_cons, List.map_nil, List.length_cons, List.length_nil, List.replicate, List.cons_append, List.nil_append, List.getElem?_cons_zero, List.getElem?_cons_succ, if_true, if_false, reduceIte, Bool.not_true, Bool.not_false, Bool.false_eq_true, Option.map, Nat.reduceAdd, Nat.reduceSub, Nat.reduceLeDiff, sz1, sz2, sz3, sz4, sz5, sz6, sz12, sz0, List.append_nil, eCall, pickL, List.filterMap_cons, List.filterMap_nil, eMth, isLst, lstW, atL, fApp, fPop, eExtL, Option.isSome, and_self, true_and, and_true, fAbs, pow_ev p10, sub_ev, mul_ev (m2 _), lt_ev, fInt, add_ev]
      have e7 : sAsg (mOp2 fDiv (mCall fInt (aCons (eVar 5) aNil)) (eVar 1)) (gIx (eVar 0) (eC (.int 2))) [some (.ref p), some (.int many), none, some (.int k), some (.int v), some (.int G), none] h2 = some (.nx [some (.ref p), some (.int many), none, some (.int k), some (.int v), some (.int G), none], stL h2 p [.ref q, .int (k + 1), .int (G / many)]) := set_ix (i := 2) rfl hp2 (by simp only [runB, sSeq, sIf, sb, sRet, sDrop, sAsg, sNext, sCnt, sPar, tBl, Mp.tOr, Mp.tAnd, Mp.tNot, tTru, asTru, truW, mOp2, mOp1, mCall, M.bind, M.ret, asBl, up, eVar, eC, eTup, eLst, aCons, aNil, eIf, eAnd, eOr, eNot, eChain, gNm, gTp, gsCons, gsNil, List.set, List.map_cons, List.map_nil, List.length_cons, List.length_nil, List.replicate, List.cons_append, List.nil_append, List.getElem?_cons_zero, List.getElem?_cons_succ, if_true, if_false, reduceIte, Bool.not_true, Bool.not_false, Bool.false_eq_true, Option.map, Nat.reduceAdd, Nat.reduceSub, Nat.reduceLeDiff, sz1, sz2, sz3, sz4, sz5, sz6, sz12, sz0, List.append_nil, eCall, pickL, List.filterMap_cons, List.filterMap_nil, eMth, isLst, lstW, atL, fApp, fPop, eExtL, Option.isSome, and_self, true_and, and_true, fInt, div_ev (cd G)]) (by show 2 < 3; omega)
      have e8 : sRet (mOp2 fMod (mCall fInt (aCons (eVar 5) aNil)) (eVar 1)) [some (.ref p), some (.int many), none, some (.int k), some (.int v), some (.int G), none] (stL h2 p [.ref q, .int (k + 1), .int (G / many)]) = some (.rt (.int (G % many)), stL h2 p [.ref q, .int (k + 1), .int (G / many)]) := by simp only [runB, sSeq, sIf, sb, sRet, sDrop, sAsg, sNext, sCnt, sPar, tBl, Mp.tOr, Mp.tAnd, Mp.tNot, tTru, asTru, truW, mOp2, mOp1, mCall, M.bind, M.ret, asBl, up, eVar, eC, eTup, eLst, aCons, aNil, eIf, eAnd, eOr, eNot, eChain, gNm, gTp, gsCons, gsNil, List.set, List.map_cons, List.map_nil, List.length_cons, List.length_nil, List.replicate, List.cons_append, List.nil_append, List.getElem?_cons_zero, List.getElem?_cons_succ, if_true, if_false, reduceIte, Bool.not_true, Bool.not_false, Bool.false_eq_true, Option.map, Nat.reduceAdd, Nat.reduceSub, Nat.reduceLeDiff, sz1, sz2, sz3, sz4, sz5, sz6, sz12, sz0, List.append_nil, eCall, pickL, List.filterMap_cons, List.filterMap_nil, eMth, isLst, lstW, atL, fApp, fPop, eExtL, Option.isSome, and_self, true_and, and_true, fInt, mod_ev hm]
      refine ⟨stL h2 p [.ref q, .int (k + 1), .int (G / many)], G % many, Int.emod_nonneg G (by omega), Int.emod_lt_of_pos G hm, g2.trans gsL, ⟨q, cells, k + 1, G / many, set_at hp2, (List.getElem?_set_ne (Ne.symm hn)).trans hq2, hn, by omega, by omega, hc⟩, ?_⟩
      show runB Wk.N__law_draw.length (Wk.B__law_draw Hd.pk (Sn n)) [.ref p, .int many] h = _
      unfold Wk.B__law_draw runB
      rw [show (List.map some [W.ref p, W.int many] ++ List.replicate (Wk.N__law_draw.length - [W.ref p, W.int many].length) none) = [some (.ref p), some (.int many), none, none, none, none, none] from rfl]
      rw [seq_nx ((if_f e0).trans rfl), seq_nx e1, seq_nx e2, seq_nx e3, seq_nx e4, seq_rt ((if_t e5).trans ((seq_nx e6).trans ((seq_nx e7).trans e8)))]
    · rw [Bool.not_eq_true] at cg
      rw [cg] at e5
      obtain ⟨a, ha⟩ : ∃ a, a = v % 2147483563 + 73263 * k + 44003 := ⟨_, rfl⟩
      have a0 : 0 ≤ v % 2147483563 := Int.emod_nonneg _ (by omega)
      have a1 : v % 2147483563 < 2147483563 := Int.emod_lt_of_pos _ (by omega)
      have pa : CPow a 5 := ⟨by omega, by omega, by omega⟩
      obtain ⟨b, hb⟩ : ∃ b, b = a ^ ((5 : Int).toNat) % 2147483579 := ⟨_, rfl⟩
      have b0 : 0 ≤ b := by rw [hb]; exact Int.emod_nonneg _ (by omega)
      have bl : b < 2147483579 := by rw [hb]; exact Int.emod_lt_of_pos _ (by omega)
      have e6 : sAsg (mOp2 fMod (mCall fInt (aCons (mOp2 fPow (mOp2 fAdd (mOp2 fAdd (mOp2 fMod (mCall fInt (aCons (eVar 4) aNil)) (eC (.int 2147483563))) (mOp2 fMul (eC (.int 73263)) (eVar 3))) (eC (.int 44003))) (eC (.int 5))) aNil)) (eC (.int 2147483579))) (gNm 6) [some (.ref p), some (.int many), none, some (.int k), some (.int v), none, none] h2 = some (.nx [some (.ref p), some (.int many), none, some (.int k), some (.int v), none, some (.int b)], h2) := by
        rw [ha] at pa
        rw [hb, ha]
        simp only [runB, sSeq, sIf, sb, sRet, sDrop, sAsg, sNext, sCnt, sPar, tBl, Mp.tOr, Mp.tAnd, Mp.tNot, tTru, asTru, truW, mOp2, mOp1, mCall, M.bind, M.ret, asBl, up, eVar, eC, eTup, eLst, aCons, aNil, eIf, eAnd, eOr, eNot, eChain, gNm, gTp, gsCons, gsNil, List.set, List.map_cons, List.map_nil, List.length_cons, List.length_nil, List.replicate, List.cons_append, List.nil_append, List.getElem?_cons_zero, List.getElem?_cons_succ, if_true, if_false, reduceIte, Bool.not_true, Bool.not_false, Bool.false_eq_true, Option.map, Nat.reduceAdd, Nat.reduceSub, Nat.reduceLeDiff, sz1, sz2, sz3, sz4, sz5, sz6, sz12, sz0, List.append_nil, eCall, pickL, List.filterMap_cons, List.filterMap_nil, eMth, isLst, lstW, atL, fApp, fPop, eExtL, Option.isSome, and_self, true_and, and_true, fInt, mod_ev (show (0 : Int) < 2147483563 by omega), mul_ev m1, add_ev, pow_ev pa, mod_ev (show (0 : Int) < 2147483579 by omega)]
      have kk : 0 ≤ k * k ∧ k * k ≤ 10000 * 10000 := ⟨Int.mul_nonneg k0 k0, Int.mul_le_mul k1 k1 k0 (by omega)⟩
      have bk : 0 ≤ b * (2 * k + 4361) ∧ b * (2 * k + 4361) ≤ 2147483579 * 24361 := ⟨Int.mul_nonneg b0 (by omega), Int.mul_le_mul (by omega) (by omega) (by omega) (by omega)⟩
      obtain ⟨d, hd⟩ : ∃ d, d = b * (2 * k + 4361) + 44003 * k * k + 149 := ⟨_, rfl⟩
      have dk : 44003 * k * k = 44003 * (k * k) := Int.mul_assoc _ _ _
      have pd : CPow d 3 := ⟨by omega, by omega, by omega⟩
      have m2 : CMul 2 k := .inl ⟨by omega, by omega⟩
      have m3 : CMul b (2 * k + 4361) := .inl ⟨by omega, by omega⟩
      have m4 : CMul 44003 k := .inl ⟨by omega, by omega⟩
      have m5 : CMul (44003 * k) k := .inr ⟨by omega, by omega⟩
      obtain ⟨f, hf⟩ : ∃ f, f = d ^ ((3 : Int).toNat) % 2147483549 := ⟨_, rfl⟩
      have e7 : sAsg (mOp2 fMod (mCall fInt (aCons (mOp2 fPow (mOp2 fAdd (mOp2 fAdd (mOp2 fMul (eVar 6) (mOp2 fAdd (mOp2 fMul (eC (.int 2)) (eVar 3)) (eC (.int 4361)))) (mOp2 fMul (mOp2 fMul (eC (.int 44003)) (eVar 3)) (eVar 3))) (eC (.int 149))) (eC (.int 3))) aNil)) (eC (.int 2147483549))) (gNm 6) [some (.ref p), some (.int many), none, some (.int k), some (.int v), none, some (.int b)] h2 = some (.nx [some (.ref p), some (.int many), none, some (.int k), some (.int v), none, some (.int f)], h2) := by
        rw [hd] at pd
        rw [hf, hd]
        simp only [runB, sSeq, sIf, sb, sRet, sDrop, sAsg, sNext, sCnt, sPar, tBl, Mp.tOr, Mp.tAnd, Mp.tNot, tTru, asTru, truW, mOp2, mOp1, mCall, M.bind, M.ret, asBl, up, eVar, eC, eTup, eLst, aCons, aNil, eIf, eAnd, eOr, eNot, eChain, gNm, gTp, gsCons, gsNil, List.set, List.map_cons, List.map_nil, List.length_cons, List.length_nil, List.replicate, List.cons_append, List.nil_append, List.getElem?_cons_zero, List.getElem?_cons_succ, if_true, if_false, reduceIte, Bool.not_true, Bool.not_false, Bool.false_eq_true, Option.map, Nat.reduceAdd, Nat.reduceSub, Nat.reduceLeDiff, sz1, sz2, sz3, sz4, sz5, sz6, sz12, sz0, List.append_nil, eCall, pickL, List.filterMap_cons, List.filterMap_nil, eMth, isLst, lstW, atL, fApp, fPop, eExtL, Option.isSome, and_self, true_and, and_true, fInt, mul_ev m2, add_ev, mul_ev m3, mul_ev m4, mul_ev m5, pow_ev pd, mod_ev (show (0 : Int) < 2147483549 by omega)]
      have c16 : CDiv f 16 := ⟨by omega, by omega⟩
      have e8 : sRet (mOp2 fMod (mCall fInt (aCons (mOp2 fDiv (eVar 6) (eC (.int 16))) aNil)) (eVar 1)) [some (.ref p), some (.int many), none, some (.int k), some (.int v), none, some (.int f)] h2 = some (.rt (.int (f / 16 % many)), h2) := by simp only [runB, sSeq, sIf, sb, sRet, sDrop, sAsg, sNext, sCnt, sPar, tBl, Mp.tOr, Mp.tAnd, Mp.tNot, tTru, asTru, truW, mOp2, mOp1, mCall, M.bind, M.ret, asBl, up, eVar, eC, eTup, eLst, aCons, aNil, eIf, eAnd, eOr, eNot, eChain, gNm, gTp, gsCons, gsNil, List.set, List.map_cons, List.map_nil, List.length_cons, List.length_nil, List.replicate, List.cons_append, List.nil_append, List.getElem?_cons_zero, List.getElem?_cons_succ, if_true, if_false, reduceIte, Bool.not_true, Bool.not_false, Bool.false_eq_true, Option.map, Nat.reduceAdd, Nat.reduceSub, Nat.reduceLeDiff, sz1, sz2, sz3, sz4, sz5, sz6, sz12, sz0, List.append_nil, eCall, pickL, List.filterMap_cons, List.filterMap_nil, eMth, isLst, lstW, atL, fApp, fPop, eExtL, Option.isSome, and_self, true_and, and_true, fInt, div_ev c16, mod_ev hm]
      refine ⟨h2, f / 16 % many, Int.emod_nonneg _ (by omega), Int.emod_lt_of_pos _ hm, g2, P2, ?_⟩
      show runB Wk.N__law_draw.length (Wk.B__law_draw Hd.pk (Sn n)) [.ref p, .int many] h = _
      unfold Wk.B__law_draw runB
      rw [show (List.map some [W.ref p, W.int many] ++ List.replicate (Wk.N__law_draw.length - [W.ref p, W.int many].length) none) = [some (.ref p), some (.int many), none, none, none, none, none] from rfl]
      rw [seq_nx ((if_f e0).trans rfl), seq_nx e1, seq_nx e2, seq_nx e3, seq_nx e4, seq_nx ((if_f e5).trans rfl), seq_nx e6, seq_nx e7, e8]
end Pl

set_option Elab.async false
set_option linter.all false
set_option autoImplicit false
set_option maxRecDepth 100000
set_option maxHeartbeats 4000000
/-! Pn: picks, drawn statements. -/
namespace Pl
open PySem PySem.Spec PyProof.Rows L2 Mp
open En
theorem ev_pick (n : Nat) {h : Hw} {p t L : Nat} {l : List W} (P : Pen h p t) (ht : t ≤ 10000) (hL : h[L]? = some (.lst l)) (hn : L ≠ p) (l0 : 0 < l.length) (l1 : l.length < 100000) : ∃ h' w, w ∈ l ∧ Gr (fun i => i = p) h h' ∧ Pen h' p (t + 1) ∧ Sn (n + 2) ._law_pick [.ref p, .ref L] h = some (.ok w, h') := by
  obtain ⟨h1, d, d0, d1, g1, P1, e1⟩ := ev_draw n P ht (many := (l.length : Int)) (by omega) (by omega)
  obtain ⟨j, rfl⟩ := Int.eq_ofNat_of_zero_le d0
  have hj : j < l.length := by omega
  have hL1 := g1.at_ hL hn
  have z := atI_nat (List.getElem?_eq_getElem hj)
  refine ⟨h1, l[j], List.getElem_mem hj, g1, P1, ?_⟩
  show runB Wk.N__law_pick.length (Wk.B__law_pick Hd.pk (Sn (n + 1))) [.ref p, .ref L] h = _
  unfold Wk.B__law_pick
  simp only [runB, sSeq, sIf, sb, sRet, sDrop, sAsg, sNext, sCnt, sPar, tBl, Mp.tOr, Mp.tAnd, Mp.tNot, tTru, asTru, truW, mOp2, mOp1, mCall, M.bind, M.ret, asBl, up, eVar, eC, eTup, eLst, aCons, aNil, eIf, eAnd, eOr, eNot, eChain, gNm, gTp, gsCons, gsNil, List.set, List.map_cons, List.map_nil, List.length_cons, List.length_nil, List.replicate, List.cons_append, List.nil_append, List.getElem?_cons_zero, List.getElem?_cons_succ, if_true, if_false, reduceIte, Bool.not_true, Bool.not_false, Bool.false_eq_true, Option.map, Nat.reduceAdd, Nat.reduceSub, Nat.reduceLeDiff, sz1, sz2, sz3, sz4, sz5, sz6, sz12, sz0, List.append_nil, eCall, pickL, List.filterMap_cons, List.filterMap_nil, eMth, isLst, lstW, atL, fApp, fPop, eExtL, Option.isSome, and_self, true_and, and_true, fLen, seqW, hL, e1, fIx, hL1, z]
def leaves : List Str := ["b", "c", "b", "c", "house", "b", "yes", "c", "b", "c", "dd", "e"]
def St.drawn : St → Bool
  | .leaf s => decide (s ∈ leaves)
  | .node a x y => (a == "and" || a == "gives") && (x.drawn && y.drawn)
/-- drawn statements -/
structure Dr (k : Nat) (s : St) : Prop where
  ok : s.ok = true
  good : s.good = true
  two : s.two = true
  clean : ∀ t ∈ s.pre, t.crook = false
  dep : s.dep ≤ k
  size : s.size + 1 ≤ 2 ^ (k + 1)
  dr : s.drawn = true
theorem leaves_ok : ∀ s ∈ leaves, (PyData.strOk s && ((St.leaf s).good && !(St.leaf s).crook)) = true := by decide +kernel
theorem Dr.leaf {s : Str} (h : s ∈ leaves) (k : Nat) : Dr k (.leaf s) := by
  have z := leaves_ok s h
  simp only [Bool.and_eq_true, Bool.not_eq_true'] at z
  exact ⟨z.1, z.2.1, rfl, fun t ht => by rw [List.mem_singleton.mp ht]; exact z.2.2, Nat.zero_le _, by
    show 1 + 1 ≤ 2 ^ (k + 1)
    have := Nat.one_le_two_pow (n := k)
    rw [Nat.pow_succ]
    omega, decide_eq_true h⟩
theorem Dr.node {a : Str} {x y : St} {k : Nat} (ha : a = "and" ∨ a = "gives") (X : Dr k x) (Y : Dr k y) : Dr (k + 1) (.node a x y) := by
  have z : (PyData.strOk a && (joinW a && ((a == "and" || a == "gives") && !(a == "or")))) = true := by
    rcases ha with rfl | rfl <;> decide +kernel
  simp only [Bool.and_eq_true, Bool.not_eq_true'] at z
  obtain ⟨z1, z2, z3, z4⟩ := z
  refine ⟨?_, ?_, ?_, fun t ht => ?_, ?_, ?_, ?_⟩
  · show (PyData.strOk a && (x.ok && y.ok)) = true
    rw [z1, X.ok, Y.ok]; rfl
  · show (joinW a && (x.good && y.good)) = true
    rw [z2, X.good, Y.good]; rfl
  · show ((a == "and" || a == "gives") && (x.two && y.two)) = true
    rw [z3, X.two, Y.two]; rfl
  · rcases List.mem_cons.mp ht with rfl | ht
    · exact z4
    · rcases List.mem_append.mp ht with ht | ht
      · exact X.clean t ht
      · exact Y.clean t ht
  · show max x.dep y.dep + 1 ≤ k + 1
    have := X.dep
    have := Y.dep
    omega
  · show 1 + x.size + y.size + 1 ≤ 2 ^ (k + 1 + 1)
    have := X.size
    have := Y.size
    rw [Nat.pow_succ]
    omega
  · show ((a == "and" || a == "gives") && (x.drawn && y.drawn)) = true
    rw [z3, X.dr, Y.dr]; rfl
def nT : Nat → Nat
  | 0 => 1
  | k + 1 => 1 + (nT k + nT k)
theorem nT_pos : ∀ k, 1 ≤ nT k
  | 0 => Nat.le_refl _
  | k + 1 => by show 1 ≤ 1 + (nT k + nT k); omega
theorem ev_leaf (n : Nat) {h : Hw} {p t : Nat} (P : Pen h p t) (ht : t ≤ 10000) (ρ : Rho) (h0 : ρ[0]? = some (some (.ref p))) : ∃ h' s, s ∈ leaves ∧ Gr (fun i => i = p) h h' ∧ Pen h' p (t + 1) ∧
    sRet (eCall (Sn (n + 2) ._law_pick) 2 0 [0, 1] [] (aCons (eVar 0) (aCons (eLst (aCons (eC (.str "b")) (aCons (eC (.str "c")) (aCons (eC (.str "b")) (aCons (eC (.str "c")) (aCons (eC (.str "house")) (aCons (eC (.str "b")) (aCons (eC (.str "yes")) (aCons (eC (.str "c")) (aCons (eC (.str "b")) (aCons (eC (.str "c")) (aCons (eC (.str "dd")) (aCons (eC (.str "e")) aNil))))))))))))) aNil)) aNil) ρ h = some (.rt (.str s), h') := by
  have hp : p < h.length := by
    obtain ⟨q, cells, k, gr, h1, _⟩ := P
    exact lt_of h1
  obtain ⟨h1, w, hw, g1, P1, e1⟩ := ev_pick n (L := h.length) (l := leaves.map W.str) (P.gr (Gr.app [.lst (leaves.map W.str)])) ht new_at (by omega) (by show 0 < 12; omega) (by show 12 < 100000; omega)
  obtain ⟨s, hs, rfl⟩ := List.mem_map.mp hw
  refine ⟨h1, s, hs, (Gr.app _).trans g1, P1, ?_⟩
  have en : eLst (aCons (eC (.str "b")) (aCons (eC (.str "c")) (aCons (eC (.str "b")) (aCons (eC (.str "c")) (aCons (eC (.str "house")) (aCons (eC (.str "b")) (aCons (eC (.str "yes")) (aCons (eC (.str "c")) (aCons (eC (.str "b")) (aCons (eC (.str "c")) (aCons (eC (.str "dd")) (aCons (eC (.str "e")) aNil)))))))))))) ρ h = some (.ok (.ref h.length), nwL h (leaves.map W.str)) := new_nil rfl (by decide)
  simp only [leaves, List.map_cons, List.map_nil] at e1 en
  simp only [runB, sSeq, sIf, sb, sRet, sDrop, sAsg, sNext, sCnt, sPar, tBl, Mp.tOr, Mp.tAnd, Mp.tNot, tTru, asTru, truW, mOp2, mOp1, mCall, M.bind, M.ret, asBl, up, eVar, eC, eTup, eLst, aCons, aNil, eIf, eAnd, eOr, eNot, eChain, gNm, gTp, gsCons, gsNil, List.set, List.map_cons, List.map_nil, List.length_cons, List.length_nil, List.replicate, List.cons_append, List.nil_append, List.getElem?_cons_zero, List.getElem?_cons_succ, if_true, if_false, reduceIte, Bool.not_true, Bool.not_false, Bool.false_eq_true, Option.map, Nat.reduceAdd, Nat.reduceSub, Nat.reduceLeDiff, sz1, sz2, sz3, sz4, sz5, sz6, sz12, sz0, List.append_nil, eCall, pickL, List.filterMap_cons, List.filterMap_nil, eMth, isLst, lstW, atL, fApp, fPop, eExtL, Option.isSome, and_self, true_and, and_true, h0, en, e1]
theorem ev_stmt : ∀ (k n : Nat) {h : Hw} {p t : Nat}, Pen h p t → t + nT k ≤ 10000 → ∃ h' s, Dr k s ∧ Gr (fun i => i = p) h h' ∧ Pen h' p (t + nT k) ∧ Sn (n + k + 3) ._law_statement [.ref p, .int ((k : Int) + 1)] h = some (.ok s.w, h')
  | 0, n, h, p, t, P, ht => by
    obtain ⟨h1, s, hs, g1, P1, e1⟩ := ev_leaf n P (by omega) [some (.ref p), some (.int (((0 : Nat) : Int) + 1)), some (.int 0), none] rfl
    refine ⟨h1, .leaf s, .leaf hs 0, g1, P1, ?_⟩
    show runB Wk.N__law_statement.length (Wk.B__law_statement Hd.pk (Sn (n + 2))) [.ref p, .int (((0 : Nat) : Int) + 1)] h = _
    unfold Wk.B__law_statement runB
    rw [show (List.map some [W.ref p, W.int (((0 : Nat) : Int) + 1)] ++ List.replicate (Wk.N__law_statement.length - [W.ref p, W.int (((0 : Nat) : Int) + 1)].length) none) = [some (.ref p), some (.int (((0 : Nat) : Int) + 1)), none, none] from rfl]
    have z : decide ((1 : Int) < ((0 : Nat) : Int) + 1) = false := by decide
    have z4 : decide ((0 : Int) < 4) = true := by decide
    have e2 : sAsg (eIf (tBl (mOp2 fGt (eVar 1) (eC (.int 1)))) (eCall (Sn (n + 2) ._law_draw) 2 0 [0, 1] [] (aCons (eVar 0) (aCons (eC (.int 9)) aNil)) aNil) (eC (.int 0))) (gNm 2) [some (.ref p), some (.int (((0 : Nat) : Int) + 1)), none, none] h = some (.nx [some (.ref p), some (.int (((0 : Nat) : Int) + 1)), some (.int 0), none], h) := by
      simp only [runB, sSeq, sIf, sb, sRet, sDrop, sAsg, sNext, sCnt, sPar, tBl, Mp.tOr, Mp.tAnd, Mp.tNot, tTru, asTru, truW, mOp2, mOp1, mCall, M.bind, M.ret, asBl, up, eVar, eC, eTup, eLst, aCons, aNil, eIf, eAnd, eOr, eNot, eChain, gNm, gTp, gsCons, gsNil, List.set, List.map_cons, List.map_nil, List.length_cons, List.length_nil, List.replicate, List.cons_append, List.nil_append, List.getElem?_cons_zero, List.getElem?_cons_succ, if_true, if_false, reduceIte, Bool.not_true, Bool.not_false, Bool.false_eq_true, Option.map, Nat.reduceAdd, Nat.reduceSub, Nat.reduceLeDiff, sz1, sz2, sz3, sz4, sz5, sz6, sz12, sz0, List.append_nil, eCall, pickL, List.filterMap_cons, List.filterMap_nil, eMth, isLst, lstW, atL, fApp, fPop, eExtL, Option.isSome, and_self, true_and, and_true, gt_ev, z]
    have e3 : (tBl (mOp2 fLt (eVar 2) (eC (.int 4)))) [some (.ref p), some (.int (((0 : Nat) : Int) + 1)), some (.int 0), none] h = some (.ok true, h) := by simp only [runB, sSeq, sIf, sb, sRet, sDrop, sAsg, sNext, sCnt, sPar, tBl, Mp.tOr, Mp.tAnd, Mp.tNot, tTru, asTru, truW, mOp2, mOp1, mCall, M.bind, M.ret, asBl, up, eVar, eC, eTup, eLst, aCons, aNil, eIf, eAnd, eOr, eNot, eChain, gNm, gTp, gsCons, gsNil, List.set, List.map_cons, List.map_nil, List.length_cons, List.length_nil, List.replicate, List.cons_append, List.nil_append, List.getElem?_cons_zero, List.getElem?_cons_succ, if_true, if_false, reduceIte, Bool.not_true, Bool.not_false, Bool.false_eq_true, Option.map, Nat.reduceAdd, Nat.reduceSub, Nat.reduceLeDiff, sz1, sz2, sz3, sz4, sz5, sz6, sz12, sz0, List.append_nil, eCall, pickL, List.filterMap_cons, List.filterMap_nil, eMth, isLst, lstW, atL, fApp, fPop, eExtL, Option.isSome, and_self, true_and, and_true, lt_ev, z4]
    rw [seq_nx e2, seq_rt ((if_t e3).trans e1)]
    rfl
  | k + 1, n, h, p, t, P, ht => by
    have ht' : t + (1 + (nT k + nT k)) ≤ 10000 := ht
    have np := nT_pos k
    obtain ⟨D, hD⟩ : ∃ D : Int, D = ((k + 1 : Nat) : Int) + 1 := ⟨_, rfl⟩
    rw [← hD]
    obtain ⟨h1, d, d0, d1, g1, P1, e1⟩ := ev_draw (n + k + 2) P (by omega) (many := 9) (by omega) (by omega)
    have e1' : Sn (n + (k + 1) + 2) ._law_draw [.ref p, .int 9] h = some (.ok (.int d), h1) := e1
    show ∃ h' s, Dr (k + 1) s ∧ Gr (fun i => i = p) h h' ∧ Pen h' p (t + (1 + (nT k + nT k))) ∧ runB Wk.N__law_statement.length (Wk.B__law_statement Hd.pk (Sn (n + (k + 1) + 2))) [.ref p, .int D] h = some (.ok s.w, h')
    unfold Wk.B__law_statement runB
    rw [show (List.map some [W.ref p, W.int D] ++ List.replicate (Wk.N__law_statement.length - [W.ref p, W.int D].length) none) = [some (.ref p), some (.int D), none, none] from rfl]
    have z : decide ((1 : Int) < D) = true := decide_eq_true (by omega)
    have e2 : sAsg (eIf (tBl (mOp2 fGt (eVar 1) (eC (.int 1)))) (eCall (Sn (n + (k + 1) + 2) ._law_draw) 2 0 [0, 1] [] (aCons (eVar 0) (aCons (eC (.int 9)) aNil)) aNil) (eC (.int 0))) (gNm 2) [some (.ref p), some (.int D), none, none] h = some (.nx [some (.ref p), some (.int D), some (.int d), none], h1) := by
      simp only [runB, sSeq, sIf, sb, sRet, sDrop, sAsg, sNext, sCnt, sPar, tBl, Mp.tOr, Mp.tAnd, Mp.tNot, tTru, asTru, truW, mOp2, mOp1, mCall, M.bind, M.ret, asBl, up, eVar, eC, eTup, eLst, aCons, aNil, eIf, eAnd, eOr, eNot, eChain, gNm, gTp, gsCons, gsNil, List.set, List.map_cons, List.map_nil, List.length_cons, List.length_nil, List.replicate, List.cons_append, List.nil_append, List.getElem?_cons_zero, List.getElem?_cons_succ, if_true, if_false, reduceIte, Bool.not_true, Bool.not_false, Bool.false_eq_true, Option.map, Nat.reduceAdd, Nat.reduceSub, Nat.reduceLeDiff, sz1, sz2, sz3, sz4, sz5, sz6, sz12, sz0, List.append_nil, eCall, pickL, List.filterMap_cons, List.filterMap_nil, eMth, isLst, lstW, atL, fApp, fPop, eExtL, Option.isSome, and_self, true_and, and_true, gt_ev, z, e1']
    by_cases c : d < 4
    · obtain ⟨h2, s, hs, g2, P2, e3⟩ := ev_leaf (n + (k + 1)) P1 (by omega) [some (.ref p), some (.int D), some (.int d), none] rfl
      have e4 : (tBl (mOp2 fLt (eVar 2) (eC (.int 4)))) [some (.ref p), some (.int D), some (.int d), none] h1 = some (.ok true, h1) := by simp only [runB, sSeq, sIf, sb, sRet, sDrop, sAsg, sNext, sCnt, sPar, tBl, Mp.tOr, Mp.tAnd, Mp.tNot, tTru, asTru, truW, mOp2, mOp1, mCall, M.bind, M.ret, asBl, up, eVar, eC, eTup, eLst, aCons, aNil, eIf, eAnd, eOr, eNot, eChain, gNm, gTp, gsCons, gsNil, List.set, List.map_cons, List.map_nil, List.length_cons, List.length_nil, List.replicate, List.cons_append, List.nil_append, List.getElem?_cons_zero, List.getElem?_cons_succ, if_true, if_false, reduceIte, Bool.not_true, Bool.not_false, Bool.false_eq_true, Option.map, Nat.reduceAdd, Nat.reduceSub, Nat.reduceLeDiff, sz1, sz2, sz3, sz4, sz5, sz6, sz12, sz0, List.append_nil, eCall, pickL, List.filterMap_cons, List.filterMap_nil, eMth, isLst, lstW, atL, fApp, fPop, eExtL, Option.isSome, and_self, true_and, and_true, lt_ev, decide_eq_true c]
      refine ⟨h2, .leaf s, .leaf hs _, g1.trans g2, P2.le (by omega), ?_⟩
      rw [seq_nx e2, seq_rt ((if_t e4).trans e3)]
      rfl
    · have e4 : (tBl (mOp2 fLt (eVar 2) (eC (.int 4)))) [some (.ref p), some (.int D), some (.int d), none] h1 = some (.ok false, h1) := by simp only [runB, sSeq, sIf, sb, sRet, sDrop, sAsg, sNext, sCnt, sPar, tBl, Mp.tOr, Mp.tAnd, Mp.tNot, tTru, asTru, truW, mOp2, mOp1, mCall, M.bind, M.ret, asBl, up, eVar, eC, eTup, eLst, aCons, aNil, eIf, eAnd, eOr, eNot, eChain, gNm, gTp, gsCons, gsNil, List.set, List.map_cons, List.map_nil, List.length_cons, List.length_nil, List.replicate, List.cons_append, List.nil_append, List.getElem?_cons_zero, List.getElem?_cons_succ, if_true, if_false, reduceIte, Bool.not_true, Bool.not_false, Bool.false_eq_true, Option.map, Nat.reduceAdd, Nat.reduceSub, Nat.reduceLeDiff, sz1, sz2, sz3, sz4, sz5, sz6, sz12, sz0, List.append_nil, eCall, pickL, List.filterMap_cons, List.filterMap_nil, eMth, isLst, lstW, atL, fApp, fPop, eExtL, Option.isSome, and_self, true_and, and_true, lt_ev, decide_eq_false c]
      obtain ⟨a, ha, e5⟩ : ∃ a : Str, (a = "and" ∨ a = "gives") ∧ sAsg (eIf (tBl (mOp2 fEq (eVar 2) (eC (.int 4)))) (eC (.str "and")) (eC (.str "gives"))) (gNm 3) [some (.ref p), some (.int D), some (.int d), none] h1 = some (.nx [some (.ref p), some (.int D), some (.int d), some (.str a)], h1) := by
        cases c4 : (d == 4) with
        | true => exact ⟨"and", .inl rfl, by simp only [runB, sSeq, sIf, sb, sRet, sDrop, sAsg, sNext, sCnt, sPar, tBl, Mp.tOr, Mp.tAnd, Mp.tNot, tTru, asTru, truW, mOp2, mOp1, mCall, M.bind, M.ret, asBl, up, eVar, eC, eTup, eLst, aCons, aNil, eIf, eAnd, eOr, eNot, eChain, gNm, gTp, gsCons, gsNil, List.set, List.map_cons, List.map_nil, List.length_cons, List.length_nil, List.replicate, List.cons_append, List.nil_append, List.getElem?_cons_zero, List.getElem?_cons_succ, if_true, if_false, reduceIte, Bool.not_true, Bool.not_false, Bool.false_eq_true, Option.map, Nat.reduceAdd, Nat.reduceSub, Nat.reduceLeDiff, sz1, sz2, sz3, sz4, sz5, sz6, sz12, sz0, List.append_nil, eCall, pickL, List.filterMap_cons, List.filterMap_nil, eMth, isLst, lstW, atL, fApp, fPop, eExtL, Option.isSome, and_self, true_and, and_true, eq_int, c4]⟩
        | false => exact ⟨"gives", .inr rfl, by simp only [runB, sSeq, sIf, sb, sRet, sDrop, sAsg, sNext, sCnt, sPar, tBl, Mp.tOr, Mp.tAnd, Mp.tNot, tTru, asTru, truW, mOp2, mOp1, mCall, M.bind, M.ret, asBl, up, eVar, eC, eTup, eLst, aCons, aNil, eIf, eAnd, eOr, eNot, eChain, gNm, gTp, gsCons, gsNil, List.set, List.map_cons, List.map_nil, List.length_cons, List.length_nil, List.replicate, List.cons_append, List.nil_append, List.getElem?_cons_zero, List.getElem?_cons_succ, if_true, if_false, reduceIte, Bool.not_true, Bool.not_false, Bool.false_eq_true, Option.map, Nat.reduceAdd, Nat.reduceSub, Nat.reduceLeDiff, sz1, sz2, sz3, sz4, sz5, sz6, sz12, sz0, List.append_nil, eCall, pickL, List.filterMap_cons, List.filterMap_nil, eMth, isLst, lstW, atL, fApp, fPop, eExtL, Option.isSome, and_self, true_and, and_true, eq_int, c4]⟩
      obtain ⟨h2, x, X, g2, P2, e6⟩ := ev_stmt k n P1 (by omega)
      obtain ⟨h3, y, Y, g3, P3, e7⟩ := ev_stmt k n P2 (by omega)
      have dk : D - 1 = (k : Int) + 1 := by omega
      have e6' : Sn (n + (k + 1) + 2) ._law_statement [.ref p, .int (D - 1)] h1 = some (.ok x.w, h2) := by rw [dk]; exact e6
      have e7' : Sn (n + (k + 1) + 2) ._law_statement [.ref p, .int (D - 1)] h2 = some (.ok y.w, h3) := by rw [dk]; exact e7
      refine ⟨h3, .node a x y, .node ha X Y, g1.trans (g2.trans g3), P3.le (by omega), ?_⟩
      rw [seq_nx e2, seq_nx ((if_f e4).trans rfl), seq_nx e5]
      simp only [runB, sSeq, sIf, sb, sRet, sDrop, sAsg, sNext, sCnt, sPar, tBl, Mp.tOr, Mp.tAnd, Mp.tNot, tTru, asTru, truW, mOp2, mOp1, mCall, M.bind, M.ret, asBl, up, eVar, eC, eTup, eLst, aCons, aNil, eIf, eAnd, eOr, eNot, eChain, gNm, gTp, gsCons, gsNil, List.set, List.map_cons, List.map_nil, List.length_cons, List.length_nil, List.replicate, List.cons_append, List.nil_append, List.getElem?_cons_zero, List.getElem?_cons_succ, if_true, if_false, reduceIte, Bool.not_true, Bool.not_false, Bool.false_eq_true, Option.map, Nat.reduceAdd, Nat.reduceSub, Nat.reduceLeDiff, sz1, sz2, sz3, sz4, sz5, sz6, sz12, sz0, List.append_nil, eCall, pickL, List.filterMap_cons, List.filterMap_nil, eMth, isLst, lstW, atL, fApp, fPop, eExtL, Option.isSome, and_self, true_and, and_true, sub_ev, e6', e7']
      rfl
end Pl

set_option Elab.async false
set_option linter.all false
set_option autoImplicit false
set_option maxRecDepth 100000
set_option maxHeartbeats 4000000
/-! Po: the pen; what is heard. -/
namespace Pl
open PySem PySem.Spec PyProof.Rows L2 Mp
open En
theorem lc_lref {h : Hw} {i q : Nat} {e : Sh} {src : List W} {ρ0 : Rho} {α : Type} {f g : α → W} (hq : h[q]? = some (.lst src)) : ∀ {l : List α}, (∀ x ∈ l, e (List.set ρ0 i (some (f x))) h = some (.ok (g x), h)) → lcL (.lref q src) (gNm i) tYesM e ρ0 (l.map f) h = some (.ok (l.map g), h)
  | [], _ => by
    unfold lcL
    exact if_pos hq
  | x :: l, he => by
    have z := he x List.mem_cons_self
    have r := lc_lref (l := l) hq fun y hy => he y (List.mem_cons_of_mem _ hy)
    unfold lcL
    refine (if_pos hq).trans ?_
    simp only [gNm, tYesM, M.bind, M.ret, if_true, z, r, List.map_cons]
theorem ev_pen (n : Nat) (ns : List Int) (hl : ns.length ≤ 63) : Sn (n + 1) ._law_pen [.lro (ns.map W.int)] [] = some (.ok (.ref 2), [.lst (ns.map W.int), .lst (ns.map W.int), .lst [.ref 1, .int 0, .int 0]]) := by
  have hl' : (ns.map W.int).length ≤ 63 := by rw [List.length_map]; exact hl
  have cut : cutW (ns.map W.int) none (some 64) = ns.map W.int := cutW_whole rfl (by
    rw [show (some (64 : Int)) = some ((64 : Nat) : Int) from rfl, HT.sIx_nat]
    omega)
  have lc : lcL (.lref 0 (ns.map W.int)) (gNm 1) tYesM (mCall fInt (aCons (eVar 1) aNil)) (wipeR [some (.lro (ns.map W.int)), none] [1]) (ns.map W.int) [.lst (ns.map W.int)] = some (.ok (ns.map W.int), [.lst (ns.map W.int)]) := lc_lref rfl fun x _ => rfl
  have lz : (ns.map W.int).length ≤ sizeLine := by rw [sizeLine_eq]; omega
  have e1 : eSl (eVar 0) oNone (oSome (eC (.int 64))) [some (.lro (ns.map W.int)), none] [] = some (.ok (.ref 0), [.lst (ns.map W.int)]) := by
    unfold eSl oNone oSome
    simp only [runB, sSeq, sIf, sb, sRet, sDrop, sAsg, sNext, sCnt, sPar, tBl, Mp.tOr, Mp.tAnd, Mp.tNot, tTru, asTru, truW, mOp2, mOp1, mCall, M.bind, M.ret, asBl, up, eVar, eC, eTup, eLst, aCons, aNil, eIf, eAnd, eOr, eNot, eChain, gNm, gTp, gsCons, gsNil, List.set, List.map_cons, List.map_nil, List.length_cons, List.length_nil, List.replicate, List.cons_append, List.nil_append, List.getElem?_cons_zero, List.getElem?_cons_succ, if_true, if_false, reduceIte, Bool.not_true, Bool.not_false, Bool.false_eq_true, Option.map, Nat.reduceAdd, Nat.reduceSub, Nat.reduceLeDiff, sz1, sz2, sz3, sz4, sz5, sz6, sz12, sz0, List.append_nil, eCall, pickL, List.filterMap_cons, List.filterMap_nil, eMth, isLst, lstW, atL, fApp, fPop, eExtL, Option.isSome, and_self, true_and, and_true, fSl, cut]
  have e2 : eLcK (srcM srcL (eSl (eVar 0) oNone (oSome (eC (.int 64))))) (gNm 1) tYesM (mCall fInt (aCons (eVar 1) aNil)) [1] [some (.lro (ns.map W.int)), none] [] = some (.ok (.ref 1), [.lst (ns.map W.int), .lst (ns.map W.int)]) := by
    unfold eLcK okOnly eLcs srcM newL
    simp only [M.bind, e1, srcL, List.getElem?_cons_zero, Src.l, lc, if_pos lz]
    rfl
  show runB Wk.N__law_pen.length (Wk.B__law_pen Hd.pk (Sn n)) [.lro (ns.map W.int)] [] = _
  unfold Wk.B__law_pen
  simp only [runB, sSeq, sIf, sb, sRet, sDrop, sAsg, sNext, sCnt, sPar, tBl, Mp.tOr, Mp.tAnd, Mp.tNot, tTru, asTru, truW, mOp2, mOp1, mCall, M.bind, M.ret, asBl, up, eVar, eC, eTup, eLst, aCons, aNil, eIf, eAnd, eOr, eNot, eChain, gNm, gTp, gsCons, gsNil, List.set, List.map_cons, List.map_nil, List.length_cons, List.length_nil, List.replicate, List.cons_append, List.nil_append, List.getElem?_cons_zero, List.getElem?_cons_succ, if_true, if_false, reduceIte, Bool.not_true, Bool.not_false, Bool.false_eq_true, Option.map, Nat.reduceAdd, Nat.reduceSub, Nat.reduceLeDiff, sz1, sz2, sz3, sz4, sz5, sz6, sz12, sz0, List.append_nil, eCall, pickL, List.filterMap_cons, List.filterMap_nil, eMth, isLst, lstW, atL, fApp, fPop, eExtL, Option.isSome, and_self, true_and, and_true, e2]
/-! ### what is heard -/
theorem isx {c D : Str} {b : Bool} {P : Nat} {g : Hw} {fs : List (Str × W)} (hP : g[P]? = some (.exn c fs)) (ho : Hd.kn.ownT (.exc c) = true) (hs : Hd.kn.subT (.exc c) (.own D) = some b) : fIs Hd.pk.own Hd.pk.sub [.ref P, .glo D] g = some (.bl b, g) := by
  have e : typW (.ref P) g = some (.exc c) := by
    show (match g[P]? with
      | some (.lst _) => some (TyW.bi "list")
      | some (.dct _) => some (TyW.bi "dict")
      | some (.ins c _) => some (TyW.own c)
      | some (.exn c _) => some (TyW.exc c)
      | none => none) = _
    rw [hP]
  show (match typW (.ref P) g, asTy (.glo D) with
    | some t, some tc => if fIsOwn Hd.pk.own t = true then (Hd.pk.sub t tc).map fun b => (W.bl b, g) else none
    | _, _ => none) = _
  rw [e]
  show (if Hd.kn.ownT (.exc c) = true then (Hd.kn.subT (.exc c) (.own D)).map fun b => (W.bl b, g) else none) = _
  rw [if_pos ho, hs]
  rfl
def wordsOf (l : List (Str × Bool)) : List W := l.map fun p => .tup [.str p.1, .bl p.2]
theorem lc_words {h : Hw} {q : Nat} {src : List W} {w0 w1 w2 w3 w4 w5 : Option W} (hq : h[q]? = some (.lst src)) : ∀ l : List (Str × Bool), lcL (.lref q src) (gTp (gsCons (gNm 6) (gsCons (gNm 7) gsNil)) 2) (tTru (eVar 7)) (eVar 6) [w0, w1, w2, w3, w4, w5, none, none] (wordsOf l) h = some (.ok ((l.filter (·.2)).map fun p => W.str p.1), h)
  | [] => by
    unfold wordsOf lcL
    exact if_pos hq
  | (s, true) :: l => by
    have r := lc_words (w0 := w0) (w1 := w1) (w2 := w2) (w3 := w3) (w4 := w4) (w5 := w5) hq l
    unfold wordsOf at r ⊢
    unfold lcL
    refine (if_pos hq).trans ?_
    simp only [gTp, gsCons, gNm, gsNil, List.length_cons, List.length_nil, Nat.reduceAdd, if_true, List.set, tTru, eVar, M.bind, M.ret, List.getElem?_cons_zero, List.getElem?_cons_succ, asTru, truW, r]
    rfl
  | (s, false) :: l => by
    have r := lc_words (w0 := w0) (w1 := w1) (w2 := w2) (w3 := w3) (w4 := w4) (w5 := w5) hq l
    unfold wordsOf at r ⊢
    unfold lcL
    refine (if_pos hq).trans ?_
    simp only [gTp, gsCons, gNm, gsNil, List.length_cons, List.length_nil, Nat.reduceAdd, if_true, List.set, tTru, eVar, M.bind, M.ret, List.getElem?_cons_zero, List.getElem?_cons_succ, asTru, truW, Bool.false_eq_true, if_false, r]
    rfl
end Pl

set_option Elab.async false
set_option linter.all false
set_option autoImplicit false
set_option maxRecDepth 100000
set_option maxHeartbeats 4000000
/-! Pp: what is heard of an exception. -/
namespace Pl
open PySem PySem.Spec PyProof.Rows L2 Mp
open En
/-- what the def that asks tells of an exception of the class c -/
theorem ev_heard (n : Nat) {m : M W} {h h1 : Hw} {c wd : Str} (em : m h = some (.exc ⟨c, [("part", .str "statement")]⟩, h1)) (hc : (c = "Misfit" ∧ wd = "misfit") ∨ (c = "BadStatement" ∧ wd = "statement")) :
    ∃ h', Gr no h1 h' ∧ Hs n m h = some (.ok (.tup [.str wd, .str "statement"]), h') := by
  obtain ⟨fs, hfs⟩ : ∃ fs : List (Str × W), fs = ([(("part" : Str), W.str "statement")] : List (Str × W)) := ⟨_, rfl⟩
  have cat : Hd.kn.catT "RunError" c = some true := by rcases hc with ⟨rfl, _⟩ | ⟨rfl, _⟩ <;> decide +kernel
  have ho : Hd.kn.ownT (.exc c) = true := by rcases hc with ⟨rfl, _⟩ | ⟨rfl, _⟩ <;> decide +kernel
  have hf : Hd.kn.fkT (.exc c) "part" = true := by rcases hc with ⟨rfl, _⟩ | ⟨rfl, _⟩ <;> decide +kernel
  have s0 : Hd.kn.subT (.exc c) (.own "TooMany") = some false := by rcases hc with ⟨rfl, _⟩ | ⟨rfl, _⟩ <;> decide +kernel
  have s1 : Hd.kn.subT (.exc c) (.own "BadSheet") = some false := by rcases hc with ⟨rfl, _⟩ | ⟨rfl, _⟩ <;> decide +kernel
  have s2 : Hd.kn.subT (.exc c) (.own "BadTerm") = some false := by rcases hc with ⟨rfl, _⟩ | ⟨rfl, _⟩ <;> decide +kernel
  have s3 : Hd.kn.subT (.exc c) (.own "BadNumber") = some false := by rcases hc with ⟨rfl, _⟩ | ⟨rfl, _⟩ <;> decide +kernel
  have s4 : Hd.kn.subT (.exc c) (.own "BadCode") = some false := by rcases hc with ⟨rfl, _⟩ | ⟨rfl, _⟩ <;> decide +kernel
  have s5 : Hd.kn.subT (.exc c) (.own "Misfit") = some (c == "Misfit") := by rcases hc with ⟨rfl, _⟩ | ⟨rfl, _⟩ <;> decide +kernel
  have s6 : Hd.kn.subT (.exc c) (.own "BadStatement") = some (c == "BadStatement") := by rcases hc with ⟨rfl, _⟩ | ⟨rfl, _⟩ <;> decide +kernel
  obtain ⟨h2, hh2⟩ : ∃ g, g = h1 ++ [MO.exn c fs] := ⟨_, rfl⟩
  obtain ⟨P, hP⟩ : ∃ P, P = h1.length := ⟨_, rfl⟩
  have a2 : h2[P]? = some (.exn c fs) := by rw [hh2, hP]; exact new_at
  obtain ⟨l1, hl1⟩ : ∃ l, l = wordsOf [("sheet", false), ("term", false), ("number", false)] := ⟨_, rfl⟩
  obtain ⟨l2, hl2⟩ : ∃ l, l = wordsOf [("code", false), ("misfit", c == "Misfit"), ("statement", c == "BadStatement")] := ⟨_, rfl⟩
  obtain ⟨h3, hh3⟩ : ∃ g, g = nwL h2 l1 := ⟨_, rfl⟩
  obtain ⟨h4, hh4⟩ : ∃ g, g = nwL h3 l2 := ⟨_, rfl⟩
  obtain ⟨h5, hh5⟩ : ∃ g, g = nwL h4 (l1 ++ l2) := ⟨_, rfl⟩
  obtain ⟨h6, hh6⟩ : ∃ g, g = nwL h5 [.str wd] := ⟨_, rfl⟩
  have a3 : h3[P]? = some (.exn c fs) := by rw [hh3]; exact app_at a2
  have a6 : h6[P]? = some (.exn c fs) := by rw [hh6, hh5, hh4]; exact app_at (app_at (app_at a3))
  have b4 : h4[h2.length]? = some (.lst l1) := by rw [hh4, hh3]; exact app_at new_at
  have c4 : h4[h3.length]? = some (.lst l2) := by rw [hh4]; exact new_at
  have d5 : h5[h4.length]? = some (.lst (l1 ++ l2)) := by rw [hh5]; exact new_at
  have d6 : h6[h5.length]? = some (.lst [.str wd]) := by rw [hh6]; exact new_at
  have gg : Gr no h1 h6 := by
    rw [hh6, hh5, hh4, hh3, hh2]
    exact (Gr.app _).trans ((Gr.app _).trans ((Gr.app _).trans ((Gr.app _).trans (Gr.app _))))
  refine ⟨h6, gg, hs_eq fun f => ?_⟩
  unfold Wk.B__law_heard runB
  rw [show (List.map some [W.adr f] ++ List.replicate (Wk.N__law_heard.length - [W.adr f].length) none) = [some (.adr f), none, none, none, none, none, none, none] from rfl]
  have t0 : sAsg (eTup (aCons (eC .non) (aCons (eC .non) aNil))) (gTp (gsCons (gNm 1) (gsCons (gNm 2) gsNil)) 2) [some (.adr f), none, none, none, none, none, none, none] h = some (.nx [some (.adr f), some .non, some .non, none, none, none, none, none], h) := by simp only [runB, sSeq, sIf, sb, sRet, sDrop, sAsg, sNext, sCnt, sPar, tBl, Mp.tOr, Mp.tAnd, Mp.tNot, tTru, asTru, truW, mOp2, mOp1, mCall, M.bind, M.ret, asBl, up, eVar, eC, eTup, eLst, aCons, aNil, eIf, eAnd, eOr, eNot, eChain, gNm, gTp, gsCons, gsNil, List.set, List.map_cons, List.map_nil, List.length_cons, List.length_nil, List.replicate, List.cons_append, List.nil_append, List.getElem?_cons_zero, List.getElem?_cons_succ, if_true, if_false, reduceIte, Bool.not_true, Bool.not_false, Bool.false_eq_true, Option.map, Nat.reduceAdd, Nat.reduceSub, Nat.reduceLeDiff, sz1, sz2, sz3, sz4, sz5, sz6, sz12, sz0, List.append_nil, eCall, pickL, List.filterMap_cons, List.filterMap_nil, eMth, isLst, lstW, atL, fApp, fPop, eExtL, Option.isSome, and_self, true_and, and_true]
  have ea : eAsk 0 f m [some (.adr f), some .non, some .non, none, none, none, none, none] h = some (.exc ⟨c, fs⟩, h1) := by
    rw [hfs]
    show (if f = f then m else M.none) h = _
    rw [if_pos rfl]
    exact em
  have t1 : sTry (Hd.pk.cat "RunError") 3 1 (sAsg (eAsk 0 f m) (gNm 2)) [some (.adr f), some .non, some .non, none, none, none, none, none] h = some (.nx [some (.adr f), some (.ref P), some .non, none, none, none, none, none], h2) := by
    have eb : sAsg (eAsk 0 f m) (gNm 2) [some (.adr f), some .non, some .non, none, none, none, none, none] h = some (.exc ⟨c, fs⟩ [some (.adr f), some .non, some .non, none, none, none, none, none], h1) := by
      unfold sAsg sb
      rw [ea]
    unfold sTry
    rw [eb]
    dsimp only
    rw [cat]
    dsimp only
    rw [if_pos ⟨by rw [hfs]; exact fun z => (nomatch z), by show 3 < 8; omega⟩, hh2, hP]
    rfl
  have z1 : fIsN (.ref P) .non h2 = some (.bl false, h2) := rfl
  have t2 : (tBl (mOp2 fIsN (eVar 1) (eC .non))) [some (.adr f), some (.ref P), some .non, none, none, none, none, none] h2 = some (.ok false, h2) := by simp only [runB, sSeq, sIf, sb, sRet, sDrop, sAsg, sNext, sCnt, sPar, tBl, Mp.tOr, Mp.tAnd, Mp.tNot, tTru, asTru, truW, mOp2, mOp1, mCall, M.bind, M.ret, asBl, up, eVar, eC, eTup, eLst, aCons, aNil, eIf, eAnd, eOr, eNot, eChain, gNm, gTp, gsCons, gsNil, List.set, List.map_cons, List.map_nil, List.length_cons, List.length_nil, List.replicate, List.cons_append, List.nil_append, List.getElem?_cons_zero, List.getElem?_cons_succ, if_true, if_false, reduceIte, Bool.not_true, Bool.not_false, Bool.false_eq_true, Option.map, Nat.reduceAdd, Nat.reduceSub, Nat.reduceLeDiff, sz1, sz2, sz3, sz4, sz5, sz6, sz12, sz0, List.append_nil, eCall, pickL, List.filterMap_cons, List.filterMap_nil, eMth, isLst, lstW, atL, fApp, fPop, eExtL, Option.isSome, and_self, true_and, and_true, z1]
  have t3 : (tBl (mCall (fIs Hd.pk.own Hd.pk.sub) (aCons (eVar 1) (aCons (eC (.glo "TooMany")) aNil)))) [some (.adr f), some (.ref P), some .non, none, none, none, none, none] h2 = some (.ok false, h2) := by
    have q := isx a2 ho s0
    simp only [runB, sSeq, sIf, sb, sRet, sDrop, sAsg, sNext, sCnt, sPar, tBl, Mp.tOr, Mp.tAnd, Mp.tNot, tTru, asTru, truW, mOp2, mOp1, mCall, M.bind, M.ret, asBl, up, eVar, eC, eTup, eLst, aCons, aNil, eIf, eAnd, eOr, eNot, eChain, gNm, gTp, gsCons, gsNil, List.set, List.map_cons, List.map_nil, List.length_cons, List.length_nil, List.replicate, List.cons_append, List.nil_append, List.getElem?_cons_zero, List.getElem?_cons_succ, if_true, if_false, reduceIte, Bool.not_true, Bool.not_false, Bool.false_eq_true, Option.map, Nat.reduceAdd, Nat.reduceSub, Nat.reduceLeDiff, sz1, sz2, sz3, sz4, sz5, sz6, sz12, sz0, List.append_nil, eCall, pickL, List.filterMap_cons, List.filterMap_nil, eMth, isLst, lstW, atL, fApp, fPop, eExtL, Option.isSome, and_self, true_and, and_true, q]
  have t4 : sAsg (eLst (aCons (eTup (aCons (eC (.str "sheet")) (aCons (mCall (fIs Hd.pk.own Hd.pk.sub) (aCons (eVar 1) (aCons (eC (.glo "BadSheet")) aNil))) aNil))) (aCons (eTup (aCons (eC (.str "term")) (aCons (mCall (fIs Hd.pk.own Hd.pk.sub) (aCons (eVar 1) (aCons (eC (.glo "BadTerm")) aNil))) aNil))) (aCons (eTup (aCons (eC (.str "number")) (aCons (mCall (fIs Hd.pk.own Hd.pk.sub) (aCons (eVar 1) (aCons (eC (.glo "BadNumber")) aNil))) aNil))) aNil)))) (gNm 4) [some (.adr f), some (.ref P), some .non, none, none, none, none, none] h2 = some (.nx [some (.adr f), some (.ref P), some .non, none, some (.ref h2.length), none, none, none], h3) := by
    have q1 := isx a2 ho s1
    have q2 := isx a2 ho s2
    have q3 := isx a2 ho s3
    rw [hh3, hl1]
    simp only [runB, sSeq, sIf, sb, sRet, sDrop, sAsg, sNext, sCnt, sPar, tBl, Mp.tOr, Mp.tAnd, Mp.tNot, tTru, asTru, truW, mOp2, mOp1, mCall, M.bind, M.ret, asBl, up, eVar, eC, eTup, eLst, aCons, aNil, eIf, eAnd, eOr, eNot, eChain, gNm, gTp, gsCons, gsNil, List.set, List.map_cons, List.map_nil, List.length_cons, List.length_nil, List.replicate, List.cons_append, List.nil_append, List.getElem?_cons_zero, List.getElem?_cons_succ, if_true, if_false, reduceIte, Bool.not_true, Bool.not_false, Bool.false_eq_true, Option.map, Nat.reduceAdd, Nat.reduceSub, Nat.reduceLeDiff, sz1, sz2, sz3, sz4, sz5, sz6, sz12, sz0, List.append_nil, eCall, pickL, List.filterMap_cons, List.filterMap_nil, eMth, isLst, lstW, atL, fApp, fPop, eExtL, Option.isSome, and_self, true_and, and_true, q1, q2, q3, wordsOf]
  have t5 : sAsg (mOp2 fAdd (eVar 4) (eLst (aCons (eTup (aCons (eC (.str "code")) (aCons (mCall (fIs Hd.pk.own Hd.pk.sub) (aCons (eVar 1) (aCons (eC (.glo "BadCode")) aNil))) aNil))) (aCons (eTup (aCons (eC (.str "misfit")) (aCons (mCall (fIs Hd.pk.own Hd.pk.sub) (aCons (eVar 1) (aCons (eC (.glo "Misfit")) aNil))) aNil))) (aCons (eTup (aCons (eC (.str "statement")) (aCons (mCall (fIs Hd.pk.own Hd.pk.sub) (aCons (eVar 1) (aCons (eC (.glo "BadStatement")) aNil))) aNil))) aNil))))) (gNm 4) [some (.adr f), some (.ref P), some .non, none, some (.ref h2.length), none, none, none] h3 = some (.nx [some (.adr f), some (.ref P), some .non, none, some (.ref h4.length), none, none, none], h5) := by
    have q1 := isx a3 ho s4
    have q2 := isx a3 ho s5
    have q3 := isx a3 ho s6
    have qa : fAdd (.ref h2.length) (.ref h3.length) h4 = some (.ref h4.length, h5) := by
      have sz : l1.length + l2.length ≤ sizeLine := by rw [hl1, hl2, sizeLine_eq]; show 3 + 3 ≤ _; omega
      show (match h4[h2.length]?, h4[h3.length]? with
        | some (.lst a), some (.lst b) => if a.length + b.length ≤ sizeLine then some (W.ref h4.length, h4 ++ [MO.lst (a ++ b)]) else none
        | _, _ => none) = _
      rw [b4, c4]
      dsimp only
      rw [if_pos sz, hh5]
    have qh : h3 ++ [MO.lst ([W.tup [.str "code", .bl false], .tup [.str "misfit", .bl (c == "Misfit")], .tup [.str "statement", .bl (c == "BadStatement")]] : List W)] = h4 := by rw [hh4, hl2]; rfl
    simp only [runB, sSeq, sIf, sb, sRet, sDrop, sAsg, sNext, sCnt, sPar, tBl, Mp.tOr, Mp.tAnd, Mp.tNot, tTru, asTru, truW, mOp2, mOp1, mCall, M.bind, M.ret, asBl, up, eVar, eC, eTup, eLst, aCons, aNil, eIf, eAnd, eOr, eNot, eChain, gNm, gTp, gsCons, gsNil, List.set, List.map_cons, List.map_nil, List.length_cons, List.length_nil, List.replicate, List.cons_append, List.nil_append, List.getElem?_cons_zero, List.getElem?_cons_succ, if_true, if_false, reduceIte, Bool.not_true, Bool.not_false, Bool.false_eq_true, Option.map, Nat.reduceAdd, Nat.reduceSub, Nat.reduceLeDiff, sz1, sz2, sz3, sz4, sz5, sz6, sz12, sz0, List.append_nil, eCall, pickL, List.filterMap_cons, List.filterMap_nil, eMth, isLst, lstW, atL, fApp, fPop, eExtL, Option.isSome, and_self, true_and, and_true, q1, q2, q3, qh, qa]
  have fw : (([("sheet", false), ("term", false), ("number", false), ("code", false), ("misfit", c == "Misfit"), ("statement", c == "BadStatement")] : List (Str × Bool)).filter (·.2)).map (fun p => W.str p.1) = [.str wd] := by
    rcases hc with ⟨rfl, rfl⟩ | ⟨rfl, rfl⟩
    · rfl
    · rfl
  have t6 : sAsg (eLcK (srcM srcL (eVar 4)) (gTp (gsCons (gNm 6) (gsCons (gNm 7) gsNil)) 2) (tTru (eVar 7)) (eVar 6) [6, 7]) (gNm 5) [some (.adr f), some (.ref P), some .non, none, some (.ref h4.length), none, none, none] h5 = some (.nx [some (.adr f), some (.ref P), some .non, none, some (.ref h4.length), some (.ref h5.length), none, none], h6) := by
    have lw : l1 ++ l2 = wordsOf ([("sheet", false), ("term", false), ("number", false), ("code", false), ("misfit", c == "Misfit"), ("statement", c == "BadStatement")] : List (Str × Bool)) := by rw [hl1, hl2]; rfl
    have lc := lc_words (w0 := some (.adr f)) (w1 := some (.ref P)) (w2 := some .non) (w3 := none) (w4 := some (.ref h4.length)) (w5 := none) d5 ([("sheet", false), ("term", false), ("number", false), ("code", false), ("misfit", c == "Misfit"), ("statement", c == "BadStatement")] : List (Str × Bool))
    rw [← lw, fw] at lc
    have es : srcM srcL (eVar 4) [some (.adr f), some (.ref P), some .non, none, some (.ref h4.length), none, none, none] h5 = some (.ok (.lref h4.length (l1 ++ l2)), h5) := by
      unfold srcM
      show (match (match h5[h4.length]? with
        | some (.lst l) => some (Src.lref h4.length l)
        | _ => none) with
        | some s => some (Out.ok s, h5)
        | none => none) = _
      rw [d5]
    have el : eLcK (srcM srcL (eVar 4)) (gTp (gsCons (gNm 6) (gsCons (gNm 7) gsNil)) 2) (tTru (eVar 7)) (eVar 6) [6, 7] [some (.adr f), some (.ref P), some .non, none, some (.ref h4.length), none, none, none] h5 = some (.ok (.ref h5.length), h6) := by
      have lc' : lcL (.lref h4.length (l1 ++ l2)) (gTp (gsCons (gNm 6) (gsCons (gNm 7) gsNil)) 2) (tTru (eVar 7)) (eVar 6) (wipeR [some (.adr f), some (.ref P), some .non, none, some (.ref h4.length), none, none, none] [6, 7]) (l1 ++ l2) h5 = some (.ok [.str wd], h5) := lc
      unfold eLcK okOnly eLcs newL
      simp only [M.bind, es, Src.l, lc', List.length_cons, List.length_nil, Nat.reduceAdd, sz1, if_true]
      rw [hh6]
    unfold sAsg sb
    rw [el]
    rfl
  have t7 : sRet (eIf (tBl (mOp2 fEq (mCall fLen (aCons (eVar 5) aNil)) (eC (.int 1)))) (eTup (aCons (mOp2 fIx (eVar 5) (eC (.int 0))) (aCons (mOp1 (fFld Hd.pk.fk "part") (eVar 1)) aNil))) (eTup (aCons (eC (.str "other")) (aCons (eC .non) aNil)))) [some (.adr f), some (.ref P), some .non, none, some (.ref h4.length), some (.ref h5.length), none, none] h6 = some (.rt (.tup [.str wd, .str "statement"]), h6) := by
    have z0 : atI [W.str wd] 0 = some (.str wd) := atI_nat (i := 0) rfl
    have qf : fFld Hd.pk.fk "part" (.ref P) h6 = some (.str "statement", h6) := by
      show (match h6[P]? with
        | some (.ins c fs) => if Hd.kn.fkT (.own c) "part" = true then (fs.lookup ("part" : Str)).map fun w => (w, h6) else none
        | some (.exn c fs) => if Hd.kn.fkT (.exc c) "part" = true then (fs.lookup ("part" : Str)).map fun w => (w, h6) else none
        | _ => none) = _
      rw [a6]
      dsimp only
      rw [if_pos hf, hfs]
      rfl
    have q1 : ((1 : Nat) : Int) = 1 := rfl
    have qi := eq_int (i := 1) (j := 1) (g := h6)
    have qb : ((1 : Int) == 1) = true := rfl
    simp only [runB, sSeq, sIf, sb, sRet, sDrop, sAsg, sNext, sCnt, sPar, tBl, Mp.tOr, Mp.tAnd, Mp.tNot, tTru, asTru, truW, mOp2, mOp1, mCall, M.bind, M.ret, asBl, up, eVar, eC, eTup, eLst, aCons, aNil, eIf, eAnd, eOr, eNot, eChain, gNm, gTp, gsCons, gsNil, List.set, List.map_cons, List.map_nil, List.length_cons, List.length_nil, List.replicate, List.cons_append, List.nil_append, List.getElem?_cons_zero, List.getElem?_cons_succ, if_true, if_false, reduceIte, Bool.not_true, Bool.not_false, Bool.false_eq_true, Option.map, Nat.reduceAdd, Nat.reduceSub, Nat.reduceLeDiff, sz1, sz2, sz3, sz4, sz5, sz6, sz12, sz0, List.append_nil, eCall, pickL, List.filterMap_cons, List.filterMap_nil, eMth, isLst, lstW, atL, fApp, fPop, eExtL, Option.isSome, and_self, true_and, and_true, fLen, seqW, d6, q1, qi, qb, fIx, z0, qf]
  rw [seq_nx t0, seq_nx t1, seq_nx ((if_f t2).trans rfl), seq_nx ((if_f t3).trans rfl), seq_nx t4, seq_nx t5, seq_nx t6, t7]
end Pl

set_option Elab.async false
set_option linter.all false
set_option autoImplicit false
set_option maxRecDepth 100000
set_option maxHeartbeats 4000000
/-! Pq: data whose text is tame. -/
namespace Pl
open PySem PySem.Spec PyProof.Rows L2 Mp
open En
theorem strOk_app (a b : Str) : PyData.strOk (a ++ b) = (PyData.strOk a && PyData.strOk b) := by
  show (a.cps ++ b.cps).all _ = _
  rw [Array.all_append]
  rfl
theorem strOk_join (s : Str) (hs : PyData.strOk s = true) : ∀ l : List Str, (∀ t ∈ l, PyData.strOk t = true) → PyData.strOk (Str.join s l) = true
  | [], _ => by show PyData.strOk Str.empty = true; decide +kernel
  | [x], h => h x List.mem_cons_self
  | x :: y :: r, h => by
    show PyData.strOk (x ++ s ++ Str.join s (y :: r)) = true
    rw [strOk_app, strOk_app, h x List.mem_cons_self, hs, strOk_join s hs (y :: r) fun t ht => h t (List.mem_cons_of_mem _ ht)]
    rfl
def lenAll : List Str → Nat
  | [] => 0
  | t :: r => t.length + 2 + lenAll r
theorem len_app (a b : Str) : (a ++ b).length = a.length + b.length := by
  show (a.cps ++ b.cps).size = _
  rw [Array.size_append]
  rfl
theorem len_join : ∀ l : List Str, (Str.join ", " l).length ≤ lenAll l
  | [] => Nat.le_refl _
  | [x] => by show x.length ≤ x.length + 2 + 0; omega
  | x :: y :: r => by
    have ih := len_join (y :: r)
    show (x ++ ", " ++ Str.join ", " (y :: r)).length ≤ x.length + 2 + lenAll (y :: r)
    rw [len_app, len_app]
    have e : ((", " : String) : Str).length = 2 := rfl
    omega
/-- data whose text is tame -/
structure Tame (m : Nat) (d : PyData) : Prop where
  lay : d.canLay0 = true
  sh : d.showable = true
  nd : d.hasDict = false
  ok : PyData.strOk d.shown = true
  len : d.shown.length ≤ m
structure TameL (m : Nat) (ds : List PyData) : Prop where
  lay : PyData.canLayAll0 ds = true
  sh : PyData.showableAll ds = true
  nd : PyData.hasDictAll ds = false
  ok : ∀ t ∈ PyData.shownAll ds, PyData.strOk t = true
  len : lenAll (PyData.shownAll ds) ≤ m
theorem TameL.nil : TameL 0 [] := ⟨by simp [PyData.canLayAll0], by simp [PyData.showableAll], by simp [PyData.hasDictAll], by simp [PyData.shownAll], by simp [PyData.shownAll, lenAll]⟩
theorem TameL.cons {m n : Nat} {d : PyData} {ds : List PyData} (a : Tame m d) (b : TameL n ds) : TameL (m + 2 + n) (d :: ds) := ⟨by simp [PyData.canLayAll0, a.lay, b.lay], by simp [PyData.showableAll, a.sh, b.sh], by simp [PyData.hasDictAll, a.nd, b.nd], by
  intro t ht
  simp only [PyData.shownAll, List.mem_cons] at ht
  rcases ht with rfl | ht
  · exact a.ok
  · exact b.ok t ht, by
  simp only [PyData.shownAll, lenAll]
  have := a.len
  have := b.len
  omega⟩
theorem TameL.tup {m : Nat} {ds : List PyData} (a : TameL m ds) : Tame (m + 3) (.tuple ds) := ⟨by simp [PyData.canLay0, a.lay], by simp [PyData.showable, a.sh], by simp [PyData.hasDict, a.nd], by
  simp only [PyData.shown, tupleText]
  rw [strOk_app, strOk_app, strOk_join _ (by decide +kernel) _ a.ok]
  split <;> decide +kernel, by
  simp only [PyData.shown, tupleText]
  rw [len_app, len_app]
  have h1 := len_join (PyData.shownAll ds)
  have h2 := a.len
  have e : (("(" : String) : Str).length = 1 := rfl
  have e2 : ((if (PyData.shownAll ds).length == 1 then ",)" else ")" : String) : Str).length ≤ 2 := by split <;> decide +kernel
  omega⟩
end Pl

set_option Elab.async false
set_option linter.all false
set_option autoImplicit false
set_option maxRecDepth 100000
set_option maxHeartbeats 4000000
/-! Pr: the written one as data. -/
namespace Pl
open PySem PySem.Spec PyProof.Rows L2 Mp
open En
def tameB (s : Str) : Bool := PyData.strOk s && (PyData.strOk (reprText s) && decide ((reprText s).length ≤ 20))
theorem tame_of {s : Str} (h : tameB s = true) : Tame 20 (.str s) := by
  unfold tameB at h
  simp only [Bool.and_eq_true, decide_eq_true_eq] at h
  exact ⟨by simp [PyData.canLay0, h.1], by simp [PyData.showable], by simp [PyData.hasDict], by simp only [PyData.shown]; exact h.2.1, by simp only [PyData.shown]; exact h.2.2⟩
theorem tame_leaf : ∀ s ∈ leaves, tameB s = true := by decide +kernel
theorem Tame.le {m n : Nat} {d : PyData} (a : Tame m d) (l : m ≤ n) : Tame n d := ⟨a.lay, a.sh, a.nd, a.ok, Nat.le_trans a.len l⟩
/-- all words of a statement are tame -/
def St.words : St → Bool
  | .leaf s => tameB s
  | .node a x y => tameB a && (x.words && y.words)
theorem St.tame : ∀ s : St, s.words = true → Tame (60 * s.size) s.d
  | .leaf s, h => (tame_of h).le (by show 20 ≤ 60 * 1; omega)
  | .node a x y, h => by
    have h' : (tameB a && (x.words && y.words)) = true := h
    simp only [Bool.and_eq_true] at h'
    refine ((TameL.cons (tame_of h'.1) (TameL.cons (St.tame x h'.2.1) (TameL.cons (St.tame y h'.2.2) TameL.nil))).tup).le ?_
    show 20 + 2 + (60 * x.size + 2 + (60 * y.size + 2 + 0)) + 3 ≤ 60 * (1 + x.size + y.size)
    omega
def St.outD : St → PyData → PyData
  | .leaf s, v => if s == "yes" then .str "unit" else .tuple [.str "token", .str s, v]
  | .node a x y, v => if a == "gives" then .tuple [.str "writer", x.d, y.d, v] else .tuple [.str "pair", x.outD (.tuple [.str "first", v]), y.outD (.tuple [.str "second", v])]
def St.outB : St → Nat → Nat
  | .leaf _, m => m + 60
  | .node _ x y, m => 60 * x.size + 60 * y.size + m + 60 + (x.outB (m + 30) + y.outB (m + 30))
theorem tame_unit : tameB "unit" = true := by decide +kernel
theorem tame_token : tameB "token" = true := by decide +kernel
theorem tame_writer : tameB "writer" = true := by decide +kernel
theorem tame_pair : tameB "pair" = true := by decide +kernel
theorem tame_first : tameB "first" = true := by decide +kernel
theorem tame_second : tameB "second" = true := by decide +kernel
theorem St.out_tame : ∀ (s : St), s.words = true → ∀ (m : Nat) (v : PyData), Tame m v → Tame (s.outB m) (s.outD v)
  | .leaf s, h, m, v, a => by
    show Tame (m + 60) (if s == "yes" then .str "unit" else .tuple [.str "token", .str s, v])
    split
    · exact (tame_of tame_unit).le (by omega)
    · exact ((TameL.cons (tame_of tame_token) (TameL.cons (tame_of h) (TameL.cons a TameL.nil))).tup).le (by omega)
  | .node w x y, h, m, v, a => by
    have h' : (tameB w && (x.words && y.words)) = true := h
    simp only [Bool.and_eq_true] at h'
    have t1 := ((TameL.cons (tame_of tame_first) (TameL.cons a TameL.nil)).tup).le (show _ ≤ m + 30 by omega)
    have t2 := ((TameL.cons (tame_of tame_second) (TameL.cons a TameL.nil)).tup).le (show _ ≤ m + 30 by omega)
    have o1 := St.out_tame x h'.2.1 _ _ t1
    have o2 := St.out_tame y h'.2.2 _ _ t2
    show Tame (60 * x.size + 60 * y.size + m + 60 + (x.outB (m + 30) + y.outB (m + 30))) (if w == "gives" then .tuple [.str "writer", x.d, y.d, v] else .tuple [.str "pair", x.outD (.tuple [.str "first", v]), y.outD (.tuple [.str "second", v])])
    split
    · exact ((TameL.cons (tame_of tame_writer) (TameL.cons (St.tame x h'.2.1) (TameL.cons (St.tame y h'.2.2) (TameL.cons a TameL.nil)))).tup).le (by omega)
    · exact ((TameL.cons (tame_of tame_pair) (TameL.cons o1 (TameL.cons o2 TameL.nil))).tup).le (by omega)
end Pl

set_option Elab.async false
set_option linter.all false
set_option autoImplicit false
set_option maxRecDepth 100000
set_option maxHeartbeats 4000000
/-! Ps: the written one as data, on. -/
namespace Pl
open PySem PySem.Spec PyProof.Rows L2 Mp
open En
theorem words_ok : ∀ s : St, s.words = true → s.ok = true
  | .leaf s, h => by
    have h' : tameB s = true := h
    unfold tameB at h'
    exact (Bool.and_eq_true_iff.mp h').1
  | .node a x y, h => by
    have h' : (tameB a && (x.words && y.words)) = true := h
    simp only [Bool.and_eq_true] at h'
    have ha := h'.1
    unfold tameB at ha
    show (PyData.strOk a && (x.ok && y.ok)) = true
    rw [(Bool.and_eq_true_iff.mp ha).1, words_ok x h'.2.1, words_ok y h'.2.2]
    rfl
theorem fits_tame {s : Str} {h : Hw} {k : Nat} (t : tameB s = true) : Fits h k (.str s) (.str s) := fits_str (by
  unfold tameB at t
  exact (Bool.and_eq_true_iff.mp t).1)
theorem St.out_fits {h : Hw} : ∀ (s : St), s.words = true → ∀ (k : Nat) (w : W) (d : PyData), Fits h k w d → Fits h (k + 2 * s.dep + 1) (s.out w) (s.outD d)
  | .leaf s, hs, k, w, d, a => by
    show Fits h (k + 2 * 0 + 1) (if s == "yes" then .str "unit" else .tup [.str "token", .str s, w]) (if s == "yes" then .str "unit" else .tuple [.str "token", .str s, d])
    split
    · exact fits_tame tame_unit
    · exact (FitsL.cons (fits_tame tame_token) (FitsL.cons (fits_tame hs) (FitsL.cons a fitsL_nil))).tup
  | .node b x y, hs, k, w, d, a => by
    have h' : (tameB b && (x.words && y.words)) = true := hs
    simp only [Bool.and_eq_true] at h'
    have t1 : Fits h (k + 1) (.tup [.str "first", w]) (.tuple [.str "first", d]) := (FitsL.cons (fits_tame tame_first) (FitsL.cons a fitsL_nil)).tup
    have t2 : Fits h (k + 1) (.tup [.str "second", w]) (.tuple [.str "second", d]) := (FitsL.cons (fits_tame tame_second) (FitsL.cons a fitsL_nil)).tup
    have o1 := St.out_fits x h'.2.1 _ _ _ t1
    have o2 := St.out_fits y h'.2.2 _ _ _ t2
    have e : k + 2 * (St.node b x y).dep + 1 = k + 2 * (max x.dep y.dep) + 2 + 1 := by show k + 2 * (max x.dep y.dep + 1) + 1 = _; omega
    rw [e]
    show Fits h (k + 2 * (max x.dep y.dep) + 2 + 1) (if b == "gives" then .tup [.str "writer", x.w, y.w, w] else .tup [.str "pair", x.out (.tup [.str "first", w]), y.out (.tup [.str "second", w])]) (if b == "gives" then .tuple [.str "writer", x.d, y.d, d] else .tuple [.str "pair", x.outD (.tuple [.str "first", d]), y.outD (.tuple [.str "second", d])])
    split
    · exact (FitsL.cons (fits_tame tame_writer) (FitsL.cons (St.fits (words_ok x h'.2.1) (by omega)) (FitsL.cons (St.fits (words_ok y h'.2.2) (by omega)) (FitsL.cons (a.le (by omega)) fitsL_nil)))).tup
    · exact (FitsL.cons (fits_tame tame_pair) (FitsL.cons (o1.le (by omega)) (FitsL.cons (o2.le (by omega)) fitsL_nil))).tup
end Pl

set_option Elab.async false
set_option linter.all false
set_option autoImplicit false
set_option maxRecDepth 100000
set_option maxHeartbeats 4000000
/-! Pt: the law's comparisons. -/
namespace Pl
open PySem PySem.Spec PyProof.Rows L2 Mp
open En
theorem repr_ev {h : Hw} {k m : Nat} {w : W} {d : PyData} (a : Fits h k w d) (l : k ≤ 64) (t : Tame m d) (lm : m ≤ 1000000) (ht : isTop w = true) : fRepr [w] h = some (.str d.shown, h) := by
  have ok : reprOk d = true := by
    unfold reprOk
    have := a.s
    have := t.len
    rw [t.sh, t.nd, decide_eq_true (show d.depth ≤ 100 by omega), decide_eq_true (show d.shown.length ≤ sizeLine by rw [sizeLine_eq]; omega)]
    rfl
  show (if isTop w = true then (match toPD h 70 w with
    | some d => if reprOk d = true then some (W.str d.shown, h) else none
    | none => none) else none) = _
  rw [if_pos ht, toPD_le a.e (show k + 1 ≤ 70 by omega)]
  dsimp only
  rw [if_pos ok]
theorem ne_same {h : Hw} {k : Nat} {w : W} {d : PyData} (a : Fits h k w d) (l : k ≤ 64) : fNe w w h = some (.bl false, h) := by
  unfold fNe
  rw [eqB_fits true a a l l, SeqAt.eqv_refl d a.c]
  rfl
theorem drawn_words : ∀ s : St, s.drawn = true → s.words = true
  | .leaf s, h => tame_leaf s (of_decide_eq_true h)
  | .node a x y, h => by
    have h' : ((a == "and" || a == "gives") && (x.drawn && y.drawn)) = true := h
    simp only [Bool.and_eq_true, Bool.or_eq_true, beq_iff_eq] at h'
    have ta : tameB a = true := by rcases h'.1 with rfl | rfl <;> decide +kernel
    show (tameB a && (x.words && y.words)) = true
    rw [ta, drawn_words x h'.2.1, drawn_words y h'.2.2]
    rfl
end Pl

set_option Elab.async false
set_option linter.all false
set_option autoImplicit false
set_option maxRecDepth 100000
set_option maxHeartbeats 4000000
/-! Pu: the neutrals; the law. -/
namespace Pl
open PySem PySem.Spec PyProof.Rows L2 Mp
open En
def neus : List W := [.str "f", .tup [.str "level", .int 3], .non, .int 5, .tup [.str "call", .str "f", .str "unit"], .str "house"]
theorem tame_none : Tame 20 .none := ⟨by simp [PyData.canLay0], by simp [PyData.showable], by simp [PyData.hasDict], by simp only [PyData.shown]; decide +kernel, by simp only [PyData.shown]; decide +kernel⟩
theorem tame_int {i : Int} (h : (decide (i.natAbs.log2 < 1920) && (PyData.strOk (toString i : String) && decide (((toString i : String) : Str).length ≤ 20))) = true) : Tame 20 (.int i) := by
  simp only [Bool.and_eq_true, decide_eq_true_eq] at h
  exact ⟨by simp [PyData.canLay0], by simp [PyData.showable, h.1], by simp [PyData.hasDict], by simp only [PyData.shown]; exact h.2.1, by simp only [PyData.shown]; exact h.2.2⟩
theorem tf : tameB "f" = true := by decide +kernel
theorem tlevel : tameB "level" = true := by decide +kernel
theorem tcall : tameB "call" = true := by decide +kernel
theorem thouse : tameB "house" = true := by decide +kernel
theorem neu_ok (w : W) (hw : w ∈ neus) : ∃ d, (∀ h : Hw, Fits h 3 w d) ∧ Tame 100 d := by
  simp only [neus, List.mem_cons, List.not_mem_nil, or_false] at hw
  rcases hw with rfl | rfl | rfl | rfl | rfl | rfl
  · exact ⟨_, fun h => fits_tame tf, (tame_of tf).le (by omega)⟩
  · exact ⟨_, fun h => (FitsL.cons (fits_tame (k := 2) tlevel) (FitsL.cons fits_int fitsL_nil)).tup, ((TameL.cons (tame_of tlevel) (TameL.cons (tame_int (by decide +kernel)) TameL.nil)).tup).le (by omega)⟩
  · exact ⟨_, fun h => fits_non, tame_none.le (by omega)⟩
  · exact ⟨_, fun h => fits_int, (tame_int (by decide +kernel)).le (by omega)⟩
  · exact ⟨_, fun h => (FitsL.cons (fits_tame (k := 2) tcall) (FitsL.cons (fits_tame tf) (FitsL.cons (fits_tame tame_unit) fitsL_nil))).tup, ((TameL.cons (tame_of tcall) (TameL.cons (tame_of tf) (TameL.cons (tame_of tame_unit) TameL.nil))).tup).le (by omega)⟩
  · exact ⟨_, fun h => fits_tame thouse, (tame_of thouse).le (by omega)⟩
end Pl

set_option Elab.async false
set_option linter.all false
set_option autoImplicit false
set_option maxRecDepth 100000
set_option maxHeartbeats 4000000
/-! Pv: one turn of the law. -/
namespace Pl
open PySem PySem.Spec PyProof.Rows L2 Mp
open En
theorem size_le : ∀ (s : St) (k : Nat), s.dep ≤ k → s.size + 1 ≤ 2 ^ (k + 1)
  | .leaf s, k, _ => by
    show 1 + 1 ≤ 2 ^ (k + 1)
    have := Nat.one_le_two_pow (n := k)
    rw [Nat.pow_succ]
    omega
  | .node a x y, 0, h => by simp [St.dep] at h
  | .node a x y, k + 1, h => by
    have h' : max x.dep y.dep + 1 ≤ k + 1 := h
    have i1 := size_le x k (by omega)
    have i2 := size_le y k (by omega)
    show 1 + x.size + y.size + 1 ≤ 2 ^ (k + 1 + 1)
    rw [Nat.pow_succ]
    omega
def bnd : Nat → Nat → Nat
  | 0, m => m + 60
  | k + 1, m => 120 * 2 ^ (k + 1) + m + 60 + (bnd k (m + 30) + bnd k (m + 30))
theorem outB_le : ∀ (s : St) (k m : Nat), s.dep ≤ k → s.outB m ≤ bnd k m
  | .leaf s, 0, m, _ => Nat.le_refl _
  | .leaf s, k + 1, m, _ => by show m + 60 ≤ 120 * 2 ^ (k + 1) + m + 60 + (bnd k (m + 30) + bnd k (m + 30)); omega
  | .node a x y, 0, m, h => by simp [St.dep] at h
  | .node a x y, k + 1, m, h => by
    have h' : max x.dep y.dep + 1 ≤ k + 1 := h
    have s1 := size_le x k (by omega)
    have s2 := size_le y k (by omega)
    have i1 := outB_le x k (m + 30) (by omega)
    have i2 := outB_le y k (m + 30) (by omega)
    show 60 * x.size + 60 * y.size + m + 60 + (x.outB (m + 30) + y.outB (m + 30)) ≤ 120 * 2 ^ (k + 1) + m + 60 + (bnd k (m + 30) + bnd k (m + 30))
    omega
theorem bnd3 : bnd 3 100 ≤ 1000000 := by decide +kernel
end Pl

set_option Elab.async false
set_option linter.all false
set_option autoImplicit false
set_option maxRecDepth 100000
set_option maxHeartbeats 4000000
/-! Pw: one turn of the law, on. -/
namespace Pl
open PySem PySem.Spec PyProof.Rows L2 Mp
open En
noncomputable def tuA (n : Nat) : Ss := sPar 3 4 (aCons (eCall (Sn n ._law_statement) 2 0 [0, 1] [] (aCons (eVar 1) (aCons (eC (.int 4)) aNil)) aNil) (aCons (eCall (Sn n ._law_pick) 2 0 [0, 1] [] (aCons (eVar 1) (aCons (eLst (aCons (eC (.str "f")) (aCons (eTup (aCons (eC (.str "level")) (aCons (eC (.int 3)) aNil))) (aCons (eC .non) (aCons (eC (.int 5)) (aCons (eTup (aCons (eC (.str "call")) (aCons (eC (.str "f")) (aCons (eC (.str "unit")) aNil)))) (aCons (eC (.str "house")) aNil))))))) aNil)) aNil) aNil))
noncomputable def tuB (n : Nat) : Ss := sIf (Mp.tOr (tBl (mOp2 fNe (mCall fRepr (aCons (eCall (Sn n .written_one) 2 0 [0, 1] [] (aCons (eVar 3) (aCons (eVar 4) aNil)) aNil) aNil)) (mCall fRepr (aCons (eCall (Sn n ._law_value) 2 0 [0, 1] [] (aCons (eVar 3) (aCons (eVar 4) aNil)) aNil) aNil)))) (tBl (mOp2 fNe (eCall (Sn n .written_one) 0 2 [1, 0] [] aNil (aCons (eVar 4) (aCons (eVar 3) aNil))) (eCall (Sn n ._law_value) 2 0 [0, 1] [] (aCons (eVar 3) (aCons (eVar 4) aNil)) aNil)))) (sRet (eC (.bl false))) sNext
theorem tu_a (n : Nat) {h : Hw} {p t : Nat} (P : Pen h p t) (ht : t + 100 ≤ 10000) (s0 s2 s3 s4 s5 s6 : Option W) : ∃ h' s v, Dr 3 s ∧ v ∈ neus ∧ Gr (fun i => i = p) h h' ∧ Pen h' p (t + 16) ∧ tuA (n + 6) [s0, some (.ref p), s2, s3, s4, s5, s6] h = some (.nx [s0, some (.ref p), s2, some s.w, some v, s5, s6], h') := by
  obtain ⟨h1, s, D, g1, P1, e1⟩ := ev_stmt 3 n P (by show t + 15 ≤ 10000; omega)
  have P1' : Pen h1 p (t + 15) := P1
  have hp : p < h1.length := by
    obtain ⟨q, cells, k, gr, z, _⟩ := P1
    exact lt_of z
  obtain ⟨h2, v, hv, g2, P2, e2⟩ := ev_pick (n + 4) (L := h1.length) (l := neus) (P1'.gr (Gr.app [.lst neus])) (by omega) new_at (by omega) (by show 0 < 6; omega) (by show 6 < 100000; omega)
  refine ⟨h2, s, v, D, hv, g1.trans ((Gr.app _).trans g2), P2, ?_⟩
  have e1' : Sn (n + 6) ._law_statement [.ref p, .int 4] h = some (.ok s.w, h1) := e1
  have e2' : Sn (n + 6) ._law_pick [.ref p, .ref h1.length] (h1 ++ [.lst neus]) = some (.ok v, h2) := e2
  simp only [neus] at e2'
  unfold tuA
  simp only [runB, sSeq, sIf, sb, sRet, sDrop, sAsg, sNext, sCnt, sPar, tBl, Mp.tOr, Mp.tAnd, Mp.tNot, tTru, asTru, truW, mOp2, mOp1, mCall, M.bind, M.ret, asBl, up, eVar, eC, eTup, eLst, aCons, aNil, eIf, eAnd, eOr, eNot, eChain, gNm, gTp, gsCons, gsNil, List.set, List.map_cons, List.map_nil, List.length_cons, List.length_nil, List.replicate, List.cons_append, List.nil_append, List.getElem?_cons_zero, List.getElem?_cons_succ, if_true, if_false, reduceIte, Bool.not_true, Bool.not_false, Bool.false_eq_true, Option.map, Nat.reduceAdd, Nat.reduceSub, Nat.reduceLeDiff, sz1, sz2, sz3, sz4, sz5, sz6, sz12, sz0, List.append_nil, eCall, pickL, List.filterMap_cons, List.filterMap_nil, eMth, isLst, lstW, atL, fApp, fPop, eExtL, Option.isSome, and_self, true_and, and_true, e1', e2']
end Pl

set_option Elab.async false
set_option linter.all false
set_option autoImplicit false
set_option maxRecDepth 100000
set_option maxHeartbeats 4000000
/-! Px: one turn of the law, done. -/
namespace Pl
open PySem PySem.Spec PyProof.Rows L2 Mp
open En
theorem top_out : ∀ (s : St) (v : W), isTop (s.out v) = true
  | .leaf s, v => by
    show isTop (if s == "yes" then .str "unit" else .tup [.str "token", .str s, v]) = true
    split <;> rfl
  | .node a x y, v => by
    show isTop (if a == "gives" then .tup [.str "writer", x.w, y.w, v] else .tup [.str "pair", x.out (.tup [.str "first", v]), y.out (.tup [.str "second", v])]) = true
    split <;> rfl
theorem dr_ok {s : St} (D : Dr 3 s) : Ok s := ⟨D.ok, Nat.le_trans D.dep (by omega), D.good, by have := D.size; have e : (2 : Nat) ^ (3 + 1) = 16 := rfl; omega⟩
theorem dr_plain {s : St} (D : Dr 3 s) : s.plain = true := by
  unfold St.plain
  rw [show s.pre.any St.crook = false from List.any_eq_false.mpr fun t ht => by rw [D.clean t ht]; decide]
  rfl
theorem tu_b (n : Nat) {s : St} {v : W} (D : Dr 3 s) (hv : v ∈ neus) (h : Hw) (s0 s1 s2 s5 s6 : Option W) : ∃ h', Gr no h h' ∧ tuB (n + 31) [s0, s1, s2, some s.w, some v, s5, s6] h = some (.nx [s0, s1, s2, some s.w, some v, s5, s6], h') := by
  obtain ⟨d, fd, td⟩ := neu_ok v hv
  have wd := drawn_words s D.dr
  obtain ⟨h1, g1, e1⟩ := ev_one_good n s (dr_ok D) D.two (dr_plain D) v h
  have v1 : ∀ g, Sn (n + 31) ._law_value [s.w, v] g = some (.ok (s.out v), g) := fun g => ev_value s 10 (n + 20) D.ok (Nat.le_trans D.dep (by omega)) D.two (Nat.le_trans D.dep (by omega)) v g
  obtain ⟨h2, g2, e2⟩ := ev_one_good n s (dr_ok D) D.two (dr_plain D) v h1
  have ft : ∀ g : Hw, Fits g 20 (s.out v) (s.outD d) := fun g => (St.out_fits s wd 3 v d (fd g)).le (by have := D.dep; omega)
  have tm : Tame 1000000 (s.outD d) := (St.out_tame s wd 100 d td).le (Nat.le_trans (outB_le s 3 100 D.dep) bnd3)
  have r1 : ∀ g : Hw, fRepr [s.out v] g = some (.str (s.outD d).shown, g) := fun g => repr_ev (ft g) (by omega) tm (by omega) (top_out s v)
  have n1 : fNe (.str (s.outD d).shown) (.str (s.outD d).shown) h1 = some (.bl false, h1) := ne_same (fits_str (k := 0) tm.ok) (by omega)
  have n2 : fNe (s.out v) (s.out v) h2 = some (.bl false, h2) := ne_same (ft h2) (by omega)
  refine ⟨h2, g1.trans g2, ?_⟩
  have t1 : tBl (mOp2 fNe (mCall fRepr (aCons (eCall (Sn (n + 31) .written_one) 2 0 [0, 1] [] (aCons (eVar 3) (aCons (eVar 4) aNil)) aNil) aNil)) (mCall fRepr (aCons (eCall (Sn (n + 31) ._law_value) 2 0 [0, 1] [] (aCons (eVar 3) (aCons (eVar 4) aNil)) aNil) aNil))) [s0, s1, s2, some s.w, some v, s5, s6] h = some (.ok false, h1) := by
    simp only [runB, sSeq, sIf, sb, sRet, sDrop, sAsg, sNext, sCnt, sPar, tBl, Mp.tOr, Mp.tAnd, Mp.tNot, tTru, asTru, truW, mOp2, mOp1, mCall, M.bind, M.ret, asBl, up, eVar, eC, eTup, eLst, aCons, aNil, eIf, eAnd, eOr, eNot, eChain, gNm, gTp, gsCons, gsNil, List.set, List.map_cons, List.map_nil, List.length_cons, List.length_nil, List.replicate, List.cons_append, List.nil_append, List.getElem?_cons_zero, List.getElem?_cons_succ, if_true, if_false, reduceIte, Bool.not_true, Bool.not_false, Bool.false_eq_true, Option.map, Nat.reduceAdd, Nat.reduceSub, Nat.reduceLeDiff, sz1, sz2, sz3, sz4, sz5, sz6, sz12, sz0, List.append_nil, eCall, pickL, List.filterMap_cons, List.filterMap_nil, eMth, isLst, lstW, atL, fApp, fPop, eExtL, Option.isSome, and_self, true_and, and_true, e1, r1, v1, n1]
  have t2 : tBl (mOp2 fNe (eCall (Sn (n + 31) .written_one) 0 2 [1, 0] [] aNil (aCons (eVar 4) (aCons (eVar 3) aNil))) (eCall (Sn (n + 31) ._law_value) 2 0 [0, 1] [] (aCons (eVar 3) (aCons (eVar 4) aNil)) aNil)) [s0, s1, s2, some s.w, some v, s5, s6] h1 = some (.ok false, h2) := by
    simp only [runB, sSeq, sIf, sb, sRet, sDrop, sAsg, sNext, sCnt, sPar, tBl, Mp.tOr, Mp.tAnd, Mp.tNot, tTru, asTru, truW, mOp2, mOp1, mCall, M.bind, M.ret, asBl, up, eVar, eC, eTup, eLst, aCons, aNil, eIf, eAnd, eOr, eNot, eChain, gNm, gTp, gsCons, gsNil, List.set, List.map_cons, List.map_nil, List.length_cons, List.length_nil, List.replicate, List.cons_append, List.nil_append, List.getElem?_cons_zero, List.getElem?_cons_succ, if_true, if_false, reduceIte, Bool.not_true, Bool.not_false, Bool.false_eq_true, Option.map, Nat.reduceAdd, Nat.reduceSub, Nat.reduceLeDiff, sz1, sz2, sz3, sz4, sz5, sz6, sz12, sz0, List.append_nil, eCall, pickL, List.filterMap_cons, List.filterMap_nil, eMth, isLst, lstW, atL, fApp, fPop, eExtL, Option.isSome, and_self, true_and, and_true, e2, v1, n2]
  unfold tuB
  rw [if_f ((or_f t1).trans t2)]
  rfl
end Pl

set_option Elab.async false
set_option linter.all false
set_option autoImplicit false
set_option maxRecDepth 100000
set_option maxHeartbeats 4000000
/-! Py: the law's loop. -/
namespace Pl
open PySem PySem.Spec PyProof.Rows L2 Mp
open En
theorem lp (n : Nat) {p : Nat} (s0 s5 s6 : Option W) (src : List W) : ∀ (l : List W) (h : Hw) (t : Nat) (s2 s3 s4 : Option W), Pen h p t → t + 16 * l.length + 100 ≤ 10000 → ∃ h' r2 r3 r4, Pen h' p (t + 16 * l.length) ∧ sForL (.its src) (gNm 2) (sSeq (tuA (n + 31)) (tuB (n + 31))) l [s0, some (.ref p), s2, s3, s4, s5, s6] h = some (.nx [s0, some (.ref p), r2, r3, r4, s5, s6], h')
  | [], h, t, s2, s3, s4, P, _ => ⟨h, s2, s3, s4, P, by
    unfold sForL
    exact if_pos True.intro⟩
  | w :: l, h, t, s2, s3, s4, P, ht => by
    have ht' : t + 16 * (l.length + 1) + 100 ≤ 10000 := ht
    obtain ⟨h1, s, v, D, hv, g1, P1, e1⟩ := tu_a (n + 25) P (by omega) s0 (some w) s3 s4 s5 s6
    have e1' : tuA (n + 31) [s0, some (.ref p), some w, s3, s4, s5, s6] h = _ := e1
    obtain ⟨h2, g2, e2⟩ := tu_b n D hv h1 s0 (some (.ref p)) (some w) s5 s6
    obtain ⟨h3, r2, r3, r4, P3, e3⟩ := lp n s0 s5 s6 src l h2 (t + 16) (some w) (some s.w) (some v) (P1.gr g2) (by omega)
    refine ⟨h3, r2, r3, r4, P3.le (by show t + 16 + 16 * l.length ≤ t + 16 * (l.length + 1); omega), ?_⟩
    have eb : sSeq (tuA (n + 31)) (tuB (n + 31)) [s0, some (.ref p), some w, s3, s4, s5, s6] h = _ := (seq_nx e1').trans e2
    unfold sForL
    refine (if_pos True.intro).trans ?_
    simp only [gNm, List.set, eb]
    exact e3
end Pl

set_option Elab.async false
set_option linter.all false
set_option autoImplicit false
set_option maxRecDepth 100000
set_option maxHeartbeats 4000000
/-! Pz: the law. -/
namespace Pl
open PySem PySem.Spec PyProof.Rows L2 Mp
open En
def crooks : List St := [.leaf "no", .node "or" (.leaf "b") (.leaf "c"), .node "gives" (.leaf "b") (.node "and" (.leaf "c") (.leaf "no"))]
theorem crooks_ok : ∀ s ∈ crooks, Ok s ∧ s.plain = false := by
  intro s hs
  simp only [crooks, List.mem_cons, List.not_mem_nil, or_false] at hs
  rcases hs with rfl | rfl | rfl <;> exact ⟨⟨by decide +kernel, by decide +kernel, by decide +kernel, by decide +kernel⟩, by decide +kernel⟩
def bads : List W := [.non, .int 5, .str "or", .tup [.str "gives", .str "b"], .tup [.str "and", .str "b", .str "B"], .str ""]
theorem bads_ok (n : Nat) (x : W) (hx : x ∈ bads) (h : Hw) : ∃ h', Gr no h h' ∧ Sn (n + 2) .statement_in [x] h = some (.ok .non, h') := by
  simp only [bads, List.mem_cons, List.not_mem_nil, or_false] at hx
  have leaf : ∀ s : Str, PyData.strOk s = true → s.length ≤ 1000 → goodW s = false → ∃ h', Gr no h h' ∧ Sn (n + 2) .statement_in [.str s] h = some (.ok .non, h') := fun s o l g => ev_si_bad n (.str s) ⟨_, fun _ => fits_str o⟩ (fun gg L e => by
    have z := si_leaf (n := n) (v0 := .str s) (m := 0) (o3 := none) (st := []) (by omega) e l
    rw [g, if_neg (by decide)] at z
    exact z) h
  rcases hx with rfl | rfl | rfl | rfl | rfl | rfl
  · exact ev_si_bad n _ ⟨_, fun _ => fits_non⟩ (fun g L e => si_flat (st := []) (by omega) e rfl rfl rfl) h
  · exact ev_si_bad n _ ⟨_, fun _ => fits_int⟩ (fun g L e => si_flat (st := []) (by omega) e rfl rfl rfl) h
  · exact leaf "or" (by decide +kernel) (by decide +kernel) (by decide +kernel)
  · exact ev_si_bad n _ ⟨_, fun _ => (FitsL.cons (fits_str (k := 21) (by decide +kernel)) (FitsL.cons (fits_str (by decide +kernel)) fitsL_nil)).tup⟩ (fun g L e => si_len (st := []) (by omega) e (by decide)) h
  · exact ev_si_node n "and" "b" "B" (by decide +kernel) (by decide +kernel) (by decide +kernel) (by decide +kernel) (by decide +kernel) (by decide +kernel) (by decide +kernel) h
  · exact leaf "" (by decide +kernel) (by decide +kernel) (by decide +kernel)
end Pl

set_option Elab.async false
set_option linter.all false
set_option autoImplicit false
set_option maxRecDepth 100000
set_option maxHeartbeats 4000000
/-! Qa: the law is True. -/
namespace Pl
open PySem PySem.Spec PyProof.Rows L2 Mp
open En
theorem acons_ev {e : Sh} {r : ShA} {ρ : Rho} {h h1 h2 : Hw} {w : W} {ws : List W} (a : e ρ h = some (.ok w, h1)) (b : r ρ h1 = some (.ok ws, h2)) : aCons e r ρ h = some (.ok (w :: ws), h2) := by
  unfold aCons M.bind
  rw [a]
  dsimp only
  rw [b]
  rfl
theorem lst_ev {es : ShA} {ρ : Rho} {h h1 : Hw} {ws : List W} (a : es ρ h = some (.ok ws, h1)) (l : ws.length < 1000) : eLst es ρ h = some (.ok (.ref h1.length), nwL h1 ws) := by
  unfold eLst M.bind
  rw [a]
  exact if_pos (by rw [sizeLine_eq]; omega)
theorem plain (ns : List Int) (hl : ns.length ≤ 63) : ∃ h', runB Wk.N_law.length (Wk.B_law Hd.pk (Sn 60) (Hs 60)) [.lro (ns.map W.int)] [] = some (.ok (.bl true), h') := by
  obtain ⟨s0, hs0⟩ : ∃ w, w = W.lro (ns.map W.int) := ⟨_, rfl⟩
  obtain ⟨h0, hh0⟩ : ∃ g, g = ([.lst (ns.map W.int), .lst (ns.map W.int), .lst [.ref 1, .int 0, .int 0]] : Hw) := ⟨_, rfl⟩
  have P0 : Pen h0 2 0 := by
    rw [hh0]
    exact ⟨1, ns, 0, 0, rfl, rfl, by omega, by omega, by omega, by omega⟩
  have ep : Sn 60 ._law_pen [s0] [] = some (.ok (.ref 2), h0) := by rw [hs0, hh0]; exact ev_pen 59 ns hl
  obtain ⟨h1, r2, r3, r4, P1, e1⟩ := lp 29 (some s0) none none (intsW 0 8) (intsW 0 8) h0 0 none none none P0 (by show 0 + 16 * 8 + 100 ≤ 10000; omega)
  have P1' : Pen h1 2 128 := P1
  have l1 : 2 < h1.length := by
    obtain ⟨q, cells, k, gr, z, _⟩ := P1'
    exact lt_of z
  obtain ⟨h2, w1, hw1, g2, P2, e2⟩ := ev_pick 58 (L := h1.length) (l := crooks.map St.w) (P1'.gr (Gr.app [.lst (crooks.map St.w)])) (by omega) new_at (by omega) (by show 0 < 3; omega) (by show 3 < 100000; omega)
  obtain ⟨cr, hcr, rfl⟩ := List.mem_map.mp hw1
  obtain ⟨ok, np⟩ := crooks_ok cr hcr
  have l2 : 2 < h2.length := by
    obtain ⟨q, cells, k, gr, z, _⟩ := P2
    exact lt_of z
  obtain ⟨h3, bd, hbd, g3, P3, e3⟩ := ev_pick 58 (L := h2.length) (l := bads) (P2.gr (Gr.app [.lst bads])) (by omega) new_at (by omega) (by show 0 < 6; omega) (by show 6 < 100000; omega)
  obtain ⟨h4, g4, e4⟩ := ev_one_crook 29 cr ok np (.str "f") h3
  obtain ⟨h5, g5, e5⟩ := ev_heard 60 (m := Sn 60 .written_one [cr.w, .str "f"]) (h := h3) e4 (.inl ⟨rfl, rfl⟩)
  obtain ⟨h6, g6, e6⟩ := ev_one_bad 29 bd (.str "f") h5 (bads_ok 56 bd hbd h5)
  obtain ⟨h7, g7, e7⟩ := ev_heard 60 (m := Sn 60 .written_one [bd, .str "f"]) (h := h5) e6 (.inr ⟨rfl, rfl⟩)
  rw [← hs0]
  unfold Wk.B_law runB
  rw [show (List.map some [s0] ++ List.replicate (Wk.N_law.length - [s0].length) none) = [some s0, none, none, none, none, none, none] from rfl]
  have t1 : sAsg (eCall (Sn 60 ._law_pen) 1 0 [0] [] (aCons (eVar 0) aNil) aNil) (gNm 1) [some s0, none, none, none, none, none, none] [] = some (.nx [some s0, some (.ref 2), none, none, none, none, none], h0) := by simp only [runB, sSeq, sIf, sb, sRet, sDrop, sAsg, sNext, sCnt, sPar, tBl, Mp.tOr, Mp.tAnd, Mp.tNot, tTru, asTru, truW, mOp2, mOp1, mCall, M.bind, M.ret, asBl, up, eVar, eC, eTup, eLst, aCons, aNil, eIf, eAnd, eOr, eNot, eChain, gNm, gTp, gsCons, gsNil, List.set, List.map_cons, List.map_nil, List.length_cons, List.length_nil, List.replicate, List.cons_append, List.nil_append, List.getElem?_cons_zero, List.getElem?_cons_succ, if_true, if_false, reduceIte, Bool.not_true, Bool.not_false, Bool.false_eq_true, Option.map, Nat.reduceAdd, Nat.reduceSub, Nat.reduceLeDiff, sz1, sz2, sz3, sz4, sz5, sz6, sz12, sz0, List.append_nil, eCall, pickL, List.filterMap_cons, List.filterMap_nil, eMth, isLst, lstW, atL, fApp, fPop, eExtL, Option.isSome, and_self, true_and, and_true, ep]
  have t2 : sFor (rng1 (aCons (eC (.int 8)) aNil)) (gNm 2) (sSeq (tuA 60) (tuB 60)) [some s0, some (.ref 2), none, none, none, none, none] h0 = some (.nx [some s0, some (.ref 2), r2, r3, r4, none, none], h1) := by
    have er : rng1 (aCons (eC (.int 8)) aNil) [some s0, some (.ref 2), none, none, none, none, none] h0 = some (.ok (.its (intsW 0 8)), h0) := by
      unfold rng1
      simp only [runB, sSeq, sIf, sb, sRet, sDrop, sAsg, sNext, sCnt, sPar, tBl, Mp.tOr, Mp.tAnd, Mp.tNot, tTru, asTru, truW, mOp2, mOp1, mCall, M.bind, M.ret, asBl, up, eVar, eC, eTup, eLst, aCons, aNil, eIf, eAnd, eOr, eNot, eChain, gNm, gTp, gsCons, gsNil, List.set, List.map_cons, List.map_nil, List.length_cons, List.length_nil, List.replicate, List.cons_append, List.nil_append, List.getElem?_cons_zero, List.getElem?_cons_succ, if_true, if_false, reduceIte, Bool.not_true, Bool.not_false, Bool.false_eq_true, Option.map, Nat.reduceAdd, Nat.reduceSub, Nat.reduceLeDiff, sz1, sz2, sz3, sz4, sz5, sz6, sz12, sz0, List.append_nil, eCall, pickL, List.filterMap_cons, List.filterMap_nil, eMth, isLst, lstW, atL, fApp, fPop, eExtL, Option.isSome, and_self, true_and, and_true]
      exact if_pos (by decide)
    unfold sFor sb
    rw [er]
    exact e1
  have q1 : eLst (aCons (eC (.str "no")) (aCons (eTup (aCons (eC (.str "or")) (aCons (eC (.str "b")) (aCons (eC (.str "c")) aNil)))) (aCons (eTup (aCons (eC (.str "gives")) (aCons (eC (.str "b")) (aCons (eTup (aCons (eC (.str "and")) (aCons (eC (.str "c")) (aCons (eC (.str "no")) aNil)))) aNil)))) aNil))) [some s0, some (.ref 2), r2, r3, r4, none, none] h1 = some (.ok (.ref h1.length), h1 ++ [.lst (crooks.map St.w)]) := rfl
  have q2 : eLst (aCons (eC .non) (aCons (eC (.int 5)) (aCons (eC (.str "or")) (aCons (eTup (aCons (eC (.str "gives")) (aCons (eC (.str "b")) aNil))) (aCons (eTup (aCons (eC (.str "and")) (aCons (eC (.str "b")) (aCons (eC (.str "B")) aNil)))) (aCons (eC (.str "")) aNil)))))) [some s0, some (.ref 2), r2, r3, r4, some cr.w, none] h2 = some (.ok (.ref h2.length), h2 ++ [.lst bads]) := rfl
  have t3 : sAsg (eCall (Sn 60 ._law_pick) 2 0 [0, 1] [] (aCons (eVar 1) (aCons (eLst (aCons (eC (.str "no")) (aCons (eTup (aCons (eC (.str "or")) (aCons (eC (.str "b")) (aCons (eC (.str "c")) aNil)))) (aCons (eTup (aCons (eC (.str "gives")) (aCons (eC (.str "b")) (aCons (eTup (aCons (eC (.str "and")) (aCons (eC (.str "c")) (aCons (eC (.str "no")) aNil)))) aNil)))) aNil)))) aNil)) aNil) (gNm 5) [some s0, some (.ref 2), r2, r3, r4, none, none] h1 = some (.nx [some s0, some (.ref 2), r2, r3, r4, some cr.w, none], h2) := by
    simp only [sAsg, sb, eCall, M.bind, M.ret, aCons, aNil, q1, eVar, List.getElem?_cons_succ, List.getElem?_cons_zero, List.length_cons, List.length_nil, Nat.reduceAdd, and_self, if_true, pickL, List.cons_append, List.nil_append, List.append_nil, List.filterMap_cons, List.filterMap_nil, e2, gNm, List.set]
  have t4 : sAsg (eCall (Sn 60 ._law_pick) 2 0 [0, 1] [] (aCons (eVar 1) (aCons (eLst (aCons (eC .non) (aCons (eC (.int 5)) (aCons (eC (.str "or")) (aCons (eTup (aCons (eC (.str "gives")) (aCons (eC (.str "b")) aNil))) (aCons (eTup (aCons (eC (.str "and")) (aCons (eC (.str "b")) (aCons (eC (.str "B")) aNil)))) (aCons (eC (.str "")) aNil))))))) aNil)) aNil) (gNm 6) [some s0, some (.ref 2), r2, r3, r4, some cr.w, none] h2 = some (.nx [some s0, some (.ref 2), r2, r3, r4, some cr.w, some bd], h3) := by
    simp only [sAsg, sb, eCall, M.bind, M.ret, aCons, aNil, q2, eVar, List.getElem?_cons_succ, List.getElem?_cons_zero, List.length_cons, List.length_nil, Nat.reduceAdd, and_self, if_true, pickL, List.cons_append, List.nil_append, List.append_nil, List.filterMap_cons, List.filterMap_nil, e3, gNm, List.set]
  obtain ⟨ρ, hρ⟩ : ∃ r : Rho, r = [some s0, some (.ref 2), r2, r3, r4, some cr.w, some bd] := ⟨_, rfl⟩
  obtain ⟨two, htwo⟩ : ∃ l : List W, l = [.tup [.str "misfit", .str "statement"], .tup [.str "statement", .str "statement"]] := ⟨_, rfl⟩
  have c1 : eCall (Sn 60 .written_one) 2 0 [0, 1] [] (aCons (eVar 5) (aCons (eC (.str "f")) aNil)) aNil ρ = Sn 60 .written_one [cr.w, .str "f"] := by
    rw [hρ]
    refine funext fun g => ?_
    simp only [runB, sSeq, sIf, sb, sRet, sDrop, sAsg, sNext, sCnt, sPar, tBl, Mp.tOr, Mp.tAnd, Mp.tNot, tTru, asTru, truW, mOp2, mOp1, mCall, M.bind, M.ret, asBl, up, eVar, eC, eTup, eLst, aCons, aNil, eIf, eAnd, eOr, eNot, eChain, gNm, gTp, gsCons, gsNil, List.set, List.map_cons, List.map_nil, List.length_cons, List.length_nil, List.replicate, List.cons_append, List.nil_append, List.getElem?_cons_zero, List.getElem?_cons_succ, if_true, if_false, reduceIte, Bool.not_true, Bool.not_false, Bool.false_eq_true, Option.map, Nat.reduceAdd, Nat.reduceSub, Nat.reduceLeDiff, sz1, sz2, sz3, sz4, sz5, sz6, sz12, sz0, List.append_nil, eCall, pickL, List.filterMap_cons, List.filterMap_nil, eMth, isLst, lstW, atL, fApp, fPop, eExtL, Option.isSome, and_self, true_and, and_true]
  have c2 : eCall (Sn 60 .written_one) 2 0 [0, 1] [] (aCons (eVar 6) (aCons (eC (.str "f")) aNil)) aNil ρ = Sn 60 .written_one [bd, .str "f"] := by
    rw [hρ]
    refine funext fun g => ?_
    simp only [runB, sSeq, sIf, sb, sRet, sDrop, sAsg, sNext, sCnt, sPar, tBl, Mp.tOr, Mp.tAnd, Mp.tNot, tTru, asTru, truW, mOp2, mOp1, mCall, M.bind, M.ret, asBl, up, eVar, eC, eTup, eLst, aCons, aNil, eIf, eAnd, eOr, eNot, eChain, gNm, gTp, gsCons, gsNil, List.set, List.map_cons, List.map_nil, List.length_cons, List.length_nil, List.replicate, List.cons_append, List.nil_append, List.getElem?_cons_zero, List.getElem?_cons_succ, if_true, if_false, reduceIte, Bool.not_true, Bool.not_false, Bool.false_eq_true, Option.map, Nat.reduceAdd, Nat.reduceSub, Nat.reduceLeDiff, sz1, sz2, sz3, sz4, sz5, sz6, sz12, sz0, List.append_nil, eCall, pickL, List.filterMap_cons, List.filterMap_nil, eMth, isLst, lstW, atL, fApp, fPop, eExtL, Option.isSome, and_self, true_and, and_true]
  have tm : PyData.strOk "misfit" = true := by decide +kernel
  have ts : PyData.strOk "statement" = true := by decide +kernel
  obtain ⟨ds, fd⟩ : ∃ ds, ∀ g : Hw, FitsL g 1 two ds := ⟨_, fun g => by
    rw [htwo]
    exact FitsL.cons (FitsL.cons (fits_str (k := 0) tm) (FitsL.cons (fits_str ts) fitsL_nil)).tup (FitsL.cons (FitsL.cons (fits_str (k := 0) ts) (FitsL.cons (fits_str ts) fitsL_nil)).tup fitsL_nil)⟩
  have a1 : eLst (aCons (fun ρ => Hs 60 ((eCall (Sn 60 .written_one) 2 0 [0, 1] [] (aCons (eVar 5) (aCons (eC (.str "f")) aNil)) aNil) ρ)) (aCons (fun ρ => Hs 60 ((eCall (Sn 60 .written_one) 2 0 [0, 1] [] (aCons (eVar 6) (aCons (eC (.str "f")) aNil)) aNil) ρ)) aNil)) ρ h3 = some (.ok (.ref h7.length), nwL h7 two) := by
    rw [htwo]
    refine lst_ev (acons_ev (h1 := h5) ?_ (acons_ev (h1 := h7) ?_ rfl)) (by show 2 < 1000; omega)
    · show Hs 60 (eCall (Sn 60 .written_one) 2 0 [0, 1] [] (aCons (eVar 5) (aCons (eC (.str "f")) aNil)) aNil ρ) h3 = _
      rw [c1]
      exact e5
    · show Hs 60 (eCall (Sn 60 .written_one) 2 0 [0, 1] [] (aCons (eVar 6) (aCons (eC (.str "f")) aNil)) aNil ρ) h5 = _
      rw [c2]
      exact e7
  have a2 : eLst (aCons (eTup (aCons (eC (.str "misfit")) (aCons (eC (.str "statement")) aNil))) (aCons (eTup (aCons (eC (.str "statement")) (aCons (eC (.str "statement")) aNil))) aNil)) ρ (nwL h7 two) = some (.ok (.ref (nwL h7 two).length), nwL (nwL h7 two) two) := by rw [htwo]; rfl
  have a3 : fEq (.ref h7.length) (.ref (nwL h7 two).length) (nwL (nwL h7 two) two) = some (.bl true, nwL (nwL h7 two) two) := by
    have f1 := FitsL.ref (i := h7.length) (app_at new_at) (fd (nwL (nwL h7 two) two))
    have f2 := FitsL.ref (i := (nwL h7 two).length) new_at (fd (nwL (nwL h7 two) two))
    unfold fEq
    rw [eqB_fits false f1 f2 (by omega) (by omega), SeqAt.eqv_refl _ f1.c]
    rfl
  have t5 : sRet (mOp2 fEq (eLst (aCons (fun ρ => Hs 60 ((eCall (Sn 60 .written_one) 2 0 [0, 1] [] (aCons (eVar 5) (aCons (eC (.str "f")) aNil)) aNil) ρ)) (aCons (fun ρ => Hs 60 ((eCall (Sn 60 .written_one) 2 0 [0, 1] [] (aCons (eVar 6) (aCons (eC (.str "f")) aNil)) aNil) ρ)) aNil))) (eLst (aCons (eTup (aCons (eC (.str "misfit")) (aCons (eC (.str "statement")) aNil))) (aCons (eTup (aCons (eC (.str "statement")) (aCons (eC (.str "statement")) aNil))) aNil)))) ρ h3 = some (.rt (.bl true), nwL (nwL h7 two) two) := by
    unfold sRet sb mOp2
    simp only [M.bind, a1, a2, a3, up]
  refine ⟨nwL (nwL h7 two) two, ?_⟩
  rw [hρ] at t5
  unfold tuA tuB at t2
  rw [seq_nx t1, seq_nx t2, seq_nx t3, seq_nx t4, t5]
theorem k78 : PySem.Challenge.rw_provenruns_k78_written_ones.Holds := holds_of 60 ⟨⟨rfl, by decide +kernel, by decide +kernel⟩, rfl⟩ fun ns hl _ => plain ns hl
end Pl

theorem PySem.Challenge.cw_provenruns_k78_written_ones_holds : PySem.Challenge.rw_provenruns_k78_written_ones.Holds := by
  exact Pl.k78
