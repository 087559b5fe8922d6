import PyProof.Rows.All
import Wide.All
import OpenK.AllK
import Wide.FinOn
import KE.DataEq
import HandS.ForMost
import HandS.HeadHook2
import KE.KDictKeyed
import KE.KDictDisplayH
import HandS.Defaults
import KE.DataCmp
import HandS.TupAny
import HandS.IsInst
import HandS.Conv
import HandS.Text
import KE.GoesEnum
import HandS.Zip
import HandS.WrittenGet
import HandS.DictComp
import HandS.Style
import HandS.Strs
import HandS.SetFor
import HandS.Deep
import KE.SortData
import KE.DataMinMax
import PyProof.InstNe
import HandS.Words
import HandS.Head2
import HandS.HeadHook4
import HandS.TupMul
import HandS.TupLen
import HandS.More
import KE.KDictWalk
import KE.SortCalls
import KE.DatumOrd
import KE.OsSortAny
import HandS.HeadEnd
import PySem.Challenge.RW_twostandings_k47_whole_controllers_scann
set_option Elab.async false
set_option linter.all false
set_option maxRecDepth 100000
/-! DL1: values as trees (D), the slots of a def (SV), what they are over HandS's abstract heap. -/
namespace DL
open PySem PySem.Spec PyProof.Rows L2

/-- what the relations lean on: the written part, the program, the world -/
structure Kx where
  F : PySem.W.Frag
  P : Program
  w : World
end DL
namespace L2
abbrev Cx.kx (X : Cx) : DL.Kx := ⟨X.K, X.prog, X.w⟩
end L2
namespace DL
open PySem PySem.Spec PyProof.Rows L2
/-- the kind of a dict's keys: ints and texts | tuples of these -/
inductive KK where | k | t
  deriving DecidableEq

inductive D where
  | non | bl (b : Bool) | int (i : Int) | str (x : Str)
  | tup (xs : List D) | lst (xs : List D)
  | dct (t : KK) (es : List (D × D))
  | ins (c : Str) (fs : List (Str × D))

def keyD : Key → D
  | .inl i => .int i
  | .inr x => .str x
mutual
/-- a tree as a key of a dict whose keys are tuples -/
def nk : D → Option NestedKey
  | .non => some .none
  | .bl b => some (.num (if b then 1 else 0))
  | .int i => some (.num i)
  | .str x => some (.text x)
  | .tup xs => Option.bind (nks xs) fun l => some (.tup l)
  | _ => none
def nks : List D → Option (List NestedKey)
  | [] => some []
  | d :: ds => Option.bind (nk d) fun k => Option.bind (nks ds) fun l => some (k :: l)
end
/-- a dict with tuple keys, its entries as they stand -/
abbrev Row := NestedKey × Addr × Value
def TabAt (P : Program) (w : World) (a : Addr) (xs : List Row) (h : Heap) : Prop := xs.length ≤ sizeLine ∧ (a == sysModules) = false ∧ (xs.map (·.1)).Nodup ∧
  ∃ o es ep, h.get? a = some o ∧ o.ExactDict ∧ o.data = .dict es ep ∧ es.toList = xs.map (entryOfKey (nestedKind P w))
def tabO (K : Kx) (a : Addr) (xs : List Row) : HO := .ext (TabAt K.P K.w a xs)

/-- a list of the written part -/
def WrL (K : PySem.W.Frag) (a : Addr) (xs : List V) : Prop := ∃ (o : Obj) (its : Array Value) (n : Nat), K.lookup a = some o ∧ o.cls = .type "list" ∧ o.dict = none ∧ o.data = .seq its n ∧ its.size ≤ sizeLine ∧ Vals xs its.toList

mutual
/-- v stands for d, for ever: tuples, and what is frozen -/
inductive Fz (K : Kx) (H : Hp) : V → D → Prop
  | non : Fz K H .non .non
  | bl (b : Bool) : Fz K H (.bl b) (.bl b)
  | int (i : Int) : Fz K H (.int i) (.int i)
  | str (x : Str) : Fz K H (.str x) (.str x)
  | tup {a : Addr} {vs : List V} {ds : List D} : SqT K.F H a vs → FzL K H vs ds → Fz K H (.ref a) (.tup ds)
  | lst {a : Addr} {o : Obj} {vs : List V} {ds : List D} : H a = some (.frz o (.lst vs)) → FzL K H vs ds → Fz K H (.ref a) (.lst ds)
  | lstW {a : Addr} {vs : List V} {ds : List D} : WrL K.F a vs → FzL K H vs ds → Fz K H (.ref a) (.lst ds)
  | dctK {a : Addr} {o : Obj} {kvs : List (Key × V)} {es : List (D × D)} : H a = some (.frz o (.dK kvs)) → FzK K H kvs es → Fz K H (.ref a) (.dct .k es)
  | dctT {a : Addr} {o : Obj} {kvs : List Row} {es : List (D × D)} : H a = some (.frz o (tabO K a kvs)) → FzT K H kvs es → Fz K H (.ref a) (.dct .t es)
  | ins {a : Addr} {o : Obj} {dx : Addr} {c : Str} {vs : List (Str × V)} {fs : List (Str × D)} : H a = some (.frz o (.ins (He.ga K.F c) dx vs)) → FzF K H vs fs → Fz K H (.ref a) (.ins c fs)
inductive FzL (K : Kx) (H : Hp) : List V → List D → Prop
  | nil : FzL K H [] []
  | cons {v : V} {d : D} {vs : List V} {ds : List D} : Fz K H v d → FzL K H vs ds → FzL K H (v :: vs) (d :: ds)
inductive FzK (K : Kx) (H : Hp) : List (Key × V) → List (D × D) → Prop
  | nil : FzK K H [] []
  | cons {k : Key} {v : V} {d : D} {kvs : List (Key × V)} {es : List (D × D)} : Fz K H v d → FzK K H kvs es → FzK K H ((k, v) :: kvs) ((keyD k, d) :: es)
inductive FzT (K : Kx) (H : Hp) : List Row → List (D × D) → Prop
  | nil : FzT K H [] []
  | cons {k : NestedKey} {b : Addr} {u : Value} {v : V} {kd d : D} {kvs : List Row} {es : List (D × D)} : Fz K H (.ref b) kd → nk kd = some k → k.depth ≤ 8 → RelV v u → Fz K H v d → FzT K H kvs es → FzT K H ((k, b, u) :: kvs) ((kd, d) :: es)
inductive FzF (K : Kx) (H : Hp) : List (Str × V) → List (Str × D) → Prop
  | nil : FzF K H [] []
  | cons {f : Str} {v : V} {d : D} {vs : List (Str × V)} {fs : List (Str × D)} : Fz K H v d → FzF K H vs fs → FzF K H ((f, v) :: vs) ((f, d) :: fs)
end

/-- what never changes stays -/
structure Ext (H H' : Hp) : Prop where
  tups : ∀ b xs, H b = some (.tup xs) → H' b = some (.tup xs)
  frzs : ∀ b o u, H b = some (.frz o u) → H' b = some (.frz o u)
theorem Ext.refl (H : Hp) : Ext H H := ⟨fun _ _ h => h, fun _ _ _ h => h⟩
theorem Ext.trans {H H1 H2 : Hp} (a : Ext H H1) (b : Ext H1 H2) : Ext H H2 := ⟨fun c xs h => b.tups c xs (a.tups c xs h), fun c o u h => b.frzs c o u (a.frzs c o u h)⟩
theorem Ext.of_same {H H' : Hp} (h : Same H H') : Ext H H' := ⟨fun b _ e => h b _ e, fun b _ _ e => h b _ e⟩
theorem Ext.sqT {K : PySem.W.Frag} {H H' : Hp} {a : Addr} {xs : List V} (e : Ext H H') (h : SqT K H a xs) : SqT K H' a xs := by
  rcases h with (h | ⟨o, h⟩) | h
  · exact .inl (.inl (e.tups _ _ h))
  · exact .inl (.inr ⟨o, e.frzs _ _ _ h⟩)
  · exact .inr h
theorem WrL.sq {K : PySem.W.Frag} {H : Hp} {a : Addr} {xs : List V} (h : WrL K a xs) : SqL K H a xs := .inr h
/-- a list that is read, with its very object -/
def LsX (K : PySem.W.Frag) (H : Hp) (a : Addr) (xs : List V) : Prop := Rd H a (.lst xs) ∨ WrL K a xs
theorem LsX.sq {K : PySem.W.Frag} {H : Hp} {a : Addr} {xs : List V} (h : LsX K H a xs) : SqL K H a xs := by
  rcases h with h | h
  · exact .inl h
  · exact h.sq
theorem LsX.obj {X : Cx} {pins : List (Addr × Obj)} {σ : L2.St} {H : Hp} {s : Shared} {a : Addr} {xs : List V} (I : L2.Inv X pins σ H s) (h : LsX X.K H a xs) : xs.length ≤ sizeLine ∧ ∃ (its : List Value) (n : Nat) (sl : Array (Option Value)), Vals xs its ∧ xs.length = its.length ∧ s.heap.get? a = some { cls := .type "list", dict := none, data := .seq its.toArray n, slots := sl } := by
  rcases h with h | ⟨⟨oc, od, dt, sl⟩, its, n, e, h1, h2, h3, z, r⟩
  · obtain ⟨z, its, n, r, e⟩ := h.ok I.hok
    exact ⟨z, its, n, #[], r, r.length, e⟩
  · simp only at h1 h2 h3
    subst h1 h2 h3
    exact ⟨by rw [r.length, Array.length_toList]; exact z, its.toList, n, sl, r, r.length, by rw [Array.toArray_toList]; exact I.kIn a _ e⟩
/-- a write at what is neither a tuple nor frozen -/
theorem Ext.ofUpd {H : Hp} {p : Addr} {o : HO} (h1 : ∀ xs, H p ≠ some (.tup xs)) (h2 : ∀ ob u, H p ≠ some (.frz ob u)) : Ext H (upd H p o) :=
  ⟨fun b xs e => by
    by_cases hb : b = p
    · subst hb; exact absurd e (h1 xs)
    · rw [upd_ne hb]; exact e,
   fun b ob u e => by
    by_cases hb : b = p
    · subst hb; exact absurd e (h2 ob u)
    · rw [upd_ne hb]; exact e⟩
theorem Ext.new {H : Hp} {p : Addr} {o : HO} (h : H p = none) : Ext H (upd H p o) := Ext.ofUpd (fun xs e => by rw [h] at e; cases e) (fun ob u e => by rw [h] at e; cases e)
theorem Same.new {H : Hp} {p : Addr} {o : HO} (h : H p = none) : Same H (upd H p o) := fun b u e => by rw [upd_ne (ne_of_none e h)]; exact e

mutual
theorem Fz.ext {K : Kx} {H H' : Hp} (e : Ext H H') : ∀ {v : V} {d : D}, Fz K H v d → Fz K H' v d
  | _, _, .non => .non
  | _, _, .bl b => .bl b
  | _, _, .int i => .int i
  | _, _, .str x => .str x
  | _, _, .tup h r => .tup (e.sqT h) (FzL.ext e r)
  | _, _, .lst h r => .lst (e.frzs _ _ _ h) (FzL.ext e r)
  | _, _, .lstW h r => .lstW h (FzL.ext e r)
  | _, _, .dctK h r => .dctK (e.frzs _ _ _ h) (FzK.ext e r)
  | _, _, .dctT h r => .dctT (e.frzs _ _ _ h) (FzT.ext e r)
  | _, _, .ins h r => .ins (e.frzs _ _ _ h) (FzF.ext e r)
theorem FzL.ext {K : Kx} {H H' : Hp} (e : Ext H H') : ∀ {vs : List V} {ds : List D}, FzL K H vs ds → FzL K H' vs ds
  | _, _, .nil => .nil
  | _, _, .cons h r => .cons (Fz.ext e h) (FzL.ext e r)
theorem FzK.ext {K : Kx} {H H' : Hp} (e : Ext H H') : ∀ {vs : List (Key × V)} {ds : List (D × D)}, FzK K H vs ds → FzK K H' vs ds
  | _, _, .nil => .nil
  | _, _, .cons h r => .cons (Fz.ext e h) (FzK.ext e r)
theorem FzT.ext {K : Kx} {H H' : Hp} (e : Ext H H') : ∀ {vs : List Row} {ds : List (D × D)}, FzT K H vs ds → FzT K H' vs ds
  | _, _, .nil => .nil
  | _, _, .cons hk n dp rv h r => .cons (Fz.ext e hk) n dp rv (Fz.ext e h) (FzT.ext e r)
theorem FzF.ext {K : Kx} {H H' : Hp} (e : Ext H H') : ∀ {vs : List (Str × V)} {ds : List (Str × D)}, FzF K H vs ds → FzF K H' vs ds
  | _, _, .nil => .nil
  | _, _, .cons h r => .cons (Fz.ext e h) (FzF.ext e r)
end

theorem FzL.len {K : Kx} {H : Hp} : ∀ {vs : List V} {ds : List D}, FzL K H vs ds → vs.length = ds.length
  | _, _, .nil => rfl
  | _, _, .cons _ r => by rw [List.length_cons, List.length_cons, r.len]
theorem FzL.get {K : Kx} {H : Hp} : ∀ {vs : List V} {ds : List D} {i : Nat} {d : D}, FzL K H vs ds → ds[i]? = some d → ∃ v, vs[i]? = some v ∧ Fz K H v d
  | _, _, 0, _, .cons h _, e => by simp at e; subst e; exact ⟨_, rfl, h⟩
  | _, _, i + 1, _, .cons _ r, e => by
    obtain ⟨v, e1, h⟩ := FzL.get (i := i) r (by simpa using e)
    exact ⟨v, by simpa using e1, h⟩
theorem FzL.getV {K : Kx} {H : Hp} : ∀ {vs : List V} {ds : List D} {i : Nat} {v : V}, FzL K H vs ds → vs[i]? = some v → ∃ d, ds[i]? = some d ∧ Fz K H v d
  | _, _, 0, _, .cons h _, e => by simp at e; subst e; exact ⟨_, rfl, h⟩
  | _, _, i + 1, _, .cons _ r, e => by
    obtain ⟨v, e1, h⟩ := FzL.getV (i := i) r (by simpa using e)
    exact ⟨v, by simpa using e1, h⟩
theorem FzL.app {K : Kx} {H : Hp} : ∀ {vs ws : List V} {ds es : List D}, FzL K H vs ds → FzL K H ws es → FzL K H (vs ++ ws) (ds ++ es)
  | _, _, _, _, .nil, s => s
  | _, _, _, _, .cons h r, s => .cons h (FzL.app r s)
theorem FzL.one {K : Kx} {H : Hp} {v : V} {d : D} (h : Fz K H v d) : FzL K H [v] [d] := .cons h .nil
theorem FzL.take {K : Kx} {H : Hp} : ∀ {vs : List V} {ds : List D} (n : Nat), FzL K H vs ds → FzL K H (vs.take n) (ds.take n)
  | _, _, 0, _ => .nil
  | _, _, _ + 1, .nil => .nil
  | _, _, n + 1, .cons h r => .cons h (FzL.take n r)
theorem FzL.drop {K : Kx} {H : Hp} : ∀ {vs : List V} {ds : List D} (n : Nat), FzL K H vs ds → FzL K H (vs.drop n) (ds.drop n)
  | _, _, 0, r => r
  | _, _, _ + 1, .nil => .nil
  | _, _, n + 1, .cons _ r => FzL.drop n r
theorem FzL.set {K : Kx} {H : Hp} {v : V} {d : D} (q : Fz K H v d) : ∀ {vs : List V} {ds : List D} (n : Nat), FzL K H vs ds → FzL K H (vs.set n v) (ds.set n d)
  | _, _, _, .nil => .nil
  | _, _, 0, .cons h r => .cons q r
  | _, _, n + 1, .cons h r => .cons h (FzL.set q n r)
theorem FzL.eraseIdx {K : Kx} {H : Hp} : ∀ {vs : List V} {ds : List D} (n : Nat), FzL K H vs ds → FzL K H (vs.eraseIdx n) (ds.eraseIdx n)
  | _, _, _, .nil => .nil
  | _, _, 0, .cons h r => r
  | _, _, n + 1, .cons h r => .cons h (FzL.eraseIdx n r)
theorem FzL.reverse {K : Kx} {H : Hp} : ∀ {vs : List V} {ds : List D}, FzL K H vs ds → FzL K H vs.reverse ds.reverse
  | _, _, .nil => .nil
  | _, _, .cons h r => by rw [List.reverse_cons, List.reverse_cons]; exact (FzL.reverse r).app (.one h)
theorem FzL.dropLast {K : Kx} {H : Hp} {vs : List V} {ds : List D} (r : FzL K H vs ds) : FzL K H vs.dropLast ds.dropLast := by
  rw [List.dropLast_eq_take, List.dropLast_eq_take, r.len]
  exact r.take _
theorem FzF.look {K : Kx} {H : Hp} {f : Str} : ∀ {vs : List (Str × V)} {fs : List (Str × D)} {d : D}, FzF K H vs fs → fs.lookup f = some d → ∃ v, vs.lookup f = some v ∧ Fz K H v d
  | _, _, _, .nil, e => by cases e
  | _, _, d, .cons (f := g) h r, e => by
    rw [List.lookup_cons] at e ⊢
    cases hb : f == g with
    | true => simp only [hb] at e; cases e; exact ⟨_, rfl, h⟩
    | false => simp only [hb] at e; exact FzF.look r e
theorem FzF.lookNone {K : Kx} {H : Hp} {f : Str} : ∀ {vs : List (Str × V)} {fs : List (Str × D)}, FzF K H vs fs → fs.lookup f = none → vs.lookup f = none
  | _, _, .nil, e => rfl
  | _, _, .cons (f := g) h r, e => by
    rw [List.lookup_cons] at e ⊢
    cases hb : f == g with
    | true => simp only [hb] at e; cases e
    | false => simp only [hb] at e; exact FzF.lookNone r e
def putD (f : Str) (v : D) : List (Str × D) → List (Str × D)
  | [] => [(f, v)]
  | (g, w) :: r => if g = f then (g, v) :: r else (g, w) :: putD f v r
theorem FzF.put {K : Kx} {H : Hp} {f : Str} {v : V} {d : D} (q : Fz K H v d) : ∀ {vs : List (Str × V)} {fs : List (Str × D)}, FzF K H vs fs → FzF K H (putF f v vs) (putD f d fs)
  | _, _, .nil => .cons q .nil
  | _, _, .cons (f := g) h r => by
    unfold putF putD
    by_cases e : g = f
    · rw [if_pos e, if_pos e]; exact .cons q r
    · rw [if_neg e, if_neg e]; exact .cons h (FzF.put q r)
theorem FzF.len {K : Kx} {H : Hp} : ∀ {vs : List (Str × V)} {ds : List (Str × D)}, FzF K H vs ds → vs.length = ds.length
  | _, _, .nil => rfl
  | _, _, .cons _ r => by rw [List.length_cons, List.length_cons, r.len]
end DL
/-! DL2: owned objects (instances with fields of their own, too), slots, the relation of the slots to HandS's state; freezing. -/
namespace DL
open PySem PySem.Spec PyProof.Rows L2
abbrev Sg := L2.St

/-- what a field of an owned instance holds: something frozen | a list or dict of its own -/
inductive SF where
  | fz (d : D) | lst (ds : List D) | dct (t : KK) (es : List (D × D))
def SF.d : SF → D
  | .fz d => d
  | .lst ds => .lst ds
  | .dct t es => .dct t es
def fsD (fs : List (Str × SF)) : List (Str × D) := fs.map fun p => (p.1, p.2.d)
/-- what an owned object holds -/
inductive Ob where
  | lst (ds : List D) | dct (t : KK) (es : List (D × D)) | ins (c : Str) (fs : List (Str × D)) | insO (c : Str) (fs : List (Str × SF))
def Ob.d : Ob → D
  | .lst ds => .lst ds
  | .dct t es => .dct t es
  | .ins c fs => .ins c fs
  | .insO c fs => .ins c (fsD fs)
def Ob.simple : Ob → Bool
  | .insO _ _ => false
  | _ => true
inductive SV where
  | fz (d : D) | own (o : Ob)
def SV.d : SV → D
  | .fz d => d
  | .own o => o.d
def SV.simple : SV → Bool
  | .fz _ => true
  | .own o => o.simple
abbrev DS := List (Option SV)

/-- the objects of the fields -/
def kidsF : List (Str × V) → List (Str × SF) → List Addr
  | (_, v) :: vs, (_, s) :: fs => (match s, v with
    | .fz _, _ => []
    | _, .ref q => [q]
    | _, _ => []) ++ kidsF vs fs
  | _, _ => []
inductive OwF (K : Kx) (H : Hp) : List (Str × V) → List (Str × SF) → Prop
  | nil : OwF K H [] []
  | fz {f : Str} {v : V} {d : D} {vs : List (Str × V)} {fs : List (Str × SF)} : Fz K H v d → OwF K H vs fs → OwF K H ((f, v) :: vs) ((f, .fz d) :: fs)
  | lst {f : Str} {q : Addr} {us : List V} {ds : List D} {vs : List (Str × V)} {fs : List (Str × SF)} : H q = some (.lst us) → FzL K H us ds → OwF K H vs fs → OwF K H ((f, .ref q) :: vs) ((f, .lst ds) :: fs)
  | dctK {f : Str} {q : Addr} {kvs : List (Key × V)} {es : List (D × D)} {vs : List (Str × V)} {fs : List (Str × SF)} : H q = some (.dK kvs) → FzK K H kvs es → OwF K H vs fs → OwF K H ((f, .ref q) :: vs) ((f, .dct .k es) :: fs)
  | dctT {f : Str} {q : Addr} {kvs : List Row} {es : List (D × D)} {vs : List (Str × V)} {fs : List (Str × SF)} : H q = some (tabO K q kvs) → FzT K H kvs es → OwF K H vs fs → OwF K H ((f, .ref q) :: vs) ((f, .dct .t es) :: fs)
inductive Ow (K : Kx) (H : Hp) (p : Addr) : Ob → Prop
  | lst {vs : List V} {ds : List D} : H p = some (.lst vs) → FzL K H vs ds → Ow K H p (.lst ds)
  | dctK {kvs : List (Key × V)} {es : List (D × D)} : H p = some (.dK kvs) → FzK K H kvs es → Ow K H p (.dct .k es)
  | dctT {kvs : List Row} {es : List (D × D)} : H p = some (tabO K p kvs) → FzT K H kvs es → Ow K H p (.dct .t es)
  | ins {dx : Addr} {c : Str} {vs : List (Str × V)} {fs : List (Str × D)} : H p = some (.ins (He.ga K.F c) dx vs) → FzF K H vs fs → Ow K H p (.ins c fs)
  | insO {dx : Addr} {c : Str} {vs : List (Str × V)} {fs : List (Str × SF)} : H p = some (.ins (He.ga K.F c) dx vs) → OwF K H vs fs → (p :: kidsF vs fs).Nodup → Ow K H p (.insO c fs)
/-- an owned object's addresses -/
def feet (H : Hp) (p : Addr) : Ob → List Addr
  | .insO _ fs => p :: (match H p with
    | some (.ins _ _ vs) => kidsF vs fs
    | _ => [])
  | _ => [p]
theorem feet_simple {H : Hp} {p : Addr} {ob : Ob} (h : ob.simple = true) : feet H p ob = [p] := by
  cases ob <;> first | rfl | cases h
theorem feet_head (H : Hp) (p : Addr) (ob : Ob) : p ∈ feet H p ob := by
  cases ob <;> exact List.mem_cons_self
theorem feet_congr {H H' : Hp} {p : Addr} (ob : Ob) (h : H' p = H p) : feet H' p ob = feet H p ob := by
  cases ob <;> first | rfl | (unfold feet; rw [h])
theorem feet_insO {H : Hp} {p C dx : Addr} {vs : List (Str × V)} (c : Str) (fs : List (Str × SF)) (h : H p = some (.ins C dx vs)) : feet H p (.insO c fs) = p :: kidsF vs fs := by
  unfold feet
  rw [h]
def ftSV (H : Hp) (p : Addr) : SV → List Addr
  | .fz _ => []
  | .own ob => feet H p ob
/-- the objects that may be owned -/
def Bx : HO → Prop
  | .lst _ => True
  | .dK _ => True
  | .ext _ => True
  | .ins _ _ _ => True
  | _ => False
theorem Bx.mut {o : HO} (h : Bx o) : Mut (some o) := by cases o <;> first | trivial | exact h.elim
theorem Bx.notup {o : HO} (h : Bx o) (xs : List V) : o ≠ .tup xs := by rintro rfl; exact h
theorem Bx.nofrz {o : HO} (h : Bx o) (ob : Obj) (u : HO) : o ≠ .frz ob u := by rintro rfl; exact h
theorem OwF.keep {K : Kx} {H H' : Hp} (e : Ext H H') : ∀ {vs : List (Str × V)} {fs : List (Str × SF)}, OwF K H vs fs → (∀ a ∈ kidsF vs fs, H' a = H a) → OwF K H' vs fs
  | _, _, .nil, _ => .nil
  | _, _, .fz h r, k => .fz (h.ext e) (OwF.keep e r fun a m => k a m)
  | _, _, .lst (q := q) h w r, k => .lst ((k q List.mem_cons_self).trans h) (w.ext e) (OwF.keep e r fun a m => k a (List.mem_cons_of_mem _ m))
  | _, _, .dctK (q := q) h w r, k => .dctK ((k q List.mem_cons_self).trans h) (w.ext e) (OwF.keep e r fun a m => k a (List.mem_cons_of_mem _ m))
  | _, _, .dctT (q := q) h w r, k => .dctT ((k q List.mem_cons_self).trans h) (w.ext e) (OwF.keep e r fun a m => k a (List.mem_cons_of_mem _ m))
theorem OwF.at_ {K : Kx} {H : Hp} {a : Addr} : ∀ {vs : List (Str × V)} {fs : List (Str × SF)}, OwF K H vs fs → a ∈ kidsF vs fs → ∃ o, H a = some o ∧ Bx o
  | _, _, .nil, m => by cases m
  | _, _, .fz h r, m => r.at_ m
  | _, _, .lst (q := q) h w r, m => by
    rcases List.mem_cons.mp m with e | m
    · subst e; exact ⟨_, h, trivial⟩
    · exact r.at_ m
  | _, _, .dctK (q := q) h w r, m => by
    rcases List.mem_cons.mp m with e | m
    · subst e; exact ⟨_, h, trivial⟩
    · exact r.at_ m
  | _, _, .dctT (q := q) h w r, m => by
    rcases List.mem_cons.mp m with e | m
    · subst e; exact ⟨_, h, trivial⟩
    · exact r.at_ m
section
variable {K : Kx} {H H' : Hp} {p : Addr} {ob : Ob}
theorem Ow.keep (h : Ow K H p ob) (e : Ext H H') (hp : ∀ a ∈ feet H p ob, H' a = H a) : Ow K H' p ob := by
  have h0 := hp p (feet_head H p ob)
  cases h with
  | lst h r => exact .lst (h0.trans h) (r.ext e)
  | dctK h r => exact .dctK (h0.trans h) (r.ext e)
  | dctT h r => exact .dctT (h0.trans h) (r.ext e)
  | ins h r => exact .ins (h0.trans h) (r.ext e)
  | insO h r n =>
    rw [feet_insO _ _ h] at hp
    exact .insO (h0.trans h) (r.keep e fun a m => hp a (List.mem_cons_of_mem _ m)) n
theorem Ow.at_ (h : Ow K H p ob) : ∃ o, H p = some o ∧ Bx o := by
  cases h with
  | lst h r => exact ⟨_, h, trivial⟩
  | dctK h r => exact ⟨_, h, trivial⟩
  | dctT h r => exact ⟨_, h, trivial⟩
  | ins h r => exact ⟨_, h, trivial⟩
  | insO h r n => exact ⟨_, h, trivial⟩
theorem Ow.feetAt (h : Ow K H p ob) {a : Addr} (m : a ∈ feet H p ob) : ∃ o, H a = some o ∧ Bx o := by
  have q := h
  cases h with
  | insO h r n =>
    rw [feet_insO _ _ h] at m
    rcases List.mem_cons.mp m with e | m
    · subst e; exact q.at_
    · exact r.at_ m
  | lst h r => rw [List.mem_singleton.mp m]; exact q.at_
  | dctK h r => rw [List.mem_singleton.mp m]; exact q.at_
  | dctT h r => rw [List.mem_singleton.mp m]; exact q.at_
  | ins h r => rw [List.mem_singleton.mp m]; exact q.at_
theorem Ow.feetNodup (h : Ow K H p ob) : (feet H p ob).Nodup := by
  cases h with
  | insO h r n => rw [feet_insO _ _ h]; exact n
  | lst h r => exact List.nodup_cons.mpr ⟨by simp, List.nodup_nil⟩
  | dctK h r => exact List.nodup_cons.mpr ⟨by simp, List.nodup_nil⟩
  | dctT h r => exact List.nodup_cons.mpr ⟨by simp, List.nodup_nil⟩
  | ins h r => exact List.nodup_cons.mpr ⟨by simp, List.nodup_nil⟩
theorem Ext.bx {H : Hp} {p : Addr} {o u : HO} (h : H p = some o) (b : Bx o) : Ext H (upd H p u) :=
  Ext.ofUpd (fun xs z => by rw [h] at z; exact b.notup xs (Option.some.inj z)) (fun ob u' z => by rw [h] at z; exact b.nofrz ob u' (Option.some.inj z))
/-- a change at p is nothing to what is frozen -/
theorem Ow.ext (h : Ow K H p ob) (u : HO) : Ext H (upd H p u) := by
  obtain ⟨o, e, b⟩ := h.at_
  exact Ext.bx e b
/-- frozen, it is what it was (an object without fields of its own) -/
theorem Ow.frz {o : Obj} {u : HO} (h : Ow K H p ob) (e : H p = some u) (hs : ob.simple = true) : Fz K (upd H p (.frz o u)) (.ref p) ob.d := by
  have x := h.ext (.frz o u)
  cases h with
  | lst h r => rw [h] at e; cases e; exact .lst upd_same (r.ext x)
  | dctK h r => rw [h] at e; cases e; exact .dctK upd_same (r.ext x)
  | dctT h r => rw [h] at e; cases e; exact .dctT upd_same (r.ext x)
  | ins h r => rw [h] at e; cases e; exact .ins upd_same (r.ext x)
  | insO _ _ _ => cases hs
end
def frzL : List Addr → (Hp → Prop) → Hp → Prop
  | [], Q, H => Q H
  | p :: r, Q, H => ∃ u, H p = some u ∧ Mut (some u) ∧ ∀ od, frzL r Q (upd H p (.frz od u))
theorem frzL.mono {Q Q' : Hp → Prop} (h : ∀ H, Q H → Q' H) : ∀ {ps : List Addr} {H : Hp}, frzL ps Q H → frzL ps Q' H
  | [], _, q => h _ q
  | _ :: _, _, ⟨u, e, m, q⟩ => ⟨u, e, m, fun od => frzL.mono h (q od)⟩
theorem frzL.app {Q : Hp → Prop} {qs : List Addr} : ∀ {ps : List Addr} {H : Hp}, frzL ps (frzL qs Q) H → frzL (ps ++ qs) Q H
  | [], _, q => q
  | _ :: _, _, ⟨u, e, m, q⟩ => ⟨u, e, m, fun od => frzL.app (q od)⟩
/-- objects frozen, one by one -/
inductive FrzI (Q : Hp → Prop) : Hp → Prop
  | done {H : Hp} : Q H → FrzI Q H
  | step {H : Hp} {p : Addr} {u : HO} : H p = some u → Mut (some u) → (∀ od, FrzI Q (upd H p (.frz od u))) → FrzI Q H
theorem FrzI.mono {Q Q' : Hp → Prop} (h : ∀ H, Q H → Q' H) {H : Hp} (q : FrzI Q H) : FrzI Q' H := by
  induction q with
  | done q => exact .done (h _ q)
  | step e m _ ih => exact .step e m ih
theorem FrzI.bind {Q Q' : Hp → Prop} (h : ∀ H, Q H → FrzI Q' H) {H : Hp} (q : FrzI Q H) : FrzI Q' H := by
  induction q with
  | done q => exact h _ q
  | step e m _ ih => exact .step e m ih
theorem frzL.frzI {Q : Hp → Prop} : ∀ {ps : List Addr} {H : Hp}, frzL ps Q H → FrzI Q H
  | [], _, q => .done q
  | _ :: _, _, ⟨_, e, m, q⟩ => .step e m fun od => (q od).frzI
def frzThen (_ : Unit) (Q : Hp → Prop) (H : Hp) : Prop := FrzI Q H
theorem frzThen.mono {Q Q' : Hp → Prop} (h : ∀ H, Q H → Q' H) {ps : Unit} {H : Hp} (q : frzThen ps Q H) : frzThen ps Q' H := FrzI.mono h q
/-- all the fields' objects frozen -/
theorem OwF.frzs {K : Kx} : ∀ {vs : List (Str × V)} {fs : List (Str × SF)} {H : Hp}, OwF K H vs fs → (kidsF vs fs).Nodup → frzL (kidsF vs fs) (fun H' => Ext H H' ∧ FzF K H' vs (fsD fs) ∧ (∀ b, b ∉ kidsF vs fs → H' b = H b) ∧ ∀ b ∈ kidsF vs fs, ∃ o, H' b = some o) H
  | _, _, H, .nil, _ => ⟨Ext.refl H, .nil, fun _ _ => rfl, fun _ m => by cases m⟩
  | _, _, H, .fz h r, n => (OwF.frzs r n).mono fun H' ⟨x, w, k, k2⟩ => ⟨x, .cons (h.ext x) w, k, k2⟩
  | _, _, H, .lst (q := q) (us := us) h w r, n => by
    obtain ⟨n1, n2⟩ := List.nodup_cons.mp (show (q :: kidsF _ _).Nodup from n)
    refine ⟨_, h, trivial, fun od => ?_⟩
    have x : Ext H (upd H q (.frz od (.lst us))) := Ext.bx h trivial
    have r' := r.keep x fun a m => upd_ne (fun z => n1 (z ▸ m))
    refine (OwF.frzs r' n2).mono fun H' ⟨x2, w2, k, k2⟩ => ⟨x.trans x2, .cons (.lst (x2.frzs _ _ _ upd_same) (w.ext (x.trans x2))) w2, fun b hb => ?_, fun b hb => ?_⟩
    · obtain ⟨b1, b2⟩ := not_or.mp (fun z => hb (List.mem_cons.mpr z))
      rw [k b b2, upd_ne b1]
    · rcases List.mem_cons.mp hb with rfl | hb
      · exact ⟨_, x2.frzs _ _ _ upd_same⟩
      · exact k2 b hb
  | _, _, H, .dctK (q := q) (kvs := kvs) h w r, n => by
    obtain ⟨n1, n2⟩ := List.nodup_cons.mp (show (q :: kidsF _ _).Nodup from n)
    refine ⟨_, h, trivial, fun od => ?_⟩
    have x : Ext H (upd H q (.frz od (.dK kvs))) := Ext.bx h trivial
    have r' := r.keep x fun a m => upd_ne (fun z => n1 (z ▸ m))
    refine (OwF.frzs r' n2).mono fun H' ⟨x2, w2, k, k2⟩ => ⟨x.trans x2, .cons (.dctK (x2.frzs _ _ _ upd_same) (w.ext (x.trans x2))) w2, fun b hb => ?_, fun b hb => ?_⟩
    · obtain ⟨b1, b2⟩ := not_or.mp (fun z => hb (List.mem_cons.mpr z))
      rw [k b b2, upd_ne b1]
    · rcases List.mem_cons.mp hb with rfl | hb
      · exact ⟨_, x2.frzs _ _ _ upd_same⟩
      · exact k2 b hb
  | _, _, H, .dctT (q := q) (kvs := kvs) h w r, n => by
    obtain ⟨n1, n2⟩ := List.nodup_cons.mp (show (q :: kidsF _ _).Nodup from n)
    refine ⟨_, h, trivial, fun od => ?_⟩
    have x : Ext H (upd H q (.frz od (tabO K q kvs))) := Ext.bx h trivial
    have r' := r.keep x fun a m => upd_ne (fun z => n1 (z ▸ m))
    refine (OwF.frzs r' n2).mono fun H' ⟨x2, w2, k, k2⟩ => ⟨x.trans x2, .cons (.dctT (x2.frzs _ _ _ upd_same) (w.ext (x.trans x2))) w2, fun b hb => ?_, fun b hb => ?_⟩
    · obtain ⟨b1, b2⟩ := not_or.mp (fun z => hb (List.mem_cons.mpr z))
      rw [k b b2, upd_ne b1]
    · rcases List.mem_cons.mp hb with rfl | hb
      · exact ⟨_, x2.frzs _ _ _ upd_same⟩
      · exact k2 b hb
/-- an owned object frozen, with all of its own -/
theorem Ow.frzs {K : Kx} {H : Hp} {p : Addr} {ob : Ob} (h : Ow K H p ob) : frzL (feet H p ob) (fun H' => Ext H H' ∧ Fz K H' (.ref p) ob.d ∧ (∀ b, b ∉ feet H p ob → H' b = H b) ∧ ∀ b ∈ feet H p ob, ∃ o, H' b = some o) H := by
  by_cases hs : ob.simple = true
  · rw [feet_simple hs]
    obtain ⟨u, eu, b⟩ := h.at_
    exact ⟨u, eu, b.mut, fun od => ⟨h.ext _, h.frz eu hs, fun b hb => upd_ne (fun z => hb (List.mem_singleton.mpr z)), fun b hb => ⟨.frz od u, by rw [List.mem_singleton.mp hb]; exact upd_same⟩⟩⟩
  · cases h with
    | @insO dx c vs fs h r n =>
      rw [feet_insO _ _ h]
      obtain ⟨n1, n2⟩ := List.nodup_cons.mp n
      refine ⟨_, h, trivial, fun od => ?_⟩
      have x : Ext H (upd H p (.frz od (.ins (He.ga K.F c) dx vs))) := Ext.bx h trivial
      have r' := r.keep x fun a m => upd_ne (fun z => n1 (z ▸ m))
      refine (r'.frzs n2).mono fun H' ⟨x2, w2, k, k2⟩ => ⟨x.trans x2, .ins (x2.frzs _ _ _ upd_same) w2, fun b hb => ?_, fun b hb => ?_⟩
      · obtain ⟨b1, b2⟩ := not_or.mp (fun z => hb (List.mem_cons.mpr z))
        rw [k b b2, upd_ne b1]
      · rcases List.mem_cons.mp hb with rfl | hb
        · exact ⟨_, x2.frzs _ _ _ upd_same⟩
        · exact k2 b hb
    | lst _ _ => exact absurd rfl hs
    | dctK _ _ => exact absurd rfl hs
    | dctT _ _ => exact absurd rfl hs
    | ins _ _ => exact absurd rfl hs

inductive SVR (K : Kx) (H : Hp) : V → SV → Prop
  | fz {v : V} {d : D} : Fz K H v d → SVR K H v (.fz d)
  | own {p : Addr} {ob : Ob} : Ow K H p ob → SVR K H (.ref p) (.own ob)

/-- a def's run: the heap at its entry; the object handed in to be changed (slot 0's), if any, and its fields' objects -/
structure Fx where
  H0 : Hp
  J : Option Addr
  js : List Addr := []
def Fx.isJ (F : Fx) (a : Addr) : Prop := F.J = some a ∨ a ∈ F.js
def IsOwn (ds : DS) (i : Nat) : Prop := ∃ ob, ds[i]? = some (some (.own ob))
def ftAt (H : Hp) : Option (Option SV) → Option (Option V) → List Addr
  | some (some (.own ob)), some (some (.ref p)) => feet H p ob
  | _, _ => []
/-- the addresses of a slot's object -/
def fts (ds : DS) (σ : Sg) (H : Hp) (i : Nat) : List Addr := ftAt H ds[i]? σ[i]?
theorem mem_fts {ds : DS} {σ : Sg} {H : Hp} {i : Nat} {a : Addr} (h : a ∈ fts ds σ H i) : ∃ ob p, ds[i]? = some (some (.own ob)) ∧ σ[i]? = some (some (V.ref p)) ∧ a ∈ feet H p ob := by
  unfold fts ftAt at h
  split at h
  · rename_i ob p e1 e2
    exact ⟨ob, p, e1, e2, h⟩
  · cases h
theorem fts_own {ds : DS} {σ : Sg} {H : Hp} {i : Nat} {ob : Ob} {p : Addr} (h1 : ds[i]? = some (some (.own ob))) (h2 : σ[i]? = some (some (V.ref p))) : fts ds σ H i = feet H p ob := by
  unfold fts
  rw [h1, h2]
  rfl
theorem fts_congr {ds ds' : DS} {σ σ' : Sg} (H : Hp) {i : Nat} (h1 : ds'[i]? = ds[i]?) (h2 : σ'[i]? = σ[i]?) : fts ds' σ' H i = fts ds σ H i := by
  unfold fts
  rw [h1, h2]
structure SRel (K : Kx) (F : Fx) (ds : DS) (σ : Sg) (H : Hp) (hd : List (Addr × HO)) : Prop where
  len : ds.length = σ.length
  slot : ∀ (i : Nat) (sv : SV), ds[i]? = some (some sv) → ∃ v, σ[i]? = some (some v) ∧ SVR K H v sv
  inj : ∀ (i j : Nat) (a : Addr), a ∈ fts ds σ H i → a ∈ fts ds σ H j → i = j
  new : ∀ (i : Nat) (a : Addr), a ∈ fts ds σ H i → F.H0 a = none ∨ (i = 0 ∧ F.isJ a)
  keep : ∀ a o, F.H0 a = some o → ¬ F.isJ a → H a = some o
  prot : ∀ p, F.J = some p → σ[0]? = some (some (V.ref p)) ∧ ∃ o, H p = some o
  live : ∀ a, F.isJ a → ∃ o, H a = some o
  held : ∀ a o, (a, o) ∈ hd → H a = some o ∧ F.H0 a = none ∧ ¬ F.isJ a ∧ Bx o ∧ ∀ (i : Nat), a ∉ fts ds σ H i
  hnd : (hd.map (·.1)).Nodup

section
variable {K : Kx} {F : Fx} {ds ds' : DS} {σ σ' : Sg} {H H' : Hp} {hd hd' : List (Addr × HO)}
/-- the object of an owned slot -/
theorem SRel.own (S : SRel K F ds σ H hd) {i : Nat} {ob : Ob} (h : ds[i]? = some (some (.own ob))) : ∃ p, σ[i]? = some (some (V.ref p)) ∧ Ow K H p ob := by
  obtain ⟨v, e, r⟩ := S.slot i _ h
  cases r with
  | own r => exact ⟨_, e, r⟩
theorem SRel.fz (S : SRel K F ds σ H hd) {i : Nat} {d : D} (h : ds[i]? = some (some (.fz d))) : ∃ v, σ[i]? = some (some v) ∧ Fz K H v d := by
  obtain ⟨v, e, r⟩ := S.slot i _ h
  cases r with
  | fz r => exact ⟨_, e, r⟩
theorem SRel.ftLive (S : SRel K F ds σ H hd) {i : Nat} {a : Addr} (h : a ∈ fts ds σ H i) : ∃ o, H a = some o ∧ Bx o := by
  obtain ⟨ob, p, e1, e2, m⟩ := mem_fts h
  obtain ⟨q, e3, w⟩ := S.own e1
  rw [e2] at e3; cases e3
  exact w.feetAt m
/-- what stood at the entry stands, and what is the def's own is none of it -/
theorem SRel.fresh (S : SRel K F ds σ H hd) {p : Addr} (h : H p = none) : F.H0 p = none ∧ ¬ F.isJ p := by
  have hj : ¬ F.isJ p := fun e => by
    obtain ⟨o, e2⟩ := S.live p e
    rw [h] at e2; cases e2
  refine ⟨?_, hj⟩
  cases q : F.H0 p with
  | none => rfl
  | some u =>
    have := S.keep p u q hj
    rw [h] at this; cases this
theorem SRel.noSlot (S : SRel K F ds σ H hd) {p : Addr} (h : H p = none) : ∀ (i : Nat), p ∉ fts ds σ H i := fun i m => by
  obtain ⟨o, eo, _⟩ := S.ftLive m
  rw [h] at eo; cases eo
theorem SRel.noHeld (S : SRel K F ds σ H hd) {p : Addr} (h : H p = none) : p ∉ hd.map (·.1) := fun hm => by
  obtain ⟨q, hq, e⟩ := List.mem_map.mp hm
  obtain ⟨a, u⟩ := q
  cases e
  have := (S.held _ _ hq).1
  rw [h] at this; cases this
/-- a heap in which the objects of the slots stand as they stood: the slots' addresses are the same -/
theorem SRel.ftsEq (S : SRel K F ds σ H hd) (i : Nat) (k : ∀ a ∈ fts ds σ H i, H' a = H a) : fts ds σ H' i = fts ds σ H i := by
  unfold fts at k ⊢
  unfold ftAt at k ⊢
  split
  · rename_i ob p e1 e2
    rw [e1, e2] at k
    exact feet_congr ob (k p (feet_head H p ob))
  · rfl
/-- the slots' objects but one as they were -/
theorem SRel.ftsEq2 (S : SRel K F ds σ H hd) {i j : Nat} (hij : i ≠ j) (k : ∀ a o, H a = some o → a ∉ fts ds σ H i → H' a = some o) : (∀ a ∈ fts ds σ H j, H' a = H a) ∧ fts ds σ H' j = fts ds σ H j := by
  have k2 : ∀ a ∈ fts ds σ H j, H' a = H a := fun a m => by
    obtain ⟨o, eo, _⟩ := S.ftLive m
    rw [k a o eo fun m2 => hij (S.inj i j a m2 m), eo]
  exact ⟨k2, S.ftsEq j k2⟩
/-- new things, nothing else changed -/
theorem SRel.grow (S : SRel K F ds σ H hd) (e : Same H H') : SRel K F ds σ H' hd := by
  have ft : ∀ i, (∀ a ∈ fts ds σ H i, H' a = H a) ∧ fts ds σ H' i = fts ds σ H i := fun i => by
    have k2 : ∀ a ∈ fts ds σ H i, H' a = H a := fun a m => by
      obtain ⟨o, eo, _⟩ := S.ftLive m
      rw [e a o eo, eo]
    exact ⟨k2, S.ftsEq i k2⟩
  exact {
    len := S.len
    slot := fun i sv h => by
      obtain ⟨v, e1, r⟩ := S.slot i sv h
      refine ⟨v, e1, ?_⟩
      cases r with
      | fz r => exact .fz (r.ext (.of_same e))
      | own r =>
        refine .own (r.keep (.of_same e) fun a m => (ft i).1 a ?_)
        rw [fts_own h e1]
        exact m
    inj := fun i j a h1 h2 => S.inj i j a (by rw [← (ft i).2]; exact h1) (by rw [← (ft j).2]; exact h2)
    new := fun i a h => S.new i a (by rw [← (ft i).2]; exact h)
    keep := fun a o h1 h2 => e a o (S.keep a o h1 h2)
    prot := fun p h => by
      obtain ⟨h1, o, h3⟩ := S.prot p h
      exact ⟨h1, o, e _ _ h3⟩
    live := fun a h => by
      obtain ⟨o, h3⟩ := S.live a h
      exact ⟨o, e _ _ h3⟩
    held := fun a o h => by
      obtain ⟨h1, h2, h3, h4, h5⟩ := S.held a o h
      exact ⟨e a o h1, h2, h3, h4, fun i => by rw [(ft i).2]; exact h5 i⟩
    hnd := S.hnd }
theorem SRel.growFts (S : SRel K F ds σ H hd) (e : Same H H') (i : Nat) : fts ds σ H' i = fts ds σ H i :=
  S.ftsEq i fun a m => by
    obtain ⟨o, eo, _⟩ := S.ftLive m
    rw [e a o eo, eo]
/-- a new object, held -/
theorem SRel.made (S : SRel K F ds σ H hd) {p : Addr} {o : HO} (h : H p = none) (b : Bx o) : SRel K F ds σ (upd H p o) ((p, o) :: hd) := by
  have S1 := S.grow (Same.new (o := o) h)
  obtain ⟨h0, hj⟩ := S.fresh h
  have ft : ∀ i, fts ds σ (upd H p o) i = fts ds σ H i := fun i => S.ftsEq i fun a m => upd_ne (fun z => S.noSlot h i (z ▸ m))
  exact { S1 with
    held := fun a u hm => by
      rcases List.mem_cons.mp hm with e | hm
      · cases e; exact ⟨upd_same, h0, hj, b, fun i => by rw [ft i]; exact S.noSlot h i⟩
      · exact S1.held a u hm
    hnd := List.nodup_cons.mpr ⟨S.noHeld h, S.hnd⟩ }
/-- a new object that is not held (a tuple) -/
theorem SRel.laid (S : SRel K F ds σ H hd) {p : Addr} {o : HO} (h : H p = none) : SRel K F ds σ (upd H p o) hd := S.grow (Same.new h)
/-- fewer held -/
theorem SRel.drop (S : SRel K F ds σ H hd) (s : hd'.Sublist hd) : SRel K F ds σ H hd' :=
  { S with held := fun a o h => S.held a o (s.subset h), hnd := S.hnd.sublist (s.map _) }
theorem SRel.drop1 {q : Addr × HO} (S : SRel K F ds σ H (q :: hd)) : SRel K F ds σ H hd := S.drop (List.sublist_cons_self _ _)
/-- held objects changed (or frozen), no longer held -/
theorem SRel.hchg {hs : List (Addr × HO)} (S : SRel K F ds σ H (hs ++ hd)) (x : Ext H H') (k : ∀ b, b ∉ hs.map (·.1) → H' b = H b) : SRel K F ds σ H' hd := by
  have hno : ∀ a, a ∈ hs.map (·.1) → F.H0 a = none ∧ ¬ F.isJ a ∧ ∀ i, a ∉ fts ds σ H i := fun a m => by
    obtain ⟨⟨b, o⟩, hq, e⟩ := List.mem_map.mp m
    cases e
    obtain ⟨h1, h2, h3, h4, h5⟩ := S.held _ _ (List.mem_append_left _ hq)
    exact ⟨h2, h3, h5⟩
  have ft : ∀ i, (∀ a ∈ fts ds σ H i, H' a = H a) ∧ fts ds σ H' i = fts ds σ H i := fun i => by
    have k2 : ∀ a ∈ fts ds σ H i, H' a = H a := fun a m => k a fun m2 => (hno a m2).2.2 i m
    exact ⟨k2, S.ftsEq i k2⟩
  have nd := S.hnd
  rw [List.map_append, List.nodup_append] at nd
  exact {
    len := S.len
    slot := fun i sv h => by
      obtain ⟨v, e1, r⟩ := S.slot i sv h
      refine ⟨v, e1, ?_⟩
      cases r with
      | fz r => exact .fz (r.ext x)
      | own r =>
        refine .own (r.keep x fun a m => (ft i).1 a ?_)
        rw [fts_own h e1]
        exact m
    inj := fun i j a h1 h2 => S.inj i j a (by rw [← (ft i).2]; exact h1) (by rw [← (ft j).2]; exact h2)
    new := fun i a h => S.new i a (by rw [← (ft i).2]; exact h)
    keep := fun a o h1 h2 => by rw [k a fun m => by rw [(hno a m).1] at h1; cases h1]; exact S.keep a o h1 h2
    prot := fun p h => by
      obtain ⟨h1, o, h3⟩ := S.prot p h
      exact ⟨h1, o, by rw [k p fun m => (hno p m).2.1 (.inl h)]; exact h3⟩
    live := fun a h => by
      obtain ⟨o, h3⟩ := S.live a h
      exact ⟨o, by rw [k a fun m => (hno a m).2.1 h]; exact h3⟩
    held := fun a o h => by
      obtain ⟨h1, h2, h3, h4, h5⟩ := S.held a o (List.mem_append_right _ h)
      refine ⟨?_, h2, h3, h4, fun i => by rw [(ft i).2]; exact h5 i⟩
      rw [k a fun m => nd.2.2 a m a (List.mem_map.mpr ⟨(a, o), h, rfl⟩) rfl]
      exact h1
    hnd := nd.2.1 }
/-- a held object changed (or frozen) -/
theorem SRel.hset {p : Addr} {o u : HO} (S : SRel K F ds σ H ((p, o) :: hd)) : SRel K F ds σ (upd H p u) hd := by
  obtain ⟨h1, h2, h3, h4, h5⟩ := S.held p o List.mem_cons_self
  exact SRel.hchg (hs := [(p, o)]) S (Ext.bx h1 h4) fun b hb => upd_ne (fun z => hb (List.mem_singleton.mpr z))
/-- a held object changed, still held -/
theorem SRel.hset' {p : Addr} {o u : HO} (S : SRel K F ds σ H ((p, o) :: hd)) (b : Bx u) : SRel K F ds σ (upd H p u) ((p, u) :: hd) := by
  obtain ⟨h1, h2, h3, h4, h5⟩ := S.held p o List.mem_cons_self
  have S1 := S.hset (u := u)
  have ft : ∀ i, fts ds σ (upd H p u) i = fts ds σ H i := fun i => S.ftsEq i fun a m => upd_ne (fun z => h5 i (z ▸ m))
  have nd := List.nodup_cons.mp (show (p :: hd.map (·.1)).Nodup from S.hnd)
  exact { S1 with
    held := fun a w hm => by
      rcases List.mem_cons.mp hm with e | hm
      · cases e; exact ⟨upd_same, h2, h3, b, fun i => by rw [ft i]; exact h5 i⟩
      · exact S1.held a w hm
    hnd := List.nodup_cons.mpr nd }
theorem getElem?_set_own {ds : DS} {i j : Nat} {x : Option SV} (h : i ≠ j) : (ds.set i x)[j]? = ds[j]? := List.getElem?_set_ne h
/-- the object of an owned slot changed, with what is its own -/
theorem SRel.chgH {hs : List (Addr × HO)} (S : SRel K F ds σ H (hs ++ hd)) {i : Nat} {ob : Ob} {p : Addr} {sv : SV} (h : ds[i]? = some (some (.own ob))) (hp : σ[i]? = some (some (V.ref p))) (x : Ext H H') (k : ∀ a o, H a = some o → a ∉ feet H p ob → H' a = some o) (hl : ∀ a ∈ feet H p ob, ∃ u, H' a = some u) (hu : SVR K H' (.ref p) sv)
    (hf : ∀ a ∈ ftSV H' p sv, a ∈ feet H p ob ∨ H a = none ∨ a ∈ hs.map (·.1)) : SRel K F (ds.set i (some sv)) σ H' hd := by
  have hi : i < ds.length := (List.getElem?_eq_some_iff.mp h).1
  have fi : fts ds σ H i = feet H p ob := fts_own h hp
  have gi : fts (ds.set i (some sv)) σ H' i = ftSV H' p sv := by
    unfold fts
    rw [List.getElem?_set_self hi, hp]
    cases sv <;> rfl
  have ft : ∀ j, i ≠ j → (∀ a ∈ fts ds σ H j, H' a = H a) ∧ fts (ds.set i (some sv)) σ H' j = fts ds σ H j := fun j hij => by
    obtain ⟨a1, a2⟩ := S.ftsEq2 hij (H' := H') fun a o e m => k a o e (by rw [← fi]; exact m)
    refine ⟨a1, ?_⟩
    rw [fts_congr H' (List.getElem?_set_ne hij) rfl, a2]
  have nd := S.hnd
  rw [List.map_append, List.nodup_append] at nd
  have inH : ∀ {a}, a ∈ hs.map (·.1) → F.H0 a = none ∧ ¬ F.isJ a ∧ ∀ i, a ∉ fts ds σ H i := fun {a} m => by
    obtain ⟨⟨b, o⟩, hq, e⟩ := List.mem_map.mp m
    cases e
    obtain ⟨h1, h2, h3, h4, h5⟩ := S.held _ _ (List.mem_append_left _ hq)
    exact ⟨h2, h3, h5⟩
  refine ⟨by rw [List.length_set]; exact S.len, fun j sv' hj => ?_, fun a b q ha hb => ?_, fun j q hj => ?_, fun a o' e1 e2 => ?_, fun q e => ?_, fun a e => ?_, fun a o' hm => ?_, nd.2.1⟩
  · by_cases hij : i = j
    · subst hij
      rw [List.getElem?_set_self hi] at hj
      cases hj
      exact ⟨_, hp, hu⟩
    · rw [List.getElem?_set_ne hij] at hj
      obtain ⟨v, e1, r'⟩ := S.slot j sv' hj
      refine ⟨v, e1, ?_⟩
      cases r' with
      | fz r' => exact .fz (r'.ext x)
      | own r' => exact .own (r'.keep x fun a m => (ft j hij).1 a (by rw [fts_own hj e1]; exact m))
  · by_cases h1 : i = a <;> by_cases h2 : i = b
    · exact h1.symm.trans h2
    · subst h1
      rw [gi] at ha
      rw [(ft b h2).2] at hb
      rcases hf q ha with z | z | z
      · exact S.inj i b q (by rw [fi]; exact z) hb
      · exact absurd hb (S.noSlot z b)
      · exact absurd hb ((inH z).2.2 b)
    · subst h2
      rw [gi] at hb
      rw [(ft a h1).2] at ha
      rcases hf q hb with z | z | z
      · exact S.inj a i q ha (by rw [fi]; exact z)
      · exact absurd ha (S.noSlot z a)
      · exact absurd ha ((inH z).2.2 a)
    · rw [(ft a h1).2] at ha
      rw [(ft b h2).2] at hb
      exact S.inj a b q ha hb
  · by_cases h1 : i = j
    · subst h1
      rw [gi] at hj
      rcases hf q hj with z | z | z
      · exact S.new i q (by rw [fi]; exact z)
      · exact .inl (S.fresh z).1
      · exact .inl (inH z).1
    · rw [(ft j h1).2] at hj
      exact S.new j q hj
  · refine k _ _ (S.keep a o' e1 e2) fun m => ?_
    rcases S.new i a (by rw [fi]; exact m) with z | ⟨_, z⟩
    · rw [e1] at z; cases z
    · exact e2 z
  · obtain ⟨e1, o', e3⟩ := S.prot q e
    refine ⟨e1, ?_⟩
    by_cases hq : q ∈ feet H p ob
    · exact hl q hq
    · exact ⟨o', k _ _ e3 hq⟩
  · obtain ⟨o', e3⟩ := S.live a e
    by_cases hq : a ∈ feet H p ob
    · exact hl a hq
    · exact ⟨o', k _ _ e3 hq⟩
  · obtain ⟨q1, q2, q3, q4, q5⟩ := S.held a o' (List.mem_append_right _ hm)
    have hne : a ∉ feet H p ob := fun z => q5 i (by rw [fi]; exact z)
    refine ⟨k _ _ q1 hne, q2, q3, q4, fun j => ?_⟩
    by_cases h1 : i = j
    · subst h1
      rw [gi]
      intro z
      rcases hf a z with z | z | z
      · exact hne z
      · rw [q1] at z; cases z
      · exact nd.2.2 a z a (List.mem_map.mpr ⟨(a, o'), hm, rfl⟩) rfl
    · rw [(ft j h1).2]
      exact q5 j
theorem SRel.chg (S : SRel K F ds σ H hd) {i : Nat} {ob : Ob} {p : Addr} {sv : SV} (h : ds[i]? = some (some (.own ob))) (hp : σ[i]? = some (some (V.ref p))) (x : Ext H H') (k : ∀ a o, H a = some o → a ∉ feet H p ob → H' a = some o) (hs : ∀ a ∈ feet H p ob, ∃ u, H' a = some u) (hu : SVR K H' (.ref p) sv)
    (hf : ∀ a ∈ ftSV H' p sv, a ∈ feet H p ob ∨ H a = none) : SRel K F (ds.set i (some sv)) σ H' hd :=
  SRel.chgH (hs := []) S h hp x k hs hu fun a m => (hf a m).imp id .inl
/-- the object of an owned slot changed at its head alone (sv' = own) or frozen (sv' = fz) -/
theorem SRel.sset (S : SRel K F ds σ H hd) {i : Nat} {ob : Ob} {p : Addr} {u : HO} {sv : SV} (h : ds[i]? = some (some (.own ob))) (hp : σ[i]? = some (some (V.ref p))) (hu : SVR K (upd H p u) (.ref p) sv) (hs : sv.simple = true := by rfl) : SRel K F (ds.set i (some sv)) σ (upd H p u) hd := by
  obtain ⟨q, e1, r⟩ := S.own h
  rw [hp] at e1; cases e1
  refine S.chg h hp (r.ext u) (fun a o e m => ?_) (fun a m => ?_) hu fun a m => .inl ?_
  · rw [upd_ne (fun z : a = p => m (by rw [z]; exact feet_head H p ob))]; exact e
  · by_cases z : a = p
    · subst z; exact ⟨u, upd_same⟩
    · obtain ⟨o, eo, _⟩ := r.feetAt m
      exact ⟨o, by rw [upd_ne z]; exact eo⟩
  · cases sv with
    | fz d => cases m
    | own ob' =>
      rw [show ftSV (upd H p u) p (.own ob') = [p] from feet_simple hs] at m
      rw [List.mem_singleton.mp m]
      exact feet_head H p ob
/-- a slot stored: a frozen value -/
theorem SRel.store (S : SRel K F ds σ H hd) {i : Nat} {v : V} {d : D} (hi : F.J = none ∨ i ≠ 0) (h : Fz K H v d) : SRel K F (ds.set i (some (.fz d))) (σ.set i (some v)) H hd := by
  have ft : ∀ j, i ≠ j → fts (ds.set i (some (.fz d))) (σ.set i (some v)) H j = fts ds σ H j := fun j hij => fts_congr H (List.getElem?_set_ne hij) (List.getElem?_set_ne hij)
  have fi : fts (ds.set i (some (.fz d))) (σ.set i (some v)) H i = [] := by
    unfold fts
    by_cases hl : i < ds.length
    · rw [List.getElem?_set_self hl]
      cases (σ.set i (some v))[i]? with
      | none => rfl
      | some z => cases z <;> rfl
    · rw [List.getElem?_eq_none (by simpa using hl)]
      rfl
  have of_ : ∀ {j a}, a ∈ fts (ds.set i (some (.fz d))) (σ.set i (some v)) H j → a ∈ fts ds σ H j := fun {j a} m => by
    by_cases hij : i = j
    · subst hij; rw [fi] at m; cases m
    · rw [ft j hij] at m; exact m
  refine ⟨by rw [List.length_set, List.length_set]; exact S.len, fun j sv' hj => ?_, fun a b q ha hb => S.inj a b q (of_ ha) (of_ hb), fun j q hj => S.new j q (of_ hj), S.keep, fun q e => ?_, S.live, fun a o' hm => ?_, S.hnd⟩
  · by_cases hij : i = j
    · subst hij
      by_cases hl : i < ds.length
      · rw [List.getElem?_set_self hl] at hj
        cases hj
        exact ⟨v, List.getElem?_set_self (by rw [← S.len]; exact hl), .fz h⟩
      · rw [List.getElem?_eq_none (by simpa using hl)] at hj; cases hj
    · rw [List.getElem?_set_ne hij] at hj
      obtain ⟨v', e1, r'⟩ := S.slot j sv' hj
      exact ⟨v', by rw [List.getElem?_set_ne hij]; exact e1, r'⟩
  · obtain ⟨e1, e3⟩ := S.prot q e
    have h0 : i ≠ 0 := by
      rcases hi with z | z
      · rw [e] at z; cases z
      · exact z
    exact ⟨by rw [List.getElem?_set_ne h0]; exact e1, e3⟩
  · obtain ⟨q1, q2, q3, q4, q5⟩ := S.held a o' hm
    exact ⟨q1, q2, q3, q4, fun j m => q5 j (of_ m)⟩
/-- a slot stored: a held object, with its own, becomes the slot's -/
theorem SRel.storeH {p : Addr} {hs : List (Addr × HO)} (S : SRel K F ds σ H (hs ++ hd)) {i : Nat} {ob : Ob} (hi : F.J = none ∨ i ≠ 0) (h : Ow K H p ob) (hf : ∀ a ∈ feet H p ob, a ∈ hs.map (·.1)) : SRel K F (ds.set i (some (.own ob))) (σ.set i (some (V.ref p))) H hd := by
  have hno : ∀ a ∈ feet H p ob, F.H0 a = none ∧ ¬ F.isJ a ∧ ∀ i, a ∉ fts ds σ H i := fun a m => by
    obtain ⟨⟨b, o⟩, hq, e⟩ := List.mem_map.mp (hf a m)
    cases e
    obtain ⟨h1, h2, h3, h4, h5⟩ := S.held _ _ (List.mem_append_left _ hq)
    exact ⟨h2, h3, h5⟩
  have ft : ∀ j, i ≠ j → fts (ds.set i (some (.own ob))) (σ.set i (some (V.ref p))) H j = fts ds σ H j := fun j hij => fts_congr H (List.getElem?_set_ne hij) (List.getElem?_set_ne hij)
  have of_ : ∀ {j a}, a ∈ fts (ds.set i (some (.own ob))) (σ.set i (some (V.ref p))) H j → (i = j ∧ a ∈ feet H p ob) ∨ (i ≠ j ∧ a ∈ fts ds σ H j) := fun {j a} m => by
    by_cases hij : i = j
    · subst hij
      refine .inl ⟨rfl, ?_⟩
      obtain ⟨ob', q, e1, e2, m2⟩ := mem_fts m
      by_cases hl : i < ds.length
      · rw [List.getElem?_set_self hl] at e1
        rw [List.getElem?_set_self (by rw [← S.len]; exact hl)] at e2
        cases e1; cases e2
        exact m2
      · rw [List.getElem?_eq_none (by simpa using hl)] at e1; cases e1
    · rw [ft j hij] at m; exact .inr ⟨hij, m⟩
  have nd := S.hnd
  rw [List.map_append, List.nodup_append] at nd
  refine ⟨by rw [List.length_set, List.length_set]; exact S.len, fun j sv' hj => ?_, fun a b q ha hb => ?_, fun j q hj => ?_, S.keep, fun q e => ?_, S.live, fun a o' hm => ?_, nd.2.1⟩
  · by_cases hij : i = j
    · subst hij
      by_cases hl : i < ds.length
      · rw [List.getElem?_set_self hl] at hj
        cases hj
        exact ⟨_, List.getElem?_set_self (by rw [← S.len]; exact hl), .own h⟩
      · rw [List.getElem?_eq_none (by simpa using hl)] at hj; cases hj
    · rw [List.getElem?_set_ne hij] at hj
      obtain ⟨v', e1, r'⟩ := S.slot j sv' hj
      exact ⟨v', by rw [List.getElem?_set_ne hij]; exact e1, r'⟩
  · rcases of_ ha with ⟨n1, ha⟩ | ⟨n1, ha⟩ <;> rcases of_ hb with ⟨n2, hb⟩ | ⟨n2, hb⟩
    · exact n1.symm.trans n2
    · exact absurd hb ((hno q ha).2.2 b)
    · exact absurd ha ((hno q hb).2.2 a)
    · exact S.inj a b q ha hb
  · rcases of_ hj with ⟨n1, hj⟩ | ⟨n1, hj⟩
    · exact .inl (hno q hj).1
    · exact S.new j q hj
  · obtain ⟨e1, e3⟩ := S.prot q e
    have h0 : i ≠ 0 := by
      rcases hi with z | z
      · rw [e] at z; cases z
      · exact z
    exact ⟨by rw [List.getElem?_set_ne h0]; exact e1, e3⟩
  · obtain ⟨q1, q2, q3, q4, q5⟩ := S.held a o' (List.mem_append_right _ hm)
    refine ⟨q1, q2, q3, q4, fun j m => ?_⟩
    rcases of_ m with ⟨n1, m⟩ | ⟨n1, m⟩
    · exact nd.2.2 a (hf a m) a (List.mem_map.mpr ⟨(a, o'), hm, rfl⟩) rfl
    · exact q5 j m
/-- a slot stored: a held object becomes its own -/
theorem SRel.storeO {p : Addr} {o : HO} (S : SRel K F ds σ H ((p, o) :: hd)) {i : Nat} {ob : Ob} (hi : F.J = none ∨ i ≠ 0) (h : Ow K H p ob) (hs : ob.simple = true := by rfl) : SRel K F (ds.set i (some (.own ob))) (σ.set i (some (V.ref p))) H hd :=
  SRel.storeH (hs := [(p, o)]) S hi h fun a m => by rw [feet_simple hs] at m; exact m
/-- a slot forgotten -/
theorem SRel.clear (S : SRel K F ds σ H hd) {i : Nat} (hi : F.J = none ∨ i ≠ 0) : SRel K F (ds.set i none) (σ.set i none) H hd := by
  have ft : ∀ j, i ≠ j → fts (ds.set i none) (σ.set i none) H j = fts ds σ H j := fun j hij => fts_congr H (List.getElem?_set_ne hij) (List.getElem?_set_ne hij)
  have of_ : ∀ {j a}, a ∈ fts (ds.set i none) (σ.set i none) H j → a ∈ fts ds σ H j := fun {j a} m => by
    by_cases hij : i = j
    · subst hij
      obtain ⟨ob', q, e1, e2, m2⟩ := mem_fts m
      by_cases hl : i < ds.length
      · rw [List.getElem?_set_self hl] at e1; cases e1
      · rw [List.getElem?_eq_none (by simpa using hl)] at e1; cases e1
    · rw [ft j hij] at m; exact m
  refine ⟨by rw [List.length_set, List.length_set]; exact S.len, fun j sv' hj => ?_, fun a b q ha hb => S.inj a b q (of_ ha) (of_ hb), fun j q hj => S.new j q (of_ hj), S.keep, fun q e => ?_, S.live, fun a o' hm => ?_, S.hnd⟩
  · have hij : i ≠ j := fun z => by
      subst z
      by_cases hl : i < ds.length
      · rw [List.getElem?_set_self hl] at hj; cases hj
      · rw [List.getElem?_eq_none (by simpa using hl)] at hj; cases hj
    rw [List.getElem?_set_ne hij] at hj
    obtain ⟨v', e1, r'⟩ := S.slot j sv' hj
    exact ⟨v', by rw [List.getElem?_set_ne hij]; exact e1, r'⟩
  · obtain ⟨e1, e3⟩ := S.prot q e
    have h0 : i ≠ 0 := by
      rcases hi with z | z
      · rw [e] at z; cases z
      · exact z
    exact ⟨by rw [List.getElem?_set_ne h0]; exact e1, e3⟩
  · obtain ⟨q1, q2, q3, q4, q5⟩ := S.held a o' hm
    exact ⟨q1, q2, q3, q4, fun j m => q5 j (of_ m)⟩
/-! ### a slot's object lent: held, while its slot is forgotten -/
def Fx.lend (F : Fx) (fe : List Addr) : Fx where
  H0 := fun a => if a ∈ fe then none else F.H0 a
  J := none
  js := (F.J.toList ++ F.js).filter fun a => decide (a ∉ fe)
theorem Fx.lend_isJ {F : Fx} {fe : List Addr} {a : Addr} : (F.lend fe).isJ a ↔ F.isJ a ∧ a ∉ fe := by
  unfold Fx.isJ Fx.lend
  simp [List.mem_filter, or_and_right]
theorem SRel.lend (S : SRel K F ds σ H hd) {i : Nat} {ob : Ob} {p : Addr} {hs : List (Addr × HO)} (h : ds[i]? = some (some (.own ob))) (hp : σ[i]? = some (some (V.ref p))) (hm : hs.map (·.1) = feet H p ob) (hH : ∀ a o, (a, o) ∈ hs → H a = some o) : SRel K (F.lend (feet H p ob)) (ds.set i none) σ H (hs ++ hd) := by
  have hi : i < ds.length := (List.getElem?_eq_some_iff.mp h).1
  have fi : fts ds σ H i = feet H p ob := fts_own h hp
  obtain ⟨q, e1, w⟩ := S.own h
  rw [hp] at e1; cases e1
  have ft : ∀ j, i ≠ j → fts (ds.set i none) σ H j = fts ds σ H j := fun j hij => fts_congr H (List.getElem?_set_ne hij) rfl
  have of_ : ∀ {j a}, a ∈ fts (ds.set i none) σ H j → i ≠ j ∧ a ∈ fts ds σ H j := fun {j a} m => by
    by_cases hij : i = j
    · subst hij
      obtain ⟨ob', q, e1, e2, m2⟩ := mem_fts m
      rw [List.getElem?_set_self hi] at e1; cases e1
    · rw [ft j hij] at m; exact ⟨hij, m⟩
  have hin : ∀ {a o}, (a, o) ∈ hs → a ∈ feet H p ob := fun {a o} m => by rw [← hm]; exact List.mem_map.mpr ⟨(a, o), m, rfl⟩
  refine ⟨by rw [List.length_set]; exact S.len, fun j sv' hj => ?_, fun a b q ha hb => S.inj a b q (of_ ha).2 (of_ hb).2, fun j q hj => ?_, fun a o e1 e2 => ?_, fun q e => ?_, fun a e => S.live a (Fx.lend_isJ.mp e).1, fun a o' m => ?_, ?_⟩
  · have hij : i ≠ j := fun z => by subst z; rw [List.getElem?_set_self hi] at hj; cases hj
    rw [List.getElem?_set_ne hij] at hj
    exact S.slot j sv' hj
  · obtain ⟨n1, m⟩ := of_ hj
    have hne : q ∉ feet H p ob := fun z => n1 (S.inj i j q (by rw [fi]; exact z) m)
    rcases S.new j q m with z | ⟨z1, z2⟩
    · exact .inl (by show (if q ∈ feet H p ob then none else F.H0 q) = none; rw [if_neg hne]; exact z)
    · exact .inr ⟨z1, Fx.lend_isJ.mpr ⟨z2, hne⟩⟩
  · have e1 : (if a ∈ feet H p ob then none else F.H0 a) = some o := e1
    by_cases c : a ∈ feet H p ob
    · rw [if_pos c] at e1; cases e1
    · rw [if_neg c] at e1
      exact S.keep a o e1 fun z => e2 (Fx.lend_isJ.mpr ⟨z, c⟩)
  · cases e
  · rcases List.mem_append.mp m with m | m
    · have c := hin m
      obtain ⟨o2, eo, b⟩ := w.feetAt c
      have := hH a o' m
      rw [eo] at this; cases this
      refine ⟨eo, ?_, fun z => (Fx.lend_isJ.mp z).2 c, b, fun j z => ?_⟩
      · show (if a ∈ feet H p ob then none else F.H0 a) = none
        rw [if_pos c]
      · obtain ⟨n1, m⟩ := of_ z
        exact n1 (S.inj i j a (by rw [fi]; exact c) m)
    · obtain ⟨q1, q2, q3, q4, q5⟩ := S.held a o' m
      refine ⟨q1, ?_, fun z => q3 (Fx.lend_isJ.mp z).1, q4, fun j z => q5 j (of_ z).2⟩
      show (if a ∈ feet H p ob then none else F.H0 a) = none
      rw [q2, ite_self]
  · rw [List.map_append, List.nodup_append, hm]
    refine ⟨w.feetNodup, S.hnd, fun a ha b hb e => ?_⟩
    subst e
    obtain ⟨⟨a', o⟩, hq, e⟩ := List.mem_map.mp hb
    cases e
    exact (S.held _ _ hq).2.2.2.2 i (by rw [fi]; exact ha)
/-- given back, changed or not -/
theorem SRel.back {fe : List Addr} {hs : List (Addr × HO)} (S : SRel K (F.lend fe) ds σ H (hs ++ hd)) {i : Nat} {ob : Ob} {p : Addr} (hm : hs.map (·.1) = fe) (hi : ds[i]? = some none) (hp : σ[i]? = some (some (V.ref p))) (hnew : ∀ a ∈ fe, F.H0 a = none ∨ (i = 0 ∧ F.isJ a)) (hprot : ∀ p, F.J = some p → σ[0]? = some (some (V.ref p)))
    (hhd : ∀ a o, (a, o) ∈ hd → F.H0 a = none ∧ ¬ F.isJ a) (x : Ext H H') (k : ∀ b, b ∉ fe → H' b = H b) (hl : ∀ b ∈ fe, ∃ o, H' b = some o) (w : SVR K H' (.ref p) (.own ob)) (hf : ∀ a ∈ feet H' p ob, a ∈ fe) : SRel K F (ds.set i (some (.own ob))) σ H' hd := by
  have hil : i < ds.length := (List.getElem?_eq_some_iff.mp hi).1
  have hno : ∀ a ∈ fe, ∃ o, H a = some o ∧ ∀ i, a ∉ fts ds σ H i := fun a m => by
    rw [← hm] at m
    obtain ⟨⟨b, o⟩, hq, e⟩ := List.mem_map.mp m
    cases e
    obtain ⟨h1, h2, h3, h4, h5⟩ := S.held _ _ (List.mem_append_left _ hq)
    exact ⟨o, h1, h5⟩
  have ft0 : ∀ j, (∀ a ∈ fts ds σ H j, H' a = H a) ∧ fts ds σ H' j = fts ds σ H j := fun j => by
    have k2 : ∀ a ∈ fts ds σ H j, H' a = H a := fun a m => k a fun m2 => by
      obtain ⟨o, _, h5⟩ := hno a m2
      exact h5 j m
    exact ⟨k2, S.ftsEq j k2⟩
  have gi : fts (ds.set i (some (.own ob))) σ H' i = feet H' p ob := fts_own (List.getElem?_set_self hil) hp
  have ft : ∀ j, i ≠ j → fts (ds.set i (some (.own ob))) σ H' j = fts ds σ H j := fun j hij => by rw [fts_congr H' (List.getElem?_set_ne hij) rfl, (ft0 j).2]
  have nd := S.hnd
  rw [List.map_append, List.nodup_append, hm] at nd
  have newF : ∀ j a, i ≠ j → a ∈ fts ds σ H j → F.H0 a = none ∨ (j = 0 ∧ F.isJ a) := fun j a hij m => by
    have c : a ∉ fe := fun z => by
      obtain ⟨o, _, h5⟩ := hno a z
      exact h5 j m
    rcases S.new j a m with z | ⟨z1, z2⟩
    · have z : (if a ∈ fe then none else F.H0 a) = none := z
      rw [if_neg c] at z
      exact .inl z
    · exact .inr ⟨z1, (Fx.lend_isJ.mp z2).1⟩
  refine ⟨by rw [List.length_set]; exact S.len, fun j sv' hj => ?_, fun a b q ha hb => ?_, fun j q hj => ?_, fun a o' e1 e2 => ?_, fun q e => ?_, fun a e => ?_, fun a o' hm' => ?_, nd.2.1⟩
  · by_cases hij : i = j
    · subst hij
      rw [List.getElem?_set_self hil] at hj
      cases hj
      exact ⟨_, hp, w⟩
    · rw [List.getElem?_set_ne hij] at hj
      obtain ⟨v, e1, r'⟩ := S.slot j sv' hj
      refine ⟨v, e1, ?_⟩
      cases r' with
      | fz r' => exact .fz (r'.ext x)
      | own r' => exact .own (r'.keep x fun a m => (ft0 j).1 a (by rw [fts_own hj e1]; exact m))
  · by_cases h1 : i = a <;> by_cases h2 : i = b
    · exact h1.symm.trans h2
    · subst h1
      rw [gi] at ha
      rw [ft b h2] at hb
      obtain ⟨o, _, h5⟩ := hno q (hf q ha)
      exact absurd hb (h5 b)
    · subst h2
      rw [gi] at hb
      rw [ft a h1] at ha
      obtain ⟨o, _, h5⟩ := hno q (hf q hb)
      exact absurd ha (h5 a)
    · rw [ft a h1] at ha
      rw [ft b h2] at hb
      exact S.inj a b q ha hb
  · by_cases h1 : i = j
    · subst h1
      rw [gi] at hj
      exact hnew q (hf q hj)
    · rw [ft j h1] at hj
      exact newF j q h1 hj
  · have c : a ∉ fe := fun z => by
      rcases hnew a z with z | ⟨_, z⟩
      · rw [e1] at z; cases z
      · exact e2 z
    rw [k a c]
    refine S.keep a o' ?_ fun z => e2 (Fx.lend_isJ.mp z).1
    show (if a ∈ fe then none else F.H0 a) = some o'
    rw [if_neg c]
    exact e1
  · refine ⟨hprot q e, ?_⟩
    by_cases c : q ∈ fe
    · exact hl q c
    · obtain ⟨o, eo⟩ := S.live q (Fx.lend_isJ.mpr ⟨.inl e, c⟩)
      exact ⟨o, by rw [k q c]; exact eo⟩
  · by_cases c : a ∈ fe
    · exact hl a c
    · obtain ⟨o, eo⟩ := S.live a (Fx.lend_isJ.mpr ⟨e, c⟩)
      exact ⟨o, by rw [k a c]; exact eo⟩
  · obtain ⟨q1, q2, q3, q4, q5⟩ := S.held a o' (List.mem_append_right _ hm')
    have c : a ∉ fe := fun z => nd.2.2 a z a (List.mem_map.mpr ⟨(a, o'), hm', rfl⟩) rfl
    refine ⟨by rw [k a c]; exact q1, (hhd a o' hm').1, (hhd a o' hm').2, q4, fun j m => ?_⟩
    by_cases h1 : i = j
    · subst h1
      rw [gi] at m
      exact c (hf a m)
    · rw [ft j h1] at m
      exact q5 j m
/-- the slots of a comprehension's own forgotten -/
def wipeD (ds : DS) : List Nat → DS
  | [] => ds
  | v :: vs => (wipeD ds vs).set v none
theorem SRel.wipe (S : SRel K F ds σ H hd) : ∀ {vs : List Nat}, (F.J = none ∨ 0 ∉ vs) → SRel K F (wipeD ds vs) (L2.wipe σ vs) H hd
  | [], _ => S
  | v :: vs, h => (S.wipe (vs := vs) (h.imp id fun z m => z (List.mem_cons_of_mem _ m))).clear (h.imp id fun z e => z (e ▸ List.mem_cons_self))
end
/-- an expression's result: frozen | a new object of its own | the object of a slot -/
inductive R where
  | fz (d : D) | own (o : Ob) | slot (i : Nat)
end DL
/-! DL3: results, freezing as a ghost step, the judgements, names, constants, operators, tests. -/
namespace DL
open PySem PySem.Spec PyProof.Rows L2

/-! ### results -/
inductive RRel (K : Kx) (σ : Sg) (H : Hp) : V → R → Prop
  | fz {v : V} {d : D} : Fz K H v d → RRel K σ H v (.fz d)
  | own {p : Addr} {ob : Ob} : Ow K H p ob → RRel K σ H (.ref p) (.own ob)
  | slot {i : Nat} {v : V} : σ[i]? = some (some v) → RRel K σ H v (.slot i)
/-- what is held for a result -/
def hpO (H : Hp) : List Addr → List (Addr × HO)
  | [] => []
  | p :: r => (match H p with
    | some o => [(p, o)]
    | none => []) ++ hpO H r
def hp (H : Hp) : V → R → List (Addr × HO)
  | .ref p, .own ob => hpO H (feet H p ob)
  | _, _ => []
theorem hp_fz (H : Hp) (v : V) (d : D) : hp H v (.fz d) = [] := by cases v <;> rfl
theorem hp_slot (H : Hp) (v : V) (i : Nat) : hp H v (.slot i) = [] := by cases v <;> rfl
theorem hp_own {H : Hp} {p : Addr} {o : HO} (ob : Ob) (h : H p = some o) (hs : ob.simple = true := by rfl) : hp H (.ref p) (.own ob) = [(p, o)] := by
  show hpO H (feet H p ob) = _
  rw [feet_simple hs]
  show (match H p with | some o => [(p, o)] | none => []) ++ [] = _
  rw [h]
  rfl
theorem hpO_mem {H : Hp} {a : Addr} {o : HO} : ∀ {l : List Addr}, (a, o) ∈ hpO H l → a ∈ l ∧ H a = some o
  | [], m => by cases m
  | p :: r, m => by
    rcases List.mem_append.mp m with m | m
    · cases e : H p with
      | none => rw [e] at m; cases m
      | some u =>
        rw [e] at m
        cases List.mem_singleton.mp m
        exact ⟨List.mem_cons_self, e⟩
    · obtain ⟨h1, h2⟩ := hpO_mem m
      exact ⟨List.mem_cons_of_mem _ h1, h2⟩
theorem hpO_all {H : Hp} {a : Addr} {o : HO} (e : H a = some o) : ∀ {l : List Addr}, a ∈ l → (a, o) ∈ hpO H l
  | p :: r, m => by
    rcases List.mem_cons.mp m with rfl | m
    · refine List.mem_append_left _ ?_
      rw [e]
      exact List.mem_cons_self
    · exact List.mem_append_right _ (hpO_all e m)
theorem hpO_map {H : Hp} : ∀ {l : List Addr}, (∀ a ∈ l, ∃ o, H a = some o) → (hpO H l).map (·.1) = l
  | [], _ => rfl
  | p :: r, h => by
    obtain ⟨o, e⟩ := h p List.mem_cons_self
    have ih := hpO_map (H := H) (l := r) fun a m => h a (List.mem_cons_of_mem _ m)
    show ((match H p with | some o => [(p, o)] | none => []) ++ hpO H r).map (·.1) = _
    rw [e, List.map_append, ih]
    rfl
theorem hpO_congr {H H' : Hp} : ∀ {l : List Addr}, (∀ a ∈ l, H' a = H a) → hpO H' l = hpO H l
  | [], _ => rfl
  | p :: r, h => by
    show (match H' p with | some o => [(p, o)] | none => []) ++ hpO H' r = (match H p with | some o => [(p, o)] | none => []) ++ hpO H r
    rw [h p List.mem_cons_self, hpO_congr fun a m => h a (List.mem_cons_of_mem _ m)]
inductive RsRel (K : Kx) (σ : Sg) (H : Hp) : List V → List R → Prop
  | nil : RsRel K σ H [] []
  | cons {v : V} {r : R} {vs : List V} {rs : List R} : RRel K σ H v r → RsRel K σ H vs rs → RsRel K σ H (v :: vs) (r :: rs)
def hps (H : Hp) : List V → List R → List (Addr × HO)
  | v :: vs, r :: rs => hps H vs rs ++ hp H v r
  | _, _ => []
section
variable {K : Kx} {F : Fx} {ds ds' : DS} {σ σ' : Sg} {H H' : Hp} {hd hd' : List (Addr × HO)}
theorem RRel.keep {v : V} {r : R} (h : RRel K σ H v r) (e : Ext H H') (k : ∀ a o, (a, o) ∈ hp H v r → H' a = some o) : RRel K σ H' v r ∧ hp H' v r = hp H v r := by
  cases h with
  | fz h => exact ⟨.fz (h.ext e), by rw [hp_fz, hp_fz]⟩
  | slot h => exact ⟨.slot h, by rw [hp_slot, hp_slot]⟩
  | @own p ob h =>
    have k2 : ∀ a ∈ feet H p ob, H' a = H a := fun a m => by
      obtain ⟨o, eo, _⟩ := h.feetAt m
      rw [k a o (hpO_all eo m), eo]
    refine ⟨.own (h.keep e k2), ?_⟩
    show hpO H' (feet H' p ob) = hpO H (feet H p ob)
    rw [feet_congr ob (k2 p (feet_head H p ob)), hpO_congr k2]
theorem RsRel.keep (e : Ext H H') : ∀ {vs : List V} {rs : List R}, RsRel K σ H vs rs → (∀ a o, (a, o) ∈ hps H vs rs → H' a = some o) → RsRel K σ H' vs rs ∧ hps H' vs rs = hps H vs rs
  | _, _, .nil, _ => ⟨.nil, rfl⟩
  | _, _, .cons h r, k => by
    obtain ⟨h1, e1⟩ := h.keep e fun a o m => k a o (List.mem_append_right _ m)
    obtain ⟨h2, e2⟩ := RsRel.keep e r fun a o m => k a o (List.mem_append_left _ m)
    exact ⟨.cons h1 h2, by show hps H' _ _ ++ hp H' _ _ = hps H _ _ ++ hp H _ _; rw [e1, e2]⟩
theorem RsRel.len : ∀ {vs : List V} {rs : List R}, RsRel K σ H vs rs → vs.length = rs.length
  | _, _, .nil => rfl
  | _, _, .cons _ r => by rw [List.length_cons, List.length_cons, r.len]
end
/-- readable as d now -/
def Rp (K : Kx) (H : Hp) (v : V) (d : D) : Prop := Fz K H v d ∨ ∃ p ob, v = .ref p ∧ Ow K H p ob ∧ d = ob.d
/-- the value of a result, with the slots as they are -/
def R.val (ds : DS) : R → Option D
  | .fz d => some d
  | .own o => some o.d
  | .slot i => match ds[i]? with
    | some (some sv) => some sv.d
    | _ => none
section
variable {K : Kx} {F : Fx} {ds ds' : DS} {σ σ' : Sg} {H H' : Hp} {hd hd' : List (Addr × HO)}
theorem SVR.rp {v : V} {sv : SV} (h : SVR K H v sv) : Rp K H v sv.d := by
  cases h with
  | fz h => exact .inl h
  | own h => exact .inr ⟨_, _, rfl, h, rfl⟩
theorem RRel.rp {v : V} {r : R} {d : D} (h : RRel K σ H v r) (S : SRel K F ds σ H hd) (e : r.val ds = some d) : Rp K H v d := by
  cases h with
  | fz h => cases e; exact .inl h
  | own h => cases e; exact .inr ⟨_, _, rfl, h, rfl⟩
  | @slot i v h =>
    unfold R.val at e
    simp only at e
    split at e
    · rename_i sv q
      cases e
      obtain ⟨v', e1, r⟩ := S.slot i sv q
      rw [h] at e1; cases e1
      exact r.rp
    · cases e

/-! ### freezing -/
def frR : R → DS → Option (D × DS)
  | .fz d, ds => some (d, ds)
  | .own o, ds => some (o.d, ds)
  | .slot i, ds => match ds[i]? with
    | some (some (.own o)) => some (o.d, ds.set i (some (.fz o.d)))
    | some (some (.fz d)) => some (d, ds)
    | _ => none
def frRs : List R → DS → Option (List D × DS)
  | [], ds => some ([], ds)
  | r :: rs, ds => Option.bind (frRs rs ds) fun p => Option.bind (frR r p.2) fun q => some (q.1 :: p.1, q.2)
theorem Inv.frs {X : Cx} {pins : List (Addr × Obj)} {s : Shared} {Q : Hp → Prop} {ps : Unit} {H : Hp} (I : L2.Inv X pins σ H s) (q : frzThen ps Q H) : ∃ H', L2.Inv X pins σ H' s ∧ Q H' := by
  have q2 : FrzI Q H := q
  clear q
  revert I
  induction q2 with
  | done q => exact fun I => ⟨_, I, q⟩
  | step e m _ ih =>
    intro I
    obtain ⟨od, I1⟩ := I.lock e m
    exact ih od I1
/-- a held object, with its own, frozen -/
theorem frOwn {p : Addr} {ob : Ob} (h : Ow K H p ob) (S : SRel K F ds σ H (hp H (.ref p) (.own ob) ++ hd)) : FrzI (fun H' => Ext H H' ∧ Fz K H' (.ref p) ob.d ∧ SRel K F ds σ H' hd) H := by
  refine h.frzs.frzI.mono fun H' ⟨x, w, k, _⟩ => ⟨x, w, ?_⟩
  have S : SRel K F ds σ H (hpO H (feet H p ob) ++ hd) := S
  have hm := hpO_map (H := H) (l := feet H p ob) fun a m => by
    obtain ⟨o, e, _⟩ := h.feetAt m
    exact ⟨o, e⟩
  exact S.hchg x (fun b hb => k b (by rw [← hm]; exact hb))
theorem frSlot {i : Nat} {o : Ob} {v : V} (S : SRel K F ds σ H hd) (q : ds[i]? = some (some (.own o))) (h : σ[i]? = some (some v)) : FrzI (fun H' => Ext H H' ∧ Fz K H' v o.d ∧ SRel K F (ds.set i (some (.fz o.d))) σ H' hd) H := by
  obtain ⟨p, e1, w⟩ := S.own q
  rw [h] at e1; cases e1
  refine w.frzs.frzI.mono fun H' ⟨x, w', k, k2⟩ => ⟨x, w', ?_⟩
  exact S.chg q h x (fun a u e m => by rw [k a m]; exact e) k2 (.fz w') fun a m => by cases m
/-- a slot stored: a new object, with its own, becomes the slot's -/
theorem SRel.storeR {p : Addr} {i : Nat} {ob : Ob} (S : SRel K F ds σ H (hp H (.ref p) (.own ob) ++ hd)) (hi : F.J = none ∨ i ≠ 0) (h : Ow K H p ob) : SRel K F (ds.set i (some (.own ob))) (σ.set i (some (V.ref p))) H hd := by
  have S : SRel K F ds σ H (hpO H (feet H p ob) ++ hd) := S
  have hm := hpO_map (H := H) (l := feet H p ob) fun a m => by
    obtain ⟨o, e, _⟩ := h.feetAt m
    exact ⟨o, e⟩
  exact S.storeH hi h fun a m => by rw [hm]; exact m
theorem fr1 {v : V} {r : R} {d : D} (h : RRel K σ H v r) (S : SRel K F ds σ H (hp H v r ++ hd)) (e : frR r ds = some (d, ds')) :
    ∃ ps, frzThen ps (fun H' => Ext H H' ∧ Fz K H' v d ∧ SRel K F ds' σ H' hd) H := by
  refine ⟨(), ?_⟩
  show FrzI _ H
  cases h with
  | fz h =>
    cases e
    rw [hp_fz] at S
    exact .done ⟨Ext.refl H, h, S⟩
  | own h =>
    cases e
    exact frOwn h S
  | @slot i v h =>
    rw [hp_slot] at S
    have S : SRel K F ds σ H hd := S
    unfold frR at e
    simp only at e
    split at e
    · rename_i o q
      cases e
      exact frSlot S q h
    · rename_i d' q
      cases e
      obtain ⟨v', e1, w⟩ := S.fz q
      rw [h] at e1; cases e1
      exact .done ⟨Ext.refl H, w, S⟩
    · cases e
theorem frs : ∀ {vs : List V} {rs : List R} {H : Hp} {hd : List (Addr × HO)} {ds ds' : DS} {dd : List D}, RsRel K σ H vs rs → SRel K F ds σ H (hps H vs rs ++ hd) → frRs rs ds = some (dd, ds') →
    ∃ ps, frzThen ps (fun H' => Ext H H' ∧ FzL K H' vs dd ∧ SRel K F ds' σ H' hd) H
  | _, _, H, hd, ds, ds', dd, .nil, S, e => by cases e; exact ⟨(), .done ⟨Ext.refl H, .nil, S⟩⟩
  | v :: vs, r :: rs, H, hd, ds, ds', dd, .cons h q, S, e => by
    unfold frRs at e
    obtain ⟨p, e1, e⟩ := Option.bind_eq_some_iff.mp e
    obtain ⟨q', e2, e⟩ := Option.bind_eq_some_iff.mp e
    cases e
    have S' : SRel K F ds σ H (hps H vs rs ++ (hp H v r ++ hd)) := by rw [← List.append_assoc]; exact S
    obtain ⟨ps, k1⟩ := frs q S' e1
    refine ⟨(), FrzI.bind (fun H1 z => ?_) k1⟩
    obtain ⟨x1, f1, S1⟩ := z
    obtain ⟨h1, eh⟩ := h.keep x1 fun a o m => (S1.held a o (List.mem_append_left _ m)).1
    obtain ⟨ps', k2⟩ := fr1 h1 (by rw [eh]; exact S1) e2
    exact FrzI.mono (fun H' ⟨x2, f2, S2⟩ => ⟨x1.trans x2, .cons f2 (f1.ext x2), S2⟩) k2
end

/-! ### the judgements -/
abbrev DX := DS → Option (R × DS)
abbrev DAs := DS → Option (List R × DS)
abbrev DB := DS → Option (Bool × DS)
inductive Fl where
  | nx | ret (r : R) | brk | cont
abbrev DSm := DS → Option (Fl × DS)
def tD (K : Kx) (F : Fx) (ds : DS) (r : R) (ds' : DS) : TE := fun σ H Q => ∃ hd, SRel K F ds σ H hd ∧ ∀ v H', Ext H H' → RRel K σ H' v r → SRel K F ds' σ H' (hp H' v r ++ hd) → Q v H'
def tDA (K : Kx) (F : Fx) (ds : DS) (rs : List R) (ds' : DS) : TA := fun σ H Q => ∃ hd, SRel K F ds σ H hd ∧ ∀ vs H', Ext H H' → RsRel K σ H' vs rs → SRel K F ds' σ H' (hps H' vs rs ++ hd) → Q vs H'
def tDT (K : Kx) (F : Fx) (ds : DS) (b : Bool) (ds' : DS) : TT := fun σ H Q => ∃ hd, SRel K F ds σ H hd ∧ ∀ H', Ext H H' → SRel K F ds' σ H' hd → Q b H'
/-- statements run with nothing held, or with hd held (in a comprehension there are none) -/
def tDS (K : Kx) (F : Fx) (ds : DS) (fl : Fl) (ds' : DS) : TS := fun D σ H => SRel K F ds σ H [] ∧
  match fl with
  | .nx => ∀ σ' H', Ext H H' → SRel K F ds' σ' H' [] → D.nx σ' H'
  | .brk => ∀ σ' H', Ext H H' → SRel K F ds' σ' H' [] → D.bk σ' H'
  | .cont => ∀ σ' H', Ext H H' → SRel K F ds' σ' H' [] → D.ct σ' H'
  | .ret r => ∀ v σ' H', Ext H H' → RRel K σ' H' v r → SRel K F ds' σ' H' (hp H' v r) → D.rt v H'
/-- io: slot 0 is changed for the caller -/
def IoOk (F : Fx) (io : Bool) : Prop := F.J = none ∨ io = true
structure DE (X : Cx) (io : Bool) (e : Expr) (f : DX) : Prop where
  run : ∀ (F : Fx) (ds : DS) (r : R) (ds' : DS), IoOk F io → f ds = some (r, ds') → PE X e (tD X.kx F ds r ds')
structure DA (X : Cx) (io : Bool) (es : List Expr) (f : DAs) : Prop where
  run : ∀ (F : Fx) (ds : DS) (rs : List R) (ds' : DS), IoOk F io → f ds = some (rs, ds') → PA X es (tDA X.kx F ds rs ds')
structure DT (X : Cx) (io : Bool) (e : Expr) (f : DB) : Prop where
  run : ∀ (F : Fx) (ds : DS) (b : Bool) (ds' : DS), IoOk F io → f ds = some (b, ds') → PT X e (tDT X.kx F ds b ds')
structure DW (X : Cx) (io : Bool) (e : Expr) (f : DB) : Prop where
  run : ∀ (F : Fx) (ds : DS) (b : Bool) (ds' : DS), IoOk F io → f ds = some (b, ds') → PW X e (tDT X.kx F ds b ds')
structure DStm (X : Cx) (io : Bool) (st : Stmt) (f : DSm) : Prop where
  run : ∀ (F : Fx) (ds : DS) (fl : Fl) (ds' : DS), IoOk F io → f ds = some (fl, ds') → PS X st (tDS X.kx F ds fl ds')
structure DSs (X : Cx) (io : Bool) (st : List Stmt) (f : DSm) : Prop where
  run : ∀ (F : Fx) (ds : DS) (fl : Fl) (ds' : DS), IoOk F io → f ds = some (fl, ds') → PSs X st (tDS X.kx F ds fl ds')

section
variable {X : Cx} {io : Bool}
theorem PE.weak {e : Expr} {t t' : TE} (h : PE X e t) (w : ∀ σ H Q, t' σ H Q → t σ H Q) : PE X e t' := ⟨fun pins s σ H Q I q => h.run pins s σ H Q I (w σ H Q q)⟩
theorem PA.weak {e : List Expr} {t t' : TA} (h : PA X e t) (w : ∀ σ H Q, t' σ H Q → t σ H Q) : PA X e t' := ⟨fun pos pins s σ H Q I q => h.run pos pins s σ H Q I (w σ H Q q)⟩
theorem PT.weak {e : Expr} {t t' : TT} (h : PT X e t) (w : ∀ σ H Q, t' σ H Q → t σ H Q) : PT X e t' := ⟨fun pins s σ H Q I q => h.run pins s σ H Q I (w σ H Q q)⟩
theorem PW.weak {e : Expr} {t t' : TT} (h : PW X e t) (w : ∀ σ H Q, t' σ H Q → t σ H Q) : PW X e t' := ⟨fun wh pins s σ H Q I q => h.run wh pins s σ H Q I (w σ H Q q)⟩
theorem PS.weak {e : Stmt} {t t' : TS} (h : PS X e t) (w : ∀ D σ H, t' D σ H → t D σ H) : PS X e t' := ⟨fun pins s σ H D I q => h.run pins s σ H D I (w D σ H q)⟩
theorem PSs.weak {e : List Stmt} {t t' : TS} (h : PSs X e t) (w : ∀ D σ H, t' D σ H → t D σ H) : PSs X e t' := ⟨fun pins s σ H D I q => h.run pins s σ H D I (w D σ H q)⟩
/-- freezing behind an expression, an argument list -/
def tFrz (t : TE) : TE := fun σ H Q => t σ H fun v H1 => ∃ ps, frzThen ps (Q v) H1
theorem pe_frz {e : Expr} {t : TE} (h : PE X e t) : PE X e (tFrz t) := ⟨fun pins s σ H Q I q => thn (h.run pins s σ H _ I q) fun v s1 ⟨x, H1, I1, r1, ps, q1⟩ => by
  obtain ⟨H2, I2, q2⟩ := Inv.frs I1 q1
  exact ⟨x, H2, I2, r1, q2⟩⟩
def tFrzA (t : TA) : TA := fun σ H Q => t σ H fun vs H1 => ∃ ps, frzThen ps (Q vs) H1
theorem pa_frz {e : List Expr} {t : TA} (h : PA X e t) : PA X e (tFrzA t) := ⟨fun pos pins s σ H Q I q => thn (h.run pos pins s σ H _ I q) fun vs s1 ⟨x, H1, I1, r1, ps, q1⟩ => by
  obtain ⟨H2, I2, q2⟩ := Inv.frs I1 q1
  exact ⟨x, H2, I2, r1, q2⟩⟩

/-! ### names and constants -/
def eVar (i : Nat) : DX := fun ds => match ds[i]? with
  | some (some (.fz d)) => some (.fz d, ds)
  | some (some (.own _)) => some (.slot i, ds)
  | _ => none
theorem d_var (i : Nat) {x : Str} {pos : Pos} (hN : X.N[i]? = some x := by rfl) (hv : Vis X.env.scope x := by first | exact Or.inl rfl | exact Or.inr (Or.inl rfl) | exact Or.inr (Or.inr rfl)) (hd : (x == ("__debug__" : Str)) = false := by decide)
    (hcd : (x == ("__classdict__" : Str)) = false := by decide) : DE X io (.Name x pos) (eVar i) := by
  refine ⟨fun F ds r ds' _ e => PE.weak (pe_var hN hv hd hcd) fun σ H Q ⟨hdl, S, k⟩ => ?_⟩
  unfold eVar at e
  split at e
  · rename_i d q
    cases e
    obtain ⟨v, e1, w⟩ := S.fz q
    exact ⟨v, e1, k v H (Ext.refl H) (.fz w) (by rw [hp_fz]; exact S)⟩
  · rename_i o q
    cases e
    obtain ⟨p, e1, w⟩ := S.own q
    exact ⟨_, e1, k _ H (Ext.refl H) (.slot e1) (by rw [hp_slot]; exact S)⟩
  · cases e
def eC (d : D) : DX := fun ds => some (.fz d, ds)
theorem d_const {e : Expr} {v : V} {d : D} (h : PE X e (tC v)) (hf : ∀ H, Fz X.kx H v d) : DE X io e (eC d) := by
  refine ⟨fun F ds r ds' _ e => PE.weak h fun σ H Q ⟨hdl, S, k⟩ => ?_⟩
  cases e
  exact k v H (Ext.refl H) (.fz (hf H)) (by rw [hp_fz]; exact S)
theorem d_int {i j pos} : DE X io (.Constant (.int i) j pos) (eC (.int i)) := d_const pe_int fun _ => .int i
theorem d_bl {b j pos} : DE X io (.Constant (.bool b) j pos) (eC (.bl b)) := d_const pe_bl fun _ => .bl b
theorem d_non {j pos} : DE X io (.Constant .none j pos) (eC .non) := d_const pe_non fun _ => .non
theorem d_str {x j pos} : DE X io (.Constant (.str x) j pos) (eC (.str x)) := d_const pe_str fun _ => .str x
theorem d_glob {x : Str} {v : V} {u : Value} {d : D} {pos : Pos} (hg : Gl X x) (hm : X.mg x = some u) (r : RelV v u) (hf : ∀ H, Fz X.kx H v d) (hd : (x == ("__debug__" : Str)) = false := by decide) : DE X io (.Name x pos) (eC d) := d_const (pe_glob hg hm r hd) hf
/-- whatever is never come to -/
def eNo : DX := fun _ => none
theorem d_no {e : Expr} : DE X io e eNo := ⟨fun F ds r ds' _ e => by cases e⟩
def sNo : DSm := fun _ => none
theorem ds_no {st : Stmt} : DStm X io st sNo := ⟨fun F ds r ds' _ e => by cases e⟩
theorem dss_no {st : List Stmt} : DSs X io st sNo := ⟨fun F ds r ds' _ e => by cases e⟩

/-! ### argument lists -/
def aNil : DAs := fun ds => some ([], ds)
def aCons (f : DX) (g : DAs) : DAs := fun ds => Option.bind (f ds) fun p => Option.bind (g p.2) fun q => some (p.1 :: q.1, q.2)
theorem da_nil : DA X io [] aNil := ⟨fun F ds rs ds' _ e => PA.weak pa_nil fun σ H Q ⟨hd, S, k⟩ => by cases e; exact k [] H (Ext.refl H) .nil S⟩
theorem da_cons {e : Expr} {es : List Expr} {f : DX} {g : DAs} (ha : DE X io e f) (hr : DA X io es g) (hs : starEach (e :: es) X.env = (false, eval e X.env) :: starEach es X.env := by rfl) : DA X io (e :: es) (aCons f g) := by
  refine ⟨fun F ds rs ds' j e => ?_⟩
  unfold aCons at e
  obtain ⟨p, e1, e⟩ := Option.bind_eq_some_iff.mp e
  obtain ⟨q, e2, e⟩ := Option.bind_eq_some_iff.mp e
  cases e
  refine PA.weak (pa_cons (ha.run F _ _ _ j e1) (hr.run F _ _ _ j e2) hs) fun σ H Q ⟨hd, S, k⟩ => ?_
  refine ⟨hd, S, fun v H1 x1 r1 S1 => ⟨hp H1 v p.1 ++ hd, S1, fun vs H2 x2 r2 S2 => ?_⟩⟩
  obtain ⟨r1', eh⟩ := r1.keep x2 fun a o m => (S2.held a o (List.mem_append_right _ (List.mem_append_left _ m))).1
  exact k (v :: vs) H2 (x1.trans x2) (.cons r1' r2) (by show SRel X.kx F q.2 σ H2 ((hps H2 vs q.1 ++ hp H2 v p.1) ++ hd); rw [eh, List.append_assoc]; exact S2)

/-! ### operators by values -/
/-- a result that an operation makes -/
def ResD (K : Kx) (H : Hp) (Q : VK) : R → Prop
  | .fz d => ∀ v H', Same H H' → Fz K H' v d → Q v H'
  | .own (.insO _ _) => True
  | .own ob => ∀ p o H', Same H H' → H p = none → H' p = some o → Ow K H' p ob → Q (.ref p) H'
  | .slot _ => False
/-- what is to be shown of it where an expression ends -/
theorem resD {K : Kx} {F : Fx} {ds : DS} {σ : Sg} {H0 H : Hp} {hd : List (Addr × HO)} {Q : VK} {r : R} (hns : ∀ i, r ≠ .slot i) (x : Ext H0 H) (S : SRel K F ds σ H hd)
    (k : ∀ v H', Ext H0 H' → RRel K σ H' v r → SRel K F ds σ H' (hp H' v r ++ hd) → Q v H') : ResD K H Q r := by
  cases r with
  | fz d => exact fun v H' sm f => k v H' (x.trans (.of_same sm)) (.fz f) (by rw [hp_fz]; exact S.grow sm)
  | own ob =>
    by_cases hs : ob.simple = true
    · have key : ∀ p o H', Same H H' → H p = none → H' p = some o → Ow K H' p ob → Q (.ref p) H' := by
        intro p o H' sm hn ho w
        have S1 := S.grow sm
        obtain ⟨h0, hj⟩ := S.fresh hn
        refine k _ H' (x.trans (.of_same sm)) (.own w) ?_
        obtain ⟨o', e1, b⟩ := w.at_
        rw [hp_own _ ho hs]
        rw [ho] at e1; cases e1
        have ft : ∀ i, p ∉ fts ds σ H' i := fun i m => by
          obtain ⟨ob', q, e1, e2, m2⟩ := mem_fts m
          have hk := S.ftsEq (H' := H') i fun a ma => by
            obtain ⟨u, eu, _⟩ := S.ftLive ma
            rw [sm a u eu, eu]
          rw [hk] at m
          exact S.noSlot hn i m
        exact { S1 with
          held := fun a u hm => by
            rcases List.mem_cons.mp hm with e | hm
            · cases e; exact ⟨ho, h0, hj, b, ft⟩
            · exact S1.held a u hm
          hnd := List.nodup_cons.mpr ⟨S.noHeld hn, S.hnd⟩ }
      cases ob <;> first | exact key | trivial
    · cases ob <;> first | trivial | exact absurd rfl hs
  | slot i => exact absurd rfl (hns i)
structure OpD (X : Cx) (f : Value → Value → Sem Value) (g : D → D → Option R) : Prop where
  run : ∀ dx dy r, g dx dy = some r → (∀ i, r ≠ .slot i) ∧ ∃ rl : R2, OpR X f rl ∧ ∀ x y H Q, Rp X.kx H x dx → Rp X.kx H y dy → ResD X.kx H Q r → rl x y H Q
def eBin (g : D → D → Option R) (fa fb : DX) : DX := fun ds => Option.bind (fa ds) fun p => Option.bind (fb p.2) fun q => Option.bind (p.1.val q.2) fun dx => Option.bind (q.1.val q.2) fun dy => Option.bind (g dx dy) fun r => some (r, q.2)
/-- the operands ready -/
theorem two {K : Kx} {F : Fx} {ds ds1 ds2 : DS} {ra rb : R} {dx dy : D} {σ : Sg} {H : Hp} {hd : List (Addr × HO)} {R' : V → V → Hp → Prop} (S : SRel K F ds σ H hd) (ea : ra.val ds2 = some dx) (eb : rb.val ds2 = some dy)
    (k : ∀ x y H2, Ext H H2 → Rp K H2 x dx → Rp K H2 y dy → SRel K F ds2 σ H2 hd → R' x y H2) :
    tD K F ds ra ds1 σ H fun x H1 => tD K F ds1 rb ds2 σ H1 fun y H2 => R' x y H2 := by
  refine ⟨hd, S, fun v H1 x1 r1 S1 => ⟨hp H1 v ra ++ hd, S1, fun u H2 x2 r2 S2 => ?_⟩⟩
  obtain ⟨r1', eh⟩ := r1.keep x2 fun a o m => (S2.held a o (List.mem_append_right _ (List.mem_append_left _ m))).1
  exact k v u H2 (x1.trans x2) (r1'.rp S2 ea) (r2.rp S2 eb) (S2.drop ((List.sublist_append_right _ _).trans (List.sublist_append_right _ _)))
theorem d_bin {op : Operator} {g : D → D → Option R} {a b : Expr} {fa fb : DX} {pos : Pos} (ho : OpD X (binaryOp op) g) (ha : DE X io a fa) (hb : DE X io b fb) : DE X io (.BinOp a op b pos) (eBin g fa fb) := by
  refine ⟨fun F ds r ds' j e => ?_⟩
  unfold eBin at e
  obtain ⟨p, e1, e⟩ := Option.bind_eq_some_iff.mp e
  obtain ⟨q, e2, e⟩ := Option.bind_eq_some_iff.mp e
  obtain ⟨dx, e3, e⟩ := Option.bind_eq_some_iff.mp e
  obtain ⟨dy, e4, e⟩ := Option.bind_eq_some_iff.mp e
  obtain ⟨r', e5, e⟩ := Option.bind_eq_some_iff.mp e
  cases e
  obtain ⟨ns, rl, hop, hrl⟩ := ho.run dx dy r e5
  refine PE.weak (pe_op hop (ha.run F _ _ _ j e1) (hb.run F _ _ _ j e2)) fun σ H Q ⟨hd, S, k⟩ => ?_
  exact two S e3 e4 fun x y H2 x2 rx ry S2 => hrl x y H2 Q rx ry (resD ns x2 S2 k)
/-- op: a comparison -/
theorem d_cmp {op : CmpOp} {g : D → D → Option R} {a b : Expr} {fa fb : DX} {pos : Pos} (ho : OpD X (compareOp op) g) (ha : DE X io a fa) (hb : DE X io b fb) (hm : behindInMarks op b = false := by first | exact nomark _ | rfl) : DE X io (.Compare a [op] [b] pos) (eBin g fa fb) := by
  refine ⟨fun F ds r ds' j e => ?_⟩
  unfold eBin at e
  obtain ⟨p, e1, e⟩ := Option.bind_eq_some_iff.mp e
  obtain ⟨q, e2, e⟩ := Option.bind_eq_some_iff.mp e
  obtain ⟨dx, e3, e⟩ := Option.bind_eq_some_iff.mp e
  obtain ⟨dy, e4, e⟩ := Option.bind_eq_some_iff.mp e
  obtain ⟨r', e5, e⟩ := Option.bind_eq_some_iff.mp e
  cases e
  obtain ⟨ns, rl, hop, hrl⟩ := ho.run dx dy r e5
  refine PE.weak (pe_cmpR hop (ha.run F _ _ _ j e1) (hb.run F _ _ _ j e2) hm) fun σ H Q ⟨hd, S, k⟩ => ?_
  exact two S e3 e4 fun x y H2 x2 rx ry S2 => hrl x y H2 Q rx ry (resD ns x2 S2 k)
/-- an expression's result that is a flag -/
def bOf : R → Option Bool
  | .fz (.bl b) => some b
  | _ => none
theorem bOf_some {r : R} {b : Bool} (h : bOf r = some b) : r = .fz (.bl b) := by
  unfold bOf at h
  split at h
  · cases h; rfl
  · cases h
theorem Fz.blOf {K : Kx} {H : Hp} {v : V} {b : Bool} (h : Fz K H v (.bl b)) : v = .bl b := by cases h; rfl
def tOf (f : DX) : DB := fun ds => Option.bind (f ds) fun p => Option.bind (bOf p.1) fun b => some (b, p.2)
theorem dt_cmp {op : CmpOp} {g : D → D → Option R} {a b : Expr} {fa fb : DX} {pos : Pos} (ho : OpD X (compareOp op) g) (ha : DE X io a fa) (hb : DE X io b fb) (hm : behindInMarks op b = false := by first | exact nomark _ | rfl) : DT X io (.Compare a [op] [b] pos) (tOf (eBin g fa fb)) := by
  refine ⟨fun F ds r ds' j e => ?_⟩
  unfold tOf at e
  obtain ⟨p0, e0, e⟩ := Option.bind_eq_some_iff.mp e
  obtain ⟨b', eb, e⟩ := Option.bind_eq_some_iff.mp e
  cases e
  have eb := bOf_some eb
  unfold eBin at e0
  obtain ⟨p, e1, e⟩ := Option.bind_eq_some_iff.mp e0
  obtain ⟨q, e2, e⟩ := Option.bind_eq_some_iff.mp e
  obtain ⟨dx, e3, e⟩ := Option.bind_eq_some_iff.mp e
  obtain ⟨dy, e4, e⟩ := Option.bind_eq_some_iff.mp e
  obtain ⟨r', e5, e⟩ := Option.bind_eq_some_iff.mp e
  cases e
  dsimp only at eb
  subst eb
  obtain ⟨ns, rl, hop, hrl⟩ := ho.run dx dy _ e5
  refine PT.weak (pt_cmpR hop (ha.run F _ _ _ j e1) (hb.run F _ _ _ j e2) hm) fun σ H Q ⟨hd, S, k⟩ => ?_
  exact two S e3 e4 fun x y H2 x2 rx ry S2 => hrl x y H2 _ rx ry fun v H' sm f => ⟨_, f.blOf, k H' (x2.trans (.of_same sm)) (S2.grow sm)⟩
theorem dt_val {e : Expr} {f : DX} (h : DE X io e f) (he : ∀ whole, isTrue e X.env whole = (do let v ← whole; standAt e.pos; holding [v] (truthy v)) := by intro _; rfl) : DT X io e (tOf f) := by
  refine ⟨fun F ds r ds' j q => ?_⟩
  unfold tOf at q
  obtain ⟨p, e1, q⟩ := Option.bind_eq_some_iff.mp q
  obtain ⟨b', eb, q⟩ := Option.bind_eq_some_iff.mp q
  cases q
  have eb := bOf_some eb
  refine PT.weak (pt_val (h.run F _ _ _ j e1) he) fun σ H Q ⟨hd, S, k⟩ => ?_
  refine ⟨hd, S, fun v H1 x1 r1 S1 => ?_⟩
  rw [eb] at r1 S1
  cases r1 with
  | fz r1 => exact ⟨_, r1.blOf, k H1 x1 (by rw [hp_fz] at S1; exact S1)⟩
def bAnd (f g : DB) : DB := fun ds => Option.bind (f ds) fun p => if p.1 = true then g p.2 else some (false, p.2)
def bOr (f g : DB) : DB := fun ds => Option.bind (f ds) fun p => if p.1 = true then some (true, p.2) else g p.2
def bNot (f : DB) : DB := fun ds => Option.bind (f ds) fun p => some (!p.1, p.2)
variable {a b : Expr} {rest : List Expr} {pos : Pos} {f g : DB}
theorem DW.dt {e : Expr} (h : DW X io e f) : DT X io e f := ⟨fun F ds b ds' j e => (h.run F ds b ds' j e).pt⟩
theorem dw_and1 (ha : DT X io a f) : DW X io (.BoolOp .And [a] pos) f := ⟨fun F ds b ds' j e => pw_and1 (ha.run F ds b ds' j e)⟩
theorem dw_or1 (ha : DT X io a f) : DW X io (.BoolOp .Or [a] pos) f := ⟨fun F ds b ds' j e => pw_or1 (ha.run F ds b ds' j e)⟩
theorem pw_never {e : Expr} : PW X e (fun _ _ _ => False) := ⟨fun _ _ _ _ _ _ _ h => h.elim⟩
theorem dw_and (ha : DT X io a f) (hb : DW X io (.BoolOp .And (b :: rest) pos) g) : DW X io (.BoolOp .And (a :: b :: rest) pos) (bAnd f g) := by
  refine ⟨fun F ds c ds' j e => ?_⟩
  unfold bAnd at e
  obtain ⟨p, e1, e⟩ := Option.bind_eq_some_iff.mp e
  by_cases h : p.1 = true
  · rw [if_pos h] at e
    refine PW.weak (pw_and (ha.run F _ _ _ j e1) (hb.run F _ _ _ j e)) fun σ H Q ⟨hd, S, k⟩ => ?_
    exact ⟨hd, S, fun H1 x1 S1 => by dsimp only; rw [if_pos h]; exact ⟨hd, S1, fun H2 x2 S2 => k H2 (x1.trans x2) S2⟩⟩
  · rw [if_neg h] at e
    cases e
    refine PW.weak (pw_and (ha.run F _ _ _ j e1) pw_never) fun σ H Q ⟨hd, S, k⟩ => ?_
    exact ⟨hd, S, fun H1 x1 S1 => by dsimp only; rw [if_neg h]; exact k H1 x1 S1⟩
theorem dw_or (ha : DT X io a f) (hb : DW X io (.BoolOp .Or (b :: rest) pos) g) : DW X io (.BoolOp .Or (a :: b :: rest) pos) (bOr f g) := by
  refine ⟨fun F ds c ds' j e => ?_⟩
  unfold bOr at e
  obtain ⟨p, e1, e⟩ := Option.bind_eq_some_iff.mp e
  by_cases h : p.1 = true
  · rw [if_pos h] at e
    cases e
    refine PW.weak (pw_or (ha.run F _ _ _ j e1) pw_never) fun σ H Q ⟨hd, S, k⟩ => ?_
    exact ⟨hd, S, fun H1 x1 S1 => by dsimp only; rw [if_pos h]; exact k H1 x1 S1⟩
  · rw [if_neg h] at e
    refine PW.weak (pw_or (ha.run F _ _ _ j e1) (hb.run F _ _ _ j e)) fun σ H Q ⟨hd, S, k⟩ => ?_
    exact ⟨hd, S, fun H1 x1 S1 => by dsimp only; rw [if_neg h]; exact ⟨hd, S1, fun H2 x2 S2 => k H2 (x1.trans x2) S2⟩⟩
theorem dt_not (ha : DT X io a f) : DT X io (.UnaryOp .Not a pos) (bNot f) := by
  refine ⟨fun F ds c ds' j e => ?_⟩
  unfold bNot at e
  obtain ⟨p, e1, e⟩ := Option.bind_eq_some_iff.mp e
  cases e
  exact PT.weak (pt_not (ha.run F _ _ _ j e1)) fun σ H Q ⟨hd, S, k⟩ => ⟨hd, S, fun H1 x1 S1 => k H1 x1 S1⟩
end
end DL
/-! DL4: statements, targets, loops. -/
namespace DL
open PySem PySem.Spec PyProof.Rows L2

/-! ### the readings that hold whatever is known -/
section
variable (X : Cx)
def wE (e : Expr) : TE := fun σ H Q => ∃ t, PE X e t ∧ t σ H Q
def wT (e : Expr) : TT := fun σ H Q => ∃ t, PT X e t ∧ t σ H Q
def wSs (e : List Stmt) : TS := fun D σ H => ∃ t, PSs X e t ∧ t D σ H
def wG (e : Expr) : TG := fun v σ H Q => ∃ t, PG X e t ∧ t v σ H Q
theorem pe_w (e : Expr) : PE X e (wE X e) := ⟨fun pins s σ H Q I ⟨t, h, q⟩ => h.run pins s σ H Q I q⟩
theorem pt_w (e : Expr) : PT X e (wT X e) := ⟨fun pins s σ H Q I ⟨t, h, q⟩ => h.run pins s σ H Q I q⟩
theorem pss_w (e : List Stmt) : PSs X e (wSs X e) := ⟨fun pins s σ H D I ⟨t, h, q⟩ => h.run pins s σ H D I q⟩
theorem pg_w (e : Expr) : PG X e (wG X e) := ⟨fun pins s σ H v u Q I r ⟨t, h, q⟩ => h.run pins s σ H v u Q I r q⟩
end

section
variable {X : Cx} {io : Bool} {K : Kx} {F : Fx}
/-- behind something more -/
theorem tDS.later {ds : DS} {fl : Fl} {ds1 ds' : DS} {D : Ends} {σ σ1 : Sg} {H H1 : Hp} (h : tDS K F ds fl ds' D σ H) (x : Ext H H1) (S : SRel K F ds1 σ1 H1 []) : tDS K F ds1 fl ds' D σ1 H1 := by
  refine ⟨S, ?_⟩
  cases fl with
  | nx => exact fun σ' H' x' => h.2 σ' H' (x.trans x')
  | brk => exact fun σ' H' x' => h.2 σ' H' (x.trans x')
  | cont => exact fun σ' H' x' => h.2 σ' H' (x.trans x')
  | ret r => exact fun v σ' H' x' => h.2 v σ' H' (x.trans x')

/-! ### blocks -/
def sNil : DSm := fun ds => some (.nx, ds)
def sSeq (f g : DSm) : DSm := fun ds => Option.bind (f ds) fun p => match p.1 with
  | .nx => g p.2
  | .ret r => some (.ret r, p.2)
  | .brk => some (.brk, p.2)
  | .cont => some (.cont, p.2)
theorem dss_nil : DSs X io [] sNil := ⟨fun F ds fl ds' _ e => PSs.weak pss_nil fun D σ H h => by cases e; exact h.2 σ H (Ext.refl H) h.1⟩
theorem dss_cons {st : Stmt} {rest : List Stmt} {f g : DSm} (h1 : DStm X io st f) (h2 : DSs X io rest g) : DSs X io (st :: rest) (sSeq f g) := by
  refine ⟨fun F ds fl ds' j e => ?_⟩
  unfold sSeq at e
  obtain ⟨⟨fl1, ds1⟩, e1, e⟩ := Option.bind_eq_some_iff.mp e
  cases fl1 with
  | nx =>
    refine PSs.weak (pss_cons (h1.run F _ _ _ j e1) (h2.run F _ _ _ j e)) fun D σ H h => ?_
    exact ⟨h.1, fun σ' H' x S => h.later x S⟩
  | ret r =>
    cases e
    exact PSs.weak (pss_cons (h1.run F _ _ _ j e1) pss_never) fun D σ H h => ⟨h.1, h.2⟩
  | brk =>
    cases e
    exact PSs.weak (pss_cons (h1.run F _ _ _ j e1) pss_never) fun D σ H h => ⟨h.1, h.2⟩
  | cont =>
    cases e
    exact PSs.weak (pss_cons (h1.run F _ _ _ j e1) pss_never) fun D σ H h => ⟨h.1, h.2⟩
theorem dss_one {st : Stmt} {f : DSm} (h1 : DStm X io st f) : DSs X io [st] f := ⟨fun F ds fl ds' j e => pss_one (h1.run F ds fl ds' j e)⟩
theorem ds_pass {pos} : DStm X io (.Pass pos) sNil := ⟨fun F ds fl ds' _ e => PS.weak ps_pass fun D σ H h => by cases e; exact h.2 σ H (Ext.refl H) h.1⟩
def sBrk : DSm := fun ds => some (.brk, ds)
def sCont : DSm := fun ds => some (.cont, ds)
theorem ds_break {pos} : DStm X io (.Break pos) sBrk := ⟨fun F ds fl ds' _ e => PS.weak ps_break fun D σ H h => by cases e; exact h.2 σ H (Ext.refl H) h.1⟩
theorem ds_continue {pos} : DStm X io (.Continue pos) sCont := ⟨fun F ds fl ds' _ e => PS.weak ps_continue fun D σ H h => by cases e; exact h.2 σ H (Ext.refl H) h.1⟩
def sExpr (f : DX) : DSm := fun ds => Option.bind (f ds) fun p => some (.nx, p.2)
theorem ds_expr {e : Expr} {f : DX} {pos : Pos} (he : DE X io e f) (hs : swapsWith e none pos.line X.env = pure false := by rfl) : DStm X io (.Expr e pos) (sExpr f) := by
  refine ⟨fun F ds fl ds' j q => ?_⟩
  unfold sExpr at q
  obtain ⟨p, e1, q⟩ := Option.bind_eq_some_iff.mp q
  cases q
  exact PS.weak (ps_expr (he.run F _ _ _ j e1) hs) fun D σ H h => ⟨[], h.1, fun v H' x r S => h.2 σ H' x (S.drop (List.sublist_append_right _ _))⟩
def sRet (f : DX) : DSm := fun ds => Option.bind (f ds) fun p => some (.ret p.1, p.2)
theorem ds_ret {e : Expr} {f : DX} {pos : Pos} (he : DE X io e f) : DStm X io (.Return (some e) pos) (sRet f) := by
  refine ⟨fun F ds fl ds' j q => ?_⟩
  unfold sRet at q
  obtain ⟨p, e1, q⟩ := Option.bind_eq_some_iff.mp q
  cases q
  exact PS.weak (ps_ret (he.run F _ _ _ j e1)) fun D σ H h => ⟨[], h.1, fun v H' x r S => h.2 v σ H' x r (by simpa using S)⟩
theorem ds_retN {pos : Pos} : DStm X io (.Return none pos) (sRet (eC .non)) := by
  refine ⟨fun F ds fl ds' j q => ?_⟩
  cases q
  exact PS.weak ps_retN fun D σ H h => h.2 .non σ H (Ext.refl H) (.fz .non) (by rw [hp_fz]; exact h.1)
def sIf (t : DB) (f g : DSm) : DSm := fun ds => Option.bind (t ds) fun p => if p.1 = true then f p.2 else g p.2
theorem ds_if {c : Expr} {a b : List Stmt} {t : DB} {f g : DSm} {pos : Pos} (hc : DT X io c t) (ha : DSs X io a f) (hb : DSs X io b g) : DStm X io (.If c a b pos) (sIf t f g) := by
  refine ⟨fun F ds fl ds' j e => ?_⟩
  unfold sIf at e
  obtain ⟨⟨b', ds1⟩, e1, e⟩ := Option.bind_eq_some_iff.mp e
  cases b' with
  | true =>
    refine PS.weak (ps_if (hc.run F _ _ _ j e1) (ha.run F _ _ _ j e) pss_never) fun D σ H h => ?_
    exact ⟨[], h.1, fun H' x S => iteT (h.later x S)⟩
  | false =>
    refine PS.weak (ps_if (hc.run F _ _ _ j e1) pss_never (hb.run F _ _ _ j e)) fun D σ H h => ?_
    exact ⟨[], h.1, fun H' x S => iteF (h.later x S)⟩
/-- name = e -/
def sSet (i : Nat) (f : DX) : DSm := fun ds => Option.bind (f ds) fun p => match p.1 with
  | .own ob => some (.nx, p.2.set i (some (.own ob)))
  | .fz d => some (.nx, p.2.set i (some (.fz d)))
  | .slot k => Option.bind (frR (.slot k) p.2) fun q => some (.nx, q.2.set i (some (.fz q.1)))
theorem io_ne {i : Nat} (h : io = false ∨ i ≠ 0) (j : IoOk F io) : F.J = none ∨ i ≠ 0 := by
  rcases j with j | j
  · exact .inl j
  · rcases h with h | h
    · rw [j] at h; cases h
    · exact .inr h
theorem ds_set {i : Nat} {x : Str} {e : Expr} {f : DX} {pos pos' : Pos} (hN : X.N.Nodup) (hi : X.N[i]? = some x) (hx : Loc X.env.scope x) (h0 : io = false ∨ i ≠ 0) (he : DE X io e f) (hs : swapsWith e (some (.Name x pos')) pos.line X.env = pure false := by rfl)
    (hf : X.fn x = true ∨ X.env.scope.names.lookup x = some .local := by first | exact .inl rfl | exact .inr rfl | assumption) : DStm X io (.Assign [.Name x pos'] e pos) (sSet i f) := by
  refine ⟨fun F ds fl ds' j q => ?_⟩
  unfold sSet at q
  obtain ⟨⟨r, ds1⟩, e1, q⟩ := Option.bind_eq_some_iff.mp q
  cases r with
  | own ob =>
    cases q
    refine PS.weak (ps_set hN hi hx (he.run F _ _ _ j e1) hs hf) fun D σ H h => ⟨[], h.1, fun v H' x r S => ?_⟩
    cases r with
    | own w =>
      exact h.2 _ H' x (S.storeR (io_ne h0 j) w)
  | fz d =>
    cases q
    refine PS.weak (ps_set hN hi hx (he.run F _ _ _ j e1) hs hf) fun D σ H h => ⟨[], h.1, fun v H' x r S => ?_⟩
    cases r with
    | fz w =>
      rw [hp_fz] at S
      exact h.2 _ H' x (S.store (io_ne h0 j) w)
  | slot k =>
    obtain ⟨⟨d, ds2⟩, e2, q⟩ := Option.bind_eq_some_iff.mp q
    cases q
    refine PS.weak (ps_set hN hi hx (pe_frz (he.run F _ _ _ j e1)) hs hf) fun D σ H h => ⟨[], h.1, fun v H' x r S => ?_⟩
    obtain ⟨ps, k1⟩ := fr1 r S e2
    exact ⟨ps, k1.mono fun H2 ⟨x2, w, S2⟩ => h.2 _ H2 (x.trans x2) (S2.store (io_ne h0 j) w)⟩

/-! ### targets -/
abbrev DGt := D → DS → Option DS
abbrev DGs := List D → DS → Option DS
theorem wipe_len (σ : Sg) (us : List Nat) : (L2.wipe σ us).length = σ.length := wipe_length σ us
theorem wipe_set1 (σ : Sg) (i : Nat) (x : Option V) : ∀ us : List Nat, (L2.wipe (σ.set i x) us).set i none = (L2.wipe σ us).set i none
  | [] => by unfold L2.wipe; rw [List.set_set]
  | u :: us => by
    have ih := wipe_set1 σ i x us
    show ((L2.wipe (σ.set i x) us).set u none).set i none = ((L2.wipe σ us).set u none).set i none
    by_cases h : u = i
    · subst h; rw [List.set_set, List.set_set]; exact ih
    · rw [List.set_comm _ _ h, ih, List.set_comm _ _ h]
theorem wipe_set (σ : Sg) {i : Nat} (x : Option V) : ∀ {us : List Nat}, i ∈ us → L2.wipe (σ.set i x) us = L2.wipe σ us
  | u :: us, h => by
    show (L2.wipe (σ.set i x) us).set u none = (L2.wipe σ us).set u none
    by_cases e : i = u
    · subst e; exact wipe_set1 σ i x us
    · rw [wipe_set σ x ((List.mem_cons.mp h).resolve_left e)]
/-- ts: the slots that are set -/
def tDG (K : Kx) (F : Fx) (ts : List Nat) (d : D) (ds ds' : DS) : TG := fun v σ H Q => ∃ hd, SRel K F ds σ H hd ∧ Fz K H v d ∧ ∀ σ' H', Ext H H' → SRel K F ds' σ' H' hd → (∀ us : List Nat, (∀ t ∈ ts, t ∈ us) → L2.wipe σ' us = L2.wipe σ us) → Q σ' H'
def tDGs (K : Kx) (F : Fx) (ts : List Nat) (dd : List D) (ds ds' : DS) : TGs := fun vs σ H Q => ∃ hd, SRel K F ds σ H hd ∧ FzL K H vs dd ∧ ∀ σ' H', Ext H H' → SRel K F ds' σ' H' hd → (∀ us : List Nat, (∀ t ∈ ts, t ∈ us) → L2.wipe σ' us = L2.wipe σ us) → Q σ' H'
structure DG (X : Cx) (io : Bool) (tg : Expr) (ts : List Nat) (g : DGt) : Prop where
  run : ∀ (F : Fx) (d : D) (ds ds' : DS), IoOk F io → g d ds = some ds' → PG X tg (tDG X.kx F ts d ds ds')
structure DGS (X : Cx) (io : Bool) (tg : List Expr) (ts : List Nat) (g : DGs) : Prop where
  run : ∀ (F : Fx) (dd : List D) (ds ds' : DS), IoOk F io → g dd ds = some ds' → PGs X tg (tDGs X.kx F ts dd ds ds')
theorem PG.weak {e : Expr} {t t' : TG} (h : PG X e t) (w : ∀ v σ H Q, t' v σ H Q → t v σ H Q) : PG X e t' := ⟨fun pins s σ H v u Q I r q => h.run pins s σ H v u Q I r (w v σ H Q q)⟩
theorem PGs.weak {e : List Expr} {t t' : TGs} (h : PGs X e t) (w : ∀ v σ H Q, t' v σ H Q → t v σ H Q) : PGs X e t' := ⟨fun pins s σ H v u Q I r q => h.run pins s σ H v u Q I r (w v σ H Q q)⟩
def gN (i : Nat) : DGt := fun d ds => some (ds.set i (some (.fz d)))
theorem dg_name {i : Nat} {x : Str} {pos : Pos} (hN : X.N.Nodup) (hi : X.N[i]? = some x) (hx : Loc X.env.scope x) (h0 : io = false ∨ i ≠ 0) (hf : X.fn x = true ∨ X.env.scope.names.lookup x = some .local := by first | exact .inl rfl | exact .inr rfl | assumption) : DG X io (.Name x pos) [i] (gN i) := by
  refine ⟨fun F d ds ds' j e => PG.weak (pg_name hN hi hx hf) fun v σ H Q ⟨hd, S, w, k⟩ => ?_⟩
  cases e
  exact k _ H (Ext.refl H) (S.store (io_ne h0 j) w) fun us hu => wipe_set σ _ (hu i List.mem_cons_self)
def gNil' : DGs := fun dd ds => match dd with
  | [] => some ds
  | _ => none
def gCons' (g : DGt) (gs : DGs) : DGs := fun dd ds => match dd with
  | d :: r => Option.bind (g d ds) fun ds1 => gs r ds1
  | [] => none
theorem dgs_nil : DGS X io [] [] gNil' := by
  refine ⟨fun F dd ds ds' j e => PGs.weak pgs_nil fun vs σ H Q ⟨hd, S, w, k⟩ => ?_⟩
  cases dd with
  | nil => cases e; cases w; exact ⟨rfl, k _ H (Ext.refl H) S fun _ _ => rfl⟩
  | cons _ _ => cases e
theorem dgs_cons {e : Expr} {es : List Expr} {ts us : List Nat} {g : DGt} {gs : DGs} (h1 : DG X io e ts g) (h2 : DGS X io es us gs) (hs : (assignEach (e :: es) X.env).map (·.2) = assign e X.env :: (assignEach es X.env).map (·.2) := by rfl) : DGS X io (e :: es) (ts ++ us) (gCons' g gs) := by
  refine ⟨fun F dd ds ds' j q => ?_⟩
  cases dd with
  | nil => cases q
  | cons d r =>
    have q : Option.bind (g d ds) (fun ds1 => gs r ds1) = some ds' := q
    obtain ⟨ds1, e1, q⟩ := Option.bind_eq_some_iff.mp q
    refine PGs.weak (pgs_cons (h1.run F _ _ _ j e1) (h2.run F _ _ _ j q) hs) fun vs σ H Q ⟨hd, S, w, k⟩ => ?_
    cases w with
    | cons w ws =>
      refine ⟨_, _, rfl, hd, S, w, fun σ1 H1 x1 S1 z1 => ⟨hd, S1, ws.ext x1, fun σ2 H2 x2 S2 z2 => k σ2 H2 (x1.trans x2) S2 fun vs hv => ?_⟩⟩
      rw [z2 vs fun t ht => hv t (List.mem_append_right _ ht), z1 vs fun t ht => hv t (List.mem_append_left _ ht)]
def gTp (gs : DGs) : DGt := fun d ds => match d with
  | .tup dd => gs dd ds
  | _ => none
theorem DGS.len {es : List Expr} {ts : List Nat} {gs : DGs} (n : Nat) (h : ∀ dd ds, gs dd ds ≠ none → dd.length = n) : True := trivial
theorem dg_tup {es : List Expr} {k : Nat} {ts : List Nat} {gs : DGs} {n : Nat} {pos : Pos} (hc : X.calm = true) (h : DGS X io es ts gs) (hl : ∀ dd ds ds', gs dd ds = some ds' → dd.length = n)
    (hn : (assignEach es X.env).length = n := by rfl) (hst : (assignEach es X.env).findIdx? (·.1) = none := by rfl) : DG X io (.Tuple es k pos) ts (gTp gs) := by
  refine ⟨fun F d ds ds' j e => ?_⟩
  cases d with
  | tup dd =>
    have e : gs dd ds = some ds' := e
    refine PG.weak (pg_tup hc (h.run F _ _ _ j e) hn hst) fun v σ H Q ⟨hd, S, w, q⟩ => ?_
    cases w with
    | tup sq w => exact ⟨_, _, rfl, sq, by rw [w.len]; exact hl _ _ _ e, hd, S, w, q⟩
  | _ => cases e
theorem gNil_len {dd : List D} {ds ds' : DS} (h : gNil' dd ds = some ds') : dd.length = 0 := by
  cases dd with
  | nil => rfl
  | cons _ _ => cases h
theorem gCons_len {g : DGt} {gs : DGs} {n : Nat} (hl : ∀ dd ds ds', gs dd ds = some ds' → dd.length = n) : ∀ dd ds ds', gCons' g gs dd ds = some ds' → dd.length = n + 1 := fun dd ds ds' h => by
  cases dd with
  | nil => cases h
  | cons d r =>
    have q : Option.bind (g d ds) (fun ds1 => gs r ds1) = some ds' := h
    obtain ⟨ds1, e1, q⟩ := Option.bind_eq_some_iff.mp q
    rw [List.length_cons, hl _ _ _ q]
/-- target = e, of any target: e's value frozen -/
def sAsg (f : DX) (g : DGt) : DSm := fun ds => Option.bind (f ds) fun p => Option.bind (frR p.1 p.2) fun q => Option.bind (g q.1 q.2) fun ds2 => some (.nx, ds2)
theorem ds_asg {tg e : Expr} {ts : List Nat} {f : DX} {g : DGt} {pos : Pos} (he : DE X io e f) (hg : DG X io tg ts g) (hs : swapsWithSole [tg] e pos.line X.env = pure false := by rfl) (hw : swappedStores [tg] e X.env = pure none := by rfl)
    (h1 : (assignEach [tg] X.env).map (·.2) = [assign tg X.env] := by rfl) : DStm X io (.Assign [tg] e pos) (sAsg f g) := by
  refine ⟨fun F ds fl ds' j q => ?_⟩
  unfold sAsg at q
  obtain ⟨⟨r, ds1⟩, e1, q⟩ := Option.bind_eq_some_iff.mp q
  obtain ⟨⟨d, ds2⟩, e2, q⟩ := Option.bind_eq_some_iff.mp q
  obtain ⟨ds3, e3, q⟩ := Option.bind_eq_some_iff.mp q
  cases q
  refine PS.weak (ps_asg (pe_frz (he.run F _ _ _ j e1)) (hg.run F _ _ _ j e3) hs hw h1) fun D σ H h => ⟨[], h.1, fun v H' x r S => ?_⟩
  obtain ⟨ps, k1⟩ := fr1 r S e2
  exact ⟨ps, k1.mono fun H2 ⟨x2, w, S2⟩ => ⟨[], S2, w, fun σ3 H3 x3 S3 _ => h.2 _ H3 ((x.trans x2).trans x3) S3⟩⟩

/-! ### while -/
def wh (c : DB) (b : DSm) : Nat → DS → Option (Fl × DS)
  | 0, _ => none
  | n + 1, ds => Option.bind (c ds) fun p => if p.1 = true then Option.bind (b p.2) fun q => (match q.1 with
      | .nx => wh c b n q.2
      | .cont => wh c b n q.2
      | .brk => some (.nx, q.2)
      | .ret r => some (.ret r, q.2)) else some (.nx, p.2)
def sWhile (n : Nat) (c : DB) (b : DSm) : DSm := wh c b n
theorem wh_flow {c : DB} {b : DSm} : ∀ {n : Nat} {ds ds' : DS} {fl : Fl}, wh c b n ds = some (fl, ds') → fl = .nx ∨ ∃ r, fl = .ret r
  | n + 1, ds, ds', fl, e => by
    unfold wh at e
    obtain ⟨⟨b', ds1⟩, e1, e⟩ := Option.bind_eq_some_iff.mp e
    cases b' with
    | false => cases e; exact .inl rfl
    | true =>
      obtain ⟨⟨fl2, ds2⟩, e2, e⟩ := Option.bind_eq_some_iff.mp (show Option.bind (b ds1) _ = _ from e)
      cases fl2 with
      | nx => exact wh_flow (n := n) e
      | cont => exact wh_flow (n := n) e
      | brk => cases e; exact .inl rfl
      | ret r => cases e; exact .inr ⟨r, rfl⟩
theorem ds_while {c : Expr} {body : List Stmt} {t : DB} {f : DSm} {pos : Pos} {n : Nat} (hp : PassesOwn (model X.prog X.w) X.A X.env X.xe) (hc : DT X io c t) (hb : DSs X io body f) : DStm X io (.While c body [] pos) (sWhile n t f) := by
  refine ⟨fun F ds fl ds' j e => PS.weak (ps_while hp (pt_w X c) (pss_w X body)) fun D σ H h => ?_⟩
  refine ⟨fun m σ' H' => ∃ ds1, SRel X.kx F ds1 σ' H' [] ∧ Ext H H' ∧ wh t f m ds1 = some (fl, ds'), ⟨n, ds, h.1, Ext.refl H, e⟩, ?_⟩
  rintro m σ1 H1 ⟨ds1, S1, x1, e1⟩
  cases m with
  | zero => cases e1
  | succ m =>
    unfold wh at e1
    obtain ⟨⟨b', ds2⟩, e2, e1⟩ := Option.bind_eq_some_iff.mp e1
    refine ⟨_, hc.run F _ _ _ j e2, [], S1, fun H2 x2 S2 => ?_⟩
    cases b' with
    | false =>
      cases e1
      exact iteF (h.2 _ H2 (x1.trans x2) S2)
    | true =>
      have e1 := (show Option.bind (f ds2) _ = _ from e1)
      obtain ⟨⟨fl3, ds3⟩, e3, e1⟩ := Option.bind_eq_some_iff.mp e1
      refine iteT ⟨fun σ' H' => ∃ ds1, SRel X.kx F ds1 σ' H' [] ∧ Ext H H' ∧ wh t f m ds1 = some (fl, ds'), fun σ' H' q => ⟨m, Nat.lt_succ_self _, q⟩, _, hb.run F _ _ _ j e3, S2, ?_⟩
      cases fl3 with
      | nx => exact fun σ3 H3 x3 S3 => ⟨ds3, S3, (x1.trans x2).trans x3, e1⟩
      | cont => exact fun σ3 H3 x3 S3 => ⟨ds3, S3, (x1.trans x2).trans x3, e1⟩
      | brk => cases e1; exact fun σ3 H3 x3 S3 => h.2 σ3 H3 ((x1.trans x2).trans x3) S3
      | ret r => cases e1; exact fun v σ3 H3 x3 r3 S3 => h.2 v σ3 H3 ((x1.trans x2).trans x3) r3 S3

/-! ### for -/
/-- the turns of an iterator yield these, whatever else happens -/
def Its (K : Kx) (J : It) (items : List D) (H0 : Hp) : Prop := ∀ H, Ext H0 H → (∀ i d, items[i]? = some d → J.go i H ∧ ∀ x H', J.yld i H x H' → Same H H' ∧ Fz K H' x d) ∧ ∀ i, items.length ≤ i → J.stop i H
abbrev DIt := DS → Option (List D × DS)
def tDI (K : Kx) (F : Fx) (ds : DS) (items : List D) (ds' : DS) : TI := fun σ H R => ∃ hd, SRel K F ds σ H hd ∧ ∀ J H', Ext H H' → SRel K F ds' σ H' hd → Its K J items H' → R J H'
structure DI (X : Cx) (io : Bool) (tg iter : Expr) (f : DIt) : Prop where
  run : ∀ (F : Fx) (ds : DS) (items : List D) (ds' : DS), IoOk F io → f ds = some (items, ds') → PI X tg iter (tDI X.kx F ds items ds')
theorem PI.weak {tg e : Expr} {t t' : TI} (h : PI X tg e t) (w : ∀ σ H Q, t' σ H Q → t σ H Q) : PI X tg e t' := ⟨fun pins s σ H Q I q => h.run pins s σ H Q I (w σ H Q q)⟩
def forL (g : DGt) (b : DSm) : List D → DS → Option (Fl × DS)
  | [], ds => some (.nx, ds)
  | d :: r, ds => Option.bind (g d ds) fun ds1 => Option.bind (b ds1) fun q => match q.1 with
      | .nx => forL g b r q.2
      | .cont => forL g b r q.2
      | .brk => some (.nx, q.2)
      | .ret r => some (.ret r, q.2)
def sFor (fi : DIt) (g : DGt) (b : DSm) : DSm := fun ds => Option.bind (fi ds) fun p => forL g b p.1 p.2
theorem ds_for {tg iter : Expr} {body : List Stmt} {ts : List Nat} {fi : DIt} {g : DGt} {f : DSm} {pos : Pos} (hp : PassesOwn (model X.prog X.w) X.A X.env X.xe) (hc : X.calm = true) (hi : DI X io tg iter fi) (hg : DG X io tg ts g) (hb : DSs X io body f)
    (hs : ∀ x, foldedSetIterable iter X.env x = pure x := by intro _; rfl) : DStm X io (.For tg iter body [] pos) (sFor fi g f) := by
  refine ⟨fun F ds fl ds' j e => ?_⟩
  unfold sFor at e
  obtain ⟨⟨items, ds1⟩, e1, e⟩ := Option.bind_eq_some_iff.mp e
  refine PS.weak (ps_for hp hc (hi.run F _ _ _ j e1) (pg_w X tg) (pss_w X body) hs) fun D σ H h => ?_
  refine ⟨[], h.1, fun J H1 x1 S1 its => ?_⟩
  refine ⟨fun i m σ' H' => m = items.length - i ∧ i ≤ items.length ∧ ∃ ds2, SRel X.kx F ds2 σ' H' [] ∧ Ext H1 H' ∧ forL g f (items.drop i) ds2 = some (fl, ds'), ⟨_, rfl, Nat.zero_le _, ds1, S1, Ext.refl H1, e⟩, ?_⟩
  rintro i m σ2 H2 ⟨rfl, hle, ds2, S2, x2, e2⟩
  obtain ⟨i1, i2⟩ := its H2 x2
  by_cases hlt : i < items.length
  · obtain ⟨d, hd⟩ : ∃ d, items[i]? = some d := ⟨items[i], by simp [hlt]⟩
    have hdr : items.drop i = d :: items.drop (i + 1) := by
      rw [List.drop_eq_getElem_cons hlt]
      rw [List.getElem?_eq_getElem hlt] at hd
      rw [Option.some.inj hd]
    rw [hdr] at e2
    unfold forL at e2
    obtain ⟨ds3, e3, e2⟩ := Option.bind_eq_some_iff.mp e2
    obtain ⟨⟨fl4, ds4⟩, e4, e2⟩ := Option.bind_eq_some_iff.mp e2
    obtain ⟨go, y⟩ := i1 i d hd
    refine .inr ⟨go, fun σ' H' => ∃ ds2, SRel X.kx F ds2 σ' H' [] ∧ Ext H1 H' ∧ forL g f (items.drop (i + 1)) ds2 = some (fl, ds'), fun σ' H' ⟨ds5, a, b, c⟩ => ⟨items.length - (i + 1), by omega, rfl, hlt, ds5, a, b, c⟩, fun x H' yl => ?_⟩
    obtain ⟨sm, w⟩ := y x H' yl
    have xs : Ext H2 H' := .of_same sm
    refine ⟨_, hg.run F _ _ _ j e3, [], S2.grow sm, w, fun σ5 H5 x5 S5 _ => ⟨_, hb.run F _ _ _ j e4, S5, ?_⟩⟩
    have xx : Ext H1 H5 := (x2.trans xs).trans x5
    cases fl4 with
    | nx => exact fun σ6 H6 x6 S6 => ⟨ds4, S6, xx.trans x6, e2⟩
    | cont => exact fun σ6 H6 x6 S6 => ⟨ds4, S6, xx.trans x6, e2⟩
    | brk => cases e2; exact fun σ6 H6 x6 S6 => h.2 σ6 H6 ((x1.trans xx).trans x6) S6
    | ret r => cases e2; exact fun v σ6 H6 x6 r6 S6 => h.2 v σ6 H6 ((x1.trans xx).trans x6) r6 S6
  · have hl : i = items.length := by omega
    subst hl
    rw [List.drop_length] at e2
    cases e2
    exact .inl ⟨i2 _ (Nat.le_refl _), h.2 σ2 H2 (x1.trans x2) S2⟩
end
end DL
/-! DL5: list comprehensions. -/
namespace DL
open PySem PySem.Spec PyProof.Rows L2

/-! ### slots wiped and put back -/
theorem wipe_get (σ : Sg) {v : Nat} : ∀ {us : List Nat}, v ∉ us → (L2.wipe σ us)[v]? = σ[v]?
  | [], _ => rfl
  | u :: us, h => by
    show ((L2.wipe σ us).set u none)[v]? = _
    rw [List.getElem?_set_ne (fun e : u = v => by subst e; exact h List.mem_cons_self), wipe_get σ fun m => h (List.mem_cons_of_mem _ m)]
theorem wipe_wipe (σ : Sg) {us : List Nat} : ∀ {vs : List Nat}, (∀ v ∈ vs, v ∈ us) → L2.wipe (L2.wipe σ vs) us = L2.wipe σ us
  | [], _ => rfl
  | v :: vs, h => by
    show L2.wipe ((L2.wipe σ vs).set v none) us = _
    rw [wipe_set _ _ (h v List.mem_cons_self), wipe_wipe σ fun w m => h w (List.mem_cons_of_mem _ m)]
def noOwn (vs : List Nat) (ds : DS) : Bool := vs.all fun i => match ds[i]? with
  | some (some (.own _)) => false
  | _ => true
def restoreD (ds0 ds : DS) : List Nat → DS
  | [] => ds
  | v :: r => (restoreD ds0 ds r).set v ((ds0[v]?).getD none)
section
variable {K : Kx} {F : Fx} {ds ds' : DS} {σ σ' : Sg} {H H' : Hp} {hd hd' : List (Addr × HO)}
theorem SRel.unwipe1 {τ : Sg} {v : Nat} {x : Option SV} (S : SRel K F ds (τ.set v none) H hd) (hx : x = none ∨ ∃ d, x = some (.fz d) ∧ ∃ u, τ[v]? = some (some u) ∧ Fz K H u d) : SRel K F (ds.set v x) τ H hd := by
  have nv : ∀ j, v ≠ j → (τ.set v none)[j]? = τ[j]? := fun j h => List.getElem?_set_ne h
  have vv : ∀ u : V, (τ.set v none)[v]? ≠ some (some u) := fun u e => by
    by_cases hl : v < τ.length
    · rw [List.getElem?_set_self hl] at e; cases e
    · rw [List.getElem?_eq_none (by simpa using hl)] at e; cases e
  have of_ : ∀ {j a}, a ∈ fts (ds.set v x) τ H j → a ∈ fts ds (τ.set v none) H j := fun {j a} m => by
    obtain ⟨ob, p, e1, e2, m2⟩ := mem_fts m
    by_cases hj : v = j
    · subst hj
      by_cases hl : v < ds.length
      · rw [List.getElem?_set_self hl] at e1
        rcases hx with rfl | ⟨d, rfl, _⟩ <;> cases e1
      · rw [List.getElem?_eq_none (by simpa using hl)] at e1; cases e1
    · rw [List.getElem?_set_ne hj] at e1
      rw [fts_own e1 (by rw [nv j hj]; exact e2)]
      exact m2
  refine ⟨by rw [List.length_set]; have := S.len; rw [List.length_set] at this; exact this, fun j sv hj => ?_, fun a b q ha hb => S.inj a b q (of_ ha) (of_ hb), fun j q hj => S.new j q (of_ hj), S.keep, fun q e => ?_, S.live, fun a o' hm => ?_, S.hnd⟩
  · by_cases hvj : v = j
    · subst hvj
      by_cases hl : v < ds.length
      · rw [List.getElem?_set_self hl] at hj
        rcases hx with rfl | ⟨d, rfl, u, e1, w⟩
        · cases hj
        · cases hj; exact ⟨u, e1, .fz w⟩
      · rw [List.getElem?_eq_none (by simpa using hl)] at hj; cases hj
    · rw [List.getElem?_set_ne hvj] at hj
      obtain ⟨u, e1, r⟩ := S.slot j sv hj
      rw [nv j hvj] at e1
      exact ⟨u, e1, r⟩
  · obtain ⟨e1, e3⟩ := S.prot q e
    have h0 : v ≠ 0 := fun z => by subst z; exact vv _ e1
    rw [nv 0 h0] at e1
    exact ⟨e1, e3⟩
  · obtain ⟨q1, q2, q3, q4, q5⟩ := S.held a o' hm
    exact ⟨q1, q2, q3, q4, fun j m => q5 j (of_ m)⟩
theorem SRel.unwipe {ds0 : DS} {H0 : Hp} : ∀ {vs : List Nat} {ds : DS}, SRel K F ds (L2.wipe σ vs) H hd → (∃ F0 hd0, SRel K F0 ds0 σ H0 hd0) → Ext H0 H → noOwn vs ds0 = true → vs.Nodup → SRel K F (restoreD ds0 ds vs) σ H hd
  | [], _, S, _, _, _, _ => S
  | v :: vs, ds, S, ⟨F0, hd0, S0⟩, x, hn, nd => by
    have hn' : (match ds0[v]? with | some (some (.own _)) => false | _ => true) = true ∧ noOwn vs ds0 = true := by
      unfold noOwn at hn
      rw [List.all_cons, Bool.and_eq_true] at hn
      exact hn
    have nd' := List.nodup_cons.mp nd
    -- the first slot put back, then the others
    have S1 : SRel K F (ds.set v ((ds0[v]?).getD none)) (L2.wipe σ vs) H hd := by
      refine SRel.unwipe1 S ?_
      cases e : ds0[v]? with
      | none => exact .inl rfl
      | some o =>
        cases o with
        | none => exact .inl rfl
        | some sv =>
          cases sv with
          | own ob => have := hn'.1; rw [e] at this; cases this
          | fz d =>
            obtain ⟨u, e1, w⟩ := S0.fz e
            exact .inr ⟨d, rfl, u, by rw [wipe_get σ nd'.1]; exact e1, w.ext x⟩
    have S2 := SRel.unwipe (vs := vs) S1 ⟨F0, hd0, S0⟩ x hn'.2 nd'.2
    -- the order of the stores does not matter
    have key : ∀ (us : List Nat) (ds : DS), v ∉ us → restoreD ds0 (ds.set v ((ds0[v]?).getD none)) us = (restoreD ds0 ds us).set v ((ds0[v]?).getD none) := by
      intro us
      induction us with
      | nil => intro ds _; rfl
      | cons u us ih =>
        intro ds hv
        show (restoreD ds0 (ds.set v _) us).set u _ = ((restoreD ds0 ds us).set u _).set v _
        rw [ih ds fun m => hv (List.mem_cons_of_mem _ m), List.set_comm _ _ (fun e => by subst e; exact hv List.mem_cons_self)]
    rw [key vs ds nd'.1] at S2
    exact S2
end

/-! ### one clause -/
def lcL (g : DGt) (t : DB) (f : DX) (vs : List Nat) : List D → List D → DS → Option (List D × DS)
  | [], acc, ds => some (acc, ds)
  | d :: r, acc, ds => Option.bind (g d ds) fun ds1 => Option.bind (t ds1) fun p => if p.1 = true then
      Option.bind (f p.2) fun q => Option.bind (frR q.1 q.2) fun z => if acc.length < sizeLine then lcL g t f vs r (acc ++ [z.1]) (wipeD z.2 vs) else none
    else lcL g t f vs r acc (wipeD p.2 vs)
def eLC (fi : DIt) (g : DGt) (t : DB) (f : DX) (vs : List Nat) : DX := fun ds => Option.bind (fi ds) fun p => if noOwn vs p.2 = true then
    Option.bind (lcL g t f vs p.1 [] (wipeD p.2 vs)) fun q => some (.own (.lst q.1), restoreD p.2 q.2 vs) else none
structure DTS (X : Cx) (io : Bool) (e : List Expr) (f : DB) : Prop where
  run : ∀ (F : Fx) (ds : DS) (b : Bool) (ds' : DS), IoOk F io → f ds = some (b, ds') → PTs X e (tDT X.kx F ds b ds')
def bYes : DB := fun ds => some (true, ds)
theorem PTs.weak {X : Cx} {e : List Expr} {t t' : TT} (h : PTs X e t) (w : ∀ σ H Q, t' σ H Q → t σ H Q) : PTs X e t' := ⟨fun pins s σ H Q I q => h.run pins s σ H Q I (w σ H Q q)⟩
theorem dts_nil {X : Cx} {io : Bool} : DTS X io [] bYes := ⟨fun F ds b ds' _ e => PTs.weak pts_nil fun σ H Q ⟨hd, S, k⟩ => by cases e; exact k H (Ext.refl H) S⟩
theorem dts_one {X : Cx} {io : Bool} {c : Expr} {t : DB} (h : DT X io c t) : DTS X io [c] t := ⟨fun F ds b ds' j e => pts_one (h.run F ds b ds' j e)⟩
/-- what may be at a block's context -/
abbrev Blk (X : Cx) (scope : Scope) (P : Cx → Prop) : Prop := ∀ (s : Shared) (H : Hp) (C : Addr) (cl : List (Str × Addr)) (fp : List Addr), P (X.blk s H scope (compEnvC scope cl C X.env) fp)
section
variable (X : Cx) (scope : Scope)
def bE (e : Expr) : TE := fun σ H Q => ∃ t, Blk X scope (fun Y => PE Y e t) ∧ t σ H Q
def bTs (e : List Expr) : TT := fun σ H Q => ∃ t, Blk X scope (fun Y => PTs Y e t) ∧ t σ H Q
def bG (e : Expr) : TG := fun v σ H Q => ∃ t, Blk X scope (fun Y => PG Y e t) ∧ t v σ H Q
def bI (tg e : Expr) : TI := fun σ H Q => ∃ t, Blk X scope (fun Y => PI Y tg e t) ∧ t σ H Q
theorem be_w (e : Expr) : Blk X scope (fun Y => PE Y e (bE X scope e)) := fun s H C cl fp => ⟨fun pins s' σ H' Q I ⟨t, h, q⟩ => (h s H C cl fp).run pins s' σ H' Q I q⟩
theorem bts_w (e : List Expr) : Blk X scope (fun Y => PTs Y e (bTs X scope e)) := fun s H C cl fp => ⟨fun pins s' σ H' Q I ⟨t, h, q⟩ => (h s H C cl fp).run pins s' σ H' Q I q⟩
theorem bg_w (e : Expr) : Blk X scope (fun Y => PG Y e (bG X scope e)) := fun s H C cl fp => ⟨fun pins s' σ H' v u Q I r ⟨t, h, q⟩ => (h s H C cl fp).run pins s' σ H' v u Q I r q⟩
theorem bi_w (tg e : Expr) : Blk X scope (fun Y => PI Y tg e (bI X scope tg e)) := fun s H C cl fp => ⟨fun pins s' σ H' Q I ⟨t, h, q⟩ => (h s H C cl fp).run pins s' σ H' Q I q⟩
end
section
variable {X : Cx} {io : Bool}
/-- one turn of a comprehension's (last) clause: what follows it -/
theorem lc_turn {scope : Scope} {elt tg : Expr} {ifs : List Expr} {ts vs : List Nat} {g : DGt} {t : DB} {f : DX} {F : Fx} {d : D} {r : List D} {acc accF : List D} {ds dsF : DS} {σ : Sg} {H H' : Hp} {hd : List (Addr × HO)} {p : Addr} {accV : List V} {x : V} {Nx : Hp → Prop}
    (j : IoOk F io) (h0 : io = false ∨ 0 ∉ vs) (hg : Blk X scope fun Y => DG Y io tg ts g) (ht : Blk X scope fun Y => DTS Y io ifs t) (he : Blk X scope fun Y => DE Y io elt f) (hts : ∀ i ∈ ts, i ∈ vs)
    (S : SRel X.kx F ds (L2.wipe σ vs) H ((p, .lst accV) :: hd)) (fa : FzL X.kx H accV acc) (sm : Same H H') (w : Fz X.kx H' x d) (e : lcL g t f vs (d :: r) acc ds = some (accF, dsF))
    (k : ∀ H2 acc2 accV2 ds2, Ext H' H2 → FzL X.kx H2 accV2 acc2 → SRel X.kx F ds2 (L2.wipe σ vs) H2 ((p, .lst accV2) :: hd) → lcL g t f vs r acc2 ds2 = some (accF, dsF) → Nx H2) :
    bG X scope tg x (L2.wipe σ vs) H' fun σ2 H2 => L2.wipe σ2 vs = L2.wipe σ vs ∧ bTs X scope ifs σ2 H2 fun b H3 =>
      if b = true then tFrz (bE X scope elt) σ2 H3 fun y H4 => ∃ acc, H4 p = some (.lst acc) ∧ acc.length < sizeLine ∧ Nx (upd H4 p (.lst (acc ++ [y]))) else Nx H3 := by
  unfold lcL at e
  obtain ⟨ds1, e1, e⟩ := Option.bind_eq_some_iff.mp e
  obtain ⟨⟨b, ds2⟩, e2, e⟩ := Option.bind_eq_some_iff.mp e
  have j0 : F.J = none ∨ 0 ∉ vs := by
    rcases j with j | j
    · exact .inl j
    · rcases h0 with h | h
      · rw [j] at h; cases h
      · exact .inr h
  have S' := S.grow sm
  refine ⟨tDG X.kx F ts d ds ds1, fun s H C cl fp => (hg s H C cl fp).run F _ _ _ j e1, _, S', w, fun σ2 H2 x2 S2 z2 => ?_⟩
  have ew : L2.wipe σ2 vs = L2.wipe σ vs := by
    rw [z2 vs hts, wipe_wipe σ fun _ m => m]
  refine ⟨ew, tDT X.kx F ds1 b ds2, fun s H C cl fp => (ht s H C cl fp).run F _ _ _ j e2, _, S2, fun H3 x3 S3 => ?_⟩
  have fa3 := fa.ext ((Ext.of_same sm).trans (x2.trans x3))
  cases b with
  | false =>
    refine iteF (k H3 acc accV _ (x2.trans x3) fa3 ?_ e)
    rw [← ew]
    exact S3.wipe j0
  | true =>
    have e := (show Option.bind (f ds2) _ = _ from e)
    obtain ⟨⟨r3, ds3⟩, e3, e⟩ := Option.bind_eq_some_iff.mp e
    obtain ⟨⟨d4, ds4⟩, e4, e⟩ := Option.bind_eq_some_iff.mp e
    by_cases hlen : acc.length < sizeLine
    · rw [if_pos hlen] at e
      refine iteT ⟨tD X.kx F ds2 r3 ds3, fun s H C cl fp => (he s H C cl fp).run F _ _ _ j e3, _, S3, fun v H4 x4 r4 S4 => ?_⟩
      obtain ⟨ps, k1⟩ := fr1 r4 S4 e4
      refine ⟨ps, k1.mono fun H5 ⟨x5, w5, S5⟩ => ?_⟩
      have eh := (S5.held p _ List.mem_cons_self).1
      have fa5 := fa3.ext (x4.trans x5)
      refine ⟨accV, eh, by rw [fa5.len]; exact hlen, ?_⟩
      have xx : Ext H5 (upd H5 p (.lst (accV ++ [v]))) := Ext.bx eh trivial
      refine k _ (acc ++ [d4]) (accV ++ [v]) (wipeD ds4 vs) (((x2.trans x3).trans (x4.trans x5)).trans xx) ((fa5.app (.one w5)).ext xx) ?_ e
      rw [← ew]
      exact (S5.hset' (u := .lst (accV ++ [v])) trivial).wipe j0
    · rw [if_neg hlen] at e; cases e
theorem io_no {vs : List Nat} {F : Fx} (j : IoOk F io) (h0 : io = false ∨ 0 ∉ vs) : F.J = none ∨ 0 ∉ vs := by
  rcases j with j | j
  · exact .inl j
  · rcases h0 with h | h
    · rw [j] at h; cases h
    · exact .inr h
theorem lc_read {tg iter elt : Expr} {ifs : List Expr} {scope : Scope} {ts vs : List Nat} {fi : DIt} {g : DGt} {t : DB} {f : DX} {F : Fx} {ds ds' : DS} {r : R} (j : IoOk F io) (h0 : io = false ∨ 0 ∉ vs) (nd : vs.Nodup)
    (hg : Blk X scope fun Y => DG Y io tg ts g) (ht : Blk X scope fun Y => DTS Y io ifs t) (he : Blk X scope fun Y => DE Y io elt f) (hts : ∀ i ∈ ts, i ∈ vs) (e : eLC fi g t f vs ds = some (r, ds')) :
    ∃ items ds1, fi ds = some (items, ds1) ∧ ∀ σ H Q, tD X.kx F ds r ds' σ H Q → tLc (tDI X.kx F ds items ds1) (bG X scope tg) (bTs X scope ifs) (tFrz (bE X scope elt)) vs σ H Q := by
  unfold eLC at e
  obtain ⟨⟨items, ds1⟩, e1, e⟩ := Option.bind_eq_some_iff.mp e
  by_cases hn : noOwn vs ds1 = true
  · rw [if_pos hn] at e
    obtain ⟨⟨accF, dsF⟩, e2, e⟩ := Option.bind_eq_some_iff.mp e
    cases e
    refine ⟨items, ds1, e1, fun σ H Q ⟨hd, S, k⟩ => ⟨hd, S, fun J H1 x1 S1 its p hp0 => ?_⟩⟩
    have x2 : Ext H1 (upd H1 p (.lst [])) := Ext.new hp0
    have S2 := (S1.made (o := .lst []) hp0 trivial).wipe (io_no j h0)
    refine ⟨fun i m H' => m = items.length - i ∧ i ≤ items.length ∧ ∃ acc accV ds2, Ext (upd H1 p (.lst [])) H' ∧ FzL X.kx H' accV acc ∧ SRel X.kx F ds2 (L2.wipe σ vs) H' ((p, .lst accV) :: hd) ∧ lcL g t f vs (items.drop i) acc ds2 = some (accF, dsF),
      ⟨_, rfl, Nat.zero_le _, [], [], _, Ext.refl _, .nil, S2, e2⟩, ?_⟩
    rintro i m H3 ⟨rfl, hle, acc, accV, ds3, x3, fa, S3, e3⟩
    obtain ⟨i1, i2⟩ := its H3 (x2.trans x3)
    by_cases hlt : i < items.length
    · obtain ⟨d, hdi⟩ : ∃ d, items[i]? = some d := ⟨items[i], by simp [hlt]⟩
      have hdr : items.drop i = d :: items.drop (i + 1) := by
        rw [List.drop_eq_getElem_cons hlt]
        rw [List.getElem?_eq_getElem hlt] at hdi
        rw [Option.some.inj hdi]
      rw [hdr] at e3
      obtain ⟨go, y⟩ := i1 i d hdi
      refine .inr ⟨go, fun H' => ∃ acc accV ds2, Ext (upd H1 p (.lst [])) H' ∧ FzL X.kx H' accV acc ∧ SRel X.kx F ds2 (L2.wipe σ vs) H' ((p, .lst accV) :: hd) ∧ lcL g t f vs (items.drop (i + 1)) acc ds2 = some (accF, dsF), fun H' q => ⟨_, by omega, rfl, hlt, q⟩, fun x H' yl => ?_⟩
      obtain ⟨sm, w⟩ := y x H' yl
      exact lc_turn j h0 hg ht he hts S3 fa sm w e3 fun H4 acc4 accV4 ds4 x4 fa4 S4 e4 => ⟨acc4, accV4, ds4, (x3.trans (.of_same sm)).trans x4, fa4, S4, e4⟩
    · have hl : i = items.length := by omega
      subst hl
      rw [List.drop_length] at e3
      cases e3
      refine .inl ⟨i2 _ (Nat.le_refl _), ?_⟩
      have eh := (S3.held p _ List.mem_cons_self).1
      have S5 := S3.unwipe (ds0 := ds1) (H0 := H1) ⟨_, _, S1⟩ (x2.trans x3) hn nd
      refine k (.ref p) H3 (x1.trans (x2.trans x3)) (.own (.lst eh fa)) ?_
      rw [hp_own _ eh]
      exact S5
  · rw [if_neg hn] at e; cases e
variable {tg iter elt : Expr} {ifs : List Expr} {scope : Scope} {ts : List Nat} {fi : DIt} {g : DGt} {t : DB} {f : DX}
/-- [elt for tg in iter if ..] -/
theorem d_lc {own : List (Str × Nat)} {pos : Pos} (hc : X.calm = true) (hN : X.N.Nodup) (h0 : io = false ∨ 0 ∉ own.map (·.2)) (nd : (own.map (·.2)).Nodup) (hts : ∀ i ∈ ts, i ∈ own.map (·.2)) (ok : BlkOk X.N X.env.scope scope own) (hi : DI X io tg iter fi)
    (hg : Blk X scope fun Y => DG Y io tg ts g) (ht : Blk X scope fun Y => DTS Y io ifs t) (he : Blk X scope fun Y => DE Y io elt f) (hs : ∀ x, foldedSetIterable iter X.env x = pure x := by intro _; rfl) :
    DE X io (.ListComp elt [⟨tg, iter, ifs, 0⟩] scope pos) (eLC fi g t f (own.map (·.2))) := by
  refine ⟨fun F ds r ds' j e => ?_⟩
  obtain ⟨items, ds1, e1, q⟩ := lc_read (X := X) (iter := iter) j h0 nd hg ht he hts e
  exact PE.weak (pe_lc hc hN (hi.run F _ _ _ j e1) ok (bg_w X scope tg) (bts_w X scope ifs) (fun s H C cl fp => pe_frz (be_w X scope elt s H C cl fp)) hs) q
/-- x = [elt for ..] on one line, x a local -/
theorem ds_setLc {i : Nat} {y : Str} {py : Pos} {own : List (Str × Nat)} {pos spos : Pos} (hc : X.calm = true) (hN : X.N.Nodup) (hy : X.N[i]? = some y) (hyl : X.env.scope.names.lookup y = some .local) (hi0 : io = false ∨ i ≠ 0)
    (hsw : swapsWith (.ListComp elt [⟨tg, iter, ifs, 0⟩] scope pos) (some (.Name y py)) spos.line X.env = pure true)
    (h0 : io = false ∨ 0 ∉ own.map (·.2)) (nd : (own.map (·.2)).Nodup) (hts : ∀ i ∈ ts, i ∈ own.map (·.2)) (ok : BlkOk X.N X.env.scope scope own) (hi : DI X io tg iter fi)
    (hg : Blk X scope fun Y => DG Y io tg ts g) (ht : Blk X scope fun Y => DTS Y io ifs t) (he : Blk X scope fun Y => DE Y io elt f) (hs : ∀ x, foldedSetIterable iter X.env x = pure x := by intro _; rfl) :
    DStm X io (.Assign [.Name y py] (.ListComp elt [⟨tg, iter, ifs, 0⟩] scope pos) spos) (sSet i (eLC fi g t f (own.map (·.2)))) := by
  refine ⟨fun F ds fl ds' j q => ?_⟩
  unfold sSet at q
  obtain ⟨⟨r, ds1⟩, e1, q⟩ := Option.bind_eq_some_iff.mp q
  obtain ⟨items, ds2, e2, w⟩ := lc_read (X := X) (iter := iter) j h0 nd hg ht he hts e1
  refine PS.weak (ps_setLc hc hN hy hyl hsw (hi.run F _ _ _ j e2) ok (bg_w X scope tg) (bts_w X scope ifs) (fun s H C cl fp => pe_frz (be_w X scope elt s H C cl fp)) hs) fun D σ H h => ?_
  refine w σ H _ ⟨[], h.1, fun v H' x rr S => ?_⟩
  -- the result is a new list
  obtain ⟨l, rfl⟩ : ∃ l, r = .own (.lst l) := by
    unfold eLC at e1
    obtain ⟨p, _, e1⟩ := Option.bind_eq_some_iff.mp e1
    by_cases hn : noOwn (own.map (·.2)) p.2 = true
    · rw [if_pos hn] at e1
      obtain ⟨q', _, e1⟩ := Option.bind_eq_some_iff.mp e1
      cases e1; exact ⟨_, rfl⟩
    · rw [if_neg hn] at e1; cases e1
  cases q
  cases rr with
  | own w' =>
    exact h.2 _ H' x (S.storeR (io_ne hi0 j) w')

/-! ### two clauses -/
def lc2L (g : DGt) (t : DB) (fi1 : DIt) (g1 : DGt) (t1 : DB) (f : DX) (vs vs1 : List Nat) : List D → List D → DS → Option (List D × DS)
  | [], acc, ds => some (acc, ds)
  | d :: r, acc, ds => Option.bind (g d ds) fun ds1 => Option.bind (t ds1) fun p => if p.1 = true then
      Option.bind (fi1 p.2) fun q => Option.bind (lcL g1 t1 f vs1 q.1 acc (wipeD q.2 vs1)) fun z => lc2L g t fi1 g1 t1 f vs vs1 r z.1 (wipeD z.2 vs)
    else lc2L g t fi1 g1 t1 f vs vs1 r acc (wipeD p.2 vs)
def eLC2 (fi : DIt) (g : DGt) (t : DB) (fi1 : DIt) (g1 : DGt) (t1 : DB) (f : DX) (vs vs1 : List Nat) : DX := fun ds => Option.bind (fi ds) fun p => if noOwn vs p.2 = true then
    Option.bind (lc2L g t fi1 g1 t1 f vs vs1 p.1 [] (wipeD p.2 vs)) fun q => some (.own (.lst q.1), restoreD p.2 q.2 vs) else none
theorem lc2_read {tg iter elt tg1 iter1 : Expr} {ifs ifs1 : List Expr} {scope : Scope} {ts ts1 vs vs1 : List Nat} {fi fi1 : DIt} {g g1 : DGt} {t t1 : DB} {f : DX} {F : Fx} {ds ds' : DS} {r : R} (j : IoOk F io) (h0 : io = false ∨ 0 ∉ vs) (nd : vs.Nodup) (hv1 : ∀ i ∈ vs1, i ∈ vs)
    (hg : Blk X scope fun Y => DG Y io tg ts g) (ht : Blk X scope fun Y => DTS Y io ifs t) (hi1 : Blk X scope fun Y => DI Y io tg1 iter1 fi1) (hg1 : Blk X scope fun Y => DG Y io tg1 ts1 g1) (ht1 : Blk X scope fun Y => DTS Y io ifs1 t1) (he : Blk X scope fun Y => DE Y io elt f)
    (hts : ∀ i ∈ ts, i ∈ vs) (hts1 : ∀ i ∈ ts1, i ∈ vs1) (e : eLC2 fi g t fi1 g1 t1 f vs vs1 ds = some (r, ds')) :
    ∃ items ds1, fi ds = some (items, ds1) ∧ (∃ l, r = .own (.lst l)) ∧ ∀ σ H Q, tD X.kx F ds r ds' σ H Q → tLc2 (tDI X.kx F ds items ds1) (bG X scope tg) (bTs X scope ifs) (bI X scope tg1 iter1) (bG X scope tg1) (bTs X scope ifs1) (tFrz (bE X scope elt)) vs vs1 σ H Q := by
  unfold eLC2 at e
  obtain ⟨⟨items, ds1⟩, e1, e⟩ := Option.bind_eq_some_iff.mp e
  have j0 := io_no j h0
  have j1 : F.J = none ∨ 0 ∉ vs1 := j0.imp id fun z m => z (hv1 0 m)
  by_cases hn : noOwn vs ds1 = true
  · rw [if_pos hn] at e
    obtain ⟨⟨accF, dsF⟩, e2, e⟩ := Option.bind_eq_some_iff.mp e
    cases e
    refine ⟨items, ds1, e1, ⟨_, rfl⟩, fun σ H Q ⟨hd, S, k⟩ => ⟨hd, S, fun J H1 x1 S1 its p hp0 => ?_⟩⟩
    have x2 : Ext H1 (upd H1 p (.lst [])) := Ext.new hp0
    have S2 := (S1.made (o := .lst []) hp0 trivial).wipe j0
    refine ⟨fun i m H' => m = items.length - i ∧ i ≤ items.length ∧ ∃ acc accV ds2, Ext (upd H1 p (.lst [])) H' ∧ FzL X.kx H' accV acc ∧ SRel X.kx F ds2 (L2.wipe σ vs) H' ((p, .lst accV) :: hd) ∧ lc2L g t fi1 g1 t1 f vs vs1 (items.drop i) acc ds2 = some (accF, dsF),
      ⟨_, rfl, Nat.zero_le _, [], [], _, Ext.refl _, .nil, S2, e2⟩, ?_⟩
    rintro i m H3 ⟨rfl, hle, acc, accV, ds3, x3, fa, S3, e3⟩
    obtain ⟨i1, i2⟩ := its H3 (x2.trans x3)
    by_cases hlt : i < items.length
    · obtain ⟨d, hdi⟩ : ∃ d, items[i]? = some d := ⟨items[i], by simp [hlt]⟩
      have hdr : items.drop i = d :: items.drop (i + 1) := by
        rw [List.drop_eq_getElem_cons hlt]
        rw [List.getElem?_eq_getElem hlt] at hdi
        rw [Option.some.inj hdi]
      rw [hdr] at e3
      obtain ⟨go, y⟩ := i1 i d hdi
      refine .inr ⟨go, fun H' => ∃ acc accV ds2, Ext (upd H1 p (.lst [])) H' ∧ FzL X.kx H' accV acc ∧ SRel X.kx F ds2 (L2.wipe σ vs) H' ((p, .lst accV) :: hd) ∧ lc2L g t fi1 g1 t1 f vs vs1 (items.drop (i + 1)) acc ds2 = some (accF, dsF), fun H' q => ⟨_, by omega, rfl, hlt, q⟩, fun x H' yl => ?_⟩
      obtain ⟨sm, w⟩ := y x H' yl
      -- the outer target and tests
      unfold lc2L at e3
      obtain ⟨ds4, e4, e3⟩ := Option.bind_eq_some_iff.mp e3
      obtain ⟨⟨b, ds5⟩, e5, e3⟩ := Option.bind_eq_some_iff.mp e3
      refine ⟨tDG X.kx F ts d ds3 ds4, fun s H C cl fp => (hg s H C cl fp).run F _ _ _ j e4, _, S3.grow sm, w, fun σ2 H4 x4 S4 z4 => ?_⟩
      have ew : L2.wipe σ2 vs = L2.wipe σ vs := by
        rw [z4 vs hts, wipe_wipe σ fun _ m => m]
      refine ⟨ew, tDT X.kx F ds4 b ds5, fun s H C cl fp => (ht s H C cl fp).run F _ _ _ j e5, _, S4, fun H5 x5 S5 => ?_⟩
      have x35 : Ext (upd H1 p (.lst [])) H5 := (x3.trans (.of_same sm)).trans (x4.trans x5)
      have fa5 := fa.ext ((Ext.of_same sm).trans (x4.trans x5))
      cases b with
      | false =>
        refine iteF ⟨acc, accV, _, x35, fa5, ?_, e3⟩
        rw [← ew]
        exact S5.wipe j0
      | true =>
        have e3 := (show Option.bind (fi1 ds5) _ = _ from e3)
        obtain ⟨⟨items1, ds6⟩, e6, e3⟩ := Option.bind_eq_some_iff.mp e3
        obtain ⟨⟨acc7, ds7⟩, e7, e3⟩ := Option.bind_eq_some_iff.mp e3
        refine iteT ⟨tDI X.kx F ds5 items1 ds6, fun s H C cl fp => (hi1 s H C cl fp).run F _ _ _ j e6, _, S5, fun J1 H6 x6 S6 its1 => ?_⟩
        refine ⟨fun i m H' => m = items1.length - i ∧ i ≤ items1.length ∧ ∃ acc accV ds2, Ext H6 H' ∧ FzL X.kx H' accV acc ∧ SRel X.kx F ds2 (L2.wipe σ2 vs1) H' ((p, .lst accV) :: hd) ∧ lcL g1 t1 f vs1 (items1.drop i) acc ds2 = some (acc7, ds7),
          ⟨_, rfl, Nat.zero_le _, acc, accV, _, Ext.refl _, fa5.ext x6, S6.wipe j1, e7⟩, ?_⟩
        rintro i' m' H7 ⟨rfl, hle', acc8, accV8, ds8, x8, fa8, S8, e8⟩
        obtain ⟨i1', i2'⟩ := its1 H7 x8
        by_cases hlt' : i' < items1.length
        · obtain ⟨d', hdi'⟩ : ∃ d', items1[i']? = some d' := ⟨items1[i'], by simp [hlt']⟩
          have hdr' : items1.drop i' = d' :: items1.drop (i' + 1) := by
            rw [List.drop_eq_getElem_cons hlt']
            rw [List.getElem?_eq_getElem hlt'] at hdi'
            rw [Option.some.inj hdi']
          rw [hdr'] at e8
          obtain ⟨go', y'⟩ := i1' i' d' hdi'
          refine .inr ⟨go', fun H' => ∃ acc accV ds2, Ext H6 H' ∧ FzL X.kx H' accV acc ∧ SRel X.kx F ds2 (L2.wipe σ2 vs1) H' ((p, .lst accV) :: hd) ∧ lcL g1 t1 f vs1 (items1.drop (i' + 1)) acc ds2 = some (acc7, ds7), fun H' q => ⟨_, by omega, rfl, hlt', q⟩, fun x' H' yl' => ?_⟩
          obtain ⟨sm', w'⟩ := y' x' H' yl'
          exact lc_turn j (h0.imp id fun z m => z (hv1 0 m)) hg1 ht1 he hts1 S8 fa8 sm' w' e8 fun H9 acc9 accV9 ds9 x9 fa9 S9 e9 => ⟨acc9, accV9, ds9, (x8.trans (.of_same sm')).trans x9, fa9, S9, e9⟩
        · have hl' : i' = items1.length := by omega
          subst hl'
          rw [List.drop_length] at e8
          cases e8
          refine .inl ⟨i2' _ (Nat.le_refl _), acc7, accV8, _, (x35.trans x6).trans x8, fa8, ?_, e3⟩
          have q := S8.wipe j0
          rw [wipe_wipe σ2 hv1, ew] at q
          exact q
    · have hl : i = items.length := by omega
      subst hl
      rw [List.drop_length] at e3
      cases e3
      refine .inl ⟨i2 _ (Nat.le_refl _), ?_⟩
      have eh := (S3.held p _ List.mem_cons_self).1
      have S5 := S3.unwipe (ds0 := ds1) (H0 := H1) ⟨_, _, S1⟩ (x2.trans x3) hn nd
      refine k (.ref p) H3 (x1.trans (x2.trans x3)) (.own (.lst eh fa)) ?_
      rw [hp_own _ eh]
      exact S5
  · rw [if_neg hn] at e; cases e
variable {tg1 iter1 : Expr} {ifs1 : List Expr} {ts1 : List Nat} {fi1 : DIt} {g1 : DGt} {t1 : DB}
theorem d_lc2 {own : List (Str × Nat)} {vs1 : List Nat} {pos : Pos} (hc : X.calm = true) (hN : X.N.Nodup) (h0 : io = false ∨ 0 ∉ own.map (·.2)) (nd : (own.map (·.2)).Nodup) (hv1 : ∀ i ∈ vs1, i ∈ own.map (·.2)) (hts : ∀ i ∈ ts, i ∈ own.map (·.2)) (hts1 : ∀ i ∈ ts1, i ∈ vs1) (ok : BlkOk X.N X.env.scope scope own) (hi : DI X io tg iter fi)
    (hg : Blk X scope fun Y => DG Y io tg ts g) (ht : Blk X scope fun Y => DTS Y io ifs t) (hi1 : Blk X scope fun Y => DI Y io tg1 iter1 fi1) (hg1 : Blk X scope fun Y => DG Y io tg1 ts1 g1) (ht1 : Blk X scope fun Y => DTS Y io ifs1 t1) (he : Blk X scope fun Y => DE Y io elt f)
    (hs : ∀ x, foldedSetIterable iter X.env x = pure x := by intro _; rfl) (hs1 : ∀ env x, foldedSetIterable iter1 env x = pure x := by intro _ _; rfl) :
    DE X io (.ListComp elt [⟨tg, iter, ifs, 0⟩, ⟨tg1, iter1, ifs1, 0⟩] scope pos) (eLC2 fi g t fi1 g1 t1 f (own.map (·.2)) vs1) := by
  refine ⟨fun F ds r ds' j e => ?_⟩
  obtain ⟨items, ds1, e1, _, q⟩ := lc2_read (X := X) (iter := iter) j h0 nd hv1 hg ht hi1 hg1 ht1 he hts hts1 e
  exact PE.weak (pe_lc2 hc hN (hi.run F _ _ _ j e1) ok hv1 (bg_w X scope tg) (bts_w X scope ifs) (bi_w X scope tg1 iter1) (bg_w X scope tg1) (bts_w X scope ifs1) (fun s H C cl fp => pe_frz (be_w X scope elt s H C cl fp)) hs hs1) q
theorem ds_setLc2 {i : Nat} {y : Str} {py : Pos} {own : List (Str × Nat)} {vs1 : List Nat} {pos spos : Pos} (hc : X.calm = true) (hN : X.N.Nodup) (hy : X.N[i]? = some y) (hyl : X.env.scope.names.lookup y = some .local) (hi0 : io = false ∨ i ≠ 0)
    (hsw : swapsWith (.ListComp elt [⟨tg, iter, ifs, 0⟩, ⟨tg1, iter1, ifs1, 0⟩] scope pos) (some (.Name y py)) spos.line X.env = pure true)
    (h0 : io = false ∨ 0 ∉ own.map (·.2)) (nd : (own.map (·.2)).Nodup) (hv1 : ∀ i ∈ vs1, i ∈ own.map (·.2)) (hts : ∀ i ∈ ts, i ∈ own.map (·.2)) (hts1 : ∀ i ∈ ts1, i ∈ vs1) (ok : BlkOk X.N X.env.scope scope own) (hi : DI X io tg iter fi)
    (hg : Blk X scope fun Y => DG Y io tg ts g) (ht : Blk X scope fun Y => DTS Y io ifs t) (hi1 : Blk X scope fun Y => DI Y io tg1 iter1 fi1) (hg1 : Blk X scope fun Y => DG Y io tg1 ts1 g1) (ht1 : Blk X scope fun Y => DTS Y io ifs1 t1) (he : Blk X scope fun Y => DE Y io elt f)
    (hs : ∀ x, foldedSetIterable iter X.env x = pure x := by intro _; rfl) (hs1 : ∀ env x, foldedSetIterable iter1 env x = pure x := by intro _ _; rfl) :
    DStm X io (.Assign [.Name y py] (.ListComp elt [⟨tg, iter, ifs, 0⟩, ⟨tg1, iter1, ifs1, 0⟩] scope pos) spos) (sSet i (eLC2 fi g t fi1 g1 t1 f (own.map (·.2)) vs1)) := by
  refine ⟨fun F ds fl ds' j q => ?_⟩
  unfold sSet at q
  obtain ⟨⟨r, ds1⟩, e1, q⟩ := Option.bind_eq_some_iff.mp q
  obtain ⟨items, ds2, e2, ⟨l, rfl⟩, w⟩ := lc2_read (X := X) (iter := iter) j h0 nd hv1 hg ht hi1 hg1 ht1 he hts hts1 e1
  refine PS.weak (ps_setLc2 hc hN hy hyl hsw (hi.run F _ _ _ j e2) ok hv1 (bg_w X scope tg) (bts_w X scope ifs) (bi_w X scope tg1 iter1) (bg_w X scope tg1) (bts_w X scope ifs1) (fun s H C cl fp => pe_frz (be_w X scope elt s H C cl fp)) hs hs1) fun D σ H h => ?_
  refine w σ H _ ⟨[], h.1, fun v H' x rr S => ?_⟩
  cases q
  cases rr with
  | own w' =>
    exact h.2 _ H' x (S.storeR (io_ne hi0 j) w')
end
end DL
/-! DL6: defs and their calls, fields, instances. -/
namespace DL
open PySem PySem.Spec PyProof.Rows L2

def svR : SV → R
  | .fz d => .fz d
  | .own o => .own o
/-- what a body's end hands back -/
def fin : Fl × DS → Option SV
  | (.nx, _) => some (.fz .non)
  | (.ret (.fz d), _) => some (.fz d)
  | (.ret (.own o), _) => some (.own o)
  | (.ret (.slot i), ds) => match ds[i]? with
    | some (some sv) => some sv
    | _ => none
  | _ => none
def finIo : Fl × DS → Option (SV × SV)
  | (.ret (.slot 0), _) => none
  | p => Option.bind (fin p) fun sv => match p.2[0]? with
    | some (some s0) => some (sv, s0)
    | _ => none
/-- a def that changes nothing handed in: the body's meaning over n parameters, m slots -/
def dfun (m : Nat) (g : DSm) (dd : List D) : Option SV := Option.bind (g (dd.map (fun d => some (.fz d)) ++ List.replicate (m - dd.length) none)) fin
/-- a def whose first argument is changed -/
def dfunIo (m : Nat) (g : DSm) (ob : Ob) (dd : List D) : Option (SV × SV) := Option.bind (g (some (.own ob) :: dd.map (fun d => some (.fz d)) ++ List.replicate (m - (dd.length + 1)) none)) finIo
/-- the promises -/
def spP (K : Kx) (n : Nat) (sem : List D → Option SV) : Sp := fun vs H Q _ => ∃ dd sv, dd.length = n ∧ sem dd = some sv ∧ FzL K H vs dd ∧ ∀ v H', Same H H' → SVR K H' v sv → (∀ ob q, sv = .own ob → v = .ref q → ∀ a ∈ feet H' q ob, H a = none) → Q v H'
def spIo (K : Kx) (n : Nat) (sem : Ob → List D → Option (SV × SV)) : Sp := fun vs H Q _ => ∃ p ob vs' dd sv s0, vs = .ref p :: vs' ∧ dd.length + 1 = n ∧ sem ob dd = some (sv, s0) ∧ Ow K H p ob ∧ FzL K H vs' dd ∧
  ∀ v H', (∀ a o, H a = some o → a ∉ feet H p ob → H' a = some o) → (∀ a ∈ feet H p ob, ∃ u, H' a = some u) → SVR K H' (.ref p) s0 → SVR K H' v sv → (∀ a ∈ ftSV H' p s0, a ∈ feet H p ob ∨ H a = none) → (∀ ob2 q, sv = .own ob2 → v = .ref q → ∀ a ∈ feet H' q ob2, H a = none ∧ a ∉ ftSV H' p s0) → Q v H'
theorem spP_len {K : Kx} {n : Nat} {sem : List D → Option SV} (vs : List V) (H : Hp) (Q : VK) (E : XK) (h : spP K n sem vs H Q E) : vs.length = n := by
  obtain ⟨dd, sv, e, _, f, _⟩ := h
  rw [f.len, e]
theorem spIo_len {K : Kx} {n : Nat} {sem : Ob → List D → Option (SV × SV)} (vs : List V) (H : Hp) (Q : VK) (E : XK) (h : spIo K n sem vs H Q E) : vs.length = n := by
  obtain ⟨p, ob, vs', dd, sv, s0, rfl, e, _, _, f, _⟩ := h
  rw [List.length_cons, f.len, e]
/-- a promise by another meaning: what that one tells, this one tells -/
theorem spP_imp {K : Kx} {n : Nat} {sem sem' : List D → Option SV} (h : ∀ dd sv, dd.length = n → sem' dd = some sv → sem dd = some sv) (vs : List V) (H : Hp) (Q : VK) (E : XK) (q : spP K n sem' vs H Q E) : spP K n sem vs H Q E := by
  obtain ⟨dd, sv, e1, e2, r⟩ := q
  exact ⟨dd, sv, e1, h _ _ e1 e2, r⟩
theorem spIo_imp {K : Kx} {n : Nat} {sem sem' : Ob → List D → Option (SV × SV)} (h : ∀ ob dd r, dd.length + 1 = n → sem' ob dd = some r → sem ob dd = some r) (vs : List V) (H : Hp) (Q : VK) (E : XK) (q : spIo K n sem' vs H Q E) : spIo K n sem vs H Q E := by
  obtain ⟨p, ob, vs', dd, sv, s0, e0, e1, e2, r⟩ := q
  exact ⟨p, ob, vs', dd, sv, s0, e0, e1, h _ _ _ e1 e2, r⟩

theorem start_get {N : List Str} {vs : List V} {i : Nat} {v : V} (h : vs[i]? = some v) : (L2.start N vs)[i]? = some (some v) := by
  have hi : i < vs.length := (List.getElem?_eq_some_iff.mp h).1
  unfold L2.start
  rw [List.getElem?_append_left (by simpa using hi), List.getElem?_map, h]
  rfl
section
variable {P : Program} {w : World} {K : PySem.W.Frag} {mg : Str → Option Value} {base : Heap} {x qual : Str} {params : Arguments} {body : List Stmt} {scope : Scope} {dvs : List V} {kws : List (Str × V)} {f : Addr} {fd : FuncData}
/-- the slots at a def's entry -/
theorem srel_start {N : List Str} {vs : List V} {dd : List D} {H : Hp} (hl : vs.length ≤ N.length) (r : FzL ⟨K, P, w⟩ H vs dd) : SRel ⟨K, P, w⟩ ⟨H, none, []⟩ (dd.map (fun d => some (SV.fz d)) ++ List.replicate (N.length - dd.length) none) (L2.start N vs) H [] := by
  have noown : ∀ i a, a ∉ fts (dd.map (fun d => some (SV.fz d)) ++ List.replicate (N.length - dd.length) none) (L2.start N vs) H i := fun i a m => by
    obtain ⟨ob, _, e, _⟩ := mem_fts m
    by_cases hi : i < dd.length
    · rw [List.getElem?_append_left (by simpa using hi), List.getElem?_map] at e
      cases q : dd[i]? with
      | none => rw [q] at e; cases e
      | some d => rw [q] at e; cases e
    · rw [List.getElem?_append_right (by simpa using hi), List.getElem?_replicate] at e
      split at e <;> cases e
  refine ⟨?_, fun i sv e => ?_, fun i j a h => absurd h (noown i a), fun i a h => absurd h (noown i a), fun a o e _ => e, fun p e => (by cases e), fun a e => (by rcases e with e | e <;> cases e), fun a o h => (by cases h), List.nodup_nil⟩
  · unfold L2.start
    rw [List.length_append, List.length_append, List.length_map, List.length_map, List.length_replicate, List.length_replicate, r.len]
  · by_cases hi : i < dd.length
    · rw [List.getElem?_append_left (by simpa using hi), List.getElem?_map] at e
      cases q : dd[i]? with
      | none => rw [q] at e; cases e
      | some d =>
        rw [q] at e
        cases e
        obtain ⟨v, e1, w⟩ := r.get q
        exact ⟨v, start_get e1, .fz w⟩
    · rw [List.getElem?_append_right (by simpa using hi), List.getElem?_replicate] at e
      split at e <;> cases e
theorem srel_startIo {N : List Str} {vs : List V} {dd : List D} {H : Hp} {p : Addr} {ob : Ob} (hl : vs.length + 1 ≤ N.length) (r : FzL ⟨K, P, w⟩ H vs dd) (o : Ow ⟨K, P, w⟩ H p ob) : SRel ⟨K, P, w⟩ ⟨H, some p, feet H p ob⟩ (some (.own ob) :: dd.map (fun d => some (SV.fz d)) ++ List.replicate (N.length - (dd.length + 1)) none) (L2.start N (.ref p :: vs)) H [] := by
  have own0 : ∀ i a, a ∈ fts (some (.own ob) :: dd.map (fun d => some (SV.fz d)) ++ List.replicate (N.length - (dd.length + 1)) none) (L2.start N (.ref p :: vs)) H i → i = 0 := fun i a m => by
    obtain ⟨ob', _, e, _⟩ := mem_fts m
    cases i with
    | zero => rfl
    | succ i =>
      rw [List.cons_append, List.getElem?_cons_succ] at e
      by_cases hi : i < dd.length
      · rw [List.getElem?_append_left (by simpa using hi), List.getElem?_map] at e
        cases q : dd[i]? with
        | none => rw [q] at e; cases e
        | some d => rw [q] at e; cases e
      · rw [List.getElem?_append_right (by simpa using hi), List.getElem?_replicate] at e
        split at e <;> cases e
  have s0 : (L2.start N (.ref p :: vs))[0]? = some (some (.ref p)) := start_get rfl
  refine ⟨?_, fun i sv e => ?_, fun i j q h1 h2 => (own0 i q h1).trans (own0 j q h2).symm, fun i q h => .inr ?_, fun a o e _ => e, fun q e => ?_, fun a e => ?_, fun a o h => (by cases h), List.nodup_nil⟩
  · unfold L2.start
    simp only [List.length_append, List.length_map, List.length_replicate, List.length_cons, r.len]
  · cases i with
    | zero =>
      cases e
      exact ⟨_, s0, .own o⟩
    | succ i =>
      rw [List.cons_append, List.getElem?_cons_succ] at e
      by_cases hi : i < dd.length
      · rw [List.getElem?_append_left (by simpa using hi), List.getElem?_map] at e
        cases q : dd[i]? with
        | none => rw [q] at e; cases e
        | some d =>
          rw [q] at e
          cases e
          obtain ⟨v, e1, w⟩ := r.get q
          exact ⟨v, start_get (by rw [List.getElem?_cons_succ]; exact e1), .fz w⟩
      · rw [List.getElem?_append_right (by simpa using hi), List.getElem?_replicate] at e
        split at e <;> cases e
  · have hi := own0 i q h
    subst hi
    rw [fts_own (ob := ob) rfl s0] at h
    exact ⟨rfl, .inr h⟩
  · cases e
    obtain ⟨u, eu, _⟩ := o.at_
    exact ⟨s0, u, eu⟩
  · have m : a ∈ feet H p ob := by
      rcases e with e | e
      · cases e; exact feet_head H _ ob
      · exact e
    obtain ⟨u, eu, _⟩ := o.feetAt m
    exact ⟨u, eu⟩
/-- THE RULE for a def that changes nothing handed in -/
theorem fn_pure {N ps : List Str} {k : Nat} {g : DSm} (F : FunD K x qual params body scope dvs kws f fd) (S : FnScope N ps scope)
    (hbody : ∀ (cdv : Value) (A : Around) (outer : List Env) (s : Shared) (H : Hp) (E : XK), Room k (A.deeper (envOfC qual scope s.heap.objs.size f cdv)) → DSs (cxOf CX0 P w K mg base N qual scope f cdv A outer s H E).nox false body g) :
    FnOk P w K mg base CX0 (k + 1) f fd ps (spP ⟨K, P, w⟩ ps.length (dfun N.length g)) := by
  refine F.ok S spP_len fun cdv A outer s H vs Q E hr h => ?_
  obtain ⟨dd, sv, hn, e, r, q⟩ := h
  have hpl : ps.length ≤ N.length := by have := congrArg List.length S.pre; rw [List.length_take] at this; omega
  have hlv : vs.length ≤ N.length := by rw [r.len, hn]; exact hpl
  unfold dfun at e
  obtain ⟨⟨fl, ds'⟩, e1, e⟩ := Option.bind_eq_some_iff.mp e
  refine ⟨_, ((hbody cdv A outer s H E hr).run ⟨H, none, []⟩ _ _ _ (.inl rfl) e1).nox, ?_⟩
  have S0 := srel_start hlv r
  -- the end
  have fin_ : ∀ {v : V} {σ' : Sg} {H' : Hp} {hd : List (Addr × HO)}, SRel ⟨K, P, w⟩ ⟨H, none, []⟩ ds' σ' H' hd → SVR ⟨K, P, w⟩ H' v sv → (∀ ob q, sv = .own ob → v = .ref q → ∀ a ∈ feet H' q ob, H a = none) → Q v H' := fun S1 rv nv => q _ _ (fun a o ha => S1.keep a o ha (fun z => by rcases z with z | z <;> cases z)) rv nv
  cases fl with
  | nx =>
    cases e
    exact ⟨S0, fun σ' H' _ S1 => fin_ S1 (.fz .non) fun _ _ z => by cases z⟩
  | brk => cases e
  | cont => cases e
  | ret rr =>
    refine ⟨S0, fun v σ' H' _ rv S1 => ?_⟩
    cases rv with
    | fz w =>
      cases e
      exact fin_ S1 (.fz w) fun _ _ z => by cases z
    | @own p1 ob1 w =>
      cases e
      have S1' : SRel _ ⟨H, none, []⟩ ds' σ' H' (hpO H' (feet H' p1 ob1)) := S1
      exact fin_ S1 (.own w) fun ob' q' z1 z2 a m => by
        cases z1; cases z2
        obtain ⟨o, eo, _⟩ := w.feetAt m
        exact (S1'.held a o (hpO_all eo m)).2.1
    | @slot i v hv =>
      have e : (match ds'[i]? with | some (some sv) => some sv | _ => none) = some sv := e
      split at e
      · rename_i sv' hs
        cases e
        obtain ⟨v', e1, r1⟩ := S1.slot i _ hs
        rw [hv] at e1; cases e1
        refine fin_ S1 r1 fun ob' q' z1 z2 a m => ?_
        subst z1 z2
        rcases S1.new i a (by rw [fts_own hs hv]; exact m) with z | ⟨_, z⟩
        · exact z
        · rcases z with z | z <;> cases z
      · cases e
/-- THE RULE for a def whose first argument is changed -/
theorem fn_io {N ps : List Str} {k : Nat} {g : DSm} (F : FunD K x qual params body scope dvs kws f fd) (S : FnScope N ps scope)
    (hbody : ∀ (cdv : Value) (A : Around) (outer : List Env) (s : Shared) (H : Hp) (E : XK), Room k (A.deeper (envOfC qual scope s.heap.objs.size f cdv)) → DSs (cxOf CX0 P w K mg base N qual scope f cdv A outer s H E).nox true body g) :
    FnOk P w K mg base CX0 (k + 1) f fd ps (spIo ⟨K, P, w⟩ ps.length (dfunIo N.length g)) := by
  refine F.ok S spIo_len fun cdv A outer s H vs Q E hr h => ?_
  obtain ⟨p, ob, vs', dd, sv, s0, rfl, hn, e, ho, r, q⟩ := h
  have hpl : ps.length ≤ N.length := by have := congrArg List.length S.pre; rw [List.length_take] at this; omega
  have hlv : vs'.length + 1 ≤ N.length := by rw [r.len, hn]; exact hpl
  unfold dfunIo at e
  obtain ⟨⟨fl, ds'⟩, e1, e⟩ := Option.bind_eq_some_iff.mp e
  refine ⟨_, ((hbody cdv A outer s H E hr).run ⟨H, some p, feet H p ob⟩ _ _ _ (.inr rfl) e1).nox, ?_⟩
  have S0 := srel_startIo hlv r ho
  have fin_ : ∀ {v : V} {σ' : Sg} {H' : Hp} {hd : List (Addr × HO)}, SRel ⟨K, P, w⟩ ⟨H, some p, feet H p ob⟩ ds' σ' H' hd → ds'[0]? = some (some s0) → SVR ⟨K, P, w⟩ H' v sv → (∀ ob2 q, sv = .own ob2 → v = .ref q → ∀ a ∈ feet H' q ob2, H a = none ∧ a ∉ fts ds' σ' H' 0) → Q v H' := fun {v σ' H' hd} S1 h0 rv nv => by
    obtain ⟨v0, e0, r0⟩ := S1.slot 0 _ h0
    obtain ⟨e2, e3⟩ := S1.prot p rfl
    rw [e2] at e0; cases e0
    have f0 : fts ds' σ' H' 0 = ftSV H' p s0 := by
      unfold fts
      rw [h0, e2]
      cases s0 <;> rfl
    refine q _ _ (fun a o ha hne => S1.keep a o ha fun z => ?_) (fun a m => S1.live a (.inr m)) r0 rv (fun a m => ?_) fun ob2 q2 z1 z2 a m => by rw [← f0]; exact nv ob2 q2 z1 z2 a m
    · rcases z with z | z
      · cases z; exact hne (feet_head H _ ob)
      · exact hne z
    · rcases S1.new 0 a (by rw [f0]; exact m) with z | ⟨_, z⟩
      · exact .inr z
      · rcases z with z | z
        · cases z; exact .inl (feet_head H _ ob)
        · exact .inl z
  have get0 : ∀ {p' : Fl × DS}, (Option.bind (fin p') fun sv => match p'.2[0]? with | some (some s0) => some (sv, s0) | _ => none) = some (sv, s0) → fin p' = some sv ∧ p'.2[0]? = some (some s0) := fun h => by
    obtain ⟨sv', e1, h⟩ := Option.bind_eq_some_iff.mp h
    split at h
    · rename_i s0' hs
      cases h
      exact ⟨e1, hs⟩
    · cases h
  cases fl with
  | nx =>
    obtain ⟨e, h0⟩ := get0 (p' := (.nx, ds')) e
    cases e
    exact ⟨S0, fun σ' H' _ S1 => fin_ S1 h0 (.fz .non) fun _ _ z => by cases z⟩
  | brk => cases e
  | cont => cases e
  | ret rr =>
    refine ⟨S0, fun v σ' H' _ rv S1 => ?_⟩
    cases rv with
    | @fz v d w =>
      obtain ⟨e, h0⟩ := get0 (p' := (.ret (.fz d), ds')) e
      cases e
      exact fin_ S1 h0 (.fz w) fun _ _ z => by cases z
    | @own p1 ob1 w =>
      obtain ⟨e, h0⟩ := get0 (p' := (.ret (.own ob1), ds')) e
      cases e
      have S1' : SRel _ ⟨H, some p, feet H p ob⟩ ds' σ' H' (hpO H' (feet H' p1 ob1)) := S1
      exact fin_ S1 h0 (.own w) fun ob' q' z1 z2 a m => by
        cases z1; cases z2
        obtain ⟨o, eo, _⟩ := w.feetAt m
        obtain ⟨_, h2, _, _, h5⟩ := S1'.held a o (hpO_all eo m)
        exact ⟨h2, h5 0⟩
    | @slot i v hv =>
      cases i with
      | zero => cases e
      | succ i =>
        obtain ⟨e, h0⟩ := get0 (p' := (.ret (.slot (i + 1)), ds')) e
        have e : (match ds'[i + 1]? with | some (some sv) => some sv | _ => none) = some sv := e
        split at e
        · rename_i sv' hs
          cases e
          obtain ⟨v', e1, r1⟩ := S1.slot _ _ hs
          rw [hv] at e1; cases e1
          refine fin_ S1 h0 r1 fun ob' q' z1 z2 a m => ?_
          subst z1 z2
          have m' : a ∈ fts ds' σ' H' (i + 1) := by rw [fts_own hs hv]; exact m
          refine ⟨?_, fun z => by cases S1.inj _ _ a m' z⟩
          rcases S1.new _ a m' with z | ⟨z, _⟩
          · exact z
          · cases z
        · cases e
end

/-! ### calls -/
section
variable {K : Kx} {F : Fx} {ds ds' : DS} {σ σ' : Sg} {H H' : Hp} {hd hd' : List (Addr × HO)}
theorem SVR.at_ {v : V} {p : Addr} {sv : SV} (h : SVR K H (.ref p) sv) (hn : ∀ d, sv ≠ .fz d) : ∃ u, H p = some u := by
  cases h with
  | fz h => exact absurd rfl (hn _)
  | own h => obtain ⟨o, e, _⟩ := h.at_; exact ⟨o, e⟩
/-- a callee's result, at hand -/
theorem SRel.got {v : V} {sv : SV} (S : SRel K F ds σ H hd) (r : SVR K H v sv) (hn : ∀ ob q, sv = .own ob → v = .ref q → ∀ a ∈ feet H q ob, F.H0 a = none ∧ ¬ F.isJ a ∧ (∀ i, a ∉ fts ds σ H i) ∧ a ∉ hd.map (·.1)) : RRel K σ H v (svR sv) ∧ SRel K F ds σ H (hp H v (svR sv) ++ hd) := by
  cases r with
  | fz w => exact ⟨.fz w, by show SRel K F ds σ H (hp H v (.fz _) ++ hd); rw [hp_fz]; exact S⟩
  | @own p ob w =>
    refine ⟨.own w, ?_⟩
    show SRel K F ds σ H (hpO H (feet H p ob) ++ hd)
    have hm := hpO_map (H := H) (l := feet H p ob) fun a m => by
      obtain ⟨o, e, _⟩ := w.feetAt m
      exact ⟨o, e⟩
    exact { S with
      held := fun a u h => by
        rcases List.mem_append.mp h with h | h
        · obtain ⟨m, e⟩ := hpO_mem h
          obtain ⟨o, eo, b⟩ := w.feetAt m
          rw [e] at eo; cases eo
          obtain ⟨n1, n2, n3, n4⟩ := hn ob p rfl rfl a m
          exact ⟨e, n1, n2, b, n3⟩
        · exact S.held a u h
      hnd := by
        rw [List.map_append, List.nodup_append, hm]
        exact ⟨w.feetNodup, S.hnd, fun a ha b hb e => by subst e; exact (hn ob p rfl rfl a ha).2.2.2 hb⟩ }
/-- .. where it is new -/
theorem SRel.gotNew {v : V} {sv : SV} (S : SRel K F ds σ H hd) (sm : Same H H') (r : SVR K H' v sv) (hn : ∀ ob q, sv = .own ob → v = .ref q → ∀ a ∈ feet H' q ob, H a = none) : RRel K σ H' v (svR sv) ∧ SRel K F ds σ H' (hp H' v (svR sv) ++ hd) :=
  (S.grow sm).got r fun ob q z1 z2 a m => by
    have hq := hn ob q z1 z2 a m
    obtain ⟨b1, b2⟩ := S.fresh hq
    exact ⟨b1, b2, fun i => by rw [S.growFts sm i]; exact S.noSlot hq i, S.noHeld hq⟩
end
def eCall (sem : List D → Option SV) (fa : DAs) : DX := fun ds => Option.bind (fa ds) fun p => Option.bind (frRs p.1 p.2) fun q => Option.bind (sem q.1) fun sv => some (svR sv, q.2)
def eCallIo (sem : Ob → List D → Option (SV × SV)) (fa : DAs) : DX := fun ds => Option.bind (fa ds) fun p => match p.1 with
  | .slot i :: rs => Option.bind (frRs rs p.2) fun q => match q.2[i]? with
    | some (some (.own ob)) => Option.bind (sem ob q.1) fun z => some (svR z.1, q.2.set i (some z.2))
    | _ => none
  | _ => none
/-- C(..), an instance with fields of its own -/
def eMakeO (c : Str) (sem : Ob → List D → Option (SV × SV)) (fa : DAs) : DX := fun ds => Option.bind (fa ds) fun p => Option.bind (frRs p.1 p.2) fun q => Option.bind (sem (.insO c []) q.1) fun z => match z with
  | (.fz .non, .own ob) => some (.own ob, q.2)
  | _ => none
/-- C(..): its __init__ over the new instance -/
def eMake (c : Str) (sem : Ob → List D → Option (SV × SV)) (fa : DAs) : DX := fun ds => Option.bind (fa ds) fun p => Option.bind (frRs p.1 p.2) fun q => Option.bind (sem (.ins c []) q.1) fun z => match z with
  | (.fz .non, .own ob) => some (.own ob, q.2)
  | _ => none
section
variable {X : Cx} {io : Bool} {k : Nat} {f C : Addr} {fd : FuncData} {ps : List Str} {x m : Str} {p pos apos : Pos} {e o : Expr} {es : List Expr} {fa : DAs} {n : Nat}
/-- the reading of a def that changes nothing -/
theorem callP_read {sem : List D → Option SV} {F : Fx} {ds ds1 ds2 : DS} {rs : List R} {dd : List D} {sv : SV} {σ : Sg} {H : Hp} {Q : VK} {E : XK} (hn : dd.length = n) (e2 : frRs rs ds1 = some (dd, ds2)) (e3 : sem dd = some sv) (h : tD X.kx F ds (svR sv) ds2 σ H Q) :
    tCall (spP X.kx n sem) [] E (tFrzA (tDA X.kx F ds rs ds1)) σ H Q := by
  obtain ⟨hd, S, k⟩ := h
  refine ⟨hd, S, fun vs H1 x1 r1 S1 => ?_⟩
  obtain ⟨ps, k1⟩ := frs r1 S1 e2
  refine ⟨ps, k1.mono fun H2 ⟨x2, f2, S2⟩ => ?_⟩
  show spP X.kx n sem (vs ++ []) H2 Q E
  rw [List.append_nil]
  refine ⟨dd, sv, hn, e3, f2, fun v H3 sm rv nv => ?_⟩
  obtain ⟨a1, a2⟩ := S2.gotNew sm rv nv
  exact k v H3 ((x1.trans x2).trans (.of_same sm)) a1 a2
theorem d_call {sem : List D → Option SV} (F : FnOk X.prog X.w X.K X.mg X.base CX0 k f fd ps (spP X.kx n sem)) (hn : ∀ dd sv, sem dd = some sv → dd.length = n) (hr : Room k X.A) (hg : Gl X x) (hm : X.mg x = some (.ref f)) (hk : PySem.W.keepIn X.K (.ref f) = true) (hb : Binds X.K fd ps [])
    (ha : DA X io (e :: es) fa) (hdb : (x == ("__debug__" : Str)) = false := by decide) (he : starEach (e :: es) X.env = (false, eval e X.env) :: starEach es X.env := by rfl) (hpl : (backTo pos (starEach es X.env)).any (·.1) = false := by rfl) :
    DE X io (.Call (.Name x p) (e :: es) [] pos) (eCall sem fa) := by
  refine ⟨fun F' ds r ds' j q => ?_⟩
  unfold eCall at q
  obtain ⟨⟨rs, ds1⟩, e1, q⟩ := Option.bind_eq_some_iff.mp q
  obtain ⟨⟨dd, ds2⟩, e2, q⟩ := Option.bind_eq_some_iff.mp q
  obtain ⟨sv, e3, q⟩ := Option.bind_eq_some_iff.mp q
  cases q
  exact PE.weak (pe_call F hr hg hm hk hb .nil pass0 (pa_frz (ha.run F' _ _ _ j e1)) hdb he hpl) fun σ H Q h => callP_read (hn _ _ e3) e2 e3 h
theorem d_call0 {sem : List D → Option SV} (F : FnOk X.prog X.w X.K X.mg X.base CX0 k f fd ps (spP X.kx n sem)) (hn : ∀ dd sv, sem dd = some sv → dd.length = n) (hr : Room k X.A) (hg : Gl X x) (hm : X.mg x = some (.ref f)) (hk : PySem.W.keepIn X.K (.ref f) = true) (hb : Binds X.K fd ps [])
    (hdb : (x == ("__debug__" : Str)) = false := by decide) : DE X io (.Call (.Name x p) [] [] pos) (eCall sem aNil) := by
  refine ⟨fun F' ds r ds' j q => ?_⟩
  unfold eCall at q
  obtain ⟨⟨rs, ds1⟩, e1, q⟩ := Option.bind_eq_some_iff.mp q
  obtain ⟨⟨dd, ds2⟩, e2, q⟩ := Option.bind_eq_some_iff.mp q
  obtain ⟨sv, e3, q⟩ := Option.bind_eq_some_iff.mp q
  cases q
  cases e1
  cases e2
  refine PE.weak (pe_call0 F hr hg hm hk hb .nil pass0 hdb) fun σ H Q h => ?_
  obtain ⟨hd, S, k⟩ := h
  refine ⟨[], sv, hn _ _ e3, e3, .nil, fun v H3 sm rv nv => ?_⟩
  obtain ⟨a1, a2⟩ := S.gotNew sm rv nv
  exact k v H3 (.of_same sm) a1 a2
theorem Ow.but {K : Kx} {H H' : Hp} {p : Addr} {ob : Ob} (w : Ow K H p ob) (k : ∀ a o, H a = some o → a ∉ feet H p ob → H' a = some o) : Ext H H' := by
  refine ⟨fun a xs e => k a _ e fun z => ?_, fun a o u e => k a _ e fun z => ?_⟩
  · obtain ⟨o', eo, b⟩ := w.feetAt z
    rw [eo] at e; exact b.notup xs (Option.some.inj e)
  · obtain ⟨o', eo, b⟩ := w.feetAt z
    rw [eo] at e; exact b.nofrz o u (Option.some.inj e)
/-- a callee has changed the object of slot i -/
theorem io_after {F : Fx} {ds : DS} {σ : Sg} {H H' : Hp} {hd : List (Addr × HO)} {i : Nat} {ob : Ob} {p : Addr} {sv s0 : SV} {v : V} (S : SRel X.kx F ds σ H hd) (hi : ds[i]? = some (some (.own ob))) (hp : σ[i]? = some (some (V.ref p))) (hw : Ow X.kx H p ob) (k : ∀ a o, H a = some o → a ∉ feet H p ob → H' a = some o) (hs : ∀ a ∈ feet H p ob, ∃ u, H' a = some u)
    (r0 : SVR X.kx H' (.ref p) s0) (rv : SVR X.kx H' v sv) (hf : ∀ a ∈ ftSV H' p s0, a ∈ feet H p ob ∨ H a = none) (nv : ∀ ob2 q, sv = .own ob2 → v = .ref q → ∀ a ∈ feet H' q ob2, H a = none ∧ a ∉ ftSV H' p s0) : Ext H H' ∧ RRel X.kx σ H' v (svR sv) ∧ SRel X.kx F (ds.set i (some s0)) σ H' (DL.hp H' v (svR sv) ++ hd) := by
  have x : Ext H H' := hw.but k
  have S1 := S.chg hi hp x k hs r0 hf
  have il : i < ds.length := (List.getElem?_eq_some_iff.mp hi).1
  obtain ⟨a1, a2⟩ := S1.got rv fun ob' q z1 z2 a m => by
    obtain ⟨hq, hq2⟩ := nv ob' q z1 z2 a m
    obtain ⟨b1, b2⟩ := S.fresh hq
    refine ⟨b1, b2, fun j z => ?_, S.noHeld hq⟩
    by_cases hij : i = j
    · subst hij
      apply hq2
      unfold fts at z
      rw [List.getElem?_set_self il, hp] at z
      cases s0 <;> exact z
    · rw [fts_congr H' (List.getElem?_set_ne hij) rfl, (S.ftsEq2 hij (H' := H') fun b o e mb => k b o e (by rw [← fts_own hi hp]; exact mb)).2] at z
      exact S.noSlot hq j z
  exact ⟨x, a1, a2⟩
end
end DL
/-! DL7: calls that change an owned object, instances made, fields. -/
namespace DL
open PySem PySem.Spec PyProof.Rows L2
section
variable {X : Cx} {io : Bool} {k : Nat} {f C : Addr} {fd : FuncData} {ps : List Str} {x m : Str} {p pos apos : Pos} {e o : Expr} {es : List Expr} {fa : DAs} {n : Nat}
/-- the reading of a def that changes slot i's object, with its arguments at hand -/
theorem callIo_end {sem : Ob → List D → Option (SV × SV)} {F : Fx} {ds2 : DS} {i : Nat} {ob : Ob} {vs : List V} {dd : List D} {sv s0 : SV} {σ : Sg} {H0 H2 : Hp} {hd : List (Addr × HO)} {Q : VK} {E : XK} {v0 : V} (hn : dd.length + 1 = n) (e3 : sem ob dd = some (sv, s0)) (x0 : Ext H0 H2) (S2 : SRel X.kx F ds2 σ H2 hd)
    (hv : σ[i]? = some (some v0)) (hi : ds2[i]? = some (some (.own ob))) (f2 : FzL X.kx H2 vs dd) (k : ∀ v H', Ext H0 H' → RRel X.kx σ H' v (svR sv) → SRel X.kx F (ds2.set i (some s0)) σ H' (DL.hp H' v (svR sv) ++ hd) → Q v H') : spIo X.kx n sem (v0 :: vs) H2 Q E := by
  obtain ⟨q, e1, w⟩ := S2.own hi
  rw [hv] at e1; cases e1
  refine ⟨q, ob, vs, dd, sv, s0, rfl, hn, e3, w, f2, fun v H3 kk hs r0 rv hf nv => ?_⟩
  obtain ⟨a1, a2, a3⟩ := io_after S2 hi hv w kk hs r0 rv hf nv
  exact k v H3 (x0.trans a1) a2 a3
/-- f(x, ..), f changes x's object -/
theorem d_callIo {sem : Ob → List D → Option (SV × SV)} (F : FnOk X.prog X.w X.K X.mg X.base CX0 k f fd ps (spIo X.kx n sem)) (hn : ∀ ob dd r, sem ob dd = some r → dd.length + 1 = n) (hr : Room k X.A) (hg : Gl X x) (hm : X.mg x = some (.ref f)) (hk : PySem.W.keepIn X.K (.ref f) = true) (hb : Binds X.K fd ps [])
    (ha : DA X io (e :: es) fa) (hdb : (x == ("__debug__" : Str)) = false := by decide) (he : starEach (e :: es) X.env = (false, eval e X.env) :: starEach es X.env := by rfl) (hpl : (backTo pos (starEach es X.env)).any (·.1) = false := by rfl) :
    DE X io (.Call (.Name x p) (e :: es) [] pos) (eCallIo sem fa) := by
  refine ⟨fun F' ds r ds' j q => ?_⟩
  unfold eCallIo at q
  obtain ⟨⟨rs0, ds1⟩, e1, q⟩ := Option.bind_eq_some_iff.mp q
  dsimp only at q
  split at q
  · rename_i i rs
    obtain ⟨⟨dd, ds2⟩, e2, q⟩ := Option.bind_eq_some_iff.mp q
    dsimp only at q
    split at q
    · rename_i ob hi
      obtain ⟨⟨sv, s0⟩, e3, q⟩ := Option.bind_eq_some_iff.mp q
      cases q
      refine PE.weak (pe_call F hr hg hm hk hb .nil pass0 (pa_frz (ha.run F' _ _ _ j e1)) hdb he hpl) fun σ H Q ⟨hd, S, kq⟩ => ?_
      refine ⟨hd, S, fun vs H1 x1 r1 S1 => ?_⟩
      cases r1 with
      | cons r0 rr =>
        cases r0 with
        | slot hv =>
          have S1 : SRel X.kx F' ds1 σ H1 ((hps H1 _ rs ++ DL.hp H1 _ (.slot i)) ++ hd) := S1
          rw [hp_slot, List.append_nil] at S1
          obtain ⟨ps', k1⟩ := frs rr S1 e2
          refine ⟨ps', k1.mono fun H2 ⟨x2, f2, S2⟩ => ?_⟩
          show spIo X.kx n sem (_ ++ []) H2 Q _
          rw [List.append_nil]
          exact callIo_end (hn _ _ _ e3) e3 (x1.trans x2) S2 hv hi f2 kq
    · cases q
  · cases q
/-- o.m(e, ..), m changes o: o a name -/
def eMeth (c : Str) (sem : Ob → List D → Option (SV × SV)) (fo : DX) (fa : DAs) : DX := fun ds => Option.bind (fo ds) fun p => match p.1 with
  | .slot i => match p.2[i]? with
    | some (some (.own (.ins c' fs0))) => if c' = c ∧ (fs0.lookup c).isSome = false then
        Option.bind (fa p.2) fun a => Option.bind (frRs a.1 a.2) fun q => (match q.2[i]? with
          | some (some (.own ob)) => Option.bind (sem ob q.1) fun z => some (svR z.1, q.2.set i (some z.2))
          | _ => none) else none
    | _ => none
  | _ => none
/-- the reading of C(..): ob0 is the new instance, without fields -/
theorem make_end {c : Str} {ob0 : Ob} {sem : Ob → List D → Option (SV × SV)} {F : Fx} {ds2 : DS} {dd : List D} {ob : Ob} {σ : Sg} {H1 : Hp} {H0 : Hp} {hd : List (Addr × HO)} {Q : VK} {vs : List V} (h0 : ∀ {H : Hp} {a dx : Addr}, H a = some (.ins (He.ga X.K c) dx []) → Ow X.kx H a ob0 ∧ feet H a ob0 = [a])
    (hn : ∀ ob dd r, sem ob dd = some r → dd.length + 1 = n) (e3 : sem ob0 dd = some (.fz .non, .own ob)) (x1 : Ext H0 H1) {H2 : Hp} (x2 : Ext H1 H2) (f2 : FzL X.kx H2 vs dd) (S2 : SRel X.kx F ds2 σ H2 hd)
    (kq : ∀ v H', Ext H0 H' → RRel X.kx σ H' v (.own ob) → SRel X.kx F ds2 σ H' (DL.hp H' v (.own ob) ++ hd) → Q v H') {a dx : Addr} (na : H2 a = none) (nd : H2 dx = none) (E : XK) :
    spIo X.kx n sem (.ref a :: vs) (upd (upd H2 dx (.own a)) a (.ins (He.ga X.K c) dx [])) (fun v H3 => v = .non ∧ Q (.ref a) H3) E := by
  have sm : Same H2 (upd (upd H2 dx (.own a)) a (.ins (He.ga X.K c) dx [])) := fun b u eb => by
    rw [upd_ne (ne_of_none eb na), upd_ne (ne_of_none eb nd)]; exact eb
  obtain ⟨w0, fe⟩ := h0 (H := upd (upd H2 dx (.own a)) a (.ins (He.ga X.K c) dx [])) (a := a) (dx := dx) upd_same
  refine ⟨a, ob0, vs, dd, _, _, rfl, hn _ _ _ e3, e3, w0, f2.ext (.of_same sm), fun v H3 kk hs r0 rv hf nv => ?_⟩
  have sm3 : Same H2 H3 := fun b u eb => kk b u (sm b u eb) (by rw [fe]; exact fun z => ne_of_none eb na (List.mem_singleton.mp z))
  cases rv with
  | fz rv =>
    cases rv
    refine ⟨rfl, ?_⟩
    obtain ⟨a1, a2⟩ := S2.gotNew sm3 (sv := .own ob) r0 fun ob' q z1 z2 b m => by
      cases z1; cases z2
      rcases hf b m with z | z
      · rw [fe] at z
        rw [List.mem_singleton.mp z]; exact na
      · by_cases e : b = a
        · rw [e]; exact na
        · rw [upd_ne e] at z
          by_cases e2 : b = dx
          · rw [e2]; exact nd
          · rw [upd_ne e2] at z; exact z
    exact kq _ H3 ((x1.trans x2).trans (.of_same sm3)) a1 a2
/-- C(e, ..) -/
theorem d_make {c : Str} {sem : Ob → List D → Option (SV × SV)} (M : Mk X.K (He.ga X.K c) f) (F : FnOk X.prog X.w X.K X.mg X.base CX0 k f fd ps (spIo X.kx n sem)) (hn : ∀ ob dd r, sem ob dd = some r → dd.length + 1 = n) (hr : Room (k + 1) X.A) (hg : Gl X x) (hm : X.mg x = some (.ref (He.ga X.K c))) (hb : Binds X.K fd ps [])
    (ha : DA X io (e :: es) fa) (hdb : (x == ("__debug__" : Str)) = false := by decide) (he : starEach (e :: es) X.env = (false, eval e X.env) :: starEach es X.env := by rfl) (hpl : (backTo pos (starEach es X.env)).any (·.1) = false := by rfl) :
    DE X io (.Call (.Name x p) (e :: es) [] pos) (eMake c sem fa) := by
  refine ⟨fun F' ds r ds' j q => ?_⟩
  unfold eMake at q
  obtain ⟨⟨rs, ds1⟩, e1, q⟩ := Option.bind_eq_some_iff.mp q
  obtain ⟨⟨dd, ds2⟩, e2, q⟩ := Option.bind_eq_some_iff.mp q
  obtain ⟨⟨sv, s0⟩, e3, q⟩ := Option.bind_eq_some_iff.mp q
  dsimp only at q
  split at q
  · rename_i ob hz
    cases hz
    cases q
    refine PE.weak (pe_make M F hr hg hm hb .nil pass0 (pa_frz (ha.run F' _ _ _ j e1)) hdb he hpl) fun σ H Q ⟨hd, S, kq⟩ => ?_
    refine ⟨hd, S, fun vs H1 x1 r1 S1 => ?_⟩
    obtain ⟨ps', k1⟩ := frs r1 S1 e2
    refine ⟨ps', k1.mono fun H2 ⟨x2, f2, S2⟩ => ?_⟩
    intro a dx na nd ne
    show spIo X.kx n sem (.ref a :: (vs ++ [])) _ _ _
    rw [List.append_nil]
    exact make_end (fun h => ⟨.ins h .nil, rfl⟩) hn e3 x1 x2 f2 S2 kq na nd _
  · cases q

/-- C(e, ..) -/
theorem d_makeO {c : Str} {sem : Ob → List D → Option (SV × SV)} (M : Mk X.K (He.ga X.K c) f) (F : FnOk X.prog X.w X.K X.mg X.base CX0 k f fd ps (spIo X.kx n sem)) (hn : ∀ ob dd r, sem ob dd = some r → dd.length + 1 = n) (hr : Room (k + 1) X.A) (hg : Gl X x) (hm : X.mg x = some (.ref (He.ga X.K c))) (hb : Binds X.K fd ps [])
    (ha : DA X io (e :: es) fa) (hdb : (x == ("__debug__" : Str)) = false := by decide) (he : starEach (e :: es) X.env = (false, eval e X.env) :: starEach es X.env := by rfl) (hpl : (backTo pos (starEach es X.env)).any (·.1) = false := by rfl) :
    DE X io (.Call (.Name x p) (e :: es) [] pos) (eMakeO c sem fa) := by
  refine ⟨fun F' ds r ds' j q => ?_⟩
  unfold eMakeO at q
  obtain ⟨⟨rs, ds1⟩, e1, q⟩ := Option.bind_eq_some_iff.mp q
  obtain ⟨⟨dd, ds2⟩, e2, q⟩ := Option.bind_eq_some_iff.mp q
  obtain ⟨⟨sv, s0⟩, e3, q⟩ := Option.bind_eq_some_iff.mp q
  dsimp only at q
  split at q
  · rename_i ob hz
    cases hz
    cases q
    refine PE.weak (pe_make M F hr hg hm hb .nil pass0 (pa_frz (ha.run F' _ _ _ j e1)) hdb he hpl) fun σ H Q ⟨hd, S, kq⟩ => ?_
    refine ⟨hd, S, fun vs H1 x1 r1 S1 => ?_⟩
    obtain ⟨ps', k1⟩ := frs r1 S1 e2
    refine ⟨ps', k1.mono fun H2 ⟨x2, f2, S2⟩ => ?_⟩
    intro a dx na nd ne
    show spIo X.kx n sem (.ref a :: (vs ++ [])) _ _ _
    rw [List.append_nil]
    exact make_end (fun h => ⟨.insO h .nil (List.nodup_cons.mpr ⟨by simp [kidsF], List.nodup_nil⟩), feet_insO _ _ h⟩) hn e3 x1 x2 f2 S2 kq na nd _
  · cases q

/-! ### fields -/
theorem ins_getR {P : Program} {w : World} {H : Hp} {h : Heap} {a C dx : Addr} {fs : List (Str × V)} (hok : HOk P w H h) (e : Rd H a (.ins C dx fs)) : ∃ mA, ObjM h a dx C mA ∧ (∀ f, RelO (fs.lookup f) (mA f)) := by
  obtain ⟨d, z, ne, ob, mA, n, r, q⟩ := (show ObjOk P w H h a (.ins C dx fs) from e.ok hok)
  exact ⟨mA, ⟨ob, n, ne⟩, r⟩
theorem getattrR_ok {pins : List (Addr × Obj)} {σ : Sg} {H : Hp} {s : Shared} {a C dx : Addr} {fs : List (Str × V)} {f : Str} {v : V} {A : Around} {E : Value → Shared → Prop} {b : Bool} {Q : Value → Shared → Prop} (I : L2.Inv X pins σ H s) (e : Rd H a (.ins C dx fs)) (c : Cls X.K C) (n : NoAttr X.K C f) (l : fs.lookup f = some v)
    (h : ∀ u s', L2.Inv X pins σ H s' → RelV v u → Q u s') : wpAny (model X.prog X.w) A (getAttr (.ref a) f b) Q E s := by
  obtain ⟨mA, O, r⟩ := ins_getR I.hok e
  obtain ⟨u, hu, ru⟩ := RelO.some_of (v := v) (o := mA f) (by rw [← l]; exact r f)
  exact get_map I.kIn O (c.get f) c.hd n hu (handed_of ru) (h u _ (I.tok _) ru)
def tFldR (K : PySem.W.Frag) (ta : TE) (f : Str) : TE := fun σ H Q => ta σ H fun x H1 => ∃ a C dx fs v, x = .ref a ∧ Rd H1 a (.ins C dx fs) ∧ Cls K C ∧ NoAttr K C f ∧ fs.lookup f = some v ∧ Q v H1
theorem pe_fldR {ta : TE} {f : Str} (he : PE X e ta) (hb : attributeBase e f X.env (eval e X.env) = eval e X.env) : PE X (.Attribute e f pos) (tFldR X.K ta f) := by
  refine ⟨fun pins s σ H Q I h => ?_⟩
  refine attr_of hb (thn (he.run pins s σ H _ I h) fun u s1 ⟨x, H1, I1, rx, a, C, dx, fs, v, ex, ea, c, n, l, q⟩ => ?_)
  subst ex
  obtain rfl : u = Value.ref a := rx
  exact getattrR_ok I1 ea c n l fun u' s2 I2 ru => ⟨v, H1, I2, ru, q⟩
def R.plain (ds : DS) : R → Bool
  | .own o => o.simple
  | .slot i => match ds[i]? with
    | some (some (.own o)) => o.simple
    | _ => true
  | .fz _ => true
def eFld (c f : Str) (fe : DX) : DX := fun ds => Option.bind (fe ds) fun p => if p.1.plain p.2 = true then (match p.1.val p.2 with
  | some (.ins c' fs) => if c' = c then Option.bind (fs.lookup f) fun x => some (.fz x, p.2) else none
  | _ => none) else none
theorem Rp.insP {K : Kx} {F : Fx} {ds : DS} {σ : Sg} {H : Hp} {hd : List (Addr × HO)} {v : V} {r : R} {c : Str} {fs : List (Str × D)} (h : RRel K σ H v r) (S : SRel K F ds σ H hd) (e : r.val ds = some (.ins c fs)) (hp : r.plain ds = true) : ∃ a dx vs, v = .ref a ∧ Rd H a (.ins (He.ga K.F c) dx vs) ∧ FzF K H vs fs := by
  have fzc : ∀ {v : V}, Fz K H v (.ins c fs) → ∃ a dx vs, v = .ref a ∧ Rd H a (.ins (He.ga K.F c) dx vs) ∧ FzF K H vs fs := fun {v} h => by
    cases h with
    | ins h r => exact ⟨_, _, _, rfl, .inr ⟨_, h⟩, r⟩
  have owc : ∀ {p : Addr} {ob : Ob}, Ow K H p ob → ob.simple = true → ob.d = .ins c fs → ∃ a dx vs, V.ref p = .ref a ∧ Rd H a (.ins (He.ga K.F c) dx vs) ∧ FzF K H vs fs := fun {p ob} w hs e => by
    cases w with
    | ins h r => cases e; exact ⟨_, _, _, rfl, .inl h, r⟩
    | insO _ _ _ => cases hs
    | lst _ _ => cases e
    | dctK _ _ => cases e
    | dctT _ _ => cases e
  cases h with
  | fz h => cases e; exact fzc h
  | own h => exact owc h hp (Option.some.inj e)
  | @slot i v h =>
    have e : (match ds[i]? with
      | some (some sv) => some sv.d
      | _ => none) = some (.ins c fs) := e
    have hp : (match ds[i]? with
      | some (some (.own o)) => o.simple
      | _ => true) = true := hp
    split at e
    · rename_i sv q
      rw [q] at hp
      obtain ⟨v', e1, r⟩ := S.slot i sv q
      rw [h] at e1; cases e1
      cases r with
      | fz r => exact fzc (Option.some.inj e ▸ r)
      | own r => exact owc r hp (Option.some.inj e)
    · cases e
theorem Rp.insC {K : Kx} {H : Hp} {v : V} {c : Str} {fs : List (Str × D)} (h : Rp K H v (.ins c fs)) : ∃ a dx vs, v = .ref a ∧ Rd H a (.ins (He.ga K.F c) dx vs) := by
  rcases h with h | ⟨p, ob, rfl, w, e⟩
  · cases h with
    | ins h r => exact ⟨_, _, _, rfl, .inr ⟨_, h⟩⟩
  · cases w with
    | ins h r => cases e; exact ⟨_, _, _, rfl, .inl h⟩
    | insO h r n => cases e; exact ⟨_, _, _, rfl, .inl h⟩
    | lst _ _ => cases e
    | dctK _ _ => cases e
    | dctT _ _ => cases e
theorem d_fld {c g : Str} {fe : DX} (hc : Cls X.K (He.ga X.K c)) (hna : NoAttr X.K (He.ga X.K c) g) (he : DE X io e fe) (hb : attributeBase e g X.env (eval e X.env) = eval e X.env := by rfl) : DE X io (.Attribute e g pos) (eFld c g fe) := by
  refine ⟨fun F ds r ds' j q => ?_⟩
  unfold eFld at q
  obtain ⟨⟨r1, ds1⟩, e1, q⟩ := Option.bind_eq_some_iff.mp q
  dsimp only at q
  by_cases hpl : r1.plain ds1 = true
  case neg => rw [if_neg hpl] at q; cases q
  rw [if_pos hpl] at q
  split at q
  · rename_i c' fs hv
    by_cases hcc : c' = c
    · rw [if_pos hcc] at q
      obtain ⟨d, e2, q⟩ := Option.bind_eq_some_iff.mp q
      cases q
      subst hcc
      refine PE.weak (pe_fldR (he.run F _ _ _ j e1) hb) fun σ H Q ⟨hd, S, k⟩ => ⟨hd, S, fun v H1 x1 r1 S1 => ?_⟩
      obtain ⟨a, dx, vs, rfl, hr, w⟩ := Rp.insP r1 S1 hv hpl
      obtain ⟨v', l, w'⟩ := w.look e2
      exact ⟨a, _, dx, vs, v', rfl, hr, hc, hna, l, k v' H1 x1 (.fz w') (by rw [hp_fz]; exact S1.drop (List.sublist_append_right _ _))⟩
    · rw [if_neg hcc] at q; cases q
  · cases q
/-- o.g = e, o a name of an owned instance -/
def sFldSet (c g : Str) (fo fv : DX) : DSm := fun ds => Option.bind (fv ds) fun p => Option.bind (frR p.1 p.2) fun q => Option.bind (fo q.2) fun z => match z.1 with
  | .slot i => match z.2[i]? with
    | some (some (.own (.ins c' fs))) => if c' = c ∧ fs.length < 1000 then some (.nx, z.2.set i (some (.own (.ins c (putD g q.1 fs))))) else none
    | _ => none
  | _ => none
theorem ds_fld {c g : Str} {fo fv : DX} {value : Expr} {pos pos' : Pos} (hc : Cls X.K (He.ga X.K c)) (hna : NoAttr X.K (He.ga X.K c) g) (ho : DE X io o fo) (hv : DE X io value fv) (hs : swapsWith value (some (.Attribute o g pos')) pos.line X.env = pure false := by rfl) : DStm X io (.Assign [.Attribute o g pos'] value pos) (sFldSet c g fo fv) := by
  refine ⟨fun F ds fl ds' j q => ?_⟩
  unfold sFldSet at q
  obtain ⟨⟨r1, ds1⟩, e1, q⟩ := Option.bind_eq_some_iff.mp q
  obtain ⟨⟨d, ds2⟩, e2, q⟩ := Option.bind_eq_some_iff.mp q
  obtain ⟨⟨r3, ds3⟩, e3, q⟩ := Option.bind_eq_some_iff.mp q
  dsimp only at q
  split at q
  · rename_i i
    split at q
    · rename_i c' fs hi
      by_cases hcc : c' = c ∧ fs.length < 1000
      · rw [if_pos hcc] at q
        obtain ⟨rfl, hl⟩ := hcc
        cases q
        refine PS.weak (ps_fld (ho.run F _ _ _ j e3) (pe_frz (hv.run F _ _ _ j e1)) hs) fun D σ H h => ?_
        refine ⟨[], h.1, fun y H1 x1 r1 S1 => ?_⟩
        obtain ⟨ps, k1⟩ := fr1 r1 S1 e2
        refine ⟨ps, k1.mono fun H2 ⟨x2, w, S2⟩ => ⟨[], S2, fun v H3 x3 r3 S3 => ?_⟩⟩
        cases r3 with
        | slot hv =>
          rw [hp_slot] at S3
          have S3 : SRel X.kx F ds3 σ H3 [] := S3
          obtain ⟨a, e4, w4⟩ := S3.own hi
          rw [hv] at e4; cases e4
          have w4' := w4
          cases w4 with
          | @ins dx _ vs _ h4 f4 =>
            refine ⟨a, _, dx, vs, rfl, h4, hc, hna, by rw [f4.len]; exact hl, ?_⟩
            have xx := w4'.ext (.ins (He.ga X.K c') dx (putF g y vs))
            refine h.2 σ _ (((x1.trans x2).trans x3).trans xx) (S3.sset hi hv (.own (.ins upd_same ?_)))
            exact ((f4.put (w.ext x3))).ext xx
      · rw [if_neg hcc] at q; cases q
    · cases q
  · cases q
end
end DL
/-! DL8: operators by values. -/
namespace DL
open PySem PySem.Spec PyProof.Rows L2
open PySem.W (alike dataLt)

/-! ### trees as the library's data -/
mutual
def D.py : D → PyData
  | .non => .none
  | .bl b => .bool b
  | .int i => .int i
  | .str x => .str x
  | .tup xs => .tuple (D.pys xs)
  | .lst xs => .list (D.pys xs)
  | .dct _ _ => .none
  | .ins _ _ => .none
def D.pys : List D → List PyData
  | [] => []
  | d :: ds => D.py d :: D.pys ds
end
mutual
/-- no dict, no instance within -/
def D.pl : D → Bool
  | .tup xs => D.pls xs
  | .lst xs => D.pls xs
  | .dct _ _ => false
  | .ins _ _ => false
  | _ => true
def D.pls : List D → Bool
  | [] => true
  | d :: ds => D.pl d && D.pls ds
end
mutual
theorem D.plain : ∀ d : D, d.py.plain = true
  | .non => rfl
  | .bl _ => rfl
  | .int _ => rfl
  | .str _ => rfl
  | .tup xs => by rw [D.py, PyData.plain]; exact D.plains xs
  | .lst xs => by rw [D.py, PyData.plain]; exact D.plains xs
  | .dct _ _ => rfl
  | .ins _ _ => rfl
theorem D.plains : ∀ ds : List D, PyData.plainAll (D.pys ds) = true
  | [] => rfl
  | d :: ds => by rw [D.pys, PyData.plainAll, D.plain d, D.plains ds]; rfl
end
/-- data that may be compared -/
def okPy (d : D) : Bool := d.pl && decide (d.py.depth ≤ 60)
theorem okPy_pl {d : D} (h : okPy d = true) : d.pl = true := (Bool.and_eq_true_iff.mp h).1
theorem okPy_dep {d : D} (h : okPy d = true) : d.py.depth ≤ 60 := of_decide_eq_true (Bool.and_eq_true_iff.mp h).2
section
variable {X : Cx} {pins : List (Addr × Obj)} {σ : Sg} {H : Hp} {s : Shared}
mutual
theorem Fz.reads (I : L2.Inv X pins σ H s) : ∀ {d : D} {v : V} {u : Value}, Fz X.kx H v d → d.pl = true → RelV v u → ∃ as, Reads s.heap u d.py as
  | _, _, _, .non, _, r => by cases r; exact ⟨_, Reads.none⟩
  | _, _, _, .bl b, _, r => by cases r; exact ⟨_, Reads.bool b⟩
  | _, _, _, .int i, _, r => by obtain ⟨t, rfl⟩ := r; exact ⟨_, Reads.int i t⟩
  | _, _, _, .str x, _, r => by obtain ⟨t, rfl⟩ := r; exact ⟨_, Reads.str x t⟩
  | _, _, _, .tup (ds := ds) hq w, hp, r => by
    cases r
    rw [D.pl] at hp
    obtain ⟨its, rv, ⟨o, ho, hc, n, hd⟩, _⟩ := I.tuple hq
    obtain ⟨as, q⟩ := FzL.reads I w hp rv
    rw [D.py]
    exact ⟨_, Reads.tuple ho hc hd q⟩
  | _, _, _, .lst (ds := ds) (o := ob) hq w, hp, r => by
    cases r
    rw [D.pl] at hp
    obtain ⟨its, rv, ⟨o, n, ho, hc, _, hd⟩, _⟩ := I.list (.inl (.inr ⟨ob, hq⟩))
    obtain ⟨as, q⟩ := FzL.reads I w hp rv
    rw [D.py]
    exact ⟨_, Reads.list ho hc hd q⟩
  | _, _, _, .lstW (ds := ds) hq w, hp, r => by
    cases r
    rw [D.pl] at hp
    obtain ⟨its, rv, ⟨o, n, ho, hc, _, hd⟩, _⟩ := I.list hq.sq
    obtain ⟨as, q⟩ := FzL.reads I w hp rv
    rw [D.py]
    exact ⟨_, Reads.list ho hc hd q⟩
  | _, _, _, .dctK _ _, hp, _ => by cases hp
  | _, _, _, .dctT _ _, hp, _ => by cases hp
  | _, _, _, .ins _ _, hp, _ => by cases hp
theorem FzL.reads (I : L2.Inv X pins σ H s) : ∀ {ds : List D} {vs : List V} {us : List Value}, FzL X.kx H vs ds → D.pls ds = true → Vals vs us → ∃ as, ReadsAll s.heap us (D.pys ds) as
  | _, _, _, .nil, _, r => by cases r; exact ⟨_, ReadsAll.nil⟩
  | _, _, _, .cons (d := d) (ds := ds) h w, hp, r => by
    cases r with
    | cons r1 r2 =>
      rw [D.pls, Bool.and_eq_true] at hp
      obtain ⟨as, q1⟩ := Fz.reads I h hp.1 r1
      obtain ⟨bs, q2⟩ := FzL.reads I w hp.2 r2
      rw [D.pys]
      exact ⟨_, ReadsAll.cons q1 q2⟩
end
theorem Rp.reads (I : L2.Inv X pins σ H s) {d : D} {v : V} {u : Value} (h : Rp X.kx H v d) (hp : d.pl = true) (r : RelV v u) : ∃ as, Reads s.heap u d.py as := by
  rcases h with h | ⟨p, ob, rfl, w, rfl⟩
  · exact h.reads I hp r
  · cases w with
    | lst hq w =>
      cases r
      rw [Ob.d, D.pl] at hp
      obtain ⟨its, rv, ⟨o, n, ho, hc, _, hd⟩, _⟩ := I.list (SqL.of hq)
      obtain ⟨as, q⟩ := w.reads I hp rv
      rw [Ob.d, D.py]
      exact ⟨_, Reads.list ho hc hd q⟩
    | dctK _ _ => cases hp
    | dctT _ _ => cases hp
    | ins _ _ => cases hp
    | insO _ _ _ => cases hp
/-- a list, a tuple to be read -/
theorem Rp.lst {K : Kx} {v : V} {ds : List D} (h : Rp K H v (.lst ds)) : ∃ a vs, v = .ref a ∧ LsX K.F H a vs ∧ FzL K H vs ds := by
  rcases h with h | ⟨p, ob, rfl, w, e⟩
  · cases h with
    | lst h w => exact ⟨_, _, rfl, .inl (.inr ⟨_, h⟩), w⟩
    | lstW h w => exact ⟨_, _, rfl, .inr h, w⟩
  · cases w with
    | lst h w => cases e; exact ⟨_, _, rfl, .inl (.inl h), w⟩
    | dctK _ _ => cases e
    | dctT _ _ => cases e
    | ins _ _ => cases e
    | insO _ _ _ => cases e
theorem Rp.tup {K : Kx} {v : V} {ds : List D} (h : Rp K H v (.tup ds)) : ∃ a vs, v = .ref a ∧ SqT K.F H a vs ∧ FzL K H vs ds := by
  rcases h with h | ⟨p, ob, rfl, w, e⟩
  · cases h with
    | tup h w => exact ⟨_, _, rfl, h, w⟩
  · cases w with
    | lst h w => cases e
    | dctK _ _ => cases e
    | dctT _ _ => cases e
    | ins _ _ => cases e
    | insO _ _ _ => cases e
theorem Rp.int {K : Kx} {v : V} {i : Int} (h : Rp K H v (.int i)) : v = .int i := by
  rcases h with h | ⟨p, ob, rfl, w, e⟩
  · cases h; rfl
  · cases w <;> cases e
theorem Rp.bl {K : Kx} {v : V} {i : Bool} (h : Rp K H v (.bl i)) : v = .bl i := by
  rcases h with h | ⟨p, ob, rfl, w, e⟩
  · cases h; rfl
  · cases w <;> cases e
theorem Rp.str {K : Kx} {v : V} {i : Str} (h : Rp K H v (.str i)) : v = .str i := by
  rcases h with h | ⟨p, ob, rfl, w, e⟩
  · cases h; rfl
  · cases w <;> cases e
theorem Rp.non {K : Kx} {v : V} (h : Rp K H v .non) : v = .non := by
  rcases h with h | ⟨p, ob, rfl, w, e⟩
  · cases h; rfl
  · cases w <;> cases e
theorem Rp.fz {K : Kx} {v : V} {d : D} (h : Fz K H v d) : Rp K H v d := .inl h
end

/-! ### whole numbers -/
section
variable {X : Cx}
/-- an operator over ints, where C holds -/
def gI (C : Int → Int → Bool) (f : Int → Int → Int) : D → D → Option R
  | .int i, .int j => if C i j = true then some (.fz (.int (f i j))) else none
  | _, _ => none
theorem opd_int {op : Value → Value → Sem Value} {C : Int → Int → Prop} {Cb : Int → Int → Bool} {f : Int → Int → Int} (h : OpR X op (rI C fun i j => .int (f i j))) (hc : ∀ i j, Cb i j = true → C i j) : OpD X op (gI Cb f) := by
  refine ⟨fun dx dy r e => ?_⟩
  unfold gI at e
  split at e
  · rename_i i j
    by_cases c : Cb i j = true
    · rw [if_pos c] at e
      cases e
      refine ⟨fun i z => (by cases z), _, h, fun x y H Q rx ry k => ⟨i, j, rx.int, ry.int, hc i j c, k _ H (Same.refl H) (.int _)⟩⟩
    · rw [if_neg c] at e; cases e
  · cases e
theorem opd_int0 {op : Value → Value → Sem Value} {f : Int → Int → Int} (h : OpR X op (rI0 fun i j => .int (f i j))) : OpD X op (gI (fun _ _ => true) f) := by
  refine ⟨fun dx dy r e => ?_⟩
  unfold gI at e
  split at e
  · rename_i i j
    cases e
    refine ⟨fun i z => (by cases z), _, h, fun x y H Q rx ry k => ⟨i, j, rx.int, ry.int, k _ H (Same.refl H) (.int _)⟩⟩
  · cases e
def small64b (i : Int) : Bool := decide (-(2 ^ 64) < i) && decide (i < 2 ^ 64)
def cMul (i j : Int) : Bool := small64b i || small64b j
def cDivN (i j : Int) : Bool := decide (j ≠ 0) && decide (j.natAbs < 1073741824)
def cPow (i j : Int) : Bool := decide (0 ≤ j) && decide (j ≤ 1000000) && decide (i.natAbs < 2 ^ 64)
theorem small64b_ok {i : Int} (h : small64b i = true) : -(2 ^ 64) < i ∧ i < 2 ^ 64 := by
  unfold small64b at h
  rw [Bool.and_eq_true, decide_eq_true_eq, decide_eq_true_eq] at h
  exact h
theorem cMul_ok (i j : Int) (h : cMul i j = true) : CMul i j := by
  unfold cMul at h
  rw [Bool.or_eq_true] at h
  exact h.imp small64b_ok small64b_ok
theorem cDivN_ok (i j : Int) (h : cDivN i j = true) : CDivN i j := by
  unfold cDivN at h
  rw [Bool.and_eq_true, decide_eq_true_eq, decide_eq_true_eq] at h
  exact h
theorem cPow_ok (i j : Int) (h : cPow i j = true) : CPow i j := by
  unfold cPow at h
  rw [Bool.and_eq_true, Bool.and_eq_true, decide_eq_true_eq, decide_eq_true_eq, decide_eq_true_eq] at h
  exact ⟨h.1.1, h.1.2, h.2⟩
def gSub := gI (fun _ _ => true) (fun i j => i - j)
def gFdiv := gI cDivN Int.fdiv
def gMod := gI (fun _ j => decide (j ≠ 0)) Int.fmod
def gPow := gI cPow (fun i j => i ^ j.toNat)
def gShl := gI cPow (fun i j => i * 2 ^ j.toNat)
def gShr := gI (fun _ j => decide (0 ≤ j)) (fun i j => i / 2 ^ j.toNat)
def gAnd := gI (fun _ _ => true) Builtin.bitAnd
def gOr := gI (fun _ _ => true) Builtin.bitOr
def gXor := gI (fun _ _ => true) Builtin.bitXor
theorem opd_sub : OpD X (binaryOp .Sub) gSub := opd_int0 op_sub
theorem opd_fdiv : OpD X (binaryOp .FloorDiv) gFdiv := opd_int op_fdivN cDivN_ok
theorem opd_mod : OpD X (binaryOp .Mod) gMod := opd_int op_modN fun _ _ h => of_decide_eq_true h
theorem opd_pow : OpD X (binaryOp .Pow) gPow := opd_int op_pow cPow_ok
theorem opd_shl : OpD X (binaryOp .LShift) gShl := opd_int op_shl cPow_ok
theorem opd_shr : OpD X (binaryOp .RShift) gShr := opd_int op_shr fun _ _ h => of_decide_eq_true h
theorem opd_and : OpD X (binaryOp .BitAnd) gAnd := opd_int0 op_and
theorem opd_or : OpD X (binaryOp .BitOr) gOr := opd_int0 op_or
theorem opd_xor : OpD X (binaryOp .BitXor) gXor := opd_int0 op_xor

/-! ### + and * -/
def gAdd : D → D → Option R
  | .int i, .int j => some (.fz (.int (i + j)))
  | .str x, .str y => if x.length + y.length ≤ sizeLine then some (.fz (.str (x ++ y))) else none
  | .tup a, .tup b => if a.length + b.length ≤ sizeLine then some (.fz (.tup (a ++ b))) else none
  | .lst a, .lst b => if a.length + b.length ≤ sizeLine then some (.own (.lst (a ++ b))) else none
  | _, _ => none
/-- two lists, read -/
def rCatR (K : PySem.W.Frag) : R2 := fun x y H Q => ∃ l b xs zs, x = .ref l ∧ y = .ref b ∧ LsX K H l xs ∧ LsX K H b zs ∧ xs.length + zs.length ≤ sizeLine ∧ ∀ p, H p = none → Q (.ref p) (upd H p (.lst (xs ++ zs)))
theorem op_catR : OpR X (binaryOp .Add) (rCatR X.K) := by
  intro pins s σ H x y v u Q I rx ry h
  obtain ⟨l, b, xs, zs, rfl, rfl, hl, hb, hz, q⟩ := h
  cases rx; cases ry
  obtain ⟨z, its, n, sl, r, el, e⟩ := hl.obj I
  obtain ⟨z2, its2, n2, sl2, r2, el2, e2⟩ := hb.obj I
  refine concat_meets ⟨_, e, rfl⟩ ⟨_, e2, rfl⟩ noFill_list_add seq_list_add PySem.F.slot_list_add PySem.F.entry_list_add (PySem.F.args_list_add_2 _ _) (list_addW l b its.toArray its2.toArray n n2 none none sl sl2 (by rw [List.size_toArray, List.size_toArray]; omega)) ⟨e, e2, ?_⟩
  have ea : its.toArray ++ its2.toArray = (its ++ its2).toArray := by simp
  rw [ea]
  exact ⟨.ref _, _, I.lnew (t' := s.toks) (r.append r2) (by rw [List.length_append]; omega), rfl, q _ I.fresh⟩
theorem opd_add : OpD X (binaryOp .Add) gAdd := by
  refine ⟨fun dx dy r e => ?_⟩
  unfold gAdd at e
  split at e
  · rename_i i j
    cases e
    exact ⟨fun i z => (by cases z), _, op_add, fun x y H Q rx ry k => ⟨i, j, rx.int, ry.int, k _ H (Same.refl H) (.int _)⟩⟩
  · rename_i a b
    by_cases c : a.length + b.length ≤ sizeLine
    · rw [if_pos c] at e
      cases e
      exact ⟨fun i z => (by cases z), _, op_add_str, fun x y H Q rx ry k => ⟨a, b, rx.str, ry.str, c, k _ H (Same.refl H) (.str _)⟩⟩
    · rw [if_neg c] at e; cases e
  · rename_i a b
    by_cases c : a.length + b.length ≤ sizeLine
    · rw [if_pos c] at e
      cases e
      refine ⟨fun i z => (by cases z), _, op_catA, fun x y H Q rx ry k => ?_⟩
      obtain ⟨p, xs, rfl, hp, fp⟩ := rx.tup
      obtain ⟨q, ys, rfl, hq, fq⟩ := ry.tup
      refine ⟨p, q, xs, ys, rfl, rfl, hp, hq, by rw [fp.len, fq.len]; exact c, fun z => ?_, fun _ z => ?_, fun _ _ l hl => ?_⟩
      · subst z; cases fp; exact k _ H (Same.refl H) (.tup hq fq)
      · subst z; cases fq; rw [List.append_nil] at k; exact k _ H (Same.refl H) (.tup hp fp)
      · have sm := Same.new (o := .tup (xs ++ ys)) hl
        exact k _ _ sm (.tup (SqT.of upd_same) ((fp.app fq).ext (.of_same sm)))
    · rw [if_neg c] at e; cases e
  · rename_i a b
    by_cases c : a.length + b.length ≤ sizeLine
    · rw [if_pos c] at e
      cases e
      refine ⟨fun i z => (by cases z), _, op_catR, fun x y H Q rx ry k => ?_⟩
      obtain ⟨p, xs, rfl, hp, fp⟩ := rx.lst
      obtain ⟨q, ys, rfl, hq, fq⟩ := ry.lst
      refine ⟨p, q, xs, ys, rfl, rfl, hp, hq, by rw [fp.len, fq.len]; exact c, fun l hl => ?_⟩
      have sm := Same.new (o := .lst (xs ++ ys)) hl
      exact k l _ _ sm hl upd_same (.lst upd_same ((fp.app fq).ext (.of_same sm)))
    · rw [if_neg c] at e; cases e
  · cases e
/-- int times int; a tuple (list) times an int: later -/
def gMul : D → D → Option R
  | .int i, .int j => if cMul i j = true then some (.fz (.int (i * j))) else none
  | .tup xs, .int k => if xs.isEmpty = false ∧ 2 ≤ k ∧ k ≤ 1000 ∧ xs.length ≤ 1000 then some (.fz (.tup (List.replicate k.toNat xs).flatten)) else none
  | _, _ => none

/-! ### comparisons -/
def gEq (a b : D) : Option R := if okPy a = true ∧ okPy b = true then some (.fz (.bl (PyData.eqv a.py b.py))) else none
def gNe (a b : D) : Option R := if okPy a = true ∧ okPy b = true then some (.fz (.bl (!PyData.eqv a.py b.py))) else none
/-- what two data's reading gives -/
theorem opd_data {op : CmpOp} {g : D → D → Bool} {C : D → D → Bool} (h : ∀ (s : Shared) (A : Around) (a b : Value) (as bs : List Addr) (dx dy : D) (Q : Value → Shared → Prop) (E : Value → Shared → Prop), C dx dy = true → Reads s.heap a dx.py as → Reads s.heap b dy.py bs → A.units + 62 < cLine → Q (.bool (g dx dy)) s → wpAny (model X.prog X.w) A (compareOp op a b) Q E s)
    (hC : ∀ dx dy, C dx dy = true → okPy dx = true ∧ okPy dy = true) (hu : X.A.units + 64 < cLine) : OpD X (compareOp op) (fun dx dy => if C dx dy = true then some (.fz (.bl (g dx dy))) else none) := by
  refine ⟨fun dx dy r e => ?_⟩
  by_cases c : C dx dy = true
  · rw [if_pos c] at e
    cases e
    obtain ⟨c1, c2⟩ := hC _ _ c
    refine ⟨fun i z => (by cases z), fun x y H Q => Rp X.kx H x dx ∧ Rp X.kx H y dy ∧ Q (.bl (g dx dy)) H, ?_, fun x y H Q rx ry k => ⟨rx, ry, k _ H (Same.refl H) (.bl _)⟩⟩
    intro pins s σ H x y v u Q I r1 r2 ⟨rx, ry, q⟩
    obtain ⟨as, q1⟩ := rx.reads I (okPy_pl c1) r1
    obtain ⟨bs, q2⟩ := ry.reads I (okPy_pl c2) r2
    exact h s X.A v u as bs dx dy _ _ c q1 q2 (by omega) ⟨.bl _, H, I, rfl, q⟩
  · rw [if_neg c] at e; cases e
def okBoth (a b : D) : Bool := okPy a && okPy b
theorem okBoth_ok (a b : D) (h : okBoth a b = true) : okPy a = true ∧ okPy b = true := Bool.and_eq_true_iff.mp h
def gCmpD (C : D → D → Bool) (g : D → D → Bool) (dx dy : D) : Option R := if C dx dy = true then some (.fz (.bl (g dx dy))) else none
def gEqD := gCmpD okBoth fun a b => PyData.eqv a.py b.py
def gNeD := gCmpD okBoth fun a b => !PyData.eqv a.py b.py
theorem min60 {A : Around} {dx dy : D} (hu : A.units + 62 < cLine) (h : okPy dx = true) : A.units + min dx.py.depth dy.py.depth < cLine := by
  have h1 := okPy_dep h
  have h2 := Nat.min_le_left dx.py.depth dy.py.depth
  omega
theorem opd_eq (hu : X.A.units + 64 < cLine) : OpD X (compareOp .Eq) gEqD := opd_data (fun s A a b as bs dx dy Q E c r1 r2 hu q => SeqAt.eq_plain r1 r2 dx.plain dy.plain (min60 hu (okBoth_ok _ _ c).1) q) okBoth_ok hu
theorem opd_ne (hu : X.A.units + 64 < cLine) : OpD X (compareOp .NotEq) gNeD := opd_data (fun s A a b as bs dx dy Q E c r1 r2 hu q => SeqAt.ne_plain r1 r2 dx.plain dy.plain (min60 hu (okBoth_ok _ _ c).1) q) okBoth_ok hu
/-- in order: both of one make, not None -/
def notNone : PyData → Bool
  | .none => false
  | _ => true
def okOrd (a b : D) : Bool := okPy a && okPy b && alike a.py b.py && notNone a.py
theorem okOrd_ok (a b : D) (h : okOrd a b = true) : okPy a = true ∧ okPy b = true := by
  unfold okOrd at h
  simp only [Bool.and_eq_true] at h
  exact h.1.1
theorem okOrd_al {a b : D} (h : okOrd a b = true) : alike a.py b.py = true ∧ a.py ≠ .none := by
  unfold okOrd at h
  simp only [Bool.and_eq_true] at h
  refine ⟨h.1.2, fun e => ?_⟩
  rw [e] at h
  cases h.2
def gLtD := gCmpD okOrd fun a b => dataLt a.py b.py
def gGtD := gCmpD okOrd fun a b => dataLt b.py a.py
def gLeD := gCmpD okOrd fun a b => !dataLt b.py a.py
def gGeD := gCmpD okOrd fun a b => !dataLt a.py b.py
theorem opd_lt (hu : X.A.units + 64 < cLine) : OpD X (compareOp .Lt) gLtD := opd_data (fun s A a b as bs dx dy Q E c r1 r2 hu q => PySem.W.lt_data r1 r2 (okOrd_al c).1 (okOrd_al c).2 (min60 hu (okOrd_ok _ _ c).1) q) okOrd_ok hu
theorem opd_gt (hu : X.A.units + 64 < cLine) : OpD X (compareOp .Gt) gGtD := opd_data (fun s A a b as bs dx dy Q E c r1 r2 hu q => PySem.W.gt_data r1 r2 (okOrd_al c).1 (okOrd_al c).2 (min60 hu (okOrd_ok _ _ c).1) q) okOrd_ok hu
theorem opd_le (hu : X.A.units + 64 < cLine) : OpD X (compareOp .LtE) gLeD := opd_data (fun s A a b as bs dx dy Q E c r1 r2 hu q => PySem.W.le_data r1 r2 (okOrd_al c).1 (okOrd_al c).2 (min60 hu (okOrd_ok _ _ c).1) q) okOrd_ok hu
theorem opd_ge (hu : X.A.units + 64 < cLine) : OpD X (compareOp .GtE) gGeD := opd_data (fun s A a b as bs dx dy Q E c r1 r2 hu q => PySem.W.ge_data r1 r2 (okOrd_al c).1 (okOrd_al c).2 (min60 hu (okOrd_ok _ _ c).1) q) okOrd_ok hu
/-- is None -/
def D.isN : D → Bool
  | .non => true
  | _ => false
def gIsN : D → D → Option R
  | d, .non => some (.fz (.bl d.isN))
  | _, _ => none
def gNotN : D → D → Option R
  | d, .non => some (.fz (.bl (!d.isN)))
  | _, _ => none
theorem Rp.isN {K : Kx} {H : Hp} {v : V} {d : D} (h : Rp K H v d) : decide (v = .non) = d.isN := by
  rcases h with h | ⟨p, ob, rfl, w, e⟩
  · cases h <;> first | rfl | exact decide_eq_false (fun z => by cases z)
  · subst e
    cases w <;> exact decide_eq_false (fun z => by cases z)
theorem opd_isN : OpD X (compareOp .Is) gIsN := by
  refine ⟨fun dx dy r e => ?_⟩
  unfold gIsN at e
  split at e
  · rename_i d
    cases e
    refine ⟨fun i z => (by cases z), _, op_isN, fun x y H Q rx ry k => ⟨ry.non, ?_⟩⟩
    rw [rx.isN]
    exact k _ H (Same.refl H) (.bl _)
  · cases e
theorem opd_notN : OpD X (compareOp .IsNot) gNotN := by
  refine ⟨fun dx dy r e => ?_⟩
  unfold gNotN at e
  split at e
  · rename_i d
    cases e
    refine ⟨fun i z => (by cases z), _, op_notN, fun x y H Q rx ry k => ⟨ry.non, ?_⟩⟩
    rw [rx.isN]
    exact k _ H (Same.refl H) (.bl _)
  · cases e
/-- in, over a list or tuple of data -/
def inD (x : D) (xs : List D) : Bool := (D.pys xs).any fun y => PyData.eqv y x.py
def gIn : D → D → Option R
  | x, .lst xs => if okPy x = true ∧ okPy (.lst xs) = true then some (.fz (.bl (inD x xs))) else none
  | x, .tup xs => if okPy x = true ∧ okPy (.tup xs) = true then some (.fz (.bl (inD x xs))) else none
  | _, _ => none
def gNotIn : D → D → Option R
  | x, .lst xs => if okPy x = true ∧ okPy (.lst xs) = true then some (.fz (.bl (!inD x xs))) else none
  | x, .tup xs => if okPy x = true ∧ okPy (.tup xs) = true then some (.fz (.bl (!inD x xs))) else none
  | _, _ => none
theorem opd_seq {op : CmpOp} (neg : Bool) (t : Bool) {xs : List D} {x : D}
    (h : ∀ (s : Shared) (A : Around) (c v : Value) (as bs : List Addr) (Q : Value → Shared → Prop) (E : Value → Shared → Prop), Reads s.heap c (if t then D.tup xs else D.lst xs).py as → Reads s.heap v x.py bs → A.units + 62 < cLine → okPy x = true → Q (.bool (if neg then !inD x xs else inD x xs)) s → wpAny (model X.prog X.w) A (compareOp op v c) Q E s)
    (hu : X.A.units + 64 < cLine) (c1 : okPy x = true) (c2 : okPy (if t then D.tup xs else D.lst xs) = true) : ∃ rl : R2, OpR X (compareOp op) rl ∧ ∀ v c H Q, Rp X.kx H v x → Rp X.kx H c (if t then D.tup xs else D.lst xs) → ResD X.kx H Q (.fz (.bl (if neg then !inD x xs else inD x xs))) → rl v c H Q := by
  refine ⟨fun v c H Q => Rp X.kx H v x ∧ Rp X.kx H c (if t then D.tup xs else D.lst xs) ∧ Q (.bl (if neg then !inD x xs else inD x xs)) H, ?_, fun v c H Q rx ry k => ⟨rx, ry, k _ H (Same.refl H) (.bl _)⟩⟩
  intro pins s σ H v c vv cv Q I r1 r2 ⟨rx, ry, q⟩
  obtain ⟨as, q1⟩ := rx.reads I (okPy_pl c1) r1
  obtain ⟨bs, q2⟩ := ry.reads I (okPy_pl c2) r2
  exact h s X.A cv vv bs as _ _ q2 q1 (by omega) c1 ⟨.bl _, H, I, rfl, q⟩
theorem in_room {A : Around} {x : D} {xs : List PyData} (hu : A.units + 62 < cLine) (h : okPy x = true) : A.units + 1 + min (PyData.depthAll xs) x.py.depth < cLine := by
  have h1 := okPy_dep h
  have h2 := Nat.min_le_right (PyData.depthAll xs) x.py.depth
  omega
theorem opd_in (hu : X.A.units + 64 < cLine) : OpD X (compareOp .In) gIn := by
  refine ⟨fun dx dy r e => ?_⟩
  unfold gIn at e
  split at e
  · rename_i xs
    by_cases c : okPy dx = true ∧ okPy (.lst xs) = true
    · rw [if_pos c] at e
      cases e
      exact ⟨fun i z => (by cases z), opd_seq false false (fun s A cc v as bs Q E r1 r2 hu' c1 q => SeqAt.in_list_data (by simpa [D.py] using r1) r2 (D.plains xs) dx.plain (in_room hu' c1) q) hu c.1 c.2⟩
    · rw [if_neg c] at e; cases e
  · rename_i xs
    by_cases c : okPy dx = true ∧ okPy (.tup xs) = true
    · rw [if_pos c] at e
      cases e
      exact ⟨fun i z => (by cases z), opd_seq false true (fun s A cc v as bs Q E r1 r2 hu' c1 q => SeqAt.in_tuple_data (by simpa [D.py] using r1) r2 (D.plains xs) dx.plain (in_room hu' c1) q) hu c.1 c.2⟩
    · rw [if_neg c] at e; cases e
  · cases e
theorem opd_notIn (hu : X.A.units + 64 < cLine) : OpD X (compareOp .NotIn) gNotIn := by
  refine ⟨fun dx dy r e => ?_⟩
  unfold gNotIn at e
  split at e
  · rename_i xs
    by_cases c : okPy dx = true ∧ okPy (.lst xs) = true
    · rw [if_pos c] at e
      cases e
      exact ⟨fun i z => (by cases z), opd_seq true false (fun s A cc v as bs Q E r1 r2 hu' c1 q => SeqAt.notIn_list_data (by simpa [D.py] using r1) r2 (D.plains xs) dx.plain (in_room hu' c1) q) hu c.1 c.2⟩
    · rw [if_neg c] at e; cases e
  · rename_i xs
    by_cases c : okPy dx = true ∧ okPy (.tup xs) = true
    · rw [if_pos c] at e
      cases e
      exact ⟨fun i z => (by cases z), opd_seq true true (fun s A cc v as bs Q E r1 r2 hu' c1 q => SeqAt.notIn_tuple_data (by simpa [D.py] using r1) r2 (D.plains xs) dx.plain (in_room hu' c1) q) hu c.1 c.2⟩
    · rw [if_neg c] at e; cases e
  · cases e
end
end DL
/-! DL9: displays, flags as values, chains, items, slices, built-in calls. -/
namespace DL
open PySem PySem.Spec PyProof.Rows L2
section
variable {X : Cx} {io : Bool}

/-! ### displays -/
def eTup (fa : DAs) : DX := fun ds => Option.bind (fa ds) fun p => Option.bind (frRs p.1 p.2) fun q => if q.1.length ≤ sizeLine then some (.fz (.tup q.1), q.2) else none
def eLst (fa : DAs) : DX := fun ds => Option.bind (fa ds) fun p => Option.bind (frRs p.1 p.2) fun q => if q.1.length ≤ sizeLine then some (.own (.lst q.1), q.2) else none
theorem d_tup {es : List Expr} {fa : DAs} {k pos} (h : DA X io es fa) : DE X io (.Tuple es k pos) (eTup fa) := by
  refine ⟨fun F ds r ds' j e => ?_⟩
  unfold eTup at e
  obtain ⟨⟨rs, ds1⟩, e1, e⟩ := Option.bind_eq_some_iff.mp e
  obtain ⟨⟨dd, ds2⟩, e2, e⟩ := Option.bind_eq_some_iff.mp e
  dsimp only at e
  by_cases c : dd.length ≤ sizeLine
  · rw [if_pos c] at e
    cases e
    refine PE.weak (pe_tup (pa_frz (h.run F _ _ _ j e1))) fun σ H Q ⟨hd, S, k⟩ => ⟨hd, S, fun vs H1 x1 r1 S1 => ?_⟩
    obtain ⟨ps, k1⟩ := frs r1 S1 e2
    refine ⟨ps, k1.mono fun H2 ⟨x2, f2, S2⟩ => ⟨by rw [f2.len]; exact c, fun p hp => ?_⟩⟩
    have sm := Same.new (o := .tup vs) hp
    exact k _ _ ((x1.trans x2).trans (.of_same sm)) (.fz (.tup (SqT.of upd_same) (f2.ext (.of_same sm)))) (by rw [hp_fz]; exact S2.grow sm)
  · rw [if_neg c] at e; cases e
theorem d_lst {es : List Expr} {fa : DAs} {pos} (h : DA X io es fa) : DE X io (.List es pos) (eLst fa) := by
  refine ⟨fun F ds r ds' j e => ?_⟩
  unfold eLst at e
  obtain ⟨⟨rs, ds1⟩, e1, e⟩ := Option.bind_eq_some_iff.mp e
  obtain ⟨⟨dd, ds2⟩, e2, e⟩ := Option.bind_eq_some_iff.mp e
  dsimp only at e
  by_cases c : dd.length ≤ sizeLine
  · rw [if_pos c] at e
    cases e
    refine PE.weak (pe_lst (pa_frz (h.run F _ _ _ j e1))) fun σ H Q ⟨hd, S, k⟩ => ⟨hd, S, fun vs H1 x1 r1 S1 => ?_⟩
    obtain ⟨ps, k1⟩ := frs r1 S1 e2
    refine ⟨ps, k1.mono fun H2 ⟨x2, f2, S2⟩ => ⟨by rw [f2.len]; exact c, fun p hp0 => ?_⟩⟩
    have sm := Same.new (o := .lst vs) hp0
    have S3 := S2.made (o := .lst vs) hp0 trivial
    exact k _ _ ((x1.trans x2).trans (.of_same sm)) (.own (.lst upd_same (f2.ext (.of_same sm)))) (by rw [hp_own _ upd_same]; exact S3)
  · rw [if_neg c] at e; cases e

/-! ### flags as values -/
def eB (f : DB) : DX := fun ds => Option.bind (f ds) fun p => some (.fz (.bl p.1), p.2)
/-- a and b, the first a flag -/
def eAnd (f g : DX) : DX := fun ds => Option.bind (f ds) fun p => match bOf p.1 with
  | some true => g p.2
  | some false => some (.fz (.bl false), p.2)
  | none => none
def eOr (f g : DX) : DX := fun ds => Option.bind (f ds) fun p => match bOf p.1 with
  | some true => some (.fz (.bl true), p.2)
  | some false => g p.2
  | none => none
def eNot (f : DX) : DX := fun ds => Option.bind (f ds) fun p => Option.bind (bOf p.1) fun b => some (.fz (.bl (!b)), p.2)
variable {a b c : Expr} {rest : List Expr} {pos : Pos} {f g h : DX}
theorem d_one {op} (h : DE X io a f) : DE X io (.BoolOp op [a] pos) f := ⟨fun F ds r ds' j e => pe_one (h.run F ds r ds' j e)⟩
theorem pe_never {e : Expr} : PE X e (fun _ _ _ => False) := ⟨fun _ _ _ _ _ _ h => h.elim⟩
theorem RRel.bl {K : Kx} {σ : Sg} {H : Hp} {v : V} {b : Bool} (h : RRel K σ H v (.fz (.bl b))) : v = .bl b := by cases h with | fz w => exact w.blOf
theorem d_and (ha : DE X io a f) (hb : DE X io (.BoolOp .And (b :: rest) pos) g) : DE X io (.BoolOp .And (a :: b :: rest) pos) (eAnd f g) := by
  refine ⟨fun F ds r ds' j e => ?_⟩
  unfold eAnd at e
  obtain ⟨⟨r1, ds1⟩, e1, e⟩ := Option.bind_eq_some_iff.mp e
  dsimp only at e
  split at e
  · rename_i hb1
    have e0 := bOf_some hb1
    subst e0
    refine PE.weak (pe_and (ha.run F _ _ _ j e1) (hb.run F _ _ _ j e)) fun σ H Q ⟨hd, S, k⟩ => ⟨hd, S, fun v H1 x1 r1 S1 => ⟨true, r1.bl, ?_⟩⟩
    rw [hp_fz] at S1
    exact iteT ⟨hd, S1, fun v H2 x2 r2 S2 => k v H2 (x1.trans x2) r2 S2⟩
  · rename_i hb1
    have e0 := bOf_some hb1
    subst e0
    cases e
    refine PE.weak (pe_and (ha.run F _ _ _ j e1) pe_never) fun σ H Q ⟨hd, S, k⟩ => ⟨hd, S, fun v H1 x1 r1 S1 => ⟨false, r1.bl, ?_⟩⟩
    rw [hp_fz] at S1
    exact iteF (k _ H1 x1 (.fz (.bl false)) (by rw [hp_fz]; exact S1))
  · cases e
theorem d_or (ha : DE X io a f) (hb : DE X io (.BoolOp .Or (b :: rest) pos) g) : DE X io (.BoolOp .Or (a :: b :: rest) pos) (eOr f g) := by
  refine ⟨fun F ds r ds' j e => ?_⟩
  unfold eOr at e
  obtain ⟨⟨r1, ds1⟩, e1, e⟩ := Option.bind_eq_some_iff.mp e
  dsimp only at e
  split at e
  · rename_i hb1
    have e0 := bOf_some hb1
    subst e0
    cases e
    refine PE.weak (pe_or (ha.run F _ _ _ j e1) pe_never) fun σ H Q ⟨hd, S, k⟩ => ⟨hd, S, fun v H1 x1 r1 S1 => ⟨true, r1.bl, ?_⟩⟩
    rw [hp_fz] at S1
    exact iteT (k _ H1 x1 (.fz (.bl true)) (by rw [hp_fz]; exact S1))
  · rename_i hb1
    have e0 := bOf_some hb1
    subst e0
    refine PE.weak (pe_or (ha.run F _ _ _ j e1) (hb.run F _ _ _ j e)) fun σ H Q ⟨hd, S, k⟩ => ⟨hd, S, fun v H1 x1 r1 S1 => ⟨false, r1.bl, ?_⟩⟩
    rw [hp_fz] at S1
    exact iteF ⟨hd, S1, fun v H2 x2 r2 S2 => k v H2 (x1.trans x2) r2 S2⟩
  · cases e
theorem d_not (ha : DE X io a f) : DE X io (.UnaryOp .Not a pos) (eNot f) := by
  refine ⟨fun F ds r ds' j e => ?_⟩
  unfold eNot at e
  obtain ⟨⟨r1, ds1⟩, e1, e⟩ := Option.bind_eq_some_iff.mp e
  obtain ⟨b1, hb1, e⟩ := Option.bind_eq_some_iff.mp e
  have e0 := bOf_some hb1
  dsimp only at e0
  subst e0
  cases e
  refine PE.weak (pe_not (ha.run F _ _ _ j e1)) fun σ H Q ⟨hd, S, k⟩ => ⟨hd, S, fun v H1 x1 r1 S1 => ⟨b1, r1.bl, ?_⟩⟩
  rw [hp_fz] at S1
  exact k _ H1 x1 (.fz (.bl _)) (by rw [hp_fz]; exact S1)
def eIf (t : DB) (f g : DX) : DX := fun ds => Option.bind (t ds) fun p => if p.1 = true then f p.2 else g p.2
theorem d_if {t : DB} (hc : DT X io c t) (ha : DE X io a f) (hb : DE X io b g) : DE X io (.IfExp c a b pos) (eIf t f g) := by
  refine ⟨fun F ds r ds' j e => ?_⟩
  unfold eIf at e
  obtain ⟨⟨b1, ds1⟩, e1, e⟩ := Option.bind_eq_some_iff.mp e
  cases b1 with
  | true =>
    refine PE.weak (pe_ifExp (hc.run F _ _ _ j e1) (ha.run F _ _ _ j e) pe_never) fun σ H Q ⟨hd, S, k⟩ => ⟨hd, S, fun H1 x1 S1 => iteT ⟨hd, S1, fun v H2 x2 r2 S2 => k v H2 (x1.trans x2) r2 S2⟩⟩
  | false =>
    refine PE.weak (pe_ifExp (hc.run F _ _ _ j e1) pe_never (hb.run F _ _ _ j e)) fun σ H Q ⟨hd, S, k⟩ => ⟨hd, S, fun H1 x1 S1 => iteF ⟨hd, S1, fun v H2 x2 r2 S2 => k v H2 (x1.trans x2) r2 S2⟩⟩
/-- a op b op' c -/
def eChain (g1 g2 : D → D → Option R) (fa fb fc : DX) : DX := fun ds => Option.bind (fa ds) fun p => Option.bind (fb p.2) fun q => Option.bind (p.1.val q.2) fun dx => Option.bind (q.1.val q.2) fun dy => Option.bind (g1 dx dy) fun r => match bOf r with
  | some true => Option.bind (fc q.2) fun z => Option.bind (q.1.val z.2) fun dy => Option.bind (z.1.val z.2) fun dz => Option.bind (g2 dy dz) fun r => Option.bind (bOf r) fun b => some (.fz (.bl b), z.2)
  | some false => some (.fz (.bl false), q.2)
  | none => none
theorem three {K : Kx} {F : Fx} {ds ds1 ds2 : DS} {ra rb : R} {dx dy : D} {σ : Sg} {H : Hp} {hd : List (Addr × HO)} {R' : V → V → Hp → Prop} (S : SRel K F ds σ H hd) (ea : ra.val ds2 = some dx) (eb : rb.val ds2 = some dy)
    (k : ∀ x y H2, Ext H H2 → Rp K H2 x dx → Rp K H2 y dy → RRel K σ H2 y rb → SRel K F ds2 σ H2 (hp H2 y rb ++ hd) → R' x y H2) :
    tD K F ds ra ds1 σ H fun x H1 => tD K F ds1 rb ds2 σ H1 fun y H2 => R' x y H2 := by
  refine ⟨hd, S, fun v H1 x1 r1 S1 => ⟨hp H1 v ra ++ hd, S1, fun u H2 x2 r2 S2 => ?_⟩⟩
  obtain ⟨r1', eh⟩ := r1.keep x2 fun a o m => (S2.held a o (List.mem_append_right _ (List.mem_append_left _ m))).1
  refine k v u H2 (x1.trans x2) (r1'.rp S2 ea) (r2.rp S2 eb) r2 (S2.drop ?_)
  exact (List.Sublist.append_left (List.sublist_append_right _ _) _)
theorem d_chain {op op' : CmpOp} {g1 g2 : D → D → Option R} {fa fb fc : DX} (ho : OpD X (compareOp op) g1) (ho' : OpD X (compareOp op') g2) (ha : DE X io a fa) (hb : DE X io b fb) (hc : DE X io c fc)
    (hm : lastMarks [op, op'] [b, c] = false := by with_unfolding_all rfl) : DE X io (.Compare a [op, op'] [b, c] pos) (eChain g1 g2 fa fb fc) := by
  refine ⟨fun F ds r ds' j e => ?_⟩
  unfold eChain at e
  obtain ⟨⟨r1, ds1⟩, e1, e⟩ := Option.bind_eq_some_iff.mp e
  obtain ⟨⟨r2, ds2⟩, e2, e⟩ := Option.bind_eq_some_iff.mp e
  obtain ⟨dx, e3, e⟩ := Option.bind_eq_some_iff.mp e
  obtain ⟨dy, e4, e⟩ := Option.bind_eq_some_iff.mp e
  obtain ⟨r', e5, e⟩ := Option.bind_eq_some_iff.mp e
  obtain ⟨ns, rl, hop, hrl⟩ := ho.run dx dy r' e5
  dsimp only at e
  split at e
  · rename_i hb1
    have e0 := bOf_some hb1
    subst e0
    obtain ⟨⟨r3, ds3⟩, e6, e⟩ := Option.bind_eq_some_iff.mp e
    obtain ⟨dy', e7, e⟩ := Option.bind_eq_some_iff.mp e
    obtain ⟨dz, e8, e⟩ := Option.bind_eq_some_iff.mp e
    obtain ⟨r4, e9, e⟩ := Option.bind_eq_some_iff.mp e
    obtain ⟨b4, hb4, e⟩ := Option.bind_eq_some_iff.mp e
    have e04 := bOf_some hb4
    subst e04
    cases e
    obtain ⟨ns', rl', hop', hrl'⟩ := ho'.run dy' dz _ e9
    refine PE.weak (pe_chain hop hop' (ha.run F _ _ _ j e1) (hb.run F _ _ _ j e2) (hc.run F _ _ _ j e6) hm) fun σ H Q ⟨hd, S, k⟩ => ?_
    refine three S e3 e4 fun x y H2 x2 rx ry ry' S2 => hrl x y H2 _ rx ry fun v H3 sm fv => ⟨true, fv.blOf, ?_⟩
    have S3 := S2.grow sm
    obtain ⟨ry3, eh⟩ := ry'.keep (.of_same sm) fun a o m => (S3.held a o (List.mem_append_left _ m)).1
    refine iteT ⟨_, S3, fun z H4 x4 r4 S4 => ?_⟩
    obtain ⟨ry4, eh4⟩ := ry3.keep x4 fun a o m => (S4.held a o (List.mem_append_right _ (List.mem_append_left _ (by rw [← eh]; exact m)))).1
    exact hrl' y z H4 Q (ry4.rp S4 e7) (r4.rp S4 e8) (resD (fun i z => by cases z) ((x2.trans (.of_same sm)).trans x4) (S4.drop ((List.sublist_append_right _ _).trans (List.sublist_append_right _ _))) k)
  · rename_i hb1
    have e0 := bOf_some hb1
    subst e0
    cases e
    refine PE.weak (pe_chain hop (op' := op') (r' := fun _ _ _ _ => False) (fun _ _ _ _ _ _ _ _ _ _ _ _ z => z.elim) (ha.run F _ _ _ j e1) (hb.run F _ _ _ j e2) pe_never hm) fun σ H Q ⟨hd, S, k⟩ => ?_
    refine two S e3 e4 fun x y H2 x2 rx ry S2 => hrl x y H2 _ rx ry fun v H3 sm fv => ⟨false, fv.blOf, ?_⟩
    exact iteF (k _ H3 (x2.trans (.of_same sm)) (.fz (.bl false)) (by rw [hp_fz]; exact S2.grow sm))
  · cases e
/-- a chain as a test -/
theorem dt_chain {op op' : CmpOp} {g1 g2 : D → D → Option R} {fa fb fc : DX} (h : DE X io (.Compare a [op, op'] [b, c] pos) (eChain g1 g2 fa fb fc)) (ho : OpD X (compareOp op) g1) (ho' : OpD X (compareOp op') g2) (ha : DE X io a fa) (hb : DE X io b fb) (hc : DE X io c fc)
    (hm : lastMarks [op, op'] [b, c] = false := by with_unfolding_all rfl) : DT X io (.Compare a [op, op'] [b, c] pos) (tOf (eChain g1 g2 fa fb fc)) := by
  refine ⟨fun F ds bb ds' j q => ?_⟩
  unfold tOf at q
  obtain ⟨⟨r0, ds0⟩, e, q⟩ := Option.bind_eq_some_iff.mp q
  obtain ⟨b0, hb0, q⟩ := Option.bind_eq_some_iff.mp q
  have e00 := bOf_some hb0
  dsimp only at e00
  subst e00
  cases q
  unfold eChain at e
  obtain ⟨⟨r1, ds1⟩, e1, e⟩ := Option.bind_eq_some_iff.mp e
  obtain ⟨⟨r2, ds2⟩, e2, e⟩ := Option.bind_eq_some_iff.mp e
  obtain ⟨dx, e3, e⟩ := Option.bind_eq_some_iff.mp e
  obtain ⟨dy, e4, e⟩ := Option.bind_eq_some_iff.mp e
  obtain ⟨r', e5, e⟩ := Option.bind_eq_some_iff.mp e
  obtain ⟨ns, rl, hop, hrl⟩ := ho.run dx dy r' e5
  dsimp only at e
  split at e
  · rename_i hb1
    have e0 := bOf_some hb1
    subst e0
    obtain ⟨⟨r3, ds3⟩, e6, e⟩ := Option.bind_eq_some_iff.mp e
    obtain ⟨dy', e7, e⟩ := Option.bind_eq_some_iff.mp e
    obtain ⟨dz, e8, e⟩ := Option.bind_eq_some_iff.mp e
    obtain ⟨r4, e9, e⟩ := Option.bind_eq_some_iff.mp e
    obtain ⟨b4, hb4, e⟩ := Option.bind_eq_some_iff.mp e
    have e04 := bOf_some hb4
    subst e04
    cases e
    obtain ⟨ns', rl', hop', hrl'⟩ := ho'.run dy' dz _ e9
    refine PT.weak (pt_chain hop hop' (ha.run F _ _ _ j e1) (hb.run F _ _ _ j e2) (hc.run F _ _ _ j e6) hm) fun σ H Q ⟨hd, S, k⟩ => ?_
    refine three S e3 e4 fun x y H2 x2 rx ry ry' S2 => hrl x y H2 _ rx ry fun v H3 sm fv => ⟨true, fv.blOf, ?_⟩
    have S3 := S2.grow sm
    obtain ⟨ry3, eh⟩ := ry'.keep (.of_same sm) fun a o m => (S3.held a o (List.mem_append_left _ m)).1
    refine iteT ⟨_, S3, fun z H4 x4 r4 S4 => ?_⟩
    obtain ⟨ry4, eh4⟩ := ry3.keep x4 fun a o m => (S4.held a o (List.mem_append_right _ (List.mem_append_left _ (by rw [← eh]; exact m)))).1
    refine hrl' y z H4 _ (ry4.rp S4 e7) (r4.rp S4 e8) fun w H5 sm5 fw => ⟨_, fw.blOf, ?_⟩
    exact k H5 (((x2.trans (.of_same sm)).trans x4).trans (.of_same sm5)) ((S4.drop ((List.sublist_append_right _ _).trans (List.sublist_append_right _ _))).grow sm5)
  · rename_i hb1
    have e0 := bOf_some hb1
    subst e0
    cases e
    refine PT.weak (pt_chain hop (op' := op') (r' := fun _ _ _ _ => False) (fun _ _ _ _ _ _ _ _ _ _ _ _ z => z.elim) (ha.run F _ _ _ j e1) (hb.run F _ _ _ j e2) pe_never hm) fun σ H Q ⟨hd, S, k⟩ => ?_
    refine two S e3 e4 fun x y H2 x2 rx ry S2 => hrl x y H2 _ rx ry fun v H3 sm fv => ⟨false, fv.blOf, ?_⟩
    exact iteF ⟨false, rfl, k H3 (x2.trans (.of_same sm)) (S2.grow sm)⟩
  · cases e
end
end DL
/-! DL10: items, slices, built-in calls, a list's methods, stores. -/
namespace DL
open PySem PySem.Spec PyProof.Rows L2
section
variable {X : Cx} {io : Bool}

/-! ### items -/
theorem atI_fz {K : Kx} {H : Hp} {vs : List V} {ds : List D} {i : Int} {d : D} (w : FzL K H vs ds) (h : L2.atI ds i = some d) : ∃ v, L2.atI vs i = some v ∧ Fz K H v d := by
  unfold L2.atI at h ⊢
  rw [w.len]
  obtain ⟨j, e, h⟩ := Option.bind_eq_some_iff.mp h
  obtain ⟨v, e1, f⟩ := w.get h
  exact ⟨v, by rw [e]; exact e1, f⟩
def gIx : D → D → Option R
  | .lst xs, .int i => Option.map R.fz (L2.atI xs i)
  | .tup xs, .int i => Option.map R.fz (L2.atI xs i)
  | .str z, .int i => if z.length ≤ sizeLine then Option.map (fun c => R.fz (.str ⟨#[c]⟩)) (L2.atI z.cps.toList i) else none
  | _, _ => none
theorem gIx_inv {dx dy : D} {r : R} (e : gIx dx dy = some r) : (∃ xs i d, dx = .lst xs ∧ dy = .int i ∧ L2.atI xs i = some d ∧ r = .fz d) ∨ (∃ xs i d, dx = .tup xs ∧ dy = .int i ∧ L2.atI xs i = some d ∧ r = .fz d) ∨
    ∃ z i c, dx = .str z ∧ dy = .int i ∧ z.length ≤ sizeLine ∧ L2.atI z.cps.toList i = some c ∧ r = .fz (.str ⟨#[c]⟩) := by
  unfold gIx at e
  split at e
  · rename_i xs i
    obtain ⟨d, e6, e7⟩ := Option.map_eq_some_iff.mp e
    exact .inl ⟨xs, i, d, rfl, rfl, e6, e7.symm⟩
  · rename_i xs i
    obtain ⟨d, e6, e7⟩ := Option.map_eq_some_iff.mp e
    exact .inr (.inl ⟨xs, i, d, rfl, rfl, e6, e7.symm⟩)
  · rename_i z i
    by_cases hz : z.length ≤ sizeLine
    · rw [if_pos hz] at e
      obtain ⟨c, e6, e7⟩ := Option.map_eq_some_iff.mp e
      exact .inr (.inr ⟨z, i, c, rfl, rfl, hz, e6, e7.symm⟩)
    · rw [if_neg hz] at e; cases e
  · cases e
variable {a b : Expr} {fa fb : DX} {pos : Pos}
theorem d_ix (ha : DE X io a fa) (hb : DE X io b fb) (hs : PlainIx b := by exact fun _ _ => rfl) : DE X io (.Subscript a b pos) (eBin gIx fa fb) := by
  refine ⟨fun F ds r ds' j e => ?_⟩
  unfold eBin at e
  obtain ⟨p, e1, e⟩ := Option.bind_eq_some_iff.mp e
  obtain ⟨q, e2, e⟩ := Option.bind_eq_some_iff.mp e
  obtain ⟨dx, e3, e⟩ := Option.bind_eq_some_iff.mp e
  obtain ⟨dy, e4, e⟩ := Option.bind_eq_some_iff.mp e
  obtain ⟨r', e5, e⟩ := Option.bind_eq_some_iff.mp e
  cases e
  rcases gIx_inv e5 with ⟨xs, i, d, rfl, rfl, e6, rfl⟩ | ⟨xs, i, d, rfl, rfl, e6, rfl⟩ | ⟨z, i, c, rfl, rfl, hz, e6, rfl⟩
  · refine PE.weak (pe_ix ix_list (ha.run F _ _ _ j e1) (hb.run F _ _ _ j e2) hs) fun σ H Q ⟨hd, S, k⟩ => ?_
    refine two S e3 e4 fun x y H2 x2 rx ry S2 => ?_
    obtain ⟨l, vs, rfl, hl, w⟩ := rx.lst
    obtain ⟨v, e8, f⟩ := atI_fz w e6
    exact ⟨l, vs, i, v, rfl, ry.int, hl.sq, e8, k v H2 x2 (.fz f) (by rw [hp_fz]; exact S2)⟩
  · refine PE.weak (pe_ix ix_tup (ha.run F _ _ _ j e1) (hb.run F _ _ _ j e2) hs) fun σ H Q ⟨hd, S, k⟩ => ?_
    refine two S e3 e4 fun x y H2 x2 rx ry S2 => ?_
    obtain ⟨l, vs, rfl, hl, w⟩ := rx.tup
    obtain ⟨v, e8, f⟩ := atI_fz w e6
    exact ⟨l, vs, i, v, rfl, ry.int, hl, e8, k v H2 x2 (.fz f) (by rw [hp_fz]; exact S2)⟩
  · refine PE.weak (pe_ix ix_str (ha.run F _ _ _ j e1) (hb.run F _ _ _ j e2) hs) fun σ H Q ⟨hd, S, k⟩ => ?_
    refine two S e3 e4 fun x y H2 x2 rx ry S2 => ?_
    exact ⟨z, i, c, rx.str, ry.int, hz, e6, k _ H2 x2 (.fz (.str _)) (by rw [hp_fz]; exact S2)⟩

/-! ### slices -/
abbrev DOp := DS → Option (Option Int × DS)
def tDO (K : Kx) (F : Fx) (ds : DS) (o : Option Int) (ds' : DS) : TO := fun σ H Q => ∃ hd, SRel K F ds σ H hd ∧ ∀ H', Ext H H' → SRel K F ds' σ H' hd → Q o H'
structure DO (X : Cx) (io : Bool) (e : Option Expr) (f : DOp) : Prop where
  run : ∀ (F : Fx) (ds : DS) (o : Option Int) (ds' : DS), IoOk F io → f ds = some (o, ds') → PO X e (tDO X.kx F ds o ds')
theorem PO.weak {e : Option Expr} {t t' : TO} (h : PO X e t) (w : ∀ σ H Q, t' σ H Q → t σ H Q) : PO X e t' := ⟨fun pins s σ H Q I q => h.run pins s σ H Q I (w σ H Q q)⟩
def oNone : DOp := fun ds => some (none, ds)
def oSome (f : DX) : DOp := fun ds => Option.bind (f ds) fun p => match p.1 with
  | .fz (.int i) => some (some i, p.2)
  | _ => none
theorem do_none : DO X io none oNone := ⟨fun F ds o ds' _ e => PO.weak po_none fun σ H Q ⟨hd, S, k⟩ => by cases e; exact k H (Ext.refl H) S⟩
theorem do_some {e : Expr} {f : DX} (h : DE X io e f) : DO X io (some e) (oSome f) := by
  refine ⟨fun F ds o ds' j q => ?_⟩
  unfold oSome at q
  obtain ⟨⟨r, ds1⟩, e1, q⟩ := Option.bind_eq_some_iff.mp q
  dsimp only at q
  split at q
  · rename_i i
    cases q
    refine PO.weak (po_some (h.run F _ _ _ j e1)) fun σ H Q ⟨hd, S, k⟩ => ⟨hd, S, fun v H1 x1 r1 S1 => ⟨i, ?_, k H1 x1 (by rw [hp_fz] at S1; exact S1)⟩⟩
    cases r1 with
    | fz w => cases w; rfl
  · cases q
def cutL {α : Type} (xs : List α) (lo hi : Option Int) : List α := (xs.drop (HT.sIx xs.length 0 lo)).take (HT.sIx xs.length xs.length hi - HT.sIx xs.length 0 lo)
theorem cutL_fz {K : Kx} {H : Hp} {vs : List V} {ds : List D} (w : FzL K H vs ds) (lo hi : Option Int) : FzL K H (cutV vs lo hi) (cutL ds lo hi) := by
  unfold cutV cutL
  rw [w.len]
  exact (w.drop _).take _
theorem cutL_all {α : Type} (xs : List α) (lo hi : Option Int) (h1 : HT.sIx xs.length 0 lo = 0) (h2 : HT.sIx xs.length xs.length hi = xs.length) : cutL xs lo hi = xs := by
  unfold cutL
  rw [h1, h2, List.drop_zero, Nat.sub_zero, List.take_length]
def eSl (fa : DX) (fl fh : DOp) : DX := fun ds => Option.bind (fa ds) fun p => Option.bind (fl p.2) fun l => Option.bind (fh l.2) fun h => match p.1.val h.2 with
  | some (.lst xs) => some (.own (.lst (cutL xs l.1 h.1)), h.2)
  | some (.tup xs) => some (.fz (.tup (cutL xs l.1 h.1)), h.2)
  | some (.str z) => if z.length ≤ sizeLine then some (.fz (.str (cutS z l.1 h.1)), h.2) else none
  | _ => none
theorem d_slice {lo hi : Option Expr} {fl fh : DOp} {p2 : Pos} (ha : DE X io a fa) (hl : DO X io lo fl) (hh : DO X io hi fh) : DE X io (.Subscript a (.Slice lo hi none p2) pos) (eSl fa fl fh) := by
  refine ⟨fun F ds r ds' j e => ?_⟩
  unfold eSl at e
  obtain ⟨⟨r1, ds1⟩, e1, e⟩ := Option.bind_eq_some_iff.mp e
  obtain ⟨⟨l, ds2⟩, e2, e⟩ := Option.bind_eq_some_iff.mp e
  obtain ⟨⟨h, ds3⟩, e3, e⟩ := Option.bind_eq_some_iff.mp e
  dsimp only at e
  -- the parts ready
  have ready : ∀ {σ : Sg} {H : Hp} {hd : List (Addr × HO)} {d : D} {R' : V → Hp → Prop}, SRel X.kx F ds σ H hd → r1.val ds3 = some d → (∀ x H3, Ext H H3 → Rp X.kx H3 x d → SRel X.kx F ds3 σ H3 hd → R' x H3) →
      tD X.kx F ds r1 ds1 σ H fun x H1 => tDO X.kx F ds1 l ds2 σ H1 fun l' H2 => tDO X.kx F ds2 h ds3 σ H2 fun u' H3 => l' = l ∧ u' = h ∧ R' x H3 := by
    intro σ H hd d R' S ev k
    refine ⟨hd, S, fun x H1 x1 rr S1 => ⟨hp H1 x r1 ++ hd, S1, fun H2 x2 S2 => ⟨hp H1 x r1 ++ hd, S2, fun H3 x3 S3 => ⟨rfl, rfl, ?_⟩⟩⟩⟩
    obtain ⟨rr', _⟩ := rr.keep (x2.trans x3) fun a o m => (S3.held a o (List.mem_append_left _ m)).1
    exact k x H3 ((x1.trans x2).trans x3) (rr'.rp S3 ev) (S3.drop (List.sublist_append_right _ _))
  split at e
  · rename_i xs ev
    cases e
    refine PE.weak (pe_slice (r := fun x lo hi H Q => lo = l ∧ hi = h ∧ ∃ a vs, x = .ref a ∧ SqL X.K H a vs ∧ ∀ p, H p = none → Q (.ref p) (upd H p (.lst (cutV vs l h)))) (fun pins s σ H x v vl vu lo hi sl Q I rx hs pl pu ⟨q1, q2, a, vs, q3, q4, q5⟩ => by subst q1 q2; exact sl_list pins s σ H x v vl vu _ _ sl Q I rx hs pl pu ⟨a, vs, q3, q4, q5⟩) (ha.run F _ _ _ j e1) (hl.run F _ _ _ j e2) (hh.run F _ _ _ j e3)) fun σ H Q ⟨hd, S, k⟩ => ?_
    refine ready S ev fun x H3 x3 rx S3 => ?_
    obtain ⟨p, vs, rfl, hp0, w⟩ := rx.lst
    refine ⟨p, vs, rfl, hp0.sq, fun q hq => ?_⟩
    have sm := Same.new (o := .lst (cutV vs l h)) hq
    exact k _ _ (x3.trans (.of_same sm)) (.own (.lst upd_same ((cutL_fz w l h).ext (.of_same sm)))) (by rw [hp_own _ upd_same]; exact S3.made hq trivial)
  · rename_i xs ev
    cases e
    refine PE.weak (pe_slice (r := fun x lo hi H Q => lo = l ∧ hi = h ∧ rSlA X.K x l h H Q) (fun pins s σ H x v vl vu lo hi sl Q I rx hs pl pu ⟨q1, q2, q3⟩ => by subst q1 q2; exact sl_tupA pins s σ H x v vl vu _ _ sl Q I rx hs pl pu q3) (ha.run F _ _ _ j e1) (hl.run F _ _ _ j e2) (hh.run F _ _ _ j e3)) fun σ H Q ⟨hd, S, k⟩ => ?_
    refine ready S ev fun x H3 x3 rx S3 => ?_
    obtain ⟨p, vs, rfl, hp0, w⟩ := rx.tup
    refine ⟨p, vs, rfl, hp0, fun ⟨z1, z2⟩ => ?_, fun _ q hq => ?_⟩
    · rw [w.len] at z1 z2
      rw [cutL_all xs l h z1 z2] at k
      exact k _ H3 x3 (.fz (.tup hp0 w)) (by rw [hp_fz]; exact S3)
    · have sm := Same.new (o := .tup (cutV vs l h)) hq
      exact k _ _ (x3.trans (.of_same sm)) (.fz (.tup (SqT.of upd_same) ((cutL_fz w l h).ext (.of_same sm)))) (by rw [hp_fz]; exact S3.grow sm)
  · rename_i z ev
    by_cases hz : z.length ≤ sizeLine
    · rw [if_pos hz] at e
      cases e
      refine PE.weak (pe_slice (r := fun x lo hi H Q => lo = l ∧ hi = h ∧ rSlS x l h H Q) (fun pins s σ H x v vl vu lo hi sl Q I rx hs pl pu ⟨q1, q2, q3⟩ => by subst q1 q2; exact sl_str pins s σ H x v vl vu _ _ sl Q I rx hs pl pu q3) (ha.run F _ _ _ j e1) (hl.run F _ _ _ j e2) (hh.run F _ _ _ j e3)) fun σ H Q ⟨hd, S, k⟩ => ?_
      refine ready S ev fun x H3 x3 rx S3 => ⟨z, rx.str, hz, k _ H3 x3 (.fz (.str _)) (by rw [hp_fz]; exact S3)⟩
    · rw [if_neg hz] at e; cases e
  · cases e

/-! ### built-in calls by values -/
def vals : List R → DS → Option (List D)
  | [], _ => some []
  | r :: rs, ds => Option.bind (r.val ds) fun d => Option.bind (vals rs ds) fun dd => some (d :: dd)
inductive RpL (K : Kx) (H : Hp) : List V → List D → Prop
  | nil : RpL K H [] []
  | cons {v : V} {d : D} {vs : List V} {ds : List D} : Rp K H v d → RpL K H vs ds → RpL K H (v :: vs) (d :: ds)
theorem RsRel.rps {K : Kx} {F : Fx} {ds : DS} {σ : Sg} {H : Hp} {hd : List (Addr × HO)} (S : SRel K F ds σ H hd) : ∀ {vs : List V} {rs : List R} {dd : List D}, RsRel K σ H vs rs → vals rs ds = some dd → RpL K H vs dd
  | _, _, dd, .nil, e => by cases e; exact .nil
  | _, _, dd, .cons h r, e => by
    unfold vals at e
    obtain ⟨d, e1, e⟩ := Option.bind_eq_some_iff.mp e
    obtain ⟨dd', e2, e⟩ := Option.bind_eq_some_iff.mp e
    cases e
    exact .cons (h.rp S e1) (r.rps S e2)
structure CallD (X : Cx) (f : Value) (g : List D → Option R) : Prop where
  run : ∀ dd r, g dd = some r → (∀ i, r ≠ .slot i) ∧ ∃ rl : List V → Hp → VK → Prop, CallR X f rl ∧ ∀ vs H Q, RpL X.kx H vs dd → ResD X.kx H Q r → rl vs H Q
def eCB (g : List D → Option R) (fs : DAs) : DX := fun ds => Option.bind (fs ds) fun p => Option.bind (vals p.1 p.2) fun dd => Option.bind (g dd) fun r => some (r, p.2)
theorem cb_read {f : Value} {g : List D → Option R} (hc : CallD X f g) {F : Fx} {ds : DS} {rs : List R} {ds1 : DS} {dd : List D} {r : R} (e2 : vals rs ds1 = some dd) (e3 : g dd = some r) :
    ∃ rl : List V → Hp → VK → Prop, CallR X f rl ∧ ∀ σ H Q, tD X.kx F ds r ds1 σ H Q → tCB rl (tDA X.kx F ds rs ds1) σ H Q := by
  obtain ⟨ns, rl, h1, h2⟩ := hc.run dd r e3
  refine ⟨rl, h1, fun σ H Q ⟨hd, S, k⟩ => ⟨hd, S, fun vs H1 x1 r1 S1 => ?_⟩⟩
  exact h2 vs H1 Q (r1.rps S1 e2) (resD ns x1 (S1.drop (List.sublist_append_right _ _)) k)
variable {x : Str} {p : Pos} {e : Expr} {es : List Expr} {fs : DAs} {idn T : String} {g : List D → Option R}
theorem d_callB (hc : CallD X (.builtin idn) g) (hg : Gl X x) (hm : X.mg x = none) (hv : bootBuiltins x = some (.builtin idn)) (ha : DA X io (e :: es) fs) (hn : x ≠ "__name__" := by decide) (hdb : (x == ("__debug__" : Str)) = false := by decide)
    (he : starEach (e :: es) X.env = (false, eval e X.env) :: starEach es X.env := by rfl) (hpl : (backTo pos (starEach es X.env)).any (·.1) = false := by rfl) : DE X io (.Call (.Name x p) (e :: es) [] pos) (eCB g fs) := by
  refine ⟨fun F ds r ds' j q => ?_⟩
  unfold eCB at q
  obtain ⟨⟨rs, ds1⟩, e1, q⟩ := Option.bind_eq_some_iff.mp q
  obtain ⟨dd, e2, q⟩ := Option.bind_eq_some_iff.mp q
  obtain ⟨r', e3, q⟩ := Option.bind_eq_some_iff.mp q
  cases q
  obtain ⟨rl, h1, h2⟩ := cb_read (F := F) (ds := ds) hc e2 e3
  exact PE.weak (pe_callB h1 hg hm hv (ha.run F _ _ _ j e1) hn hdb he hpl) h2
theorem d_callTy (hc : CallD X (.type T) g) (hg : Gl X x) (hm : X.mg x = none) (hv : bootBuiltins x = some (.type T)) (ha : DA X io (e :: es) fs) (hn : x ≠ "__name__" := by decide) (hdb : (x == ("__debug__" : Str)) = false := by decide)
    (he : starEach (e :: es) X.env = (false, eval e X.env) :: starEach es X.env := by rfl) (hpl : (backTo pos (starEach es X.env)).any (·.1) = false := by rfl) : DE X io (.Call (.Name x p) (e :: es) [] pos) (eCB g fs) := by
  refine ⟨fun F ds r ds' j q => ?_⟩
  unfold eCB at q
  obtain ⟨⟨rs, ds1⟩, e1, q⟩ := Option.bind_eq_some_iff.mp q
  obtain ⟨dd, e2, q⟩ := Option.bind_eq_some_iff.mp q
  obtain ⟨r', e3, q⟩ := Option.bind_eq_some_iff.mp q
  cases q
  obtain ⟨rl, h1, h2⟩ := cb_read (F := F) (ds := ds) hc e2 e3
  exact PE.weak (pe_callTy h1 hg hm hv (ha.run F _ _ _ j e1) hn hdb he hpl) h2
theorem RpL.one {K : Kx} {H : Hp} {vs : List V} {d : D} (h : RpL K H vs [d]) : ∃ v, vs = [v] ∧ Rp K H v d := by
  cases h with
  | cons h r => cases r; exact ⟨_, rfl, h⟩
theorem RpL.two {K : Kx} {H : Hp} {vs : List V} {d d' : D} (h : RpL K H vs [d, d']) : ∃ v v', vs = [v, v'] ∧ Rp K H v d ∧ Rp K H v' d' := by
  cases h with
  | cons h r =>
    obtain ⟨v, rfl, h'⟩ := r.one
    exact ⟨_, _, rfl, h, h'⟩
/-- len: lists, tuples, texts, dicts with int and text keys -/
def gLen : List D → Option R
  | [.lst xs] => some (.fz (.int xs.length))
  | [.tup xs] => some (.fz (.int xs.length))
  | [.str z] => if z.length ≤ sizeLine then some (.fz (.int z.length)) else none
  | [.dct .k es] => some (.fz (.int es.length))
  | _ => none
theorem FzK.len {K : Kx} {H : Hp} : ∀ {vs : List (Key × V)} {ds : List (D × D)}, FzK K H vs ds → vs.length = ds.length
  | _, _, .nil => rfl
  | _, _, .cons _ r => by rw [List.length_cons, List.length_cons, r.len]
theorem FzT.len {K : Kx} {H : Hp} : ∀ {vs : List Row} {ds : List (D × D)}, FzT K H vs ds → vs.length = ds.length
  | _, _, .nil => rfl
  | _, _, .cons _ _ _ _ _ r => by rw [List.length_cons, List.length_cons, r.len]
theorem Rp.dctK {K : Kx} {H : Hp} {v : V} {es : List (D × D)} (h : Rp K H v (.dct .k es)) : ∃ a kvs, v = .ref a ∧ Rd H a (.dK kvs) ∧ FzK K H kvs es := by
  rcases h with h | ⟨p, ob, rfl, w, e⟩
  · cases h with
    | dctK h r => exact ⟨_, _, rfl, .inr ⟨_, h⟩, r⟩
  · cases w with
    | dctK h r => cases e; exact ⟨_, _, rfl, .inl h, r⟩
    | lst _ _ => cases e
    | dctT _ _ => cases e
    | ins _ _ => cases e
    | insO _ _ _ => cases e
theorem Rp.dctT {K : Kx} {H : Hp} {v : V} {es : List (D × D)} (h : Rp K H v (.dct .t es)) : ∃ a kvs, v = .ref a ∧ Rd H a (tabO K a kvs) ∧ FzT K H kvs es := by
  rcases h with h | ⟨p, ob, rfl, w, e⟩
  · cases h with
    | dctT h r => exact ⟨_, _, rfl, .inr ⟨_, h⟩, r⟩
  · cases w with
    | dctT h r => cases e; exact ⟨_, _, rfl, .inl h, r⟩
    | lst _ _ => cases e
    | dctK _ _ => cases e
    | ins _ _ => cases e
    | insO _ _ _ => cases e
/-- len of a dict that may be frozen -/
theorem call_lenDR : CallR X (.builtin "len") (fun xs H Q => ∃ a kvs, xs = [V.ref a] ∧ Rd H a (.dK kvs) ∧ Q (.int kvs.length) H) := by
  intro pins s σ H xs us Q I r h
  obtain ⟨a, kvs, rfl, ha, q⟩ := h
  obtain ⟨u, rfl, ru⟩ := vals1 r
  cases ru
  exact d_len I ha fun t s' I' => ⟨.int kvs.length, H, I', ⟨t, rfl⟩, q⟩
theorem cd_len : CallD X (.builtin "len") gLen := by
  refine ⟨fun dd r e => ?_⟩
  unfold gLen at e
  split at e
  · cases e
    refine ⟨fun i z => (by cases z), _, call_len_seq, fun vs H Q hv k => ?_⟩
    obtain ⟨v, rfl, h⟩ := hv.one
    obtain ⟨l, xs, rfl, hl, w⟩ := h.lst
    exact ⟨l, xs, rfl, .inl hl.sq, by rw [w.len]; exact k _ H (Same.refl H) (.int _)⟩
  · cases e
    refine ⟨fun i z => (by cases z), _, call_len_seq, fun vs H Q hv k => ?_⟩
    obtain ⟨v, rfl, h⟩ := hv.one
    obtain ⟨l, xs, rfl, hl, w⟩ := h.tup
    exact ⟨l, xs, rfl, .inr hl, by rw [w.len]; exact k _ H (Same.refl H) (.int _)⟩
  · rename_i z
    by_cases hz : z.length ≤ sizeLine
    · rw [if_pos hz] at e
      cases e
      refine ⟨fun i z => (by cases z), _, call_len_str, fun vs H Q hv k => ?_⟩
      obtain ⟨v, rfl, h⟩ := hv.one
      exact ⟨z, by rw [h.str], hz, k _ H (Same.refl H) (.int _)⟩
    · rw [if_neg hz] at e; cases e
  · cases e
    refine ⟨fun i z => (by cases z), _, call_lenDR, fun vs H Q hv k => ?_⟩
    obtain ⟨v, rfl, h⟩ := hv.one
    obtain ⟨l, xs, rfl, hl, w⟩ := h.dctK
    exact ⟨l, xs, rfl, hl, by rw [w.len]; exact k _ H (Same.refl H) (.int _)⟩
  · cases e
/-- list(x) -/
def gList : List D → Option R
  | [.lst xs] => some (.own (.lst xs))
  | [.tup xs] => some (.own (.lst xs))
  | _ => none
theorem cd_list : CallD X (.type "list") gList := by
  refine ⟨fun dd r e => ?_⟩
  unfold gList at e
  split at e
  · cases e
    refine ⟨fun i z => (by cases z), _, call_list_of, fun vs H Q hv k => ?_⟩
    obtain ⟨v, rfl, h⟩ := hv.one
    obtain ⟨l, xs, rfl, hl, w⟩ := h.lst
    refine ⟨l, xs, rfl, .inl hl.sq, fun q hq => ?_⟩
    have sm := Same.new (o := .lst xs) hq
    exact k q _ _ sm hq upd_same (.lst upd_same (w.ext (.of_same sm)))
  · cases e
    refine ⟨fun i z => (by cases z), _, call_list_of, fun vs H Q hv k => ?_⟩
    obtain ⟨v, rfl, h⟩ := hv.one
    obtain ⟨l, xs, rfl, hl, w⟩ := h.tup
    refine ⟨l, xs, rfl, .inr hl, fun q hq => ?_⟩
    have sm := Same.new (o := .lst xs) hq
    exact k q _ _ sm hq upd_same (.lst upd_same (w.ext (.of_same sm)))
  · cases e
/-- tuple(x) -/
def gTuple : List D → Option R
  | [.lst xs] => some (.fz (.tup xs))
  | [.tup xs] => some (.fz (.tup xs))
  | _ => none
theorem cd_tuple : CallD X (.type "tuple") gTuple := by
  refine ⟨fun dd r e => ?_⟩
  unfold gTuple at e
  split at e
  · cases e
    refine ⟨fun i z => (by cases z), _, call_tuple_of, fun vs H Q hv k => ?_⟩
    obtain ⟨v, rfl, h⟩ := hv.one
    obtain ⟨l, xs, rfl, hl, w⟩ := h.lst
    refine ⟨l, xs, rfl, .inl ⟨hl.sq, fun q hq => ?_⟩⟩
    have sm := Same.new (o := .tup xs) hq
    exact k _ _ sm (.tup (SqT.of upd_same) (w.ext (.of_same sm)))
  · cases e
    refine ⟨fun i z => (by cases z), _, call_tuple_of, fun vs H Q hv k => ?_⟩
    obtain ⟨v, rfl, h⟩ := hv.one
    obtain ⟨l, xs, rfl, hl, w⟩ := h.tup
    exact ⟨l, xs, rfl, .inr ⟨hl, k _ H (Same.refl H) (.tup hl w)⟩⟩
  · cases e
/-- int(x) of an int, a flag; abs -/
def gInt : List D → Option R
  | [.int i] => some (.fz (.int i))
  | [.bl b] => some (.fz (.int (if b then 1 else 0)))
  | _ => none
theorem cd_int : CallD X (.type "int") gInt := by
  refine ⟨fun dd r e => ?_⟩
  unfold gInt at e
  split at e
  · rename_i i
    cases e
    refine ⟨fun i z => (by cases z), _, call_int1, fun vs H Q hv k => ?_⟩
    obtain ⟨v, rfl, h⟩ := hv.one
    exact .inl ⟨i, by rw [h.int], k _ H (Same.refl H) (.int _)⟩
  · rename_i b
    cases e
    refine ⟨fun i z => (by cases z), _, call_int1, fun vs H Q hv k => ?_⟩
    obtain ⟨v, rfl, h⟩ := hv.one
    exact .inr ⟨b, by rw [h.bl], k _ H (Same.refl H) (.int _)⟩
  · cases e
def gAbs : List D → Option R
  | [.int i] => some (.fz (.int (if i < 0 then -i else i)))
  | _ => none
theorem cd_abs : CallD X (.builtin "abs") gAbs := by
  refine ⟨fun dd r e => ?_⟩
  unfold gAbs at e
  split at e
  · rename_i i
    cases e
    refine ⟨fun i z => (by cases z), _, call_abs, fun vs H Q hv k => ?_⟩
    obtain ⟨v, rfl, h⟩ := hv.one
    exact ⟨i, by rw [h.int], k _ H (Same.refl H) (.int _)⟩
  · cases e
/-! lists of ints, of flags -/
def intsOf : List D → Option (List Int)
  | [] => some []
  | .int i :: r => Option.bind (intsOf r) fun l => some (i :: l)
  | _ => none
def blsOf : List D → Option (List Bool)
  | [] => some []
  | .bl i :: r => Option.bind (blsOf r) fun l => some (i :: l)
  | _ => none
theorem FzL.ints {K : Kx} {H : Hp} : ∀ {vs : List V} {ds : List D} {ns : List Int}, FzL K H vs ds → intsOf ds = some ns → vs = ns.map V.int
  | _, _, ns, .nil, e => by cases e; rfl
  | _, d :: ds, ns, .cons h r, e => by
    cases d with
    | int i =>
      obtain ⟨l, e1, e⟩ := Option.bind_eq_some_iff.mp (show Option.bind (intsOf ds) _ = _ from e)
      cases e
      cases h
      rw [r.ints e1, List.map_cons]
    | _ => cases e
theorem FzL.bls {K : Kx} {H : Hp} : ∀ {vs : List V} {ds : List D} {ns : List Bool}, FzL K H vs ds → blsOf ds = some ns → vs = ns.map V.bl
  | _, _, ns, .nil, e => by cases e; rfl
  | _, d :: ds, ns, .cons h r, e => by
    cases d with
    | bl i =>
      obtain ⟨l, e1, e⟩ := Option.bind_eq_some_iff.mp (show Option.bind (blsOf ds) _ = _ from e)
      cases e
      cases h
      rw [r.bls e1, List.map_cons]
    | _ => cases e
def gSum : List D → Option R
  | [.lst xs] => Option.bind (intsOf xs) fun ns => some (.fz (.int ns.sum))
  | _ => none
theorem cd_sum (hc : X.calm = true) : CallD X (.builtin "sum") gSum := by
  refine ⟨fun dd r e => ?_⟩
  unfold gSum at e
  split at e
  · obtain ⟨ns, e1, e⟩ := Option.bind_eq_some_iff.mp e
    cases e
    refine ⟨fun i z => (by cases z), _, cr_sum hc, fun vs H Q hv k => ?_⟩
    obtain ⟨v, rfl, h⟩ := hv.one
    obtain ⟨l, xs, rfl, hl, w⟩ := h.lst
    exact ⟨l, ns, rfl, by rw [← w.ints e1]; exact hl.sq, k _ H (Same.refl H) (.int _)⟩
  · cases e
def gAll : List D → Option R
  | [.lst xs] => Option.bind (blsOf xs) fun ns => some (.fz (.bl (ns.all fun b => b)))
  | _ => none
def gAny : List D → Option R
  | [.lst xs] => Option.bind (blsOf xs) fun ns => some (.fz (.bl (ns.any fun b => b)))
  | _ => none
theorem cd_all (hc : X.calm = true) : CallD X (.builtin "all") gAll := by
  refine ⟨fun dd r e => ?_⟩
  unfold gAll at e
  split at e
  · obtain ⟨ns, e1, e⟩ := Option.bind_eq_some_iff.mp e
    cases e
    refine ⟨fun i z => (by cases z), _, cr_all hc, fun vs H Q hv k => ?_⟩
    obtain ⟨v, rfl, h⟩ := hv.one
    obtain ⟨l, xs, rfl, hl, w⟩ := h.lst
    exact ⟨l, ns, rfl, by rw [← w.bls e1]; exact hl.sq, k _ H (Same.refl H) (.bl _)⟩
  · cases e
theorem cd_any (hc : X.calm = true) : CallD X (.builtin "any") gAny := by
  refine ⟨fun dd r e => ?_⟩
  unfold gAny at e
  split at e
  · obtain ⟨ns, e1, e⟩ := Option.bind_eq_some_iff.mp e
    cases e
    refine ⟨fun i z => (by cases z), _, cr_any hc, fun vs H Q hv k => ?_⟩
    obtain ⟨v, rfl, h⟩ := hv.one
    obtain ⟨l, xs, rfl, hl, w⟩ := h.lst
    exact ⟨l, ns, rfl, by rw [← w.bls e1]; exact hl.sq, k _ H (Same.refl H) (.bl _)⟩
  · cases e
def gMax2 : List D → Option R
  | [.int i, .int j] => some (.fz (.int (if j > i then j else i)))
  | _ => none
def gMin2 : List D → Option R
  | [.int i, .int j] => some (.fz (.int (if j < i then j else i)))
  | _ => none
theorem cd_max2 (hc : X.calm = true) : CallD X (.builtin "max") gMax2 := by
  refine ⟨fun dd r e => ?_⟩
  unfold gMax2 at e
  split at e
  · rename_i i j
    cases e
    refine ⟨fun i z => (by cases z), _, call_max2 hc, fun vs H Q hv k => ?_⟩
    obtain ⟨v, v', rfl, h, h'⟩ := hv.two
    exact ⟨i, j, by rw [h.int, h'.int], k _ H (Same.refl H) (.int _)⟩
  · cases e
theorem cd_min2 (hc : X.calm = true) : CallD X (.builtin "min") gMin2 := by
  refine ⟨fun dd r e => ?_⟩
  unfold gMin2 at e
  split at e
  · rename_i i j
    cases e
    refine ⟨fun i z => (by cases z), _, call_min2 hc, fun vs H Q hv k => ?_⟩
    obtain ⟨v, v', rfl, h, h'⟩ := hv.two
    exact ⟨i, j, by rw [h.int, h'.int], k _ H (Same.refl H) (.int _)⟩
  · cases e

/-! ### isinstance of built-in classes -/
def tyN : D → String
  | .non => "NoneType"
  | .bl _ => "bool"
  | .int _ => "int"
  | .str _ => "str"
  | .tup _ => "tuple"
  | .lst _ => "list"
  | .dct _ _ => "dict"
  | .ins _ _ => ""
/-- the class T's answers -/
def isiT (T : String) : D → Option Bool
  | .ins _ _ => none
  | .dct .t _ => none
  | .bl _ => some (T == "bool" || T == "int")
  | d => some (tyN d == T)
def isiTab (T : String) : Bool := (kitB "NoneType" T == some false) && (kitB "bool" T == some (T == "bool" || T == "int")) && (kitB "int" T == some ("int" == T)) && (kitB "str" T == some ("str" == T)) && (kitB "tuple" T == some ("tuple" == T)) && (kitB "list" T == some ("list" == T)) && (kitB "dict" T == some ("dict" == T))
theorem Rp.tyX {K : Kx} {H : Hp} {v : V} {d : D} {T : String} {b : Bool} (h : Rp K H v d) (e : isiT T d = some b) : TyX K.F H v (.type (tyN d)) := by
  cases d with
  | non => rw [h.non]; exact .base .non
  | bl b => rw [h.bl]; exact .base (.bl b)
  | int i => rw [h.int]; exact .base (.int i)
  | str x => rw [h.str]; exact .base (.str x)
  | tup xs =>
    obtain ⟨a, vs, rfl, hq, _⟩ := h.tup
    rcases hq with (q | ⟨o, q⟩) | ⟨o, its, n, q, c, _⟩
    · exact .base (.tup q)
    · exact .fTuple q
    · exact .kTuple q c
  | lst xs =>
    obtain ⟨a, vs, rfl, hq, _⟩ := h.lst
    rcases hq with (q | ⟨o, q⟩) | ⟨o, its, n, q, hc, _⟩
    · exact .base (.lst q)
    · exact .base (.frz q)
    · exact .kList q hc
  | dct t es =>
    cases t with
    | k =>
      obtain ⟨a, vs, rfl, hq, _⟩ := h.dctK
      rcases hq with q | ⟨o, q⟩
      · exact .base (.dK q)
      · exact .fDict q
    | t => cases e
  | ins c fs => cases e
def eIsi (T : String) (f : DX) : DX := fun ds => Option.bind (f ds) fun p => Option.bind (p.1.val p.2) fun d => Option.bind (isiT T d) fun b => some (.fz (.bl b), p.2)
theorem isiT_kit {T : String} {d : D} {b : Bool} (hT : isiTab T = true) (hN : (T == "NoneType") = false) (e : isiT T d = some b) : kitB (tyN d) T = some b := by
  unfold isiTab at hT
  simp only [Bool.and_eq_true, beq_iff_eq] at hT
  obtain ⟨⟨⟨⟨⟨⟨h1, h2⟩, h3⟩, h4⟩, h5⟩, h6⟩, h7⟩ := hT
  cases d with
  | non =>
    have e : some ("NoneType" == T) = some b := e
    rw [← Option.some.inj e]
    have : ("NoneType" == T) = false := by
      rw [← hN]; exact Bool.eq_iff_iff.mpr ⟨fun h => by rw [beq_iff_eq] at h ⊢; exact h.symm, fun h => by rw [beq_iff_eq] at h ⊢; exact h.symm⟩
    rw [this]; exact h1
  | bl _ => exact h2.trans e
  | int _ => exact h3.trans e
  | str _ => exact h4.trans e
  | tup _ => exact h5.trans e
  | lst _ => exact h6.trans e
  | dct t _ => cases t with
    | k => exact h7.trans e
    | t => cases e
  | ins _ _ => cases e
theorem d_isi {T : String} {y : Str} {py : Pos} {f : DX} (hT : isiTab T = true) (hN : (T == "NoneType") = false) (hg : Gl X "isinstance") (hm : X.mg "isinstance" = none) (hv : bootBuiltins "isinstance" = some (.builtin "isinstance")) (he : DE X io e f) (hgy : Gl X y) (hmy : X.mg y = none) (hvy : bootBuiltins y = some (.type T))
    (hny : y ≠ "__name__" := by decide) (hdy : (y == ("__debug__" : Str)) = false := by decide)
    (hse : starEach [e, .Name y py] X.env = (false, eval e X.env) :: starEach [.Name y py] X.env := by rfl) (hpl : (backTo pos (starEach [Expr.Name y py] X.env)).any (·.1) = false := by rfl) :
    DE X io (.Call (.Name "isinstance" p) [e, .Name y py] [] pos) (eIsi T f) := by
  refine ⟨fun F ds r ds' j q => ?_⟩
  unfold eIsi at q
  obtain ⟨⟨r1, ds1⟩, e1, q⟩ := Option.bind_eq_some_iff.mp q
  obtain ⟨d, e2, q⟩ := Option.bind_eq_some_iff.mp q
  obtain ⟨b, e3, q⟩ := Option.bind_eq_some_iff.mp q
  cases q
  refine PE.weak (pe_callB call_isi hg hm hv (pa_cons (he.run F _ _ _ j e1) (pa_cons (pe_bltn hgy hmy hvy (v := .ty T) rfl hny hdy) pa_nil rfl) hse) (by decide) (by decide) hse hpl) fun σ H Q ⟨hd, S, k⟩ => ?_
  refine ⟨hd, S, fun v H1 x1 r1 S1 => ?_⟩
  refine ⟨v, .ty T, .type (tyN d), .type T, b, rfl, .ty T, (r1.rp S1 e2).tyX e3, kit_ty (isiT_kit hT hN e3), ?_⟩
  exact k _ H1 x1 (.fz (.bl b)) (by rw [hp_fz]; exact S1.drop (List.sublist_append_right _ _))
end
end DL
/-! DL11: a list's methods, stores by place, what a loop walks. -/
namespace DL
open PySem PySem.Spec PyProof.Rows L2
section
variable {X : Cx} {io : Bool} {a b e o : Expr} {es : List Expr} {pos apos cpos : Pos} {fo fa fb : DX} {fs : DAs} {T idn : String} {name : Str}

/-! ### methods of an owned list: by what it holds and the arguments -/
abbrev GL := List D → List D → Option (D × List D)
structure LstD (X : Cx) (idn : String) (g : GL) : Prop where
  run : ∀ l dd d l', g l dd = some (d, l') → ∃ rl : V → List V → Hp → VK → Prop, MtR X idn rl ∧ ∀ p xs vs H Q, H p = some (.lst xs) → FzL X.kx H xs l → FzL X.kx H vs dd →
    (∀ v xs', Fz X.kx H v d → FzL X.kx H xs' l' → Q v (upd H p (.lst xs'))) → rl (.ref p) vs H Q
def lstAt (ds : DS) (i : Nat) : Option (List D) := match ds[i]? with
  | some (some (.own (.lst l))) => some l
  | _ => none
theorem lstAt_eq {ds : DS} {i : Nat} {l : List D} (h : lstAt ds i = some l) : ds[i]? = some (some (.own (.lst l))) := by
  unfold lstAt at h
  split at h
  · cases h; assumption
  · cases h
def slotOf : R → Option Nat
  | .slot i => some i
  | _ => none
theorem slotOf_eq {r : R} {i : Nat} (h : slotOf r = some i) : r = .slot i := by
  cases r <;> cases h
  rfl
def eLM (g : GL) (fo : DX) (fs : DAs) : DX := fun ds => Option.bind (fo ds) fun p => Option.bind (slotOf p.1) fun i => Option.bind (lstAt p.2 i) fun _ => Option.bind (fs p.2) fun q => Option.bind (frRs q.1 q.2) fun z => Option.bind (lstAt z.2 i) fun l =>
  Option.bind (g l z.1) fun y => some (.fz y.1, z.2.set i (some (.own (.lst y.2))))
theorem SRel.lst {K : Kx} {F : Fx} {ds : DS} {σ : Sg} {H : Hp} {hd : List (Addr × HO)} (S : SRel K F ds σ H hd) {i : Nat} {l : List D} {v : V} (h : lstAt ds i = some l) (hv : σ[i]? = some (some v)) : ∃ p xs, v = .ref p ∧ H p = some (.lst xs) ∧ FzL K H xs l := by
  obtain ⟨p, e1, w⟩ := S.own (lstAt_eq h)
  rw [hv] at e1; cases e1
  cases w with
  | lst h1 h2 => exact ⟨p, _, rfl, h1, h2⟩
theorem lm_end {F : Fx} {ds : DS} {σ : Sg} {H0 H : Hp} {i : Nat} {l l' : List D} {dd : List D} {d : D} {g : GL} {p : Addr} {xs vs : List V} {hd : List (Addr × HO)} {Q : VK} {rl : V → List V → Hp → VK → Prop} (S : SRel X.kx F ds σ H hd) (h : lstAt ds i = some l) (hv : σ[i]? = some (some (V.ref p))) (x : Ext H0 H) (fv : FzL X.kx H vs dd)
    (hrl : ∀ p xs vs H Q, H p = some (.lst xs) → FzL X.kx H xs l → FzL X.kx H vs dd → (∀ v xs', Fz X.kx H v d → FzL X.kx H xs' l' → Q v (upd H p (.lst xs'))) → rl (.ref p) vs H Q)
    (k : ∀ v H', Ext H0 H' → RRel X.kx σ H' v (.fz d) → SRel X.kx F (ds.set i (some (.own (.lst l')))) σ H' (hp H' v (.fz d) ++ hd) → Q v H') : rl (.ref p) vs H Q := by
  obtain ⟨p', xs, e1, h1, h2⟩ := S.lst h hv
  cases e1
  refine hrl p xs vs H Q h1 h2 fv fun v xs' w w' => ?_
  have xx : Ext H (upd H p (.lst xs')) := Ext.bx h1 trivial
  exact k v _ (x.trans xx) (.fz (w.ext xx)) (by rw [hp_fz]; exact S.sset (lstAt_eq h) hv (.own (.lst upd_same (w'.ext xx))))
theorem d_lm {g : GL} (hg : LstD X idn g) (pa : PlainAttrs "list") (slot : Slot "list" name idn) (hty : typeOf (.builtin idn) = pure (.type "method_descriptor")) (ho : DE X io o fo) (ha : DA X io (e :: es) fs)
    (hbase : attributeBase o name X.env (eval o X.env) = eval o X.env := by rfl)
    (hfew : ((backTo cpos (starEach (e :: es) X.env)).all (fun x => !x.1) && (backToKw cpos (keywordEach [] X.env)).all (fun x => x.1.isSome)
      && decide ((e :: es).length + ([] : List Keyword).length + (if ([] : List Keyword).isEmpty then 0 else 1) < 30)) = true := by rfl)
    (hline : (apos.endLine == cpos.line) = true := by rfl) (hs : starEach (e :: es) X.env = (false, eval e X.env) :: starEach es X.env := by rfl) (hplain : (backTo cpos (starEach es X.env)).any (·.1) = false := by rfl) :
    DE X io (.Call (.Attribute o name apos) (e :: es) [] cpos) (eLM g fo fs) := by
  refine ⟨fun F ds r ds' j q => ?_⟩
  unfold eLM at q
  obtain ⟨⟨r1, ds1⟩, e1, q⟩ := Option.bind_eq_some_iff.mp q
  obtain ⟨i, e2, q⟩ := Option.bind_eq_some_iff.mp q
  obtain ⟨l0, e3, q⟩ := Option.bind_eq_some_iff.mp q
  obtain ⟨⟨rs, ds2⟩, e4, q⟩ := Option.bind_eq_some_iff.mp q
  obtain ⟨⟨dd, ds3⟩, e5, q⟩ := Option.bind_eq_some_iff.mp q
  obtain ⟨l, e6, q⟩ := Option.bind_eq_some_iff.mp q
  obtain ⟨⟨d, l'⟩, e7, q⟩ := Option.bind_eq_some_iff.mp q
  cases q
  have e2' := slotOf_eq e2
  dsimp only at e2'
  subst e2'
  obtain ⟨rl, hm, hrl⟩ := hg.run l dd d l' e7
  refine PE.weak (pe_bm pa slot hty hm (ho.run F _ _ _ j e1) (pa_frz (ha.run F _ _ _ j e4)) hbase hfew hline hs hplain) fun σ H Q ⟨hd, S, k⟩ => ⟨hd, S, fun v H1 x1 r1 S1 => ?_⟩
  cases r1 with
  | slot hv =>
    rw [hp_slot] at S1
    have S1 : SRel X.kx F ds1 σ H1 hd := S1
    obtain ⟨p, xs, rfl, hp1, w1⟩ := S1.lst e3 hv
    refine ⟨.inl ⟨rfl, xs, SqL.of hp1⟩, hd, S1, fun vs H2 x2 r2 S2 => ?_⟩
    obtain ⟨ps, k1⟩ := frs r2 S2 e5
    refine ⟨ps, k1.mono fun H3 ⟨x3, f3, S3⟩ => ?_⟩
    exact lm_end (g := g) (xs := xs) S3 e6 hv ((x1.trans x2).trans x3) f3 hrl k
theorem d_lm0 {g : GL} (hg : LstD X idn g) (pa : PlainAttrs "list") (slot : Slot "list" name idn) (hty : typeOf (.builtin idn) = pure (.type "method_descriptor")) (ho : DE X io o fo)
    (hbase : attributeBase o name X.env (eval o X.env) = eval o X.env := by rfl) (hline : (apos.endLine == cpos.line) = true := by rfl) : DE X io (.Call (.Attribute o name apos) [] [] cpos) (eLM g fo aNil) := by
  refine ⟨fun F ds r ds' j q => ?_⟩
  unfold eLM at q
  obtain ⟨⟨r1, ds1⟩, e1, q⟩ := Option.bind_eq_some_iff.mp q
  obtain ⟨i, e2, q⟩ := Option.bind_eq_some_iff.mp q
  obtain ⟨l0, e3, q⟩ := Option.bind_eq_some_iff.mp q
  obtain ⟨⟨rs, ds2⟩, e4, q⟩ := Option.bind_eq_some_iff.mp q
  obtain ⟨⟨dd, ds3⟩, e5, q⟩ := Option.bind_eq_some_iff.mp q
  obtain ⟨l, e6, q⟩ := Option.bind_eq_some_iff.mp q
  obtain ⟨⟨d, l'⟩, e7, q⟩ := Option.bind_eq_some_iff.mp q
  cases q
  cases e4
  cases e5
  have e2' := slotOf_eq e2
  dsimp only at e2'
  subst e2'
  obtain ⟨rl, hm, hrl⟩ := hg.run l [] d l' e7
  refine PE.weak (pe_bm0 pa slot hty hm (ho.run F _ _ _ j e1) hbase hline) fun σ H Q ⟨hd, S, k⟩ => ⟨hd, S, fun v H1 x1 r1 S1 => ?_⟩
  cases r1 with
  | slot hv =>
    rw [hp_slot] at S1
    have S1 : SRel X.kx F ds1 σ H1 hd := S1
    obtain ⟨p, xs, rfl, hp1, w1⟩ := S1.lst e3 hv
    exact ⟨.inl ⟨rfl, xs, SqL.of hp1⟩, lm_end (g := g) (xs := xs) S1 e6 hv x1 .nil hrl k⟩
def gAppend : GL := fun l dd => match dd with
  | [d] => if l.length < sizeLine then some (.non, l ++ [d]) else none
  | _ => none
def gExtend : GL := fun l dd => match dd with
  | [.lst m] => if l.length + m.length ≤ sizeLine then some (.non, l ++ m) else none
  | _ => none
def gPop : GL := fun l dd => match dd with
  | [] => Option.bind l[l.length - 1]? fun d => some (d, l.dropLast)
  | [.int i] => if -(2 ^ 63) ≤ i ∧ i < 2 ^ 63 then Option.bind (seqIndex? i l.length) fun k => Option.bind l[k]? fun d => some (d, l.eraseIdx k) else none
  | _ => none
theorem ld_append : LstD X "list.append" gAppend := by
  refine ⟨fun l dd d l' e => ⟨_, mt_append, fun p xs vs H Q hp w wv k => ?_⟩⟩
  unfold gAppend at e
  split at e
  · by_cases c : l.length < sizeLine
    · rw [if_pos c] at e
      cases e
      cases wv with
      | cons wv r =>
        cases r
        exact ⟨p, xs, _, rfl, rfl, hp, by rw [w.len]; exact c, k _ _ .non (w.app (.one wv))⟩
    · rw [if_neg c] at e; cases e
  · cases e
theorem list_extendS (l : Addr) (items : Array Value) (n : Nat) (b : Addr) (items2 : Array Value) (n2 : Nat) (sl2 : Array (Option Value)) (hc0 : ¬(!items.isEmpty && Builtin.List.listTooLong (items.size + items2.size)) = true) (hc1 : items.size ≤ sizeLine) (hs2 : items.size + items2.size ≤ sizeLine + 1) :
    Meets (Builtin.«list.extend» ⟨[.ref l, .ref b], []⟩) (fun _ R s => s.heap.get? l = some { cls := .type "list", dict := none, data := .seq items n, slots := #[] } ∧ s.heap.get? b = some { cls := .type "list", dict := none, data := .seq items2 n2, slots := sl2 } ∧ R (.ok (.ret Value.none)) { s with heap := s.heap.update l (Obj.mapSeq fun x => x ++ items2), toks := s.toks }) :=
  .of_wp fun prog w A R s h => by
    obtain ⟨hp, g, d, tk, os⟩ := s
    obtain ⟨hl, hb, h⟩ := h
    have f1 := AutoSeq1.idx_int
    have f3 := AutoSeq1.sub_list_list
    have f5 := AutoSeq1.sub_list_tuple
    have hz' : (items ++ items2).size ≤ sizeLine + 1 := by rw [Array.size_append]; exact hs2
    wp_walk using (wpAny_updateSeq hl rfl (hz := hc1) (_hz' := hz')), AutoSeq1.wpAny_loadPart' hl, AutoSeq1.wpAny_loadPart' hb
    exact ⟨_, rfl, h⟩
/-- xs.extend(ys), ys any list -/
def rExtendR (K : PySem.W.Frag) : V → List V → Hp → VK → Prop := fun x vs H Q => ∃ l b xs zs, x = .ref l ∧ vs = [.ref b] ∧ H l = some (.lst xs) ∧ LsX K H b zs ∧ xs.length + zs.length ≤ sizeLine ∧ Q .non (upd H l (.lst (xs ++ zs)))
theorem mt_extendR : MtM X "list.extend" (rExtendR X.K) := by
  intro pins s σ H x vs v us Q I rx rv h
  obtain ⟨l, b, xs, zs, rfl, rfl, hH, hB, hz, q⟩ := h
  cases rx
  obtain ⟨u, rfl, ru⟩ := rv.one
  cases ru
  obtain ⟨z, its, n, r, hl, e⟩ := I.lstM hH
  obtain ⟨z2, its2, n2, sl2, r2, hl2, e2⟩ := hB.obj I
  have hsz : its.toArray.size + its2.toArray.size ≤ sizeLine := by rw [List.size_toArray, List.size_toArray]; omega
  have hlong : ¬ (!its.toArray.isEmpty && Builtin.List.listTooLong (its.toArray.size + its2.toArray.size)) = true := by
    rw [notLongL hsz, Bool.and_false]
    exact Bool.false_ne_true
  refine call_meets F.slot_list_extend ⟨_, e, rfl⟩ F.entry_list_extend (F.args_list_extend_2 _ _)
    (list_extendS l its.toArray n b its2.toArray n2 sl2 hlong (by rw [List.size_toArray]; omega) (by omega)) ⟨e, e2, ?_⟩
  refine ⟨.non, _, I.lset (its' := its ++ its2) hH e (by simp) (r.append r2) ?_, rfl, q⟩
  rw [List.length_append]
  exact hz
end
end DL
/-! DL12: what a loop walks. -/
namespace DL
open PySem PySem.Spec PyProof.Rows L2
section
variable {X : Cx} {io : Bool} {tg e a b : Expr} {pos p : Pos} {fe fa fb : DX} {fs : DAs}
theorem ld_extend : LstD X "list.extend" gExtend := by
  refine ⟨fun l dd d l' e => ⟨_, mt_extendR, fun p xs vs H Q hp w wv k => ?_⟩⟩
  unfold gExtend at e
  split at e
  · rename_i m
    by_cases c : l.length + m.length ≤ sizeLine
    · rw [if_pos c] at e
      cases e
      cases wv with
      | cons wv r =>
        cases r
        cases wv with
        | lst h1 h2 => exact ⟨p, _, xs, _, rfl, rfl, hp, .inl (.inr ⟨_, h1⟩), by rw [w.len, h2.len]; exact c, k _ _ .non (w.app h2)⟩
        | lstW h1 h2 => exact ⟨p, _, xs, _, rfl, rfl, hp, .inr h1, by rw [w.len, h2.len]; exact c, k _ _ .non (w.app h2)⟩
    · rw [if_neg c] at e; cases e
  · cases e
theorem ld_pop0 {l l' : List D} {d : D} (e : gPop l [] = some (d, l')) : ∃ rl : V → List V → Hp → VK → Prop, MtR X "list.pop" rl ∧ ∀ p xs vs H Q, H p = some (.lst xs) → FzL X.kx H xs l → FzL X.kx H vs [] →
    (∀ v xs', Fz X.kx H v d → FzL X.kx H xs' l' → Q v (upd H p (.lst xs'))) → rl (.ref p) vs H Q := by
  obtain ⟨d', e1, e⟩ := Option.bind_eq_some_iff.mp (show Option.bind l[l.length - 1]? (fun d => some (d, l.dropLast)) = some (d, l') from e)
  cases e
  refine ⟨_, mt_pop, fun p xs vs H Q hp w wv k => ?_⟩
  cases wv
  obtain ⟨v, e2, w2⟩ := w.get e1
  exact ⟨p, xs, v, rfl, rfl, hp, by rw [w.len]; exact e2, k _ _ w2 w.dropLast⟩
theorem ld_pop : LstD X "list.pop" gPop := by
  refine ⟨fun l dd d l' e => ?_⟩
  unfold gPop at e
  split at e
  · exact ld_pop0 e
  · rename_i i
    by_cases c : -(2 ^ 63) ≤ i ∧ i < 2 ^ 63
    · rw [if_pos c] at e
      obtain ⟨n, e1, e⟩ := Option.bind_eq_some_iff.mp e
      obtain ⟨d', e2, e⟩ := Option.bind_eq_some_iff.mp e
      cases e
      refine ⟨_, mt_popAt, fun p xs vs H Q hp w wv k => ?_⟩
      cases wv with
      | cons wv r =>
        cases r
        cases wv
        obtain ⟨v, e3, w3⟩ := w.get e2
        exact ⟨p, xs, i, n, v, rfl, rfl, hp, c.1, c.2, by rw [w.len]; exact e1, e3, k _ _ w3 (w.eraseIdx n)⟩
    · rw [if_neg c] at e; cases e
  · cases e
/-! ### lists, tuples, dicts' keys, texts -/
def selIt : D → Option (List D)
  | .lst xs => some xs
  | .tup xs => some xs
  | .dct .k es => some (es.map (·.1))
  | .str z => some (z.cps.toList.map fun c => .str ⟨#[c]⟩)
  | _ => none
def iAny (K : PySem.W.Frag) (tl : TE) : TI := fun σ H R => tl σ H fun x H1 => (∃ a xs, x = .ref a ∧ SqL K H1 a xs ∧ R (Itl K a) H1) ∨ (∃ a xs, x = .ref a ∧ SqT K H1 a xs ∧ R (Itt K a) H1) ∨
  (∃ d o kvs, x = .ref d ∧ H1 d = some (.frz o (.dK kvs)) ∧ R (Itk d o kvs) H1) ∨ ∃ z, x = .str z ∧ R (L2.Its z) H1
theorem pi_any {tl : TE} (hl : PE X e tl) : PI X tg e (iAny X.K tl) := by
  refine ⟨fun pins s σ H R I h => ?_⟩
  refine thn (hl.run pins s σ H _ I h) fun v s1 ⟨x, H1, I1, r1, q1⟩ => ?_
  rcases q1 with ⟨a, xs, rfl, hq, q⟩ | ⟨a, xs, rfl, hq, q⟩ | ⟨a, o, kvs, rfl, hq, q⟩ | ⟨z, rfl, q⟩
  · cases r1
    obtain ⟨its, rv, p, hz⟩ := I1.list hq
    exact wpAny_pyIter_list p.isList (pi_one (tk := s1.toks) I1 _ (turn_list a _) ⟨_, Heap.get?_push_size _ rfl, rfl, rfl⟩ q)
  · cases r1
    obtain ⟨its, rv, p, hz⟩ := I1.tuple hq
    exact wpAny_pyIter_tuple (show s1.heap.IsTuple a its.toArray from p) (pi_one (tk := s1.toks) I1 _ (turn_tuple a _) ⟨_, Heap.get?_push_size _ rfl, rfl, rfl⟩ q)
  · cases r1
    obtain ⟨hs, hgd, hx, es, ep, vs, hdt, hsz, kv, hm⟩ := I1.frzK hq
    refine iter_keys hs hgd hx hdt (pi_one (tk := s1.toks) I1 _ (turn_keys _ hdt) ⟨_, Heap.get?_push_size _ rfl, rfl, ?_⟩ q)
    rw [hsz] <;> rfl
  · obtain ⟨t, rfl⟩ := r1
    refine wpAny_pyIter_strU (pi_one (tk := s1.toks) I1 _ (turn_str _ z t (strIterType z) ?_) ⟨_, Heap.get?_push_size _ rfl, rfl, rfl⟩ q)
    unfold strIterType
    split
    · exact .inl rfl
    · exact .inr rfl
theorem its_list {K : Kx} {H0 : Hp} {a : Addr} {vs : List V} {ds : List D} (h : ∀ H, Ext H0 H → SqL K.F H a vs) (w : FzL K H0 vs ds) : Its K (Itl K.F a) ds H0 := fun H x => by
  refine ⟨fun i d e => ?_, fun i hi => ⟨vs, h H x, by rw [w.len]; exact hi⟩⟩
  obtain ⟨v, e1, w1⟩ := w.get e
  refine ⟨⟨vs, v, h H x, e1⟩, fun y H' ⟨eh, q⟩ => ?_⟩
  subst eh
  have := q vs (h _ x)
  rw [e1] at this
  cases this
  exact ⟨Same.refl _, w1.ext x⟩
theorem its_tup {K : Kx} {H0 : Hp} {a : Addr} {vs : List V} {ds : List D} (h : SqT K.F H0 a vs) (w : FzL K H0 vs ds) : Its K (Itt K.F a) ds H0 := fun H x => by
  refine ⟨fun i d e => ?_, fun i hi => ⟨vs, x.sqT h, by rw [w.len]; exact hi⟩⟩
  obtain ⟨v, e1, w1⟩ := w.get e
  refine ⟨⟨vs, v, x.sqT h, e1⟩, fun y H' ⟨eh, q⟩ => ?_⟩
  subst eh
  have := q vs (x.sqT h)
  rw [e1] at this
  cases this
  exact ⟨Same.refl _, w1.ext x⟩
theorem FzK.getD {K : Kx} {H : Hp} : ∀ {kvs : List (Key × V)} {es : List (D × D)} (_ : FzK K H kvs es) {i : Nat} {k d : D}, es[i]? = some (k, d) → ∃ k' v, kvs[i]? = some (k', v) ∧ k = keyD k' ∧ Fz K H v d
  | _, _, .nil, i, k, d, e => by cases i <;> cases e
  | _, _, .cons w r, 0, k, d, e => by cases e; exact ⟨_, _, rfl, rfl, w⟩
  | _, _, .cons w r, i + 1, k, d, e => r.getD (i := i) e
theorem Fz.keyV {K : Kx} {H : Hp} (k : Key) : Fz K H (kV k) (keyD k) := by
  cases k
  · exact .int _
  · exact .str _
theorem its_dct {K : Kx} {H0 : Hp} {a : Addr} {o : Obj} {kvs : List (Key × V)} {es : List (D × D)} (h : H0 a = some (.frz o (.dK kvs))) (w : FzK K H0 kvs es) : Its K (Itk a o kvs) (es.map (·.1)) H0 := fun H x => by
  refine ⟨fun i d e => ?_, fun i hi => ⟨x.frzs _ _ _ h, by rw [w.len, ← List.length_map (·.1)]; exact hi⟩⟩
  rw [List.getElem?_map] at e
  cases q : es[i]? with
  | none => rw [q] at e; cases e
  | some kd =>
    rw [q] at e
    cases e
    obtain ⟨k', v, e1, e2, w1⟩ := w.getD (i := i) (k := kd.1) (d := kd.2) q
    refine ⟨⟨x.frzs _ _ _ h, (List.getElem?_eq_some_iff.mp e1).1⟩, fun y H' ⟨eh, k2, v2, q1, q2⟩ => ?_⟩
    subst eh
    rw [e1] at q1
    cases q1
    subst q2
    show Same H' H' ∧ Fz K H' (kV k') kd.1
    rw [e2]
    exact ⟨Same.refl _, Fz.keyV k'⟩
theorem its_str {K : Kx} {H0 : Hp} {z : Str} : Its K (L2.Its z) (z.cps.toList.map fun c => .str ⟨#[c]⟩) H0 := fun H x => by
  refine ⟨fun i d e => ?_, fun i hi => by rw [List.length_map, Array.length_toList] at hi; exact hi⟩
  rw [List.getElem?_map, Array.getElem?_toList] at e
  cases q : z.cps[i]? with
  | none => rw [q] at e; cases e
  | some c =>
    rw [q] at e
    cases e
    refine ⟨(Array.getElem?_eq_some_iff.mp q).1, fun y H' ⟨eh, c', e1, e2⟩ => ?_⟩
    subst eh
    rw [q] at e1
    cases e1
    subst e2
    exact ⟨Same.refl _, .str _⟩
def iOf (fe : DX) : DIt := fun ds => Option.bind (fe ds) fun p => Option.bind (frR p.1 p.2) fun q => Option.bind (selIt q.1) fun l => some (l, q.2)
theorem its_of {F : Fx} {ds' : DS} {σ : Sg} {H0 H : Hp} {hd : List (Addr × HO)} {v : V} {d : D} {l : List D} {R : It → Hp → Prop} (w : Fz X.kx H v d) (e : selIt d = some l) (x : Ext H0 H) (S : SRel X.kx F ds' σ H hd)
    (k : ∀ J H', Ext H0 H' → SRel X.kx F ds' σ H' hd → Its X.kx J l H' → R J H') : (∃ a xs, v = .ref a ∧ SqL X.K H a xs ∧ R (Itl X.K a) H) ∨ (∃ a xs, v = .ref a ∧ SqT X.K H a xs ∧ R (Itt X.K a) H) ∨
  (∃ d o kvs, v = .ref d ∧ H d = some (.frz o (.dK kvs)) ∧ R (Itk d o kvs) H) ∨ ∃ z, v = .str z ∧ R (L2.Its z) H := by
  cases w with
  | lst h r => cases e; exact .inl ⟨_, _, rfl, .inl (.inr ⟨_, h⟩), k _ _ x S (its_list (fun H' y => .inl (.inr ⟨_, y.frzs _ _ _ h⟩)) r)⟩
  | lstW h r => cases e; exact .inl ⟨_, _, rfl, h.sq, k _ _ x S (its_list (fun H' y => h.sq) r)⟩
  | tup h r => cases e; exact .inr (.inl ⟨_, _, rfl, h, k _ _ x S (its_tup h r)⟩)
  | dctK h r => cases e; exact .inr (.inr (.inl ⟨_, _, _, rfl, h, k _ _ x S (its_dct h r)⟩))
  | str z => cases e; exact .inr (.inr (.inr ⟨_, rfl, k _ _ x S its_str⟩))
  | non => cases e
  | bl b => cases e
  | int i => cases e
  | dctT _ _ => cases e
  | ins _ _ => cases e
theorem di_of (he : DE X io e fe) : DI X io tg e (iOf fe) := by
  refine ⟨fun F ds items ds' j q => ?_⟩
  unfold iOf at q
  obtain ⟨⟨r1, ds1⟩, e1, q⟩ := Option.bind_eq_some_iff.mp q
  obtain ⟨⟨d, ds2⟩, e2, q⟩ := Option.bind_eq_some_iff.mp q
  obtain ⟨l, e3, q⟩ := Option.bind_eq_some_iff.mp q
  cases q
  refine PI.weak (pi_any (pe_frz (he.run F _ _ _ j e1))) fun σ H R ⟨hd, S, k⟩ => ⟨hd, S, fun v H1 x1 r1 S1 => ?_⟩
  obtain ⟨ps, k1⟩ := fr1 r1 S1 e2
  exact ⟨ps, k1.mono fun H2 ⟨x2, w, S2⟩ => its_of w e3 (x1.trans x2) S2 k⟩
/-! ### ranges -/
def rng (lo : Int) (n : Nat) : List D := (List.range n).map fun i => .int (lo + (i : Nat))
theorem its_rng {K : Kx} {H0 : Hp} {lo : Int} {n : Nat} : Its K (Itr lo n) (rng lo n) H0 := fun H x => by
  refine ⟨fun i d e => ?_, fun i hi => by unfold rng at hi; rw [List.length_map, List.length_range] at hi; exact hi⟩
  unfold rng at e
  rw [List.getElem?_map] at e
  cases q : (List.range n)[i]? with
  | none => rw [q] at e; cases e
  | some j =>
    rw [q] at e
    cases e
    obtain ⟨h1, h2⟩ := List.getElem?_eq_some_iff.mp q
    rw [List.getElem_range] at h2
    subst h2
    rw [List.length_range] at h1
    refine ⟨h1, fun y H' ⟨eh, e2⟩ => ?_⟩
    subst eh e2
    exact ⟨Same.refl _, .int _⟩
def small (i : Int) : Bool := decide (-(2 ^ 62) ≤ i) && decide (i < 2 ^ 62)
def iR1 (fs : DAs) : DIt := fun ds => Option.bind (fs ds) fun p => match p.1 with
  | [.fz (.int j)] => if small j = true then some (rng 0 j.toNat, p.2) else none
  | _ => none
def iR2 (fs : DAs) : DIt := fun ds => Option.bind (fs ds) fun p => match p.1 with
  | [.fz (.int i), .fz (.int j)] => if small i = true ∧ small j = true then some (rng i (j - i).toNat, p.2) else none
  | _ => none
theorem small_iff {i : Int} (h : small i = true) : -(2 ^ 62) ≤ i ∧ i < 2 ^ 62 := by
  unfold small at h
  rw [Bool.and_eq_true, decide_eq_true_iff, decide_eq_true_iff] at h
  exact h
theorem di_range1 (hg : Gl X "range") (hm : X.mg "range" = none) (ha : DA X io [a] fs) (hs : starEach [a] X.env = [(false, eval a X.env)] := by rfl) : DI X io tg (.Call (.Name "range" p) [a] [] pos) (iR1 fs) := by
  refine ⟨fun F ds items ds' j q => ?_⟩
  unfold iR1 at q
  obtain ⟨⟨rs, ds1⟩, e1, q⟩ := Option.bind_eq_some_iff.mp q
  dsimp only at q
  split at q
  · rename_i i
    by_cases c : small i = true
    · rw [if_pos c] at q
      cases q
      refine PI.weak (pi_range1 hg hm (ha.run F _ _ _ j e1) hs) fun σ H R ⟨hd, S, k⟩ => ⟨hd, S, fun vs H1 x1 r1 S1 => ?_⟩
      cases r1 with
      | cons r0 r1 =>
        cases r1
        cases r0 with
        | fz w =>
          cases w
          exact ⟨i, rfl, (small_iff c).1, (small_iff c).2, k _ _ x1 (S1.drop (List.sublist_append_right _ _)) its_rng⟩
    · rw [if_neg c] at q; cases q
  · cases q
theorem di_range2 (hg : Gl X "range") (hm : X.mg "range" = none) (ha : DA X io [a, b] fs) (hs : starEach [a, b] X.env = [(false, eval a X.env), (false, eval b X.env)] := by rfl) (hs2 : starEach [b] X.env = [(false, eval b X.env)] := by rfl) :
    DI X io tg (.Call (.Name "range" p) [a, b] [] pos) (iR2 fs) := by
  refine ⟨fun F ds items ds' j q => ?_⟩
  unfold iR2 at q
  obtain ⟨⟨rs, ds1⟩, e1, q⟩ := Option.bind_eq_some_iff.mp q
  dsimp only at q
  split at q
  · rename_i i i2
    by_cases c : small i = true ∧ small i2 = true
    · rw [if_pos c] at q
      cases q
      refine PI.weak (pi_range2 hg hm (ha.run F _ _ _ j e1) hs hs2) fun σ H R ⟨hd, S, k⟩ => ⟨hd, S, fun vs H1 x1 r1 S1 => ?_⟩
      cases r1 with
      | cons r0 r1 =>
        cases r1 with
        | cons r2 r1 =>
          cases r1
          cases r0 with
          | fz w =>
            cases w
            cases r2 with
            | fz w =>
              cases w
              exact ⟨i, i2, rfl, ⟨(small_iff c.1).1, (small_iff c.1).2, (small_iff c.2).1, (small_iff c.2).2⟩, k _ _ x1 (S1.drop (List.sublist_append_right _ _)) its_rng⟩
    · rw [if_neg c] at q; cases q
  · cases q
/-! ### enumerate, zip -/
set_option maxHeartbeats 1000000 in
theorem meets_enum1 {v : Value} {o : Obj} {H : Heap → Prop} (B : Begins v o H) :
    Meets (Builtin.«enumerate.__new__» ⟨[.type "enumerate", v], []⟩) (fun _ R s => H s.heap ∧
      R (.ok (.ret (.ref (s.heap.push o).objs.size))) { s with heap := (s.heap.push o).push { cls := .type "enumerate", data := .fields #[.none, .bool false, .ref s.heap.objs.size, rawInt 0, .none, .none] } }) :=
  .of_wp fun prog w A R s h => by
    obtain ⟨hp, g, d, tk, os⟩ := s; obtain ⟨h1, h⟩ := h
    have hsub := sub_enumerate
    have q1 : ∀ {A' : Around} {E : Value → Shared → Prop} {Q : Value → Shared → Prop}, Q (.ref hp.objs.size) ⟨hp.push o, g, d, tk, os⟩ → wpAny (model prog w) A' (pyIter v) Q E ⟨hp, g, d, tk, os⟩ :=
      fun q => B.iter prog w _ _ ⟨hp, g, d, tk, os⟩ _ h1 q
    wp_walk using q1
    refine wpAny_stack_any fun st => wpAny_pure ?_
    split
    · rename_i c _ _ _ _ _
      cases (c == Value.type "enumerate")
      · wp_walk using q1
        exact ⟨_, rfl, h⟩
      · wp_walk using q1
        exact ⟨_, rfl, h⟩
    · wp_walk using q1
      exact ⟨_, rfl, h⟩
theorem call_enum1 {prog : Program} {w : World} {A : Around} {E : Value → Shared → Prop} {s : Shared} {v : Value} {o : Obj} {H : Heap → Prop} {Q : Value → Shared → Prop} (B : Begins v o H) (h1 : H s.heap)
    (h : ∀ h', IsEnum h' (s.heap.objs.size + 1) s.heap.objs.size 0 .none → h'.get? s.heap.objs.size = some o → h'.objs.size = s.heap.objs.size + 2 →
      (∀ b o, s.heap.get? b = some o → h'.get? b = some o) → Q (.ref (s.heap.objs.size + 1)) { s with heap := h' }) :
    wpAny (model prog w) A (call (.type "enumerate") [v]) Q E s := by
  refine callType_new F.called_enumerate (by decide) (F.typeCall_enumerate_1 _) (F.newCall_enumerate_1 _) (fun obj => F.args_object_init_2 obj _) F.entry_enumerate_new
    (meets_enum1 B) ⟨h1, ?_⟩
  have hz : (s.heap.push o).objs.size = s.heap.objs.size + 1 := Heap.size_push ..
  show _ ∧ _
  rw [hz]
  have he := Heap.get?_push_size (s.heap.push o) (o := { cls := .type "enumerate", data := .fields #[.none, .bool false, .ref s.heap.objs.size, rawInt 0, .none, .none] }) rfl
  rw [hz] at he
  exact ⟨⟨_, he, rfl⟩, h _ he (Heap.get?_push_of_some _ (Heap.get?_push_size _ B.free)) (by rw [Heap.size_push, hz]) fun b o x => Heap.get?_push_of_some _ (Heap.get?_push_of_some _ x)⟩
end
end DL
/-! DL13: enumerate and zip. -/
namespace DL
open PySem PySem.Spec PyProof.Rows L2
/-- the tuple at a, each item in a new pair -/
def IteT (K : PySem.W.Frag) (a : Addr) : It :=
  ⟨fun i H => ∃ (xs : List V) (x : V), SqT K H a xs ∧ xs[i]? = some x, fun i H v H' => ∃ T x, v = .ref T ∧ H T = none ∧ H' = upd H T (.tup [.int (i : Nat), x]) ∧ ∀ xs, SqT K H a xs → xs[i]? = some x, fun i H => ∃ xs : List V, SqT K H a xs ∧ xs.length ≤ i⟩
theorem turn_enumT {P : Program} {w : World} {K : PySem.W.Frag} {elts : List Expr} {kk : Nat} {tpos : Pos} (a e it : Addr) :
    Turn P w K (.Tuple elts kk tpos) (IteT K a) [e, it] e (fun i h => (∃ old, IsEnum h e it ((i : Nat) : Int) old) ∧ h.IsTupleIter it a i ∧ e ≠ it ∧ a ≠ e ∧ a ≠ it) where
  mem := by simp
  obj := fun i h st b hb => by
    obtain ⟨⟨old, he⟩, ⟨o, ho, hc, hd⟩, _⟩ := st
    have e' : b = e ∨ b = it := by simpa using hb
    rcases e' with z | z
    · rw [z]; exact ⟨_, he, fun v q => nomatch q⟩
    · rw [z]; exact ⟨o, ho, fun v q => by rw [hd] at q; cases q⟩
  keep := fun i h h' st k => let ⟨⟨old, he⟩, hi, hne⟩ := st; ⟨⟨old, k e (by simp) _ he⟩, hi.at fun o q => k it (by simp) o q, hne⟩
  item := by
    intro X hP hw hK hc i pins s σ H E I hf st hg
    subst hP hw hK
    obtain ⟨⟨old, he⟩, hit, hne, hae, hai⟩ := st
    obtain ⟨xs, x, hq, hx⟩ := hg
    obtain ⟨its, rv, p, hz⟩ := I.tuple hq
    obtain ⟨u, hu, ru⟩ := rv.get hx
    have hel : e < s.heap.objs.size := Heap.lt_size he
    have hil : it < s.heap.objs.size := by obtain ⟨_, q, _⟩ := hit; exact Heap.lt_size q
    have D := Draws.tuple (prog := X.prog) (w := X.w) (A := X.A.in1) (I.ok.hd hc) it a hai its.toArray
    have hlt : i < its.toArray.size := by
      rw [List.size_toArray]; exact (List.getElem?_eq_some_iff.mp hu).1
    refine wpAny_pyNext_enum_itemD D he ⟨hit, p⟩ hlt hne (by simp [hne, Ne.symm hae]) fun y h' tk hy ho hst hT hsz hk => ?_
    have ey : y = u := by
      have hy : its.toArray[i]? = some y := hy
      rw [List.getElem?_toArray, hu] at hy
      exact (Option.some.inj hy).symm
    subst ey
    refine ⟨_, rfl, wpAny_letOwnedTupleGo_enum (s := { s with heap := h', toks := tk + 1 }) ho fun h'' he' sb => ?_⟩
    have hT2 : h''.get? s.heap.objs.size = some { cls := .type "tuple", data := .seq #[.int i tk, y] } := (sb.2 _ (Nat.ne_of_gt hel)).trans hT
    have new : ObjOk X.prog X.w (upd H s.heap.objs.size (.tup [.int (i : Nat), x])) h'' s.heap.objs.size (.tup [.int (i : Nat), x]) :=
      ⟨by show 2 ≤ sizeLine; decide, [.int i tk, y], .cons ⟨_, rfl⟩ (.cons ru .nil), ⟨_, hT2, rfl, _, rfl⟩⟩
    have I1 : Inv X pins σ (upd H s.heap.objs.size (.tup [.int (i : Nat), x])) { s with heap := h'', toks := tk + 1 } :=
      I.turnedNew (ch := [e, it]) (fun b ob hb q => (sb.2 b (fun z => hb (by simp [z]))).trans (hk b ob (fun z => hb (by simp [z])) (fun z => hb (by simp [z])) q)) hf (Nat.le_refl _) new
    refine ⟨.ref s.heap.objs.size, _, I1, rfl, ⟨_, x, rfl, I.hok.fresh (Nat.le_refl _), rfl, fun ys hy => by rw [I.tuple_inj hy hq]; exact hx⟩, ⟨⟨y, ?_⟩, hst.1.at fun o q => (sb.2 it (Ne.symm hne)).trans q, hne, hae, hai⟩, fun b hb => ?_⟩
    · have e1 : ((i + 1 : Nat) : Int) = (i : Int) + 1 := by omega
      rw [e1]; exact he'
    · have hb' : b < s.heap.objs.size := by
        have e' : b = e ∨ b = it := by simpa using hb
        rcases e' with z | z
        · rw [z]; exact hel
        · rw [z]; exact hil
      rw [upd_ne (Nat.ne_of_lt hb')]
      exact (hf b hb).1
  done := by
    intro X hP hw hK hc i pins s σ H E I hf st hg
    subst hP hw hK
    obtain ⟨⟨old, he⟩, hit, hne, hae, hai⟩ := st
    obtain ⟨xs, hq, hx⟩ := hg
    obtain ⟨its, rv, p, hz⟩ := I.tuple hq
    obtain ⟨f0, f1, f2, f3, f4, f5⟩ := hf it (by simp)
    have hl := rv.length
    have D := Draws.tuple (prog := X.prog) (w := X.w) (A := X.A.in1) (I.ok.hd hc) it a hai its.toArray
    have hT : s.TypeIs (.ref e) "enumerate" := ⟨_, he, rfl⟩
    unfold pyNext
    refine wpAny_bind (wpAny_attempt (wpAny_callSpecial?_slot (name := Str.ofString "__next__") hT F.slot_enumerate_next
      (wpAny_call_entry F.slot_enumerate_next hT F.entry_enumerate_next ?_ (F.args_enumerate_next_1 _))))
    show wpAny _ _ (field (.ref e) 2 >>= _) _ _ _
    refine wpAny_bind (wpAny_field he rfl (x := .ref it) rfl ?_)
    refine wpAny_bind (wpAny_nextOf_tuple_end (A := X.A.in1) (I.ok.hd hc) hit p (Array.getElem?_eq_none (by simp; omega)) fun h' x he' hx' => ?_)
    obtain ⟨o, ho, hc'⟩ := hx'
    refine wpAny_bind (wpAny_isInstance (T := "StopIteration") (b := true) ⟨o, ho, hc'⟩ isSubtype_stop ?_)
    exact wpAny_pure ⟨rfl, I.turned (t' := s.toks) (fun b o hb q => he' b o hb q) f0 f1 f3 f4 f5⟩
  self := fun A i s Q E st h => let ⟨⟨_, he⟩, _⟩ := st; wpAny_pyIter_enum he h
section
variable {X : Cx} {io : Bool} {tg e a b : Expr} {pos p tpos : Pos} {elts : List Expr} {kk : Nat} {fe fa fb : DX} {fs : DAs}
def iEnumA (K : PySem.W.Frag) (ta : TA) : TI := fun σ H R => ta σ H fun vs H1 => ∃ a xs, vs = [.ref a] ∧ ((SqL K H1 a xs ∧ R (Ite K a) H1) ∨ (SqT K H1 a xs ∧ R (IteT K a) H1))
theorem pi_enumA {ta : TA} (hg : Gl X "enumerate") (hm : X.mg "enumerate" = none) (ha : PA X [e] ta) (hs : starEach [e] X.env = [(false, eval e X.env)] := by rfl) :
    PI X (.Tuple elts kk tpos) (.Call (.Name "enumerate" p) [e] [] pos) (iEnumA X.K ta) := by
  refine ⟨fun pins s σ H R I h => ?_⟩
  refine Call_ (ld_blt I hg hm boot_enumerate (PyProof.Rows.callWith_type1 (thn (ha.run pos pins s σ H _ I h) fun us s1 ⟨vs, H1, I1, r1, q1⟩ => ?_) hs rfl))
  obtain ⟨a, xs, ex, q1⟩ := q1
  subst ex
  have lo : ∀ b, b = s1.heap.objs.size + 1 ∨ b = s1.heap.objs.size → FpOk X pins H1 b := fun b e' => by
    have hle : s1.heap.objs.size ≤ b := by
      rcases e' with z | z
      · rw [z]; exact Nat.le_add_right _ _
      · rw [z]; exact Nat.le_refl _
    exact I1.fpOk hle (I1.hok.fresh hle)
  cases r1 with
  | cons r rr =>
    cases rr
    cases r
    rcases q1 with ⟨hq, q⟩ | ⟨hq, q⟩
    · obtain ⟨its, rv, p', hz⟩ := I1.list hq
      refine call_enumerate_list p'.isList fun h' he hit hsz hk => wpAny_pyIter_enum he ?_
      have I2 : Inv X pins σ H1 { s1 with heap := h' } := I1.kept (t' := s1.toks) hk
      exact ⟨s1.heap.objs.size + 1, [s1.heap.objs.size + 1, s1.heap.objs.size], _, _, H1, rfl, I2, turn_enum a (s1.heap.objs.size + 1) s1.heap.objs.size, ⟨⟨.none, he⟩, hit, Nat.succ_ne_self _⟩, fun b hb => lo b (by simpa using hb), q⟩
    · obtain ⟨its, rv, p', hz⟩ := I1.tuple hq
      obtain ⟨o1, ho1, _⟩ := id p'
      have hal := Heap.lt_size ho1
      refine call_enum1 (begins_tuple a its.toArray) p' fun h' he hit hsz hk => wpAny_pyIter_enum he ?_
      have I2 : Inv X pins σ H1 { s1 with heap := h' } := I1.kept (t' := s1.toks) hk
      exact ⟨s1.heap.objs.size + 1, [s1.heap.objs.size + 1, s1.heap.objs.size], _, _, H1, rfl, I2, turn_enumT a (s1.heap.objs.size + 1) s1.heap.objs.size, ⟨⟨.none, he⟩, ⟨_, hit, rfl, rfl⟩, Nat.succ_ne_self _, Nat.ne_of_lt (Nat.lt_succ_of_lt hal), Nat.ne_of_lt hal⟩, fun b hb => lo b (by simpa using hb), q⟩
def enumD (l : List D) : List D := l.zipIdx.map fun p => .tup [.int (p.2 : Nat), p.1]
theorem enumD_get {l : List D} {i : Nat} {d : D} (e : (enumD l)[i]? = some d) : ∃ x, l[i]? = some x ∧ d = .tup [.int (i : Nat), x] := by
  unfold enumD at e
  rw [List.getElem?_map, List.getElem?_zipIdx, Option.map_map] at e
  cases q : l[i]? with
  | none => rw [q] at e; cases e
  | some x => rw [q] at e; cases e; exact ⟨x, rfl, by simp⟩
theorem enumD_len (l : List D) : (enumD l).length = l.length := by simp [enumD]
theorem pair_end {K : Kx} {H0 H : Hp} {T : Addr} {x y : V} {dx dy : D} (x0 : Ext H0 H) (hT : H T = none) (wx : Fz K H0 x dx) (wy : Fz K H0 y dy) : Same H (upd H T (.tup [x, y])) ∧ Fz K (upd H T (.tup [x, y])) (.ref T) (.tup [dx, dy]) := by
  have sm := Same.new (o := .tup [x, y]) hT
  have xx : Ext H0 (upd H T (.tup [x, y])) := x0.trans (.of_same sm)
  exact ⟨sm, .tup (SqT.of upd_same) (.cons (wx.ext xx) (.cons (wy.ext xx) .nil))⟩
theorem its_enumL {K : Kx} {H0 : Hp} {a : Addr} {vs : List V} {ds : List D} (h : ∀ H, Ext H0 H → SqL K.F H a vs) (w : FzL K H0 vs ds) : Its K (Ite K.F a) (enumD ds) H0 := fun H x => by
  refine ⟨fun i d e => ?_, fun i hi => ⟨vs, h H x, by rw [w.len, ← enumD_len]; exact hi⟩⟩
  obtain ⟨d', q, rfl⟩ := enumD_get e
  obtain ⟨v, e1, w1⟩ := w.get q
  refine ⟨⟨vs, v, h H x, e1⟩, fun y H' ⟨T, x', ey, hT, eh, q⟩ => ?_⟩
  subst eh ey
  have := q vs (h _ x)
  rw [e1] at this
  cases this
  exact pair_end x hT (.int _) w1
theorem its_enumT {K : Kx} {H0 : Hp} {a : Addr} {vs : List V} {ds : List D} (h : SqT K.F H0 a vs) (w : FzL K H0 vs ds) : Its K (IteT K.F a) (enumD ds) H0 := fun H x => by
  refine ⟨fun i d e => ?_, fun i hi => ⟨vs, x.sqT h, by rw [w.len, ← enumD_len]; exact hi⟩⟩
  obtain ⟨d', q, rfl⟩ := enumD_get e
  obtain ⟨v, e1, w1⟩ := w.get q
  refine ⟨⟨vs, v, x.sqT h, e1⟩, fun y H' ⟨T, x', ey, hT, eh, q⟩ => ?_⟩
  subst eh ey
  have := q vs (x.sqT h)
  rw [e1] at this
  cases this
  exact pair_end x hT (.int _) w1
def selLT : D → Option (List D)
  | .lst xs => some xs
  | .tup xs => some xs
  | _ => none
def iEnumD (fs : DAs) : DIt := fun ds => Option.bind (fs ds) fun p => Option.bind (frRs p.1 p.2) fun q => match q.1 with
  | [d] => Option.bind (selLT d) fun l => some (enumD l, q.2)
  | _ => none
theorem di_enum (hg : Gl X "enumerate") (hm : X.mg "enumerate" = none) (ha : DA X io [e] fs) (hs : starEach [e] X.env = [(false, eval e X.env)] := by rfl) : DI X io (.Tuple elts kk tpos) (.Call (.Name "enumerate" p) [e] [] pos) (iEnumD fs) := by
  refine ⟨fun F ds items ds' j q => ?_⟩
  unfold iEnumD at q
  obtain ⟨⟨r1, ds1⟩, e1, q⟩ := Option.bind_eq_some_iff.mp q
  obtain ⟨⟨dd, ds2⟩, e2, q⟩ := Option.bind_eq_some_iff.mp q
  dsimp only at q
  split at q
  · rename_i d
    obtain ⟨l, e3, q⟩ := Option.bind_eq_some_iff.mp q
    cases q
    refine PI.weak (pi_enumA hg hm (pa_frz (ha.run F _ _ _ j e1)) hs) fun σ H R ⟨hd, S, k⟩ => ⟨hd, S, fun v H1 x1 r1 S1 => ?_⟩
    obtain ⟨ps, k1⟩ := frs r1 S1 e2
    refine ⟨ps, k1.mono fun H2 ⟨x2, w, S2⟩ => ?_⟩
    cases w with
    | cons w r =>
      cases r
      cases w with
      | lst h r => cases e3; exact ⟨_, _, rfl, .inl ⟨.inl (.inr ⟨_, h⟩), k _ _ (x1.trans x2) S2 (its_enumL (fun H' y => .inl (.inr ⟨_, y.frzs _ _ _ h⟩)) r)⟩⟩
      | lstW h r => cases e3; exact ⟨_, _, rfl, .inl ⟨h.sq, k _ _ (x1.trans x2) S2 (its_enumL (fun H' y => h.sq) r)⟩⟩
      | tup h r => cases e3; exact ⟨_, _, rfl, .inr ⟨h, k _ _ (x1.trans x2) S2 (its_enumT h r)⟩⟩
      | dctK h r => cases e3
      | str z => cases e3
      | non => cases e3
      | bl b => cases e3
      | int i => cases e3
      | dctT _ _ => cases e3
      | ins _ _ => cases e3
  · cases q
/-! ### zip -/
def zipD (l m : List D) : List D := List.zipWith (fun a b => .tup [a, b]) l m
theorem zipD_get {l m : List D} {i : Nat} {d : D} (e : (zipD l m)[i]? = some d) : ∃ x y, l[i]? = some x ∧ m[i]? = some y ∧ d = .tup [x, y] := by
  unfold zipD at e
  rw [List.getElem?_zipWith] at e
  split at e
  · rename_i x y h1 h2; cases e; exact ⟨x, y, h1, h2, rfl⟩
  · cases e
theorem its_zipL {K : Kx} {H0 : Hp} {a b : Addr} {vs us : List V} {ds es : List D} (h : ∀ H, Ext H0 H → SqL K.F H a vs) (h2 : ∀ H, Ext H0 H → SqL K.F H b us) (w : FzL K H0 vs ds) (w2 : FzL K H0 us es) : Its K (Itz K.F a b) (zipD ds es) H0 := fun H x => by
  refine ⟨fun i d e => ?_, fun i hi => ⟨vs, us, h H x, h2 H x, by rw [w.len, w2.len]; unfold zipD at hi; rw [List.length_zipWith] at hi; omega⟩⟩
  obtain ⟨d1, d2, q1, q2, rfl⟩ := zipD_get e
  obtain ⟨v, e1, w1⟩ := w.get q1
  obtain ⟨u, e3, w3⟩ := w2.get q2
  refine ⟨⟨vs, us, v, u, h H x, h2 H x, e1, e3⟩, fun y H' ⟨T, x', y', ey, hT, eh, q, q'⟩ => ?_⟩
  subst eh ey
  have := q vs (h _ x)
  rw [e1] at this
  cases this
  have := q' us (h2 _ x)
  rw [e3] at this
  cases this
  exact pair_end x hT w1 w3
theorem its_zipT {K : Kx} {H0 : Hp} {a b : Addr} {vs us : List V} {ds es : List D} (h : SqT K.F H0 a vs) (h2 : SqT K.F H0 b us) (w : FzL K H0 vs ds) (w2 : FzL K H0 us es) : Its K (RZ.ItzT K.F a b) (zipD ds es) H0 := fun H x => by
  refine ⟨fun i d e => ?_, fun i hi => ⟨vs, us, x.sqT h, x.sqT h2, by rw [w.len, w2.len]; unfold zipD at hi; rw [List.length_zipWith] at hi; omega⟩⟩
  obtain ⟨d1, d2, q1, q2, rfl⟩ := zipD_get e
  obtain ⟨v, e1, w1⟩ := w.get q1
  obtain ⟨u, e3, w3⟩ := w2.get q2
  refine ⟨⟨vs, us, v, u, x.sqT h, x.sqT h2, e1, e3⟩, fun y H' ⟨T, x', y', ey, hT, eh, q, q'⟩ => ?_⟩
  subst eh ey
  have := q vs (x.sqT h)
  rw [e1] at this
  cases this
  have := q' us (x.sqT h2)
  rw [e3] at this
  cases this
  exact pair_end x hT w1 w3
def iZipD (fs : DAs) : DIt := fun ds => Option.bind (fs ds) fun p => Option.bind (frRs p.1 p.2) fun q => match q.1 with
  | [.lst l, .lst m] => some (zipD l m, q.2)
  | [.tup l, .tup m] => some (zipD l m, q.2)
  | _ => none
theorem Fz.lstX {K : Kx} {H : Hp} {v : V} {l : List D} (w : Fz K H v (.lst l)) : ∃ a vs, v = .ref a ∧ (∀ H', Ext H H' → SqL K.F H' a vs) ∧ FzL K H vs l := by
  cases w with
  | lst h r => exact ⟨_, _, rfl, fun H' y => .inl (.inr ⟨_, y.frzs _ _ _ h⟩), r⟩
  | lstW h r => exact ⟨_, _, rfl, fun H' y => h.sq, r⟩
theorem di_zip (hg : Gl X "zip") (hm : X.mg "zip" = none) (ha : DA X io [a, b] fs) (hs : starEach [a, b] X.env = (false, eval a X.env) :: starEach [b] X.env := by rfl) (hpl : (backTo pos (starEach [b] X.env)).any (·.1) = false := by rfl) :
    DI X io (.Tuple elts kk tpos) (.Call (.Name "zip" p) [a, b] [] pos) (iZipD fs) := by
  refine ⟨fun F ds items ds' j q => ?_⟩
  unfold iZipD at q
  obtain ⟨⟨r1, ds1⟩, e1, q⟩ := Option.bind_eq_some_iff.mp q
  obtain ⟨⟨dd, ds2⟩, e2, q⟩ := Option.bind_eq_some_iff.mp q
  dsimp only at q
  split at q
  · rename_i l m
    cases q
    refine PI.weak (RZ.pi_zipA hg hm (pa_frz (ha.run F _ _ _ j e1)) hs hpl) fun σ H R ⟨hd, S, k⟩ => ⟨hd, S, fun v H1 x1 r1 S1 => ?_⟩
    obtain ⟨ps, k1⟩ := frs r1 S1 e2
    refine ⟨ps, k1.mono fun H2 ⟨x2, w, S2⟩ => ?_⟩
    cases w with
    | cons w1 r =>
      cases r with
      | cons w2 r =>
        cases r
        obtain ⟨a1, vs1, rfl, h1, f1⟩ := w1.lstX
        obtain ⟨a2, vs2, rfl, h2, f2⟩ := w2.lstX
        exact ⟨_, _, _, _, rfl, .inl ⟨h1 _ (Ext.refl _), h2 _ (Ext.refl _), k _ _ (x1.trans x2) S2 (its_zipL h1 h2 f1 f2)⟩⟩
  · rename_i l m
    cases q
    refine PI.weak (RZ.pi_zipA hg hm (pa_frz (ha.run F _ _ _ j e1)) hs hpl) fun σ H R ⟨hd, S, k⟩ => ⟨hd, S, fun v H1 x1 r1 S1 => ?_⟩
    obtain ⟨ps, k1⟩ := frs r1 S1 e2
    refine ⟨ps, k1.mono fun H2 ⟨x2, w, S2⟩ => ?_⟩
    cases w with
    | cons w1 r =>
      cases r with
      | cons w2 r =>
        cases r
        cases w1 with
        | tup h1 f1 =>
          cases w2 with
          | tup h2 f2 => exact ⟨_, _, _, _, rfl, .inr ⟨h1, h2, k _ _ (x1.trans x2) S2 (its_zipT h1 h2 f1 f2)⟩⟩
  · cases q
end
end DL
/-! DL14: dicts with int and text keys; stores by place; written dicts. -/
namespace DL
open PySem PySem.Spec PyProof.Rows L2
def keyOf : D → Option Key
  | .int i => some (.inl i)
  | .str x => some (.inr x)
  | _ => none
theorem keyOf_keyD (k : Key) : keyOf (keyD k) = some k := by cases k <;> rfl
theorem keyOf_eq {d : D} {k : Key} (h : keyOf d = some k) : d = keyD k := by
  cases d <;> cases h <;> rfl
def getKD (es : List (D × D)) (k : Key) : Option D := (es.find? fun e => decide (keyOf e.1 = some k)).map (·.2)
def putKD (es : List (D × D)) (k : Key) (d : D) : List (D × D) :=
  if (es.any fun e => decide (keyOf e.1 = some k)) = true then es.map (fun e => if keyOf e.1 = some k then (e.1, d) else e) else es ++ [(keyD k, d)]
theorem FzK.find {K : Kx} {H : Hp} (k : Key) : ∀ {kvs : List (Key × V)} {es : List (D × D)}, FzK K H kvs es → (∀ d, getKD es k = some d → ∃ v, valV kvs k = some v ∧ Fz K H v d) ∧ (getKD es k = none → valV kvs k = none)
  | _, _, .nil => ⟨fun d e => (by cases e), fun _ => rfl⟩
  | _, _, @FzK.cons _ _ k' v d' kvs es w r => by
    obtain ⟨h1, h2⟩ := r.find k
    by_cases c : k' = k
    · subst c
      have e1 : getKD ((keyD k', d') :: es) k' = some d' := by unfold getKD; rw [List.find?_cons, show decide (keyOf ((keyD k', d').1) = some k') = true from decide_eq_true (keyOf_keyD k')]; rfl
      rw [e1]
      exact ⟨fun d e => by cases e; exact ⟨v, valV_pos rfl, w⟩, fun e => by cases e⟩
    · have e1 : getKD ((keyD k', d') :: es) k = getKD es k := by
        unfold getKD
        rw [List.find?_cons, show decide (keyOf ((keyD k', d').1) = some k) = false from decide_eq_false (by rw [keyOf_keyD]; exact fun z => c (Option.some.inj z))]
      rw [e1]
      refine ⟨fun d e => ?_, fun e => ?_⟩
      · obtain ⟨v', a, b⟩ := h1 d e
        exact ⟨v', by rw [valV_neg c]; exact a, b⟩
      · rw [valV_neg c]; exact h2 e
theorem FzK.anyK {K : Kx} {H : Hp} (k : Key) : ∀ {kvs : List (Key × V)} {es : List (D × D)}, FzK K H kvs es → (kvs.any fun kv => decide (kv.1 = k)) = (es.any fun e => decide (keyOf e.1 = some k))
  | _, _, .nil => rfl
  | _, _, @FzK.cons _ _ k' v d' kvs es w r => by
    rw [List.any_cons, List.any_cons, r.anyK k]
    congr 1
    show decide (k' = k) = decide (keyOf (keyD k') = some k)
    rw [keyOf_keyD]
    exact decide_eq_decide.mpr ⟨fun z => by rw [z], fun z => Option.some.inj z⟩
theorem FzK.mapPut {K : Kx} {H : Hp} {k : Key} {v : V} {d : D} (h : Fz K H v d) : ∀ {kvs : List (Key × V)} {es : List (D × D)}, FzK K H kvs es → FzK K H (kvs.map fun kv => if kv.1 = k then (kv.1, v) else kv) (es.map fun e => if keyOf e.1 = some k then (e.1, d) else e)
  | _, _, .nil => .nil
  | _, _, @FzK.cons _ _ k' v' d' kvs es w r => by
    rw [List.map_cons, List.map_cons]
    by_cases c : k' = k
    · rw [if_pos (show ((k', v') : Key × V).1 = k from c), if_pos (show keyOf ((keyD k', d') : D × D).1 = some k by rw [keyOf_keyD, c])]
      exact .cons h (FzK.mapPut h r)
    · rw [if_neg (show ¬ ((k', v') : Key × V).1 = k from c), if_neg (show ¬ keyOf ((keyD k', d') : D × D).1 = some k by rw [keyOf_keyD]; exact fun z => c (Option.some.inj z))]
      exact .cons w (FzK.mapPut h r)
theorem FzK.app {K : Kx} {H : Hp} : ∀ {kvs : List (Key × V)} {es : List (D × D)} {kvs2 : List (Key × V)} {es2 : List (D × D)}, FzK K H kvs es → FzK K H kvs2 es2 → FzK K H (kvs ++ kvs2) (es ++ es2)
  | _, _, _, _, .nil, r => r
  | _, _, _, _, .cons w r, r2 => .cons w (r.app r2)
theorem FzK.putK {K : Kx} {H : Hp} {k : Key} {v : V} {d : D} (h : Fz K H v d) {kvs : List (Key × V)} {es : List (D × D)} (r : FzK K H kvs es) : FzK K H (L2.putK kvs k v) (putKD es k d) := by
  unfold L2.putK putKD
  rw [r.anyK k]
  split
  · exact FzK.mapPut h r
  · exact r.app (.cons h .nil)
section
variable {X : Cx} {io : Bool} {a b e i o value : Expr} {pos pos' : Pos} {fa fb fo fi fe : DX}
/-! ### items -/
def gAt : D → D → Option R
  | .dct .k es, y => Option.bind (keyOf y) fun k => Option.map R.fz (getKD es k)
  | x, y => gIx x y
theorem kV_of {y : V} {K : Kx} {H : Hp} {d : D} {k : Key} (r : Rp K H y d) (h : keyOf d = some k) : y = kV k := by
  cases d with
  | int n => cases h; rw [r.int]; rfl
  | str x => cases h; rw [r.str]; rfl
  | non => cases h
  | bl _ => cases h
  | tup _ => cases h
  | lst _ => cases h
  | dct _ _ => cases h
  | ins _ _ => cases h
theorem d_at (hu : X.A.units + 64 < cLine) (ha : DE X io a fa) (hb : DE X io b fb) (hs : PlainIx b := by exact fun _ _ => rfl) (hs2 : NoSl b := by exact fun _ _ => rfl) : DE X io (.Subscript a b pos) (eBin gAt fa fb) := by
  refine ⟨fun F ds r ds' j e => ?_⟩
  unfold eBin at e
  obtain ⟨p, e1, e⟩ := Option.bind_eq_some_iff.mp e
  obtain ⟨q, e2, e⟩ := Option.bind_eq_some_iff.mp e
  obtain ⟨dx, e3, e⟩ := Option.bind_eq_some_iff.mp e
  obtain ⟨dy, e4, e⟩ := Option.bind_eq_some_iff.mp e
  obtain ⟨r', e5, e⟩ := Option.bind_eq_some_iff.mp e
  cases e
  unfold gAt at e5
  split at e5
  · rename_i es
    obtain ⟨k, e6, e5⟩ := Option.bind_eq_some_iff.mp e5
    obtain ⟨d, e7, rfl⟩ := Option.map_eq_some_iff.mp e5
    refine PE.weak (pe_dget (by omega) (ha.run F _ _ _ j e1) (hb.run F _ _ _ j e2) hs2) fun σ H Q ⟨hd, S, kk⟩ => ?_
    refine two S e3 e4 fun x y H2 x2 rx ry S2 => ?_
    obtain ⟨l, kvs, rfl, hl, w⟩ := rx.dctK
    obtain ⟨v, e8, f⟩ := (w.find k).1 d e7
    exact ⟨l, v, rfl, .inl ⟨kvs, k, hl, kV_of ry e6, e8.symm⟩, kk v H2 x2 (.fz f) (by rw [hp_fz]; exact S2)⟩
  · refine (d_ix ha hb hs).run F ds _ _ j ?_
    unfold eBin
    exact Option.bind_eq_some_iff.mpr ⟨p, e1, Option.bind_eq_some_iff.mpr ⟨q, e2, Option.bind_eq_some_iff.mpr ⟨_, e3, Option.bind_eq_some_iff.mpr ⟨_, e4, Option.bind_eq_some_iff.mpr ⟨_, e5, rfl⟩⟩⟩⟩⟩
/-! ### in a dict -/
/-- a comparison's two sides and the comparison -/
structure DC (X : Cx) (io : Bool) (op : CmpOp) (a b : Expr) (f : DX) : Prop where
  run : ∀ (F : Fx) (ds : DS) (r : R) (ds' : DS), IoOk F io → f ds = some (r, ds') → PC X op a b (tD X.kx F ds r ds')
theorem PC.weak {op : CmpOp} {t t' : TE} (h : PC X op a b t) (w : ∀ σ H Q, t' σ H Q → t σ H Q) : PC X op a b t' := ⟨fun pins s σ H Q I q => h.run pins s σ H Q I (w σ H Q q)⟩
theorem pc_R {op : CmpOp} {r : R2} {ta tb : TE} (ho : OpR X (compareOp op) r) (ha : PE X a ta) (hb : PE X b tb) : PC X op a b (tOp r ta tb) :=
  ⟨fun pins s σ H Q I h => thn (ha.run pins s σ H _ I h) fun v s1 ⟨x, H1, I1, r1, q1⟩ => thn (hb.run pins s1 σ H1 _ I1 q1) fun u s2 ⟨y, H2, I2, r2, q2⟩ => ho pins s2 σ H2 x y v u Q I2 r1 r2 q2⟩
theorem dc_op {op : CmpOp} {g : D → D → Option R} (ho : OpD X (compareOp op) g) (ha : DE X io a fa) (hb : DE X io b fb) : DC X io op a b (eBin g fa fb) := by
  refine ⟨fun F ds r ds' j e => ?_⟩
  unfold eBin at e
  obtain ⟨p, e1, e⟩ := Option.bind_eq_some_iff.mp e
  obtain ⟨q, e2, e⟩ := Option.bind_eq_some_iff.mp e
  obtain ⟨dx, e3, e⟩ := Option.bind_eq_some_iff.mp e
  obtain ⟨dy, e4, e⟩ := Option.bind_eq_some_iff.mp e
  obtain ⟨r', e5, e⟩ := Option.bind_eq_some_iff.mp e
  cases e
  obtain ⟨ns, rl, hop, hrl⟩ := ho.run dx dy r e5
  refine PC.weak (pc_R hop (ha.run F _ _ _ j e1) (hb.run F _ _ _ j e2)) fun σ H Q ⟨hd, S, k⟩ => ?_
  exact two S e3 e4 fun x y H2 x2 rx ry S2 => hrl x y H2 Q rx ry (resD ns x2 S2 k)
theorem DC.de {op : CmpOp} {f : DX} (h : DC X io op a b f) (hm : behindInMarks op b = false := by first | exact nomark _ | rfl) : DE X io (.Compare a [op] [b] pos) f := ⟨fun F ds r ds' j e => pe_cmp (h.run F ds r ds' j e) hm⟩
theorem DC.dt {op : CmpOp} {f : DX} (h : DC X io op a b f) (hm : behindInMarks op b = false := by first | exact nomark _ | rfl) : DT X io (.Compare a [op] [b] pos) (tOf f) := by
  refine ⟨fun F ds r ds' j q => ?_⟩
  unfold tOf at q
  obtain ⟨p, e1, q⟩ := Option.bind_eq_some_iff.mp q
  obtain ⟨b', eb, q⟩ := Option.bind_eq_some_iff.mp q
  cases q
  have eb := bOf_some eb
  refine PT.weak (pt_cmp (h.run F _ _ _ j e1) hm) fun σ H Q ⟨hd, S, k⟩ => ?_
  refine ⟨hd, S, fun v H1 x1 r1 S1 => ?_⟩
  rw [eb] at r1 S1
  cases r1 with
  | fz r1 => exact ⟨_, r1.blOf, k H1 x1 (by rw [hp_fz] at S1; exact S1)⟩
def hasK (d : D) : D → Option Bool
  | .dct .k es => Option.bind (keyOf d) fun k => some (getKD es k).isSome
  | _ => none
def gInA : D → D → Option R
  | dx, .dct .k es => Option.map (fun c => R.fz (.bl c)) (hasK dx (.dct .k es))
  | x, y => gIn x y
def gNotInA : D → D → Option R
  | dx, .dct .k es => Option.map (fun c => R.fz (.bl (!c))) (hasK dx (.dct .k es))
  | x, y => gNotIn x y
theorem inK_end {es : List (D × D)} {H2 : Hp} {x y : V} {dx : D} {k : Key} (rx : Rp X.kx H2 x dx) (ry : Rp X.kx H2 y (.dct .k es)) (e6 : keyOf dx = some k) : ∃ (a : Addr) (ov : Option V), y = .ref a ∧ DGet H2 a x ov ∧ ov.isSome = (getKD es k).isSome := by
  obtain ⟨l, kvs, rfl, hl, w⟩ := ry.dctK
  refine ⟨l, valV kvs k, rfl, .inl ⟨kvs, k, hl, kV_of rx e6, rfl⟩, ?_⟩
  cases q : getKD es k with
  | none => rw [(w.find k).2 q] <;> rfl
  | some d => obtain ⟨v, e8, f⟩ := (w.find k).1 d q; rw [e8] <;> rfl
theorem dc_in (hu : X.A.units + 64 < cLine) (ha : DE X io a fa) (hb : DE X io b fb) : DC X io .In a b (eBin gInA fa fb) := by
  refine ⟨fun F ds r ds' j e => ?_⟩
  unfold eBin at e
  obtain ⟨p, e1, e⟩ := Option.bind_eq_some_iff.mp e
  obtain ⟨q, e2, e⟩ := Option.bind_eq_some_iff.mp e
  obtain ⟨dx, e3, e⟩ := Option.bind_eq_some_iff.mp e
  obtain ⟨dy, e4, e⟩ := Option.bind_eq_some_iff.mp e
  obtain ⟨r', e5, e⟩ := Option.bind_eq_some_iff.mp e
  cases e
  unfold gInA at e5
  split at e5
  · rename_i es
    obtain ⟨c, e7, e8⟩ := Option.map_eq_some_iff.mp e5
    subst e8
    obtain ⟨k, e6, e9⟩ := Option.bind_eq_some_iff.mp (show Option.bind (keyOf dx) (fun k => some (getKD es k).isSome) = some c from e7)
    cases e9
    refine PC.weak (pc_din (by omega) (ha.run F _ _ _ j e1) (hb.run F _ _ _ j e2)) fun σ H Q ⟨hd, S, kk⟩ => ?_
    refine two S e3 e4 fun x y H2 x2 rx ry S2 => ?_
    obtain ⟨l, ov, rfl, g, eo⟩ := inK_end (X := X) rx ry e6
    exact ⟨l, ov, rfl, g, by rw [eo]; exact kk _ H2 x2 (.fz (.bl _)) (by rw [hp_fz]; exact S2)⟩
  · refine (dc_op (opd_in hu) ha hb).run F ds _ _ j ?_
    unfold eBin
    exact Option.bind_eq_some_iff.mpr ⟨p, e1, Option.bind_eq_some_iff.mpr ⟨q, e2, Option.bind_eq_some_iff.mpr ⟨_, e3, Option.bind_eq_some_iff.mpr ⟨_, e4, Option.bind_eq_some_iff.mpr ⟨_, e5, rfl⟩⟩⟩⟩⟩
theorem dc_notIn (hu : X.A.units + 64 < cLine) (ha : DE X io a fa) (hb : DE X io b fb) : DC X io .NotIn a b (eBin gNotInA fa fb) := by
  refine ⟨fun F ds r ds' j e => ?_⟩
  unfold eBin at e
  obtain ⟨p, e1, e⟩ := Option.bind_eq_some_iff.mp e
  obtain ⟨q, e2, e⟩ := Option.bind_eq_some_iff.mp e
  obtain ⟨dx, e3, e⟩ := Option.bind_eq_some_iff.mp e
  obtain ⟨dy, e4, e⟩ := Option.bind_eq_some_iff.mp e
  obtain ⟨r', e5, e⟩ := Option.bind_eq_some_iff.mp e
  cases e
  unfold gNotInA at e5
  split at e5
  · rename_i es
    obtain ⟨c, e7, e8⟩ := Option.map_eq_some_iff.mp e5
    subst e8
    obtain ⟨k, e6, e9⟩ := Option.bind_eq_some_iff.mp (show Option.bind (keyOf dx) (fun k => some (getKD es k).isSome) = some c from e7)
    cases e9
    refine PC.weak (pc_dnotin (by omega) (ha.run F _ _ _ j e1) (hb.run F _ _ _ j e2)) fun σ H Q ⟨hd, S, kk⟩ => ?_
    refine two S e3 e4 fun x y H2 x2 rx ry S2 => ?_
    obtain ⟨l, ov, rfl, g, eo⟩ := inK_end (X := X) rx ry e6
    exact ⟨l, ov, rfl, g, by rw [eo]; exact kk _ H2 x2 (.fz (.bl _)) (by rw [hp_fz]; exact S2)⟩
  · refine (dc_op (opd_notIn hu) ha hb).run F ds _ _ j ?_
    unfold eBin
    exact Option.bind_eq_some_iff.mpr ⟨p, e1, Option.bind_eq_some_iff.mpr ⟨q, e2, Option.bind_eq_some_iff.mpr ⟨_, e3, Option.bind_eq_some_iff.mpr ⟨_, e4, Option.bind_eq_some_iff.mpr ⟨_, e5, rfl⟩⟩⟩⟩⟩
/-! ### o[i] = e, o a name of an owned list or dict -/
def putAt : Ob → D → D → Option Ob
  | .lst l, .int i, d => Option.bind (ixN l.length i) fun j => some (.lst (l.set j d))
  | .dct .k es, y, d => if es.length < sizeLine then Option.bind (keyOf y) fun k => some (.dct .k (putKD es k d)) else none
  | _, _, _ => none
def ownAt (ds : DS) (i : Nat) : Option Ob := match ds[i]? with
  | some (some (.own ob)) => some ob
  | _ => none
theorem ownAt_eq {ds : DS} {i : Nat} {ob : Ob} (h : ownAt ds i = some ob) : ds[i]? = some (some (.own ob)) := by
  unfold ownAt at h
  split at h
  · cases h; assumption
  · cases h
def sPut (fo fi fe : DX) : DSm := fun ds => Option.bind (fe ds) fun p => Option.bind (frR p.1 p.2) fun q => Option.bind (fo q.2) fun z => Option.bind (slotOf z.1) fun n => Option.bind (fi z.2) fun y => Option.bind (y.1.val y.2) fun dy =>
  Option.bind (ownAt y.2 n) fun ob => Option.bind (putAt ob dy q.1) fun ob' => some (.nx, y.2.set n (some (.own ob')))
def rSetA : V → V → V → Hp → (Hp → Prop) → Prop := fun o i v H Q => rSetL o i v H Q ∨ ∃ a H', o = .ref a ∧ DPut H a i v H' ∧ Q H'
theorem set_any (hu : X.A.units + 1 < cLine) : PSet X rSetA := by
  intro pins s σ H o i v ov iv u Q I ro ri rv h
  rcases h with h | ⟨a, H', rfl, g, q⟩
  · exact set_list pins s σ H o i v ov iv u Q I ro ri rv h
  · cases ro
    exact d_setItem hu I g ri rv fun s' I' => ⟨H', I', q⟩
theorem putAt_ok {F : Fx} {ds : DS} {σ : Sg} {H : Hp} {hd : List (Addr × HO)} {n : Nat} {ob ob' : Ob} {v y z : V} {dy d : D} (S : SRel X.kx F ds σ H hd) (h : ownAt ds n = some ob) (hv : σ[n]? = some (some v)) (ry : Rp X.kx H y dy) (w : Fz X.kx H z d) (e : putAt ob dy d = some ob') {Q : Hp → Prop}
    (k : ∀ H', Ext H H' → SRel X.kx F (ds.set n (some (.own ob'))) σ H' hd → Q H') : rSetA v y z H Q := by
  obtain ⟨p, e1, o⟩ := S.own (ownAt_eq h)
  rw [hv] at e1; cases e1
  unfold putAt at e
  split at e
  · rename_i l i
    obtain ⟨j, e2, e⟩ := Option.bind_eq_some_iff.mp e
    cases e
    have o' := o
    cases o with
    | @lst vs _ h1 h2 =>
      have x := o'.ext (.lst (vs.set j z))
      exact .inl ⟨p, _, i, j, rfl, ry.int, h1, by rw [h2.len]; exact e2, k _ x (S.sset (ownAt_eq h) hv (.own (.lst upd_same ((h2.set w j).ext x))))⟩
  · rename_i es
    by_cases c : es.length < sizeLine
    · rw [if_pos c] at e
      obtain ⟨kk, e2, e⟩ := Option.bind_eq_some_iff.mp e
      cases e
      have o' := o
      cases o with
      | @dctK kvs _ h1 h2 =>
        have x := o'.ext (.dK (L2.putK kvs kk z))
        exact .inr ⟨p, _, rfl, .inl ⟨_, kk, h1, kV_of ry e2, by rw [h2.len]; exact c, rfl⟩, k _ x (S.sset (ownAt_eq h) hv (.own (.dctK upd_same (((FzK.putK w h2)).ext x))))⟩
    · rw [if_neg c] at e; cases e
  · cases e
theorem ds_put (hu : X.A.units + 64 < cLine) (ho : DE X io o fo) (hi : DE X io i fi) (he : DE X io value fe) (hs : swapsWithSole [.Subscript o i pos'] value pos.line X.env = pure false := by rfl) (hw : swappedStores [.Subscript o i pos'] value X.env = pure none := by rfl)
    (h1 : (assignEach [.Subscript o i pos'] X.env).map (·.2) = [assign (.Subscript o i pos') X.env] := by rfl)
    (ha : ∀ v, assign (.Subscript o i pos') X.env v = (do
      let ov ← holding [v] (eval o X.env)
      let iv ← holding [v, ov] (eval i X.env)
      standAt pos'
      holding [v, ov, iv] (setItem ov iv v)
      release [v, ov, iv] []) := by intro _; rfl) : DStm X io (.Assign [.Subscript o i pos'] value pos) (sPut fo fi fe) := by
  refine ⟨fun F ds fl ds' j e => ?_⟩
  unfold sPut at e
  obtain ⟨⟨r1, ds1⟩, e1, e⟩ := Option.bind_eq_some_iff.mp e
  obtain ⟨⟨d, ds2⟩, e2, e⟩ := Option.bind_eq_some_iff.mp e
  obtain ⟨⟨r3, ds3⟩, e3, e⟩ := Option.bind_eq_some_iff.mp e
  obtain ⟨n, e4, e⟩ := Option.bind_eq_some_iff.mp e
  obtain ⟨⟨r5, ds5⟩, e5, e⟩ := Option.bind_eq_some_iff.mp e
  obtain ⟨dy, e6, e⟩ := Option.bind_eq_some_iff.mp e
  obtain ⟨ob, e7, e⟩ := Option.bind_eq_some_iff.mp e
  obtain ⟨ob', e8, e⟩ := Option.bind_eq_some_iff.mp e
  cases e
  have e4' := slotOf_eq e4
  dsimp only at e4'
  subst e4'
  refine PS.weak (ps_asg (pe_frz (he.run F _ _ _ j e1)) (pg_sub (ho.run F _ _ _ j e3) (hi.run F _ _ _ j e5) (set_any (by omega)) ha) hs hw h1) fun D σ H h => ?_
  refine ⟨[], h.1, fun y H1 x1 r1 S1 => ?_⟩
  obtain ⟨ps, k1⟩ := fr1 r1 S1 e2
  refine ⟨ps, k1.mono fun H2 ⟨x2, w, S2⟩ => ⟨[], S2, fun v H3 x3 r3 S3 => ?_⟩⟩
  cases r3 with
  | slot hv =>
    rw [hp_slot] at S3
    have S3 : SRel X.kx F ds3 σ H3 [] := S3
    refine ⟨[], S3, fun yy H4 x4 r4 S4 => ?_⟩
    have S4' : SRel X.kx F ds5 σ H4 [] := S4.drop (List.sublist_append_right _ _)
    exact putAt_ok S4' e7 hv (r4.rp S4 e6) (w.ext (x3.trans x4)) e8 fun H5 x5 S5 => h.2 σ H5 ((((x1.trans x2).trans x3).trans x4).trans x5) S5
/-! ### written dicts -/
def tblGet (t : List (Str × D)) (x : Str) : Option D := t.lookup x
def eIxW (t : List (Str × D)) (f : DX) : DX := fun ds => Option.bind (f ds) fun p => Option.bind (p.1.val p.2) fun d => match d with
  | .str x => Option.bind (tblGet t x) fun r => some (.fz r, p.2)
  | _ => none
theorem d_ixW {x : Str} {p : Pos} {A : Addr} {t : List (Str × D)} (hg : Gl X x) (hm : X.mg x = some (.ref A)) (ht : ∀ k d, tblGet t k = some d → ∃ v, KDct X.K X.w A k v ∧ ∀ H, Fz X.kx H v d) (hb : DE X io b fb)
    (hs : PlainIx b := by exact fun _ _ => rfl) (hd : (x == ("__debug__" : Str)) = false := by decide) : DE X io (.Subscript (.Name x p) b pos) (eIxW t fb) := by
  refine ⟨fun F ds r ds' j e => ?_⟩
  unfold eIxW at e
  obtain ⟨q, e1, e⟩ := Option.bind_eq_some_iff.mp e
  obtain ⟨dy, e2, e⟩ := Option.bind_eq_some_iff.mp e
  split at e
  · rename_i z
    obtain ⟨d, e3, e⟩ := Option.bind_eq_some_iff.mp e
    cases e
    obtain ⟨v, kd, w⟩ := ht _ _ e3
    refine PE.weak (pe_ix ix_kdict (pe_glob hg hm (v := .ref A) rfl hd) (hb.run F _ _ _ j e1) hs) fun σ H Q ⟨hdl, S, k⟩ => ?_
    refine ⟨hdl, S, fun y H1 x1 r1 S1 => ?_⟩
    have ry := r1.rp S1 e2
    exact ⟨A, z, v, rfl, ry.str, kd, k v H1 x1 (.fz (w H1)) (by rw [hp_fz]; exact S1.drop (List.sublist_append_right _ _))⟩
  · cases e
end
end DL
/-! DL15: dict comprehensions of two clauses, and such that are stored on one line. -/
namespace L2
open PySem PySem.Spec PyProof.Rows
theorem compTurnD2_out (kx vx t0 i0 t1 i1 : Expr) (ifs0 ifs1 : List Expr) (scope : Scope) (pos : Pos) (it : Value) (D : Addr) (env : Env) :
    compTurn (.DictComp kx vx [⟨t0, i0, ifs0, 0⟩, ⟨t1, i1, ifs1, 0⟩] scope pos) 0 it (.ref D) env = (do
      standAt i0.pos
      match ← pyNext it with
      | none => pure (.done .next)
      | some v =>
        letOwnedTupleGo t0 it v
        assign t0 env v
        let mut ok := true
        for c in ifs0 do
          if ok then ok ← isTrue c env (eval c env)
        if ok then
          let x ← eval i1 env
          standAt i1.pos
          let x ← foldedSetIterable i1 env x
          let _ ← runOwn (.compStart (.DictComp kx vx [⟨t0, i0, ifs0, 0⟩, ⟨t1, i1, ifs1, 0⟩] scope pos) 1 (← holding [x] (pyIter x)) (.ref D) env) env
        again (.compLoop (.DictComp kx vx [⟨t0, i0, ifs0, 0⟩, ⟨t1, i1, ifs1, 0⟩] scope pos) 0 it (.ref D) env)) := by rfl
theorem compTurnD2_in (kx vx t0 i0 t1 i1 : Expr) (ifs0 ifs1 : List Expr) (scope : Scope) (pos : Pos) (it : Value) (D : Addr) (env : Env) :
    compTurn (.DictComp kx vx [⟨t0, i0, ifs0, 0⟩, ⟨t1, i1, ifs1, 0⟩] scope pos) 1 it (.ref D) env = (do
      standAt i1.pos
      match ← pyNext it with
      | none => pure (.done .next)
      | some v =>
        letOwnedTupleGo t1 it v
        assign t1 env v
        let mut ok := true
        for c in ifs1 do
          if ok then ok ← isTrue c env (eval c env)
        if ok then
          (do
            let kv ← eval kx env
            let vv ← holding [kv] (eval vx env)
            standAt { kx.pos with endLine := vx.pos.endLine, endCol := vx.pos.endCol }
            holding [kv, vv] (dictSet D kv vv))
        again (.compLoop (.DictComp kx vx [⟨t0, i0, ifs0, 0⟩, ⟨t1, i1, ifs1, 0⟩] scope pos) 1 it (.ref D) env)) := by rfl

section
variable {prog : Program} {w : World} {A : Around} {R : Result → Shared → Prop} {s : Shared} {kx vx t0 i0 t1 i1 : Expr} {ifs0 ifs1 : List Expr} {scope : Scope} {pos : Pos} {it : Value} {D : Addr} {env : Env}
/-- the loop of the first clause -/
theorem compLoopD2_out (hs : ∀ x, foldedSetIterable i1 env x = pure x) (I : Nat → Shared → Prop)
    (turn : ∀ n s, I n s → wpAny (model prog w) A (pyNext it) (fun r s₁ => match r with
      | none => R (.ok .next) s₁
      | some v => wpAny (model prog w) A (letOwnedTupleGo t0 it v) (fun _ s₁' => wpAny (model prog w) A (assign t0 env v) (fun _ s₂ =>
          wpAny (model prog w) A (forIn ifs0 true fun c r => if r = true then do let ok ← isTrue c env (eval c env); pure (ForInStep.yield ok) else pure (ForInStep.yield r)) (fun ok s₃ =>
            if ok = true then wpAny (model prog w) A (eval i1 env) (fun x s₄ => wpAny (model prog w) A (pyIter x) (fun it1 s₅ =>
              codeAny (model prog w) A (.compStart (.DictComp kx vx [⟨t0, i0, ifs0, 0⟩, ⟨t1, i1, ifs1, 0⟩] scope pos) 1 it1 (.ref D) env) (fun r s' => match r with
                | .ok _ => ∃ m, m < n ∧ I m s'
                | .error _ => False) s₅) (notedBy (model prog w) A env fun e s' => R (.error e) s') s₄) (notedBy (model prog w) A env fun e s' => R (.error e) s') s₃
            else ∃ m, m < n ∧ I m s₃) (notedBy (model prog w) A env fun e s' => R (.error e) s') s₂) (notedBy (model prog w) A env fun e s' => R (.error e) s') s₁') (notedBy (model prog w) A env fun e s' => R (.error e) s') s₁) (notedBy (model prog w) A env fun e s' => R (.error e) s') s)
    (n : Nat) (h : I n s) :
    codeAny (model prog w) A (.compLoop (.DictComp kx vx [⟨t0, i0, ifs0, 0⟩, ⟨t1, i1, ifs1, 0⟩] scope pos) 0 it (.ref D) env) R s := by
  refine codeAny_loop rfl I (fun n s hI => ?_) n h
  show wpAny _ A ((compTurn (.DictComp kx vx [⟨t0, i0, ifs0, 0⟩, ⟨t1, i1, ifs1, 0⟩] scope pos) 0 it (.ref D) env).onRaise (fun x => do noteFrame x env; theTreesLotGoes x)) _ _ s
  refine wpAny_noted ?_
  rw [compTurnD2_out]
  refine wpAny_bind (wpAny_standAt (wpAny_bind (wpAny_mono (turn n s hI) (fun r s₁ h₁ => ?_) fun _ _ h' => h')))
  cases r with
  | none => exact wpAny_pure h₁
  | some v =>
    refine wpAny_bind (wpAny_mono h₁ (fun _ s₁' h₁' => ?_) fun _ _ h' => h')
    refine wpAny_bind (wpAny_mono h₁' (fun _ s₂ h₂ => wpAny_bind (wpAny_mono h₂ (fun ok s₃ h₃ => ?_) fun _ _ h' => h')) fun _ _ h' => h')
    cases ok with
    | false => exact wpAny_pure ⟨rfl, h₃⟩
    | true =>
      refine wpAny_bind (wpAny_mono h₃ (fun x s₄ h₄ => ?_) fun _ _ h' => h')
      refine wpAny_bind (wpAny_standAt (wpAny_bind (wpAny_of_eq (hs x) (wpAny_bind (wpAny_holding (wpAny_mono h₄ (fun it1 s₅ h₅ => ?_) fun _ _ h' => h'))))))
      refine wpAny_bind (wpAny_runOwn ?_)
      rw [Around.mark_none]
      refine codeAny_mono h₅ fun r s' hr => ?_
      cases r with
      | ok f =>
        first
          | exact wpAny_pure ⟨rfl, hr⟩
          | exact wpAny_bind (wpAny_pure (wpAny_pure ⟨rfl, hr⟩))
      | error e => exact hr.elim
/-- the loop of the second -/
theorem compLoopD2_in (I : Nat → Shared → Prop)
    (turn : ∀ n s, I n s → wpAny (model prog w) A (pyNext it) (fun r s₁ => match r with
      | none => R (.ok .next) s₁
      | some v => wpAny (model prog w) A (letOwnedTupleGo t1 it v) (fun _ s₁' => wpAny (model prog w) A (assign t1 env v) (fun _ s₂ =>
          wpAny (model prog w) A (forIn ifs1 true fun c r => if r = true then do let ok ← isTrue c env (eval c env); pure (ForInStep.yield ok) else pure (ForInStep.yield r)) (fun ok s₃ =>
            if ok = true then wpAny (model prog w) A (eval kx env) (fun kv s₄ => wpAny (model prog w) A (eval vx env) (fun vv s₅ =>
              wpAny (model prog w) A (dictSet D kv vv) (fun _ s₆ => ∃ m, m < n ∧ I m s₆) (notedBy (model prog w) A env fun e s' => R (.error e) s') s₅) (notedBy (model prog w) A env fun e s' => R (.error e) s') s₄) (notedBy (model prog w) A env fun e s' => R (.error e) s') s₃
            else ∃ m, m < n ∧ I m s₃) (notedBy (model prog w) A env fun e s' => R (.error e) s') s₂) (notedBy (model prog w) A env fun e s' => R (.error e) s') s₁') (notedBy (model prog w) A env fun e s' => R (.error e) s') s₁) (notedBy (model prog w) A env fun e s' => R (.error e) s') s)
    (n : Nat) (h : I n s) :
    codeAny (model prog w) A (.compLoop (.DictComp kx vx [⟨t0, i0, ifs0, 0⟩, ⟨t1, i1, ifs1, 0⟩] scope pos) 1 it (.ref D) env) R s := by
  refine codeAny_loop rfl I (fun n s hI => ?_) n h
  show wpAny _ A ((compTurn (.DictComp kx vx [⟨t0, i0, ifs0, 0⟩, ⟨t1, i1, ifs1, 0⟩] scope pos) 1 it (.ref D) env).onRaise (fun x => do noteFrame x env; theTreesLotGoes x)) _ _ s
  refine wpAny_noted ?_
  rw [compTurnD2_in]
  refine wpAny_bind (wpAny_standAt (wpAny_bind (wpAny_mono (turn n s hI) (fun r s₁ h₁ => ?_) fun _ _ h' => h')))
  cases r with
  | none => exact wpAny_pure h₁
  | some v =>
    refine wpAny_bind (wpAny_mono h₁ (fun _ s₁' h₁' => ?_) fun _ _ h' => h')
    refine wpAny_bind (wpAny_mono h₁' (fun _ s₂ h₂ => wpAny_bind (wpAny_mono h₂ (fun ok s₃ h₃ => ?_) fun _ _ h' => h')) fun _ _ h' => h')
    cases ok with
    | false => exact wpAny_pure ⟨rfl, h₃⟩
    | true =>
      exact wpAny_bind (wpAny_bind (wpAny_mono h₃ (fun kv s₄ h₄ => wpAny_bind (wpAny_holding (wpAny_mono h₄ (fun vv s₅ h₅ => wpAny_bind (wpAny_standAt (wpAny_holding (wpAny_mono h₅ (fun _ s₆ h₆ => wpAny_pure ⟨rfl, h₆⟩) fun _ _ h' => h')))) fun _ _ h' => h'))) fun _ _ h' => h'))
/-- the second clause's start -/
theorem compStartD1_ok (h0 : codeAny (model prog w) A (.compLoop (.DictComp kx vx [⟨t0, i0, ifs0, 0⟩, ⟨t1, i1, ifs1, 0⟩] scope pos) 1 it (.ref D) env) R s)
    (h : wpAny (model prog w) A (pyIter it) (fun it' s' => codeAny (model prog w) A (.compLoop (.DictComp kx vx [⟨t0, i0, ifs0, 0⟩, ⟨t1, i1, ifs1, 0⟩] scope pos) 1 it' (.ref D) env) R s')
      (notedBy (model prog w) A env fun x s' => R (.error x) s') s) :
    codeAny (model prog w) A (.compStart (.DictComp kx vx [⟨t0, i0, ifs0, 0⟩, ⟨t1, i1, ifs1, 0⟩] scope pos) 1 it (.ref D) env) R s := by
  refine codeAny_of_tree ?_
  show wpAny _ _ ((compStart (.DictComp kx vx [⟨t0, i0, ifs0, 0⟩, ⟨t1, i1, ifs1, 0⟩] scope pos) 1 it (.ref D) env).onRaise (fun x => do noteFrame x env; standAt theWindowsPlace)) _ _ s
  refine wpAny_notedAt ?_
  unfold compStart
  show wpAny _ _ (ask >>= _) _ _ s
  refine wpAny_bind (wpAny_askSetting (wpAny_ite ?_))
  split
  · first
      | exact wpAny_bind (wpAny_pure (wpAny_pure (And.intro rfl h0)))
      | exact wpAny_pure (And.intro rfl h0)
  · first
      | exact wpAny_bind (wpAny_rule (wpAny_bind (wpAny_standAt (wpAny_bind (wpAny_mono h (fun it' s' h' => wpAny_pure (And.intro rfl h')) fun _ _ x => x)))))
      | (refine wpAny_bind (wpAny_rule ?_); show wpAny _ _ (standAt i1.pos >>= _) _ _ s; exact wpAny_bind (wpAny_standAt (wpAny_bind (wpAny_mono h (fun it' s' h' => wpAny_pure (And.intro rfl h')) fun _ _ x => x))))
end

section
variable {X : Cx}
/-- {k: v for tg in iter if .. for tg1 in iter1 if ..}, keys ints or texts -/
def tDc2 (wi : TI) (g : TG) (tt : TT) (wi1 : TI) (g1 : TG) (tt1 : TT) (tk tv : TE) (vs vs1 : List Nat) : TE := fun σ H Q => wi σ H fun J H1 => ∀ D, H1 D = none → ∃ W : Nat → Nat → Hp → Prop, (∃ m, W 0 m (upd H1 D (.dK []))) ∧ ∀ i m H, W i m H →
  (J.stop i H ∧ Q (.ref D) H) ∨ (J.go i H ∧ ∃ Nx : Hp → Prop, (∀ H', Nx H' → ∃ m', m' < m ∧ W (i + 1) m' H') ∧ ∀ x H', J.yld i H x H' → g x (wipe σ vs) H' fun σ2 H2 => wipe σ2 vs = wipe σ vs ∧ tt σ2 H2 fun b H3 =>
    if b = true then wi1 σ2 H3 fun J1 H4 => ∃ W1 : Nat → Nat → Hp → Prop, (∃ m, W1 0 m H4) ∧ ∀ j k H, W1 j k H →
      (J1.stop j H ∧ Nx H) ∨ (J1.go j H ∧ ∃ Nx1 : Hp → Prop, (∀ H', Nx1 H' → ∃ k', k' < k ∧ W1 (j + 1) k' H') ∧ ∀ x H', J1.yld j H x H' → g1 x (wipe σ2 vs1) H' fun σ3 H5 => wipe σ3 vs1 = wipe σ2 vs1 ∧ tt1 σ3 H5 fun b H6 =>
        if b = true then tk σ3 H6 fun y H7 => tv σ3 H7 fun z H8 => ∃ kvs k, y = kV k ∧ H8 D = some (.dK kvs) ∧ kvs.length < sizeLine ∧ Nx1 (upd H8 D (.dK (putK kvs k z))) else Nx1 H6)
    else Nx H3)
theorem dc2_core {pins : List (Addr × Obj)} {s : Shared} {σ : St} {H : Hp} {Q : VK} {kx vx tg iter tg1 iter1 : Expr} {ifs ifs1 : List Expr} {scope : Scope} {own : List (Str × Nat)} {vs1 : List Nat} {pos pos' : Pos} {wi wi1 : TI} {g g1 : TG} {tt tt1 : TT} {tk tv : TE} {use : Option (Value → Sem Unit)} {Qf : Value → Shared → Prop}
    (hc : X.calm = true) (hN : X.N.Nodup) (I : Inv X pins σ H s) (hi : PI X tg iter wi) (ok : BlkOk X.N X.env.scope scope own) (hv : ∀ i ∈ vs1, i ∈ own.map (·.2))
    (hg : ∀ (s : Shared) (H : Hp) (C : Addr) (cl : List (Str × Addr)) (fp : List Addr), PG (X.blk s H scope (compEnvC scope cl C X.env) fp) tg g) (ht : ∀ (s : Shared) (H : Hp) (C : Addr) (cl : List (Str × Addr)) (fp : List Addr), PTs (X.blk s H scope (compEnvC scope cl C X.env) fp) ifs tt)
    (hk : ∀ (s : Shared) (H : Hp) (C : Addr) (cl : List (Str × Addr)) (fp : List Addr), PE (X.blk s H scope (compEnvC scope cl C X.env) fp) kx tk)
    (he : ∀ (s : Shared) (H : Hp) (C : Addr) (cl : List (Str × Addr)) (fp : List Addr), PE (X.blk s H scope (compEnvC scope cl C X.env) fp) vx tv) (hs : ∀ x, foldedSetIterable iter X.env x = pure x)
    (hi1 : ∀ (s : Shared) (H : Hp) (C : Addr) (cl : List (Str × Addr)) (fp : List Addr), PI (X.blk s H scope (compEnvC scope cl C X.env) fp) tg1 iter1 wi1)
    (hg1 : ∀ (s : Shared) (H : Hp) (C : Addr) (cl : List (Str × Addr)) (fp : List Addr), PG (X.blk s H scope (compEnvC scope cl C X.env) fp) tg1 g1)
    (ht1 : ∀ (s : Shared) (H : Hp) (C : Addr) (cl : List (Str × Addr)) (fp : List Addr), PTs (X.blk s H scope (compEnvC scope cl C X.env) fp) ifs1 tt1)
    (hs1 : ∀ env x, foldedSetIterable iter1 env x = pure x)
    (h : tDc2 wi g tt wi1 g1 tt1 tk tv (own.map (·.2)) vs1 σ H Q)
    (hRR : ∀ D C s' m H', Inv X pins σ H' s' → Q (.ref D) H' → s'.heap.Ns C m → FpOk X pins H' C → compPost (model X.prog X.w) X.A X.xe use Qf (.ref D) C (.ok .next) s') :
    wpAny (model X.prog X.w) X.A (comprehension (.DictComp kx vx [⟨tg, iter, ifs, 0⟩, ⟨tg1, iter1, ifs1, 0⟩] scope pos) scope X.env pos' newDict false (eval iter X.env) use) Qf X.xe s := by
  have hfree : ∀ y ∈ scope.names, y.2 = .free → ∃ c, X.env.cells.lookup y.1 = some c := fun y hy e => by
    rcases ok.free y hy e with k | k
    · exact I.ok.has _ (.inl k)
    · exact I.ok.has _ (.inr k)
  refine wpAny_comprehension_free (use := use) rfl hs (closure_ok hfree) ok.kind (fun y hy e => by rw [ok.uniq y hy, e])
    (thn (hi.run pins s σ H _ I h) fun xv s1 hx => thn hx fun itv s2 h2 => ?_)
  obtain ⟨it, fp, tn, J, H2, e, I2, T, st2, f2, q⟩ := h2
  subst e
  refine wpAny_newObj_type (newEnv_comp ?_)
  generalize hD : s2.heap.objs.size = D
  have hDn : H2 D = none := I2.hok.fresh (Nat.le_of_eq hD)
  obtain ⟨W, ⟨m0, w0⟩, turn⟩ := q D hDn
  -- the new list
  generalize hs3 : ({ s2 with heap := s2.heap.push { cls := .type "dict", data := .dict #[] } } : Shared) = s3
  have I3 : Inv X pins σ (upd H2 D (.dK [])) s3 := by
    rw [← hs3]
    refine I2.laid (t' := s2.toks) (fun b o e => Heap.get?_push_of_some _ e) (Nat.le_of_eq hD) ?_
    rw [← hD]
    exact dk_empty s2.heap I2.big
  have h3 : s3.heap = s2.heap.push { cls := .type "dict", data := .dict #[] } := by rw [← hs3]
  have sz : ∀ b ∈ fp, b < s2.heap.objs.size := fun b hb => by
    obtain ⟨o, e, _⟩ := T.obj _ _ st2 b hb
    exact Heap.lt_size e
  have f3 : ∀ b ∈ fp, FpOk X pins (upd H2 D (.dK [])) b ∧ b < s3.heap.objs.size := fun b hb => by
    have hlt := sz b hb
    refine ⟨⟨?_, (f2 b hb).2⟩, by rw [h3, Heap.size_push]; exact Nat.lt_succ_of_lt hlt⟩
    rw [upd_ne (by rw [← hD]; exact Nat.ne_of_lt hlt)]
    exact (f2 b hb).1
  have st3 : tn 0 s3.heap := T.keep _ _ _ st2 fun b _ o e => by rw [h3]; exact Heap.get?_push_of_some _ e
  have I4 := block_start I3 ok hN f3
  have pg := hg s3 (upd H2 D (.dK [])) s3.heap.objs.size (cellsFrom (s3.heap.objs.size + 1) scope.names (cloFrom X.env.cells scope.names [])) fp
  have pt := ht s3 (upd H2 D (.dK [])) s3.heap.objs.size (cellsFrom (s3.heap.objs.size + 1) scope.names (cloFrom X.env.cells scope.names [])) fp
  have pk := hk s3 (upd H2 D (.dK [])) s3.heap.objs.size (cellsFrom (s3.heap.objs.size + 1) scope.names (cloFrom X.env.cells scope.names [])) fp
  have pe := he s3 (upd H2 D (.dK [])) s3.heap.objs.size (cellsFrom (s3.heap.objs.size + 1) scope.names (cloFrom X.env.cells scope.names [])) fp
  have pi1 := hi1 s3 (upd H2 D (.dK [])) s3.heap.objs.size (cellsFrom (s3.heap.objs.size + 1) scope.names (cloFrom X.env.cells scope.names [])) fp
  have pg1 := hg1 s3 (upd H2 D (.dK [])) s3.heap.objs.size (cellsFrom (s3.heap.objs.size + 1) scope.names (cloFrom X.env.cells scope.names [])) fp
  have pt1 := ht1 s3 (upd H2 D (.dK [])) s3.heap.objs.size (cellsFrom (s3.heap.objs.size + 1) scope.names (cloFrom X.env.cells scope.names [])) fp
  show codeAny _ _ (.compStart (.DictComp kx vx [⟨tg, iter, ifs, 0⟩, ⟨tg1, iter1, ifs1, 0⟩] scope pos) 0 (.ref it) (.ref D) (compEnvC scope (cellsFrom (s3.heap.objs.size + 1) scope.names (cloFrom X.env.cells scope.names [])) s3.heap.objs.size X.env)) (compPost (model X.prog X.w) X.A X.xe use Qf (.ref D) s3.heap.objs.size) { s3 with heap := pushCells (s3.heap.push { cls := .type "dict", data := .dict #[] }) scope.names }
  have nfp : ∀ b ∈ fp, (upd H2 D (.dK [])) b = none := fun b hb => (f3 b hb).1.1
  generalize hce : compEnvC scope (cellsFrom (s3.heap.objs.size + 1) scope.names (cloFrom X.env.cells scope.names [])) s3.heap.objs.size X.env = ce at I4 pg pt pk pe pi1 pg1 pt1 ⊢
  have cL : ce.locals = s3.heap.objs.size := by subst hce; rfl
  generalize hH3 : upd H2 D (.dK []) = H3 at I3 I4 pg pt pk pe pi1 pg1 pt1 w0 nfp f3
  generalize hs4 : ({ s3 with heap := pushCells (s3.heap.push { cls := .type "dict", data := .dict #[] }) scope.names } : Shared) = s4 at I4 ⊢
  have st4 : tn 0 s4.heap := T.keep _ _ _ st3 fun b _ o e => by rw [← hs4]; exact pushCells_keeps _ _ _ _ (Heap.get?_push_of_some _ e)
  have stat : ∀ {σ' : St} {H' : Hp} {s' : Shared}, Inv (X.blk s3 H3 scope ce fp) [] σ' H' s' → (∀ b ∈ fp, H' b = none) → ∀ b ∈ fp, FpOk (X.blk s3 H3 scope ce fp) [] H' b := fun {σ' H' s'} I' hn b hb =>
    ⟨hn b hb, (I'.ok.exf b hb).1, I'.ok.exfs b hb, .inl hb, fun x c e => (I'.ok.exf b hb).2 x c e, fun p hp => absurd (show p ∈ ([] : List (Addr × Obj)) ++ [] from hp) (by simp)⟩
  have loop : codeAny (model X.prog X.w) X.A (.compLoop (.DictComp kx vx [⟨tg, iter, ifs, 0⟩, ⟨tg1, iter1, ifs1, 0⟩] scope pos) 0 (.ref it) (.ref D) ce) (compPost (model X.prog X.w) X.A X.xe use Qf (.ref D) s3.heap.objs.size) s4 := by
    refine compLoopD2_out (hs1 ce) (fun n s' => ∃ i H', Inv (X.blk s3 H3 scope ce fp) [] (wipe σ (own.map (·.2))) H' s' ∧ tn i s'.heap ∧ (∀ b ∈ fp, H' b = none) ∧ W i n H') ?_ m0 ⟨0, H3, I4, st4, nfp, w0⟩
    rintro n s5 ⟨i, H5, I5, st5, n5, w5⟩
    rcases turn i n H5 w5 with ⟨stop, qq⟩ | ⟨go, Nx, hNx, step⟩
    · have td := T.done (X.blk s3 H3 scope ce fp) rfl rfl rfl hc i [] s5 _ H5 (fun _ _ => False) I5 (stat I5 n5) st5 stop
      refine thnF td fun r s6 ⟨hr, I6⟩ => ?_
      subst hr
      -- back in the def's context
      have I7 : Inv X pins σ H5 s6 := I3.call' (ch := fp) I6.os I6.base I6.hok I6.bare fun b hb => ⟨(f3 b hb).1.2.2.2.1, (f3 b hb).1.2.1, (f3 b hb).1.2.2.2.2.1, (f3 b hb).1.2.2.2.2.2⟩
      have nC : H5 s3.heap.objs.size = none := by
        have z : H5 ce.locals = none := I6.free
        rw [cL] at z
        exact z
      obtain ⟨m, hn, _⟩ := I6.loc
      have hn : s6.heap.Ns ce.locals m := hn
      rw [cL] at hn
      exact hRR D s3.heap.objs.size s6 m H5 I7 qq hn (I3.fpOk (Nat.le_refl _) nC)
    · have ti := T.item (X.blk s3 H3 scope ce fp) rfl rfl rfl hc i [] s5 _ H5 (fun _ _ => False) I5 (stat I5 n5) st5 go
      refine thnF ti fun r s6 ⟨u, hr, h6⟩ => ?_
      subst hr
      refine thnF h6 fun _ s7 ⟨x, H7, I7, r7, y7, st7, n7⟩ => ?_
      have I7' := I7.pinned (stat I7 n7) (T.obj _ _ st7)
      refine thnF (pg.run _ s7 _ H7 x u _ I7' r7 (step x H7 y7)) fun _ s8 ⟨σ8, H8, I8, hw8, q8⟩ => ?_
      refine thnF (pt.run _ s8 σ8 H8 _ I8 q8) fun b s9 ⟨H9, I9, q9⟩ => ?_
      -- the turn's end, from any slots that know what the block knew at its start
      have fin : ∀ {σ9 : St} {s' : Shared} {H' : Hp}, Inv (X.blk s3 H3 scope ce fp) ([] ++ pinsAt fp s7.heap) σ9 H' s' → (wipe σ (own.map (·.2))).length = σ9.length → (∀ (j : Nat) v, (wipe σ (own.map (·.2)))[j]? = some (some v) → σ9[j]? = some (some v)) → Nx H' →
          ∃ m, m < n ∧ ∃ i H', Inv (X.blk s3 H3 scope ce fp) [] (wipe σ (own.map (·.2))) H' s' ∧ tn i s'.heap ∧ (∀ b ∈ fp, H' b = none) ∧ W i m H' := fun {σ9 s' H'} I' hl hk nx => by
        obtain ⟨m', hm, w'⟩ := hNx H' nx
        have pin' : ∀ b ∈ fp, ∀ o, s7.heap.get? b = some o → s'.heap.get? b = some o ∧ H' b = none := fun b hb o e =>
          let z := I'.pin (b, o) (List.mem_append_right _ (List.mem_append_right _ (mem_pinsAt hb e)))
          ⟨z.1, z.2.1⟩
        refine ⟨m', hm, i + 1, H', (I'.unpinned (pins := [])).weak hl hk, T.keep _ _ _ st7 fun b hb o e => (pin' b hb o e).1, fun b hb => ?_, w'⟩
        obtain ⟨o, e, _⟩ := T.obj _ _ st7 b hb
        exact (pin' b hb o e).2
      have hl8 : (wipe σ (own.map (·.2))).length = σ8.length := by rw [← hw8, wipe_length]
      have hk8 : ∀ (j : Nat) v, (wipe σ (own.map (·.2)))[j]? = some (some v) → σ8[j]? = some (some v) := fun j v e => by
        rw [← hw8] at e
        exact (wipe_some e).1
      have hk9 : ∀ (j : Nat) v, (wipe σ (own.map (·.2)))[j]? = some (some v) → (wipe σ8 vs1)[j]? = some (some v) := fun j v e => by
        rw [← hw8] at e
        obtain ⟨e1, e2⟩ := wipe_some e
        rw [wipe_out fun z => e2 (hv j z)]
        exact e1
      cases b with
      | false =>
        simp only [Bool.false_eq_true, if_false] at q9 ⊢
        exact fin I9 hl8 hk8 q9
      | true =>
        simp only [if_true] at q9 ⊢
        refine thnF (pi1.run _ s9 σ8 H9 _ I9 q9) fun xv s10 hx => thnF hx fun itv s11 h11 => ?_
        obtain ⟨it1, fp1, tn1, J1, H11, e1, I11, T1, st11, f11, W1, ⟨m1, w1⟩, turn1⟩ := h11
        subst e1
        -- the inner loop
        have stat1 : ∀ {H' : Hp}, (∀ b ∈ fp1, H' b = none) → ∀ b ∈ fp1, FpOk (X.blk s3 H3 scope ce fp) ([] ++ pinsAt fp s7.heap) H' b := fun hn b hb => ⟨hn b hb, (f11 b hb).2⟩
        have loop1 : codeAny (model X.prog X.w) X.A (.compLoop (.DictComp kx vx [⟨tg, iter, ifs, 0⟩, ⟨tg1, iter1, ifs1, 0⟩] scope pos) 1 (.ref it1) (.ref D) ce)
            (fun r s' => match r with
              | .ok _ => ∃ m, m < n ∧ ∃ i H', Inv (X.blk s3 H3 scope ce fp) [] (wipe σ (own.map (·.2))) H' s' ∧ tn i s'.heap ∧ (∀ b ∈ fp, H' b = none) ∧ W i m H'
              | .error _ => False) s11 := by
          refine compLoopD2_in (fun k s' => ∃ j H', Inv (X.blk s3 H3 scope ce fp) ([] ++ pinsAt fp s7.heap) (wipe σ8 vs1) H' s' ∧ tn1 j s'.heap ∧ (∀ b ∈ fp1, H' b = none) ∧ W1 j k H') ?_ m1 ⟨0, H11, I11.weak (wipe_length _ _) (fun j v e => (wipe_some e).1), st11, fun b hb => (f11 b hb).1, w1⟩
          rintro k s12 ⟨j, H12, I12, st12, n12, w12⟩
          rcases turn1 j k H12 w12 with ⟨stop1, nx1⟩ | ⟨go1, Nx1, hNx1, step1⟩
          · refine thnF (T1.done (X.blk s3 H3 scope ce fp) rfl rfl rfl hc j _ s12 (wipe σ8 vs1) H12 (fun _ _ => False) I12 (stat1 n12) st12 stop1) fun r s13 ⟨hr, I13⟩ => ?_
            subst hr
            exact fin I13 (hl8.trans (wipe_length σ8 vs1).symm) hk9 nx1
          · refine thnF (T1.item (X.blk s3 H3 scope ce fp) rfl rfl rfl hc j _ s12 (wipe σ8 vs1) H12 (fun _ _ => False) I12 (stat1 n12) st12 go1) fun r s13 ⟨u1, hr, h13⟩ => ?_
            subst hr
            refine thnF h13 fun _ s14 ⟨x1, H14, I14, r14, y14, st14, n14⟩ => ?_
            have I14' := I14.pinned (stat1 n14) (T1.obj _ _ st14)
            refine thnF (pg1.run _ s14 (wipe σ8 vs1) H14 x1 u1 _ I14' r14 (step1 x1 H14 y14)) fun _ s15 ⟨σ15, H15, I15, hw15, q15⟩ => ?_
            refine thnF (pt1.run _ s15 σ15 H15 _ I15 q15) fun b1 s16 ⟨H16, I16, q16⟩ => ?_
            have fin1 : ∀ {s' : Shared} {H' : Hp}, Inv (X.blk s3 H3 scope ce fp) (([] ++ pinsAt fp s7.heap) ++ pinsAt fp1 s14.heap) σ15 H' s' → Nx1 H' → ∃ m, m < k ∧ ∃ j H', Inv (X.blk s3 H3 scope ce fp) ([] ++ pinsAt fp s7.heap) (wipe σ8 vs1) H' s' ∧ tn1 j s'.heap ∧ (∀ b ∈ fp1, H' b = none) ∧ W1 j m H' := fun {s' H'} I' nx => by
              obtain ⟨m', hm, w'⟩ := hNx1 H' nx
              have pin' : ∀ b ∈ fp1, ∀ o, s14.heap.get? b = some o → s'.heap.get? b = some o ∧ H' b = none := fun b hb o e =>
                let z := I'.pin (b, o) (List.mem_append_right _ (List.mem_append_right _ (mem_pinsAt hb e)))
                ⟨z.1, z.2.1⟩
              refine ⟨m', hm, j + 1, H', I'.unpinned.weak (by rw [← hw15, wipe_length]) (fun j v e => by rw [← hw15] at e; exact (wipe_some e).1), T1.keep _ _ _ st14 fun b hb o e => (pin' b hb o e).1, fun b hb => ?_, w'⟩
              obtain ⟨o, e, _⟩ := T1.obj _ _ st14 b hb
              exact (pin' b hb o e).2
            cases b1 with
            | false =>
              simp only [Bool.false_eq_true, if_false] at q16 ⊢
              exact fin1 I16 q16
            | true =>
              simp only [if_true] at q16 ⊢
              refine thnF (pk.run _ s16 σ15 H16 _ I16 q16) fun z s17 ⟨yk, H17, I17, r17, q17⟩ => ?_
              refine thnF (pe.run _ s17 σ15 H17 _ I17 q17) fun z2 s18 ⟨yv, H18, I18, r18, kvs, k, ek, hD18, hz18, nx⟩ => ?_
              subst ek
              exact d_dictSet (X := X.blk s3 H3 scope ce fp) I18 hD18 hz18 r17 r18 fun s19 I19 => fin1 I19 nx
        exact compStartD1_ok loop1 (T1.self X.A 0 _ _ _ st11 loop1)
  exact codeAny_compStart_dict loop (T.self X.A 0 _ _ _ st4 loop)
/-- as a value -/
theorem pe_dc2 {kx vx tg iter tg1 iter1 : Expr} {ifs ifs1 : List Expr} {scope : Scope} {own : List (Str × Nat)} {vs1 : List Nat} {pos : Pos} {wi wi1 : TI} {g g1 : TG} {tt tt1 : TT} {tk tv : TE} (hc : X.calm = true) (hN : X.N.Nodup) (hi : PI X tg iter wi) (ok : BlkOk X.N X.env.scope scope own) (hv : ∀ i ∈ vs1, i ∈ own.map (·.2))
    (hg : ∀ (s : Shared) (H : Hp) (C : Addr) (cl : List (Str × Addr)) (fp : List Addr), PG (X.blk s H scope (compEnvC scope cl C X.env) fp) tg g) (ht : ∀ (s : Shared) (H : Hp) (C : Addr) (cl : List (Str × Addr)) (fp : List Addr), PTs (X.blk s H scope (compEnvC scope cl C X.env) fp) ifs tt)
    (hi1 : ∀ (s : Shared) (H : Hp) (C : Addr) (cl : List (Str × Addr)) (fp : List Addr), PI (X.blk s H scope (compEnvC scope cl C X.env) fp) tg1 iter1 wi1)
    (hg1 : ∀ (s : Shared) (H : Hp) (C : Addr) (cl : List (Str × Addr)) (fp : List Addr), PG (X.blk s H scope (compEnvC scope cl C X.env) fp) tg1 g1) (ht1 : ∀ (s : Shared) (H : Hp) (C : Addr) (cl : List (Str × Addr)) (fp : List Addr), PTs (X.blk s H scope (compEnvC scope cl C X.env) fp) ifs1 tt1)
    (hk : ∀ (s : Shared) (H : Hp) (C : Addr) (cl : List (Str × Addr)) (fp : List Addr), PE (X.blk s H scope (compEnvC scope cl C X.env) fp) kx tk)
    (he : ∀ (s : Shared) (H : Hp) (C : Addr) (cl : List (Str × Addr)) (fp : List Addr), PE (X.blk s H scope (compEnvC scope cl C X.env) fp) vx tv) (hs : ∀ x, foldedSetIterable iter X.env x = pure x := by intro _; rfl) (hs1 : ∀ env x, foldedSetIterable iter1 env x = pure x := by intro _ _; rfl) :
    PE X (.DictComp kx vx [⟨tg, iter, ifs, 0⟩, ⟨tg1, iter1, ifs1, 0⟩] scope pos) (tDc2 wi g tt wi1 g1 tt1 tk tv (own.map (·.2)) vs1) := by
  refine ⟨fun pins s σ H Q I h => ?_⟩
  rw [arm_eval_DictComp]
  refine dc2_core hc hN I hi ok hv hg ht hk he hs hi1 hg1 ht1 hs1 h fun D C s' m H' I' q hn f => ⟨m, hn, fun h'' sb => ?_⟩
  obtain ⟨f0, f1, f2, f3, f4, f5⟩ := f
  exact ⟨.ref D, H', I'.turned (t' := s'.toks) (fun b o hb e => (sb.2 b hb).trans e) f0 f1 f3 f4 f5, rfl, q⟩
theorem ps_setDc2 {i : Nat} {y : Str} {py : Pos} {kx vx tg iter tg1 iter1 : Expr} {ifs ifs1 : List Expr} {scope : Scope} {own : List (Str × Nat)} {vs1 : List Nat} {pos spos : Pos} {wi wi1 : TI} {g g1 : TG} {tt tt1 : TT} {tk tv : TE} (hc : X.calm = true) (hN : X.N.Nodup) (hy : X.N[i]? = some y) (hyl : X.env.scope.names.lookup y = some .local)
    (hsw : swapsWith (.DictComp kx vx [⟨tg, iter, ifs, 0⟩, ⟨tg1, iter1, ifs1, 0⟩] scope pos) (some (.Name y py)) spos.line X.env = pure true) (hi : PI X tg iter wi) (ok : BlkOk X.N X.env.scope scope own) (hv : ∀ i ∈ vs1, i ∈ own.map (·.2))
    (hg : ∀ (s : Shared) (H : Hp) (C : Addr) (cl : List (Str × Addr)) (fp : List Addr), PG (X.blk s H scope (compEnvC scope cl C X.env) fp) tg g) (ht : ∀ (s : Shared) (H : Hp) (C : Addr) (cl : List (Str × Addr)) (fp : List Addr), PTs (X.blk s H scope (compEnvC scope cl C X.env) fp) ifs tt)
    (hi1 : ∀ (s : Shared) (H : Hp) (C : Addr) (cl : List (Str × Addr)) (fp : List Addr), PI (X.blk s H scope (compEnvC scope cl C X.env) fp) tg1 iter1 wi1)
    (hg1 : ∀ (s : Shared) (H : Hp) (C : Addr) (cl : List (Str × Addr)) (fp : List Addr), PG (X.blk s H scope (compEnvC scope cl C X.env) fp) tg1 g1) (ht1 : ∀ (s : Shared) (H : Hp) (C : Addr) (cl : List (Str × Addr)) (fp : List Addr), PTs (X.blk s H scope (compEnvC scope cl C X.env) fp) ifs1 tt1)
    (hk : ∀ (s : Shared) (H : Hp) (C : Addr) (cl : List (Str × Addr)) (fp : List Addr), PE (X.blk s H scope (compEnvC scope cl C X.env) fp) kx tk)
    (he : ∀ (s : Shared) (H : Hp) (C : Addr) (cl : List (Str × Addr)) (fp : List Addr), PE (X.blk s H scope (compEnvC scope cl C X.env) fp) vx tv) (hs : ∀ x, foldedSetIterable iter X.env x = pure x := by intro _; rfl) (hs1 : ∀ env x, foldedSetIterable iter1 env x = pure x := by intro _ _; rfl) :
    PS X (.Assign [.Name y py] (.DictComp kx vx [⟨tg, iter, ifs, 0⟩, ⟨tg1, iter1, ifs1, 0⟩] scope pos) spos) (tAsg (tDc2 wi g tt wi1 g1 tt1 tk tv (own.map (·.2)) vs1) (gName i)) := by
  refine ⟨fun pins s σ H D I h => ?_⟩
  rw [exec_Assign_Name_used _ _ _ _ hsw]
  refine wpAny_bind (wpAny_standAt (wpAny_bind ?_))
  show wpAny _ X.A (do let _ ← comprehension (.DictComp kx vx [⟨tg, iter, ifs, 0⟩, ⟨tg1, iter1, ifs1, 0⟩] scope pos) scope X.env (firstIterPos [⟨tg, iter, ifs, 0⟩, ⟨tg1, iter1, ifs1, 0⟩] pos) newDict false (eval iter X.env) (some (assign (.Name y py) X.env))) _ _ s
  have h : tDc2 wi g tt wi1 g1 tt1 tk tv (own.map (·.2)) vs1 σ H (fun x H1 => gName i x σ H1 D.nx) := h
  refine wpAny_bind (thn (dc2_core (Qf := fun _ s' => SP X pins D .next s') hc hN I hi ok hv hg ht hk he hs hi1 hg1 ht1 hs1 h fun L C s' m H' I' q hn f => ?_) fun _ s' hq => wpAny_pure (wpAny_pure hq))
  show wpAny _ _ (assign (.Name y py) X.env (.ref L)) _ _ _
  refine wpAny_assign_Name (store_ok2 (v := V.ref L) I' hN hy (.inl hyl) rfl (fun s2 I2 ⟨a, sb, ha⟩ => ?_) (.inr hyl))
  obtain ⟨f0, f1, f2, f3, f4, f5⟩ := f
  have haC : C ≠ a := by
    rcases ha with z | z
    · rw [z]; exact f1
    · exact fun e => f4 y a z e.symm
  refine ⟨m, hn.sameBut sb haC, fun h3 sb3 => ?_⟩
  exact ⟨_, H', I2.turned (t' := s2.toks) (fun b o hb e => (sb3.2 b hb).trans e) f0 f1 f3 f4 f5, q⟩
theorem ps_setDc {i : Nat} {y : Str} {py : Pos} {kx vx tg iter : Expr} {ifs : List Expr} {scope : Scope} {own : List (Str × Nat)} {pos spos : Pos} {wi : TI} {g : TG} {tt : TT} {tk tv : TE} (hc : X.calm = true) (hN : X.N.Nodup) (hy : X.N[i]? = some y) (hyl : X.env.scope.names.lookup y = some .local)
    (hsw : swapsWith (.DictComp kx vx [⟨tg, iter, ifs, 0⟩] scope pos) (some (.Name y py)) spos.line X.env = pure true) (hi : PI X tg iter wi) (ok : BlkOk X.N X.env.scope scope own)
    (hg : ∀ (s : Shared) (H : Hp) (C : Addr) (cl : List (Str × Addr)) (fp : List Addr), PG (X.blk s H scope (compEnvC scope cl C X.env) fp) tg g) (ht : ∀ (s : Shared) (H : Hp) (C : Addr) (cl : List (Str × Addr)) (fp : List Addr), PTs (X.blk s H scope (compEnvC scope cl C X.env) fp) ifs tt)
    (hk : ∀ (s : Shared) (H : Hp) (C : Addr) (cl : List (Str × Addr)) (fp : List Addr), PE (X.blk s H scope (compEnvC scope cl C X.env) fp) kx tk)
    (he : ∀ (s : Shared) (H : Hp) (C : Addr) (cl : List (Str × Addr)) (fp : List Addr), PE (X.blk s H scope (compEnvC scope cl C X.env) fp) vx tv) (hs : ∀ x, foldedSetIterable iter X.env x = pure x := by intro _; rfl) :
    PS X (.Assign [.Name y py] (.DictComp kx vx [⟨tg, iter, ifs, 0⟩] scope pos) spos) (tAsg (tDc wi g tt tk tv (own.map (·.2))) (gName i)) := by
  refine ⟨fun pins s σ H D I h => ?_⟩
  rw [exec_Assign_Name_used _ _ _ _ hsw]
  refine wpAny_bind (wpAny_standAt (wpAny_bind ?_))
  show wpAny _ X.A (do let _ ← comprehension (.DictComp kx vx [⟨tg, iter, ifs, 0⟩] scope pos) scope X.env (firstIterPos [⟨tg, iter, ifs, 0⟩] pos) newDict false (eval iter X.env) (some (assign (.Name y py) X.env))) _ _ s
  have h : tDc wi g tt tk tv (own.map (·.2)) σ H (fun x H1 => gName i x σ H1 D.nx) := h
  refine wpAny_bind (thn (dc_core (Qf := fun _ s' => SP X pins D .next s') hc hN I hi ok hg ht hk he hs h fun L C s' m H' I' q hn f => ?_) fun _ s' hq => wpAny_pure (wpAny_pure hq))
  show wpAny _ _ (assign (.Name y py) X.env (.ref L)) _ _ _
  refine wpAny_assign_Name (store_ok2 (v := V.ref L) I' hN hy (.inl hyl) rfl (fun s2 I2 ⟨a, sb, ha⟩ => ?_) (.inr hyl))
  obtain ⟨f0, f1, f2, f3, f4, f5⟩ := f
  have haC : C ≠ a := by
    rcases ha with z | z
    · rw [z]; exact f1
    · exact fun e => f4 y a z e.symm
  refine ⟨m, hn.sameBut sb haC, fun h3 sb3 => ?_⟩
  exact ⟨_, H', I2.turned (t' := s2.toks) (fun b o hb e => (sb3.2 b hb).trans e) f0 f1 f3 f4 f5, q⟩
end
end L2
/-! DL16: dict comprehensions. -/
namespace DL
open PySem PySem.Spec PyProof.Rows L2
def fzKey : R → Option Key
  | .fz d => keyOf d
  | _ => none
theorem fzKey_eq {r : R} {k : Key} (h : fzKey r = some k) : r = .fz (keyD k) := by
  cases r with
  | fz d => exact congrArg R.fz (keyOf_eq h)
  | own _ => cases h
  | slot _ => cases h
def dcL (g : DGt) (t : DB) (fk fv : DX) (vs : List Nat) : List D → List (D × D) → DS → Option (List (D × D) × DS)
  | [], acc, ds => some (acc, ds)
  | d :: r, acc, ds => Option.bind (g d ds) fun ds1 => Option.bind (t ds1) fun p => if p.1 = true then
      Option.bind (fk p.2) fun q => Option.bind (fzKey q.1) fun k => Option.bind (fv q.2) fun y => Option.bind (frR y.1 y.2) fun z => if acc.length < sizeLine then dcL g t fk fv vs r (putKD acc k z.1) (wipeD z.2 vs) else none
    else dcL g t fk fv vs r acc (wipeD p.2 vs)
def eDC (fi : DIt) (g : DGt) (t : DB) (fk fv : DX) (vs : List Nat) : DX := fun ds => Option.bind (fi ds) fun p => if noOwn vs p.2 = true then
    Option.bind (dcL g t fk fv vs p.1 [] (wipeD p.2 vs)) fun q => some (.own (.dct .k q.1), restoreD p.2 q.2 vs) else none
def dc2L (g : DGt) (t : DB) (fi1 : DIt) (g1 : DGt) (t1 : DB) (fk fv : DX) (vs vs1 : List Nat) : List D → List (D × D) → DS → Option (List (D × D) × DS)
  | [], acc, ds => some (acc, ds)
  | d :: r, acc, ds => Option.bind (g d ds) fun ds1 => Option.bind (t ds1) fun p => if p.1 = true then
      Option.bind (fi1 p.2) fun q => Option.bind (dcL g1 t1 fk fv vs1 q.1 acc (wipeD q.2 vs1)) fun z => dc2L g t fi1 g1 t1 fk fv vs vs1 r z.1 (wipeD z.2 vs)
    else dc2L g t fi1 g1 t1 fk fv vs vs1 r acc (wipeD p.2 vs)
def eDC2 (fi : DIt) (g : DGt) (t : DB) (fi1 : DIt) (g1 : DGt) (t1 : DB) (fk fv : DX) (vs vs1 : List Nat) : DX := fun ds => Option.bind (fi ds) fun p => if noOwn vs p.2 = true then
    Option.bind (dc2L g t fi1 g1 t1 fk fv vs vs1 p.1 [] (wipeD p.2 vs)) fun q => some (.own (.dct .k q.1), restoreD p.2 q.2 vs) else none
section
variable {X : Cx} {io : Bool}
theorem dc_turn {scope : Scope} {kx vx tg : Expr} {ifs : List Expr} {ts vs : List Nat} {g : DGt} {t : DB} {fk fv : DX} {F : Fx} {d : D} {r : List D} {acc accF : List (D × D)} {ds dsF : DS} {σ : Sg} {H H' : Hp} {hd : List (Addr × HO)} {p : Addr} {accV : List (Key × V)} {x : V} {Nx : Hp → Prop}
    (j : IoOk F io) (h0 : io = false ∨ 0 ∉ vs) (hg : Blk X scope fun Y => DG Y io tg ts g) (ht : Blk X scope fun Y => DTS Y io ifs t) (hk : Blk X scope fun Y => DE Y io kx fk) (he : Blk X scope fun Y => DE Y io vx fv) (hts : ∀ i ∈ ts, i ∈ vs)
    (S : SRel X.kx F ds (L2.wipe σ vs) H ((p, .dK accV) :: hd)) (fa : FzK X.kx H accV acc) (sm : Same H H') (w : Fz X.kx H' x d) (e : dcL g t fk fv vs (d :: r) acc ds = some (accF, dsF))
    (k : ∀ H2 acc2 accV2 ds2, Ext H' H2 → FzK X.kx H2 accV2 acc2 → SRel X.kx F ds2 (L2.wipe σ vs) H2 ((p, .dK accV2) :: hd) → dcL g t fk fv vs r acc2 ds2 = some (accF, dsF) → Nx H2) :
    bG X scope tg x (L2.wipe σ vs) H' fun σ2 H2 => L2.wipe σ2 vs = L2.wipe σ vs ∧ bTs X scope ifs σ2 H2 fun b H3 =>
      if b = true then bE X scope kx σ2 H3 fun y H4 => tFrz (bE X scope vx) σ2 H4 fun z H5 => ∃ kvs k, y = kV k ∧ H5 p = some (.dK kvs) ∧ kvs.length < sizeLine ∧ Nx (upd H5 p (.dK (L2.putK kvs k z))) else Nx H3 := by
  unfold dcL at e
  obtain ⟨ds1, e1, e⟩ := Option.bind_eq_some_iff.mp e
  obtain ⟨⟨b, ds2⟩, e2, e⟩ := Option.bind_eq_some_iff.mp e
  have j0 := io_no j h0
  have S' := S.grow sm
  refine ⟨tDG X.kx F ts d ds ds1, fun s H C cl fp => (hg s H C cl fp).run F _ _ _ j e1, _, S', w, fun σ2 H2 x2 S2 z2 => ?_⟩
  have ew : L2.wipe σ2 vs = L2.wipe σ vs := by
    rw [z2 vs hts, wipe_wipe σ fun _ m => m]
  refine ⟨ew, tDT X.kx F ds1 b ds2, fun s H C cl fp => (ht s H C cl fp).run F _ _ _ j e2, _, S2, fun H3 x3 S3 => ?_⟩
  have fa3 := fa.ext ((Ext.of_same sm).trans (x2.trans x3))
  cases b with
  | false =>
    refine iteF (k H3 acc accV _ (x2.trans x3) fa3 ?_ e)
    rw [← ew]
    exact S3.wipe j0
  | true =>
    have e := (show Option.bind (fk ds2) _ = _ from e)
    obtain ⟨⟨rk, ds3⟩, e3, e⟩ := Option.bind_eq_some_iff.mp e
    obtain ⟨kk, ek, e⟩ := Option.bind_eq_some_iff.mp e
    obtain ⟨⟨r4, ds4⟩, e4, e⟩ := Option.bind_eq_some_iff.mp e
    obtain ⟨⟨d5, ds5⟩, e5, eF⟩ := Option.bind_eq_some_iff.mp e
    have ek' := fzKey_eq ek
    dsimp only at ek'
    subst ek'
    by_cases hlen : acc.length < sizeLine
    · rw [if_pos hlen] at eF
      refine iteT ⟨tD X.kx F ds2 (.fz (keyD kk)) ds3, fun s H C cl fp => (hk s H C cl fp).run F _ _ _ j e3, _, S3, fun y H4 x4 r4' S4 => ?_⟩
      have ey : y = kV kk := by
        cases r4' with
        | fz wy => exact kV_of (K := X.kx) (H := H4) (.inl wy) (keyOf_keyD kk)
      rw [hp_fz] at S4
      refine ⟨fun σ H Q => tD X.kx F ds3 r4 ds4 σ H Q, fun s H C cl fp => (he s H C cl fp).run F _ _ _ j e4, _, S4, fun v H5 x5 r5 S5 => ?_⟩
      obtain ⟨ps, k1⟩ := fr1 r5 S5 e5
      refine ⟨ps, k1.mono fun H6 ⟨x6, w6, S6⟩ => ?_⟩
      have S6 : SRel X.kx F ds5 σ2 H6 ((p, .dK accV) :: hd) := S6
      have eh := (S6.held p _ List.mem_cons_self).1
      have fa6 := fa3.ext (x4.trans (x5.trans x6))
      refine ⟨accV, kk, ey, eh, by rw [fa6.len]; exact hlen, ?_⟩
      have xx : Ext H6 (upd H6 p (.dK (L2.putK accV kk v))) := Ext.bx eh trivial
      refine k _ (putKD acc kk d5) (L2.putK accV kk v) (wipeD ds5 vs) (((x2.trans x3).trans (x4.trans (x5.trans x6))).trans xx) ((FzK.putK w6 fa6).ext xx) ?_ eF
      rw [← ew]
      exact (S6.hset' (u := .dK (L2.putK accV kk v)) trivial).wipe j0
    · rw [if_neg hlen] at eF; cases eF
theorem dc_read {tg iter kx vx : Expr} {ifs : List Expr} {scope : Scope} {ts vs : List Nat} {fi : DIt} {g : DGt} {t : DB} {fk fv : DX} {F : Fx} {ds ds' : DS} {r : R} (j : IoOk F io) (h0 : io = false ∨ 0 ∉ vs) (nd : vs.Nodup)
    (hg : Blk X scope fun Y => DG Y io tg ts g) (ht : Blk X scope fun Y => DTS Y io ifs t) (hk : Blk X scope fun Y => DE Y io kx fk) (he : Blk X scope fun Y => DE Y io vx fv) (hts : ∀ i ∈ ts, i ∈ vs) (e : eDC fi g t fk fv vs ds = some (r, ds')) :
    ∃ items ds1, fi ds = some (items, ds1) ∧ ∀ σ H Q, tD X.kx F ds r ds' σ H Q → tDc (tDI X.kx F ds items ds1) (bG X scope tg) (bTs X scope ifs) (bE X scope kx) (tFrz (bE X scope vx)) vs σ H Q := by
  unfold eDC at e
  obtain ⟨⟨items, ds1⟩, e1, e⟩ := Option.bind_eq_some_iff.mp e
  by_cases hn : noOwn vs ds1 = true
  · rw [if_pos hn] at e
    obtain ⟨⟨accF, dsF⟩, e2, e⟩ := Option.bind_eq_some_iff.mp e
    cases e
    refine ⟨items, ds1, e1, fun σ H Q ⟨hd, S, k⟩ => ⟨hd, S, fun J H1 x1 S1 its p hp0 => ?_⟩⟩
    have x2 : Ext H1 (upd H1 p (.dK [])) := Ext.new hp0
    have S2 := (S1.made (o := .dK []) hp0 trivial).wipe (io_no j h0)
    refine ⟨fun i m H' => m = items.length - i ∧ i ≤ items.length ∧ ∃ acc accV ds2, Ext (upd H1 p (.dK [])) H' ∧ FzK X.kx H' accV acc ∧ SRel X.kx F ds2 (L2.wipe σ vs) H' ((p, .dK accV) :: hd) ∧ dcL g t fk fv vs (items.drop i) acc ds2 = some (accF, dsF),
      ⟨_, rfl, Nat.zero_le _, [], [], _, Ext.refl _, .nil, S2, e2⟩, ?_⟩
    rintro i m H3 ⟨rfl, hle, acc, accV, ds3, x3, fa, S3, e3⟩
    obtain ⟨i1, i2⟩ := its H3 (x2.trans x3)
    by_cases hlt : i < items.length
    · obtain ⟨d, hdi⟩ : ∃ d, items[i]? = some d := ⟨items[i], by simp [hlt]⟩
      have hdr : items.drop i = d :: items.drop (i + 1) := by
        rw [List.drop_eq_getElem_cons hlt]
        rw [List.getElem?_eq_getElem hlt] at hdi
        rw [Option.some.inj hdi]
      rw [hdr] at e3
      obtain ⟨go, y⟩ := i1 i d hdi
      refine .inr ⟨go, fun H' => ∃ acc accV ds2, Ext (upd H1 p (.dK [])) H' ∧ FzK X.kx H' accV acc ∧ SRel X.kx F ds2 (L2.wipe σ vs) H' ((p, .dK accV) :: hd) ∧ dcL g t fk fv vs (items.drop (i + 1)) acc ds2 = some (accF, dsF), fun H' q => ⟨_, by omega, rfl, hlt, q⟩, fun x H' yl => ?_⟩
      obtain ⟨sm, w⟩ := y x H' yl
      exact dc_turn j h0 hg ht hk he hts S3 fa sm w e3 fun H4 acc4 accV4 ds4 x4 fa4 S4 e4 => ⟨acc4, accV4, ds4, (x3.trans (.of_same sm)).trans x4, fa4, S4, e4⟩
    · have hl : i = items.length := by omega
      subst hl
      rw [List.drop_length] at e3
      cases e3
      refine .inl ⟨i2 _ (Nat.le_refl _), ?_⟩
      have eh := (S3.held p _ List.mem_cons_self).1
      have S5 := S3.unwipe (ds0 := ds1) (H0 := H1) ⟨_, _, S1⟩ (x2.trans x3) hn nd
      refine k (.ref p) H3 (x1.trans (x2.trans x3)) (.own (.dctK eh fa)) ?_
      rw [hp_own _ eh]
      exact S5
  · rw [if_neg hn] at e; cases e
variable {tg iter kx vx : Expr} {ifs : List Expr} {scope : Scope} {ts : List Nat} {fi : DIt} {g : DGt} {t : DB} {fk fv : DX}
/-- [elt for tg in iter if ..] -/
theorem d_dc {own : List (Str × Nat)} {pos : Pos} (hc : X.calm = true) (hN : X.N.Nodup) (h0 : io = false ∨ 0 ∉ own.map (·.2)) (nd : (own.map (·.2)).Nodup) (hts : ∀ i ∈ ts, i ∈ own.map (·.2)) (ok : BlkOk X.N X.env.scope scope own) (hi : DI X io tg iter fi)
    (hg : Blk X scope fun Y => DG Y io tg ts g) (ht : Blk X scope fun Y => DTS Y io ifs t) (hk : Blk X scope fun Y => DE Y io kx fk) (he : Blk X scope fun Y => DE Y io vx fv) (hs : ∀ x, foldedSetIterable iter X.env x = pure x := by intro _; rfl) :
    DE X io (.DictComp kx vx [⟨tg, iter, ifs, 0⟩] scope pos) (eDC fi g t fk fv (own.map (·.2))) := by
  refine ⟨fun F ds r ds' j e => ?_⟩
  obtain ⟨items, ds1, e1, q⟩ := dc_read (X := X) (iter := iter) j h0 nd hg ht hk he hts e
  exact PE.weak (pe_dc hc hN (hi.run F _ _ _ j e1) ok (bg_w X scope tg) (bts_w X scope ifs) (be_w X scope kx) (fun s H C cl fp => pe_frz (be_w X scope vx s H C cl fp)) hs) q
/-- x = [elt for ..] on one line, x a local -/
theorem ds_setDc {i : Nat} {y : Str} {py : Pos} {own : List (Str × Nat)} {pos spos : Pos} (hc : X.calm = true) (hN : X.N.Nodup) (hy : X.N[i]? = some y) (hyl : X.env.scope.names.lookup y = some .local) (hi0 : io = false ∨ i ≠ 0)
    (hsw : swapsWith (.DictComp kx vx [⟨tg, iter, ifs, 0⟩] scope pos) (some (.Name y py)) spos.line X.env = pure true)
    (h0 : io = false ∨ 0 ∉ own.map (·.2)) (nd : (own.map (·.2)).Nodup) (hts : ∀ i ∈ ts, i ∈ own.map (·.2)) (ok : BlkOk X.N X.env.scope scope own) (hi : DI X io tg iter fi)
    (hg : Blk X scope fun Y => DG Y io tg ts g) (ht : Blk X scope fun Y => DTS Y io ifs t) (hk : Blk X scope fun Y => DE Y io kx fk) (he : Blk X scope fun Y => DE Y io vx fv) (hs : ∀ x, foldedSetIterable iter X.env x = pure x := by intro _; rfl) :
    DStm X io (.Assign [.Name y py] (.DictComp kx vx [⟨tg, iter, ifs, 0⟩] scope pos) spos) (sSet i (eDC fi g t fk fv (own.map (·.2)))) := by
  refine ⟨fun F ds fl ds' j q => ?_⟩
  unfold sSet at q
  obtain ⟨⟨r, ds1⟩, e1, q⟩ := Option.bind_eq_some_iff.mp q
  obtain ⟨items, ds2, e2, w⟩ := dc_read (X := X) (iter := iter) j h0 nd hg ht hk he hts e1
  refine PS.weak (ps_setDc hc hN hy hyl hsw (hi.run F _ _ _ j e2) ok (bg_w X scope tg) (bts_w X scope ifs) (be_w X scope kx) (fun s H C cl fp => pe_frz (be_w X scope vx s H C cl fp)) hs) fun D σ H h => ?_
  refine w σ H _ ⟨[], h.1, fun v H' x rr S => ?_⟩
  -- the result is a new list
  obtain ⟨l, rfl⟩ : ∃ l, r = .own (.dct .k l) := by
    unfold eDC at e1
    obtain ⟨p, _, e1⟩ := Option.bind_eq_some_iff.mp e1
    by_cases hn : noOwn (own.map (·.2)) p.2 = true
    · rw [if_pos hn] at e1
      obtain ⟨q', _, e1⟩ := Option.bind_eq_some_iff.mp e1
      cases e1; exact ⟨_, rfl⟩
    · rw [if_neg hn] at e1; cases e1
  cases q
  cases rr with
  | own w' =>
    exact h.2 _ H' x (S.storeR (io_ne hi0 j) w')

theorem dc2_read {tg iter kx vx tg1 iter1 : Expr} {ifs ifs1 : List Expr} {scope : Scope} {ts ts1 vs vs1 : List Nat} {fi fi1 : DIt} {g g1 : DGt} {t t1 : DB} {fk fv : DX} {F : Fx} {ds ds' : DS} {r : R} (j : IoOk F io) (h0 : io = false ∨ 0 ∉ vs) (nd : vs.Nodup) (hv1 : ∀ i ∈ vs1, i ∈ vs)
    (hg : Blk X scope fun Y => DG Y io tg ts g) (ht : Blk X scope fun Y => DTS Y io ifs t) (hi1 : Blk X scope fun Y => DI Y io tg1 iter1 fi1) (hg1 : Blk X scope fun Y => DG Y io tg1 ts1 g1) (ht1 : Blk X scope fun Y => DTS Y io ifs1 t1) (hk : Blk X scope fun Y => DE Y io kx fk) (he : Blk X scope fun Y => DE Y io vx fv)
    (hts : ∀ i ∈ ts, i ∈ vs) (hts1 : ∀ i ∈ ts1, i ∈ vs1) (e : eDC2 fi g t fi1 g1 t1 fk fv vs vs1 ds = some (r, ds')) :
    ∃ items ds1, fi ds = some (items, ds1) ∧ (∃ l, r = .own (.dct .k l)) ∧ ∀ σ H Q, tD X.kx F ds r ds' σ H Q → tDc2 (tDI X.kx F ds items ds1) (bG X scope tg) (bTs X scope ifs) (bI X scope tg1 iter1) (bG X scope tg1) (bTs X scope ifs1) (bE X scope kx) (tFrz (bE X scope vx)) vs vs1 σ H Q := by
  unfold eDC2 at e
  obtain ⟨⟨items, ds1⟩, e1, e⟩ := Option.bind_eq_some_iff.mp e
  have j0 := io_no j h0
  have j1 : F.J = none ∨ 0 ∉ vs1 := j0.imp id fun z m => z (hv1 0 m)
  by_cases hn : noOwn vs ds1 = true
  · rw [if_pos hn] at e
    obtain ⟨⟨accF, dsF⟩, e2, e⟩ := Option.bind_eq_some_iff.mp e
    cases e
    refine ⟨items, ds1, e1, ⟨_, rfl⟩, fun σ H Q ⟨hd, S, k⟩ => ⟨hd, S, fun J H1 x1 S1 its p hp0 => ?_⟩⟩
    have x2 : Ext H1 (upd H1 p (.dK [])) := Ext.new hp0
    have S2 := (S1.made (o := .dK []) hp0 trivial).wipe j0
    refine ⟨fun i m H' => m = items.length - i ∧ i ≤ items.length ∧ ∃ acc accV ds2, Ext (upd H1 p (.dK [])) H' ∧ FzK X.kx H' accV acc ∧ SRel X.kx F ds2 (L2.wipe σ vs) H' ((p, .dK accV) :: hd) ∧ dc2L g t fi1 g1 t1 fk fv vs vs1 (items.drop i) acc ds2 = some (accF, dsF),
      ⟨_, rfl, Nat.zero_le _, [], [], _, Ext.refl _, .nil, S2, e2⟩, ?_⟩
    rintro i m H3 ⟨rfl, hle, acc, accV, ds3, x3, fa, S3, e3⟩
    obtain ⟨i1, i2⟩ := its H3 (x2.trans x3)
    by_cases hlt : i < items.length
    · obtain ⟨d, hdi⟩ : ∃ d, items[i]? = some d := ⟨items[i], by simp [hlt]⟩
      have hdr : items.drop i = d :: items.drop (i + 1) := by
        rw [List.drop_eq_getElem_cons hlt]
        rw [List.getElem?_eq_getElem hlt] at hdi
        rw [Option.some.inj hdi]
      rw [hdr] at e3
      obtain ⟨go, y⟩ := i1 i d hdi
      refine .inr ⟨go, fun H' => ∃ acc accV ds2, Ext (upd H1 p (.dK [])) H' ∧ FzK X.kx H' accV acc ∧ SRel X.kx F ds2 (L2.wipe σ vs) H' ((p, .dK accV) :: hd) ∧ dc2L g t fi1 g1 t1 fk fv vs vs1 (items.drop (i + 1)) acc ds2 = some (accF, dsF), fun H' q => ⟨_, by omega, rfl, hlt, q⟩, fun x H' yl => ?_⟩
      obtain ⟨sm, w⟩ := y x H' yl
      -- the outer target and tests
      unfold dc2L at e3
      obtain ⟨ds4, e4, e3⟩ := Option.bind_eq_some_iff.mp e3
      obtain ⟨⟨b, ds5⟩, e5, e3⟩ := Option.bind_eq_some_iff.mp e3
      refine ⟨tDG X.kx F ts d ds3 ds4, fun s H C cl fp => (hg s H C cl fp).run F _ _ _ j e4, _, S3.grow sm, w, fun σ2 H4 x4 S4 z4 => ?_⟩
      have ew : L2.wipe σ2 vs = L2.wipe σ vs := by
        rw [z4 vs hts, wipe_wipe σ fun _ m => m]
      refine ⟨ew, tDT X.kx F ds4 b ds5, fun s H C cl fp => (ht s H C cl fp).run F _ _ _ j e5, _, S4, fun H5 x5 S5 => ?_⟩
      have x35 : Ext (upd H1 p (.dK [])) H5 := (x3.trans (.of_same sm)).trans (x4.trans x5)
      have fa5 := fa.ext ((Ext.of_same sm).trans (x4.trans x5))
      cases b with
      | false =>
        refine iteF ⟨acc, accV, _, x35, fa5, ?_, e3⟩
        rw [← ew]
        exact S5.wipe j0
      | true =>
        have e3 := (show Option.bind (fi1 ds5) _ = _ from e3)
        obtain ⟨⟨items1, ds6⟩, e6, e3⟩ := Option.bind_eq_some_iff.mp e3
        obtain ⟨⟨acc7, ds7⟩, e7, e3⟩ := Option.bind_eq_some_iff.mp e3
        refine iteT ⟨tDI X.kx F ds5 items1 ds6, fun s H C cl fp => (hi1 s H C cl fp).run F _ _ _ j e6, _, S5, fun J1 H6 x6 S6 its1 => ?_⟩
        refine ⟨fun i m H' => m = items1.length - i ∧ i ≤ items1.length ∧ ∃ acc accV ds2, Ext H6 H' ∧ FzK X.kx H' accV acc ∧ SRel X.kx F ds2 (L2.wipe σ2 vs1) H' ((p, .dK accV) :: hd) ∧ dcL g1 t1 fk fv vs1 (items1.drop i) acc ds2 = some (acc7, ds7),
          ⟨_, rfl, Nat.zero_le _, acc, accV, _, Ext.refl _, fa5.ext x6, S6.wipe j1, e7⟩, ?_⟩
        rintro i' m' H7 ⟨rfl, hle', acc8, accV8, ds8, x8, fa8, S8, e8⟩
        obtain ⟨i1', i2'⟩ := its1 H7 x8
        by_cases hlt' : i' < items1.length
        · obtain ⟨d', hdi'⟩ : ∃ d', items1[i']? = some d' := ⟨items1[i'], by simp [hlt']⟩
          have hdr' : items1.drop i' = d' :: items1.drop (i' + 1) := by
            rw [List.drop_eq_getElem_cons hlt']
            rw [List.getElem?_eq_getElem hlt'] at hdi'
            rw [Option.some.inj hdi']
          rw [hdr'] at e8
          obtain ⟨go', y'⟩ := i1' i' d' hdi'
          refine .inr ⟨go', fun H' => ∃ acc accV ds2, Ext H6 H' ∧ FzK X.kx H' accV acc ∧ SRel X.kx F ds2 (L2.wipe σ2 vs1) H' ((p, .dK accV) :: hd) ∧ dcL g1 t1 fk fv vs1 (items1.drop (i' + 1)) acc ds2 = some (acc7, ds7), fun H' q => ⟨_, by omega, rfl, hlt', q⟩, fun x' H' yl' => ?_⟩
          obtain ⟨sm', w'⟩ := y' x' H' yl'
          exact dc_turn j (h0.imp id fun z m => z (hv1 0 m)) hg1 ht1 hk he hts1 S8 fa8 sm' w' e8 fun H9 acc9 accV9 ds9 x9 fa9 S9 e9 => ⟨acc9, accV9, ds9, (x8.trans (.of_same sm')).trans x9, fa9, S9, e9⟩
        · have hl' : i' = items1.length := by omega
          subst hl'
          rw [List.drop_length] at e8
          cases e8
          refine .inl ⟨i2' _ (Nat.le_refl _), acc7, accV8, _, (x35.trans x6).trans x8, fa8, ?_, e3⟩
          have q := S8.wipe j0
          rw [wipe_wipe σ2 hv1, ew] at q
          exact q
    · have hl : i = items.length := by omega
      subst hl
      rw [List.drop_length] at e3
      cases e3
      refine .inl ⟨i2 _ (Nat.le_refl _), ?_⟩
      have eh := (S3.held p _ List.mem_cons_self).1
      have S5 := S3.unwipe (ds0 := ds1) (H0 := H1) ⟨_, _, S1⟩ (x2.trans x3) hn nd
      refine k (.ref p) H3 (x1.trans (x2.trans x3)) (.own (.dctK eh fa)) ?_
      rw [hp_own _ eh]
      exact S5
  · rw [if_neg hn] at e; cases e
variable {tg1 iter1 : Expr} {ifs1 : List Expr} {ts1 : List Nat} {fi1 : DIt} {g1 : DGt} {t1 : DB}
theorem d_dc2 {own : List (Str × Nat)} {vs1 : List Nat} {pos : Pos} (hc : X.calm = true) (hN : X.N.Nodup) (h0 : io = false ∨ 0 ∉ own.map (·.2)) (nd : (own.map (·.2)).Nodup) (hv1 : ∀ i ∈ vs1, i ∈ own.map (·.2)) (hts : ∀ i ∈ ts, i ∈ own.map (·.2)) (hts1 : ∀ i ∈ ts1, i ∈ vs1) (ok : BlkOk X.N X.env.scope scope own) (hi : DI X io tg iter fi)
    (hg : Blk X scope fun Y => DG Y io tg ts g) (ht : Blk X scope fun Y => DTS Y io ifs t) (hi1 : Blk X scope fun Y => DI Y io tg1 iter1 fi1) (hg1 : Blk X scope fun Y => DG Y io tg1 ts1 g1) (ht1 : Blk X scope fun Y => DTS Y io ifs1 t1) (hk : Blk X scope fun Y => DE Y io kx fk) (he : Blk X scope fun Y => DE Y io vx fv)
    (hs : ∀ x, foldedSetIterable iter X.env x = pure x := by intro _; rfl) (hs1 : ∀ env x, foldedSetIterable iter1 env x = pure x := by intro _ _; rfl) :
    DE X io (.DictComp kx vx [⟨tg, iter, ifs, 0⟩, ⟨tg1, iter1, ifs1, 0⟩] scope pos) (eDC2 fi g t fi1 g1 t1 fk fv (own.map (·.2)) vs1) := by
  refine ⟨fun F ds r ds' j e => ?_⟩
  obtain ⟨items, ds1, e1, _, q⟩ := dc2_read (X := X) (iter := iter) j h0 nd hv1 hg ht hi1 hg1 ht1 hk he hts hts1 e
  exact PE.weak (pe_dc2 hc hN (hi.run F _ _ _ j e1) ok hv1 (bg_w X scope tg) (bts_w X scope ifs) (bi_w X scope tg1 iter1) (bg_w X scope tg1) (bts_w X scope ifs1) (be_w X scope kx) (fun s H C cl fp => pe_frz (be_w X scope vx s H C cl fp)) hs hs1) q
theorem ds_setDc2 {i : Nat} {y : Str} {py : Pos} {own : List (Str × Nat)} {vs1 : List Nat} {pos spos : Pos} (hc : X.calm = true) (hN : X.N.Nodup) (hy : X.N[i]? = some y) (hyl : X.env.scope.names.lookup y = some .local) (hi0 : io = false ∨ i ≠ 0)
    (hsw : swapsWith (.DictComp kx vx [⟨tg, iter, ifs, 0⟩, ⟨tg1, iter1, ifs1, 0⟩] scope pos) (some (.Name y py)) spos.line X.env = pure true)
    (h0 : io = false ∨ 0 ∉ own.map (·.2)) (nd : (own.map (·.2)).Nodup) (hv1 : ∀ i ∈ vs1, i ∈ own.map (·.2)) (hts : ∀ i ∈ ts, i ∈ own.map (·.2)) (hts1 : ∀ i ∈ ts1, i ∈ vs1) (ok : BlkOk X.N X.env.scope scope own) (hi : DI X io tg iter fi)
    (hg : Blk X scope fun Y => DG Y io tg ts g) (ht : Blk X scope fun Y => DTS Y io ifs t) (hi1 : Blk X scope fun Y => DI Y io tg1 iter1 fi1) (hg1 : Blk X scope fun Y => DG Y io tg1 ts1 g1) (ht1 : Blk X scope fun Y => DTS Y io ifs1 t1) (hk : Blk X scope fun Y => DE Y io kx fk) (he : Blk X scope fun Y => DE Y io vx fv)
    (hs : ∀ x, foldedSetIterable iter X.env x = pure x := by intro _; rfl) (hs1 : ∀ env x, foldedSetIterable iter1 env x = pure x := by intro _ _; rfl) :
    DStm X io (.Assign [.Name y py] (.DictComp kx vx [⟨tg, iter, ifs, 0⟩, ⟨tg1, iter1, ifs1, 0⟩] scope pos) spos) (sSet i (eDC2 fi g t fi1 g1 t1 fk fv (own.map (·.2)) vs1)) := by
  refine ⟨fun F ds fl ds' j q => ?_⟩
  unfold sSet at q
  obtain ⟨⟨r, ds1⟩, e1, q⟩ := Option.bind_eq_some_iff.mp q
  obtain ⟨items, ds2, e2, ⟨l, rfl⟩, w⟩ := dc2_read (X := X) (iter := iter) j h0 nd hv1 hg ht hi1 hg1 ht1 hk he hts hts1 e1
  refine PS.weak (ps_setDc2 hc hN hy hyl hsw (hi.run F _ _ _ j e2) ok hv1 (bg_w X scope tg) (bts_w X scope ifs) (bi_w X scope tg1 iter1) (bg_w X scope tg1) (bts_w X scope ifs1) (be_w X scope kx) (fun s H C cl fp => pe_frz (be_w X scope vx s H C cl fp)) hs hs1) fun D σ H h => ?_
  refine w σ H _ ⟨[], h.1, fun v H' x rr S => ?_⟩
  cases q
  cases rr with
  | own w' =>
    exact h.2 _ H' x (S.storeR (io_ne hi0 j) w')
end
end DL
/-! DL17: dicts with tuple keys; displays; op=; a, b = x, y. -/
namespace DL
open PySem PySem.Spec PyProof.Rows L2
/-! ### tuple keys -/
mutual
theorem Fz.nested {X : Cx} {pins : List (Addr × Obj)} {σ : L2.St} {H : Hp} {s : Shared} (I : L2.Inv X pins σ H s) : ∀ {v : V} {d : D} {u : Value} {k : NestedKey}, Fz X.kx H v d → RelV v u → nk d = some k → NestedIs s.heap k u
  | _, _, u, k, .non, r, e => by cases r; cases e; exact .none
  | _, _, u, k, .bl b, r, e => by cases r; cases e; exact .bool rfl
  | _, _, u, k, .int i, r, e => by obtain ⟨t, rfl⟩ := r; cases e; exact .int _ _
  | _, _, u, k, .str x, r, e => by obtain ⟨t, rfl⟩ := r; cases e; exact .text _ _
  | _, _, u, k, .tup h w, r, e => by
    cases r
    obtain ⟨its, rv, ⟨o, h1, h2, n, h3⟩, _⟩ := I.tuple h
    obtain ⟨l, e1, e2⟩ := Option.bind_eq_some_iff.mp (show Option.bind (nks _) (fun l => some (NestedKey.tup l)) = some k from e)
    cases e2
    exact .tup h1 h2 h3 (by simpa using FzL.nested I w rv e1)
  | _, _, u, k, .lst _ _, r, e => by cases e
  | _, _, u, k, .lstW _ _, r, e => by cases e
  | _, _, u, k, .dctK _ _, r, e => by cases e
  | _, _, u, k, .dctT _ _, r, e => by cases e
  | _, _, u, k, .ins _ _, r, e => by cases e
theorem FzL.nested {X : Cx} {pins : List (Addr × Obj)} {σ : L2.St} {H : Hp} {s : Shared} (I : L2.Inv X pins σ H s) : ∀ {vs : List V} {ds : List D} {us : List Value} {ks : List NestedKey}, FzL X.kx H vs ds → Vals vs us → nks ds = some ks → NestedAll s.heap ks us
  | _, _, us, ks, .nil, r, e => by cases r; cases e; exact .nil
  | _, _, us, ks, .cons w1 w2, r, e => by
    cases r with
    | cons r1 r2 =>
      obtain ⟨k, e1, e⟩ := Option.bind_eq_some_iff.mp (show Option.bind (nk _) _ = some ks from e)
      obtain ⟨l, e2, e⟩ := Option.bind_eq_some_iff.mp e
      cases e
      exact .cons (Fz.nested I w1 r1 e1) (FzL.nested I w2 r2 e2)
end
def getTD (es : List (D × D)) (k : NestedKey) : Option D := (es.find? fun e => decide (nk e.1 = some k)).map (·.2)
/-- a key told again keeps its place -/
def putTD (es : List (D × D)) (kd : D) (k : NestedKey) (d : D) : List (D × D) :=
  if (getTD es k).isSome then es.map (fun e => if nk e.1 = some k then (e.1, d) else e) else es ++ [(kd, d)]
theorem FzT.find {K : Kx} {H : Hp} (k : NestedKey) : ∀ {kvs : List Row} {es : List (D × D)}, FzT K H kvs es → (∀ d, getTD es k = some d → ∃ a u v, atKey kvs k = some (a, u) ∧ RelV v u ∧ Fz K H v d) ∧ (getTD es k = none → atKey kvs k = none)
  | _, _, .nil => ⟨fun d e => (by cases e), fun _ => rfl⟩
  | _, _, @FzT.cons _ _ k' b u v kd d' kvs es w1 w2 w3 w4 w5 r => by
    obtain ⟨h1, h2⟩ := r.find k
    by_cases c : k' = k
    · subst c
      have e1 : getTD ((kd, d') :: es) k' = some d' := by unfold getTD; rw [List.find?_cons, show decide (nk ((kd, d').1) = some k') = true from decide_eq_true w2]; rfl
      have e2 : atKey ((k', b, u) :: kvs) k' = some (b, u) := by unfold atKey; rw [List.find?_cons, show decide (((k', b, u) : Row).1 = k') = true from decide_eq_true rfl]; rfl
      rw [e1, e2]
      exact ⟨fun d e => by cases e; exact ⟨b, u, v, rfl, w4, w5⟩, fun e => by cases e⟩
    · have e1 : getTD ((kd, d') :: es) k = getTD es k := by
        unfold getTD
        rw [List.find?_cons, show decide (nk ((kd, d').1) = some k) = false from decide_eq_false (fun z => c (Option.some.inj (w2.symm.trans z)))]
      have e2 : atKey ((k', b, u) :: kvs) k = atKey kvs k := by
        unfold atKey
        rw [List.find?_cons, show decide (((k', b, u) : Row).1 = k) = false from decide_eq_false c]
      rw [e1, e2]
      exact ⟨h1, h2⟩
theorem FzT.mapPut {K : Kx} {H : Hp} {k : NestedKey} {v : V} {u : Value} {d : D} (h : Fz K H v d) (hr : RelV v u) : ∀ {kvs : List Row} {es : List (D × D)}, FzT K H kvs es → FzT K H (kvs.map (PySem.putAt k u)) (es.map fun e => if nk e.1 = some k then (e.1, d) else e)
  | _, _, .nil => .nil
  | _, _, @FzT.cons _ _ k' b u' v' kd d' kvs es w1 w2 w3 w4 w5 r => by
    rw [List.map_cons, List.map_cons]
    unfold PySem.putAt
    by_cases c : k' = k
    · rw [if_pos (show ((k', b, u') : Row).1 = k from c), if_pos (show nk ((kd, d') : D × D).1 = some k by rw [← c]; exact w2)]
      exact .cons w1 w2 w3 hr h (FzT.mapPut h hr r)
    · rw [if_neg (show ¬ ((k', b, u') : Row).1 = k from c), if_neg (show ¬ nk ((kd, d') : D × D).1 = some k from fun z => c (Option.some.inj (w2.symm.trans z)))]
      exact .cons w1 w2 w3 w4 w5 (FzT.mapPut h hr r)
theorem FzT.app {K : Kx} {H : Hp} : ∀ {kvs : List Row} {es : List (D × D)} {kvs2 : List Row} {es2 : List (D × D)}, FzT K H kvs es → FzT K H kvs2 es2 → FzT K H (kvs ++ kvs2) (es ++ es2)
  | _, _, _, _, .nil, r => r
  | _, _, _, _, .cons w1 w2 w3 w4 w5 r, r2 => .cons w1 w2 w3 w4 w5 (r.app r2)
theorem FzT.store {K : Kx} {H : Hp} {k : NestedKey} {b : Addr} {v : V} {u : Value} {kd d : D} (hk : Fz K H (.ref b) kd) (ek : nk kd = some k) (dk : k.depth ≤ 8) (h : Fz K H v d) (hr : RelV v u) {kvs : List Row} {es : List (D × D)} (r : FzT K H kvs es) : FzT K H (storedH kvs k b u) (putTD es kd k d) := by
  unfold storedH putTD
  have e : (atKey kvs k).isSome = (getTD es k).isSome := by
    obtain ⟨h1, h2⟩ := r.find k
    cases q : getTD es k with
    | none => rw [h2 q] <;> rfl
    | some d => obtain ⟨a, u, v, e1, _⟩ := h1 d q; rw [e1] <;> rfl
  rw [e]
  split
  · exact FzT.mapPut h hr r
  · exact r.app (.cons hk ek dk hr h .nil)
theorem FzT.is {X : Cx} {pins : List (Addr × Obj)} {σ : L2.St} {H : Hp} {s : Shared} (I : L2.Inv X pins σ H s) : ∀ {kvs : List Row} {es : List (D × D)}, FzT X.kx H kvs es → ∀ x ∈ kvs, (nestedKind X.prog X.w).is s.heap x.1 x.2.1
  | _, _, .nil, x, m => by cases m
  | _, _, .cons w1 w2 w3 w4 w5 r, x, m => by
    rcases List.mem_cons.mp m with rfl | m
    · exact ⟨Fz.nested I w1 rfl w2, w3⟩
    · exact FzT.is I r x m
/-- the dict's very object -/
theorem tab_at {X : Cx} {pins : List (Addr × Obj)} {σ : L2.St} {H : Hp} {s : Shared} {a : Addr} {kvs : List Row} {es : List (D × D)} (I : L2.Inv X pins σ H s) (h : Rd H a (tabO X.kx a kvs)) (w : FzT X.kx H kvs es) : kvs.length ≤ sizeLine ∧ (a == sysModules) = false ∧ s.heap.DictOfH (nestedKind X.prog X.w) a kvs := by
  obtain ⟨⟨z, hs, nd, o, es', ep, h1, h2, h3, h4⟩, _⟩ := (show ObjOk X.prog X.w H s.heap a (tabO X.kx a kvs) from h.ok I.hok)
  exact ⟨z, hs, o, es', ep, h1, h2, h3, h4, FzT.is I w, nd⟩
def nk8 (d : D) : Option NestedKey := match d with
  | .tup xs => Option.bind (nk (.tup xs)) fun k => if k.depth ≤ 8 then some k else none
  | _ => none
theorem nk8_eq {d : D} {k : NestedKey} (h : nk8 d = some k) : (∃ xs, d = .tup xs) ∧ nk d = some k ∧ k.depth ≤ 8 := by
  unfold nk8 at h
  split at h
  · obtain ⟨k', e1, e2⟩ := Option.bind_eq_some_iff.mp h
    by_cases c : k'.depth ≤ 8
    · rw [if_pos c] at e2; cases e2; exact ⟨⟨_, rfl⟩, e1, c⟩
    · rw [if_neg c] at e2; cases e2
  · cases h
theorem Rp.key {K : Kx} {H : Hp} {y : V} {d : D} {k : NestedKey} (r : Rp K H y d) (h : nk8 d = some k) : ∃ b, y = .ref b ∧ Fz K H (.ref b) d ∧ nk d = some k ∧ k.depth ≤ 8 := by
  obtain ⟨⟨xs, rfl⟩, e1, e2⟩ := nk8_eq h
  rcases r with r | ⟨p, ob, _, w, z⟩
  · cases r with
    | tup h1 h2 => exact ⟨_, rfl, .tup h1 h2, e1, e2⟩
  · cases w <;> cases z
section
variable {X : Cx} {io : Bool} {a b e i o value : Expr} {pos pos' : Pos} {fa fb fo fi fe : DX}
def gAtT : D → D → Option R
  | .dct .t es, y => Option.bind (nk8 y) fun k => Option.map R.fz (getTD es k)
  | x, y => gAt x y
def tIxT (X : Cx) (ta tb : TE) : TE := fun σ H Q => ta σ H fun x H1 => tb σ H1 fun y H2 => ∃ p kvs es b kd k c u v, x = .ref p ∧ y = .ref b ∧ Rd H2 p (tabO X.kx p kvs) ∧ FzT X.kx H2 kvs es ∧ Fz X.kx H2 (.ref b) kd ∧ nk kd = some k ∧ k.depth ≤ 8 ∧ atKey kvs k = some (c, u) ∧ RelV v u ∧ Q v H2
theorem pe_ixT {ta tb : TE} (hu : X.A.units + 64 < cLine) (ha : PE X a ta) (hb : PE X b tb) (hs : NoSl b) : PE X (.Subscript a b pos) (tIxT X ta tb) := by
  refine ⟨fun pins s σ H Q I h => ?_⟩
  refine subD_of PySem.F.slot_dict_getitem.lookup hs (thn (ha.run pins s σ H _ I h) fun u s1 ⟨x, H1, I1, rx, q1⟩ => thn (hb.run pins s1 σ H1 _ I1 q1) fun iv s2 ⟨y, H2, I2, ry, p, kvs, es, b, kd, k, c, u, v, ex, ey, hr, w, wk, ek, dk, hat, rv, q2⟩ => ?_)
  subst ex ey
  cases rx
  cases ry
  obtain ⟨z, hs, hd⟩ := tab_at I2 hr w
  exact ⟨hd.typeIs, wpAny_getItem_heap (knd := nestedKind X.prog X.w) (show X.A.in1.units + 8 < cLine by show X.A.units + 1 + 8 < cLine; omega) ⟨Fz.nested I2 wk rfl ek, dk⟩ hd hat ⟨v, H2, I2.tok _, rv, q2⟩⟩
theorem d_atT (hu : X.A.units + 64 < cLine) (ha : DE X io a fa) (hb : DE X io b fb) (hs : PlainIx b := by exact fun _ _ => rfl) (hs2 : NoSl b := by exact fun _ _ => rfl) : DE X io (.Subscript a b pos) (eBin gAtT fa fb) := by
  refine ⟨fun F ds r ds' j e => ?_⟩
  unfold eBin at e
  obtain ⟨p, e1, e⟩ := Option.bind_eq_some_iff.mp e
  obtain ⟨q, e2, e⟩ := Option.bind_eq_some_iff.mp e
  obtain ⟨dx, e3, e⟩ := Option.bind_eq_some_iff.mp e
  obtain ⟨dy, e4, e⟩ := Option.bind_eq_some_iff.mp e
  obtain ⟨r', e5, e⟩ := Option.bind_eq_some_iff.mp e
  cases e
  unfold gAtT at e5
  split at e5
  · rename_i es
    obtain ⟨k, e6, e5⟩ := Option.bind_eq_some_iff.mp e5
    obtain ⟨d, e7, rfl⟩ := Option.map_eq_some_iff.mp e5
    refine PE.weak (pe_ixT hu (ha.run F _ _ _ j e1) (hb.run F _ _ _ j e2) hs2) fun σ H Q ⟨hd, S, kk⟩ => ?_
    refine two S e3 e4 fun x y H2 x2 rx ry S2 => ?_
    obtain ⟨l, kvs, rfl, hl, w⟩ := rx.dctT
    obtain ⟨c, u, v, e8, rv, f⟩ := (w.find k).1 d e7
    obtain ⟨b', rfl, wk, ek, dk⟩ := ry.key e6
    exact ⟨l, kvs, _, b', dy, k, c, u, v, rfl, rfl, hl, w, wk, ek, dk, e8, rv, kk v H2 x2 (.fz f) (by rw [hp_fz]; exact S2)⟩
  · refine (d_at hu ha hb hs hs2).run F ds _ _ j ?_
    unfold eBin
    exact Option.bind_eq_some_iff.mpr ⟨p, e1, Option.bind_eq_some_iff.mpr ⟨q, e2, Option.bind_eq_some_iff.mpr ⟨_, e3, Option.bind_eq_some_iff.mpr ⟨_, e4, Option.bind_eq_some_iff.mpr ⟨_, e5, rfl⟩⟩⟩⟩⟩
/-! ### in, not in -/
def tInT (X : Cx) (neg : Bool) (ta tb : TE) : TE := fun σ H Q => ta σ H fun y H1 => tb σ H1 fun x H2 => ∃ p kvs es b kd k, x = .ref p ∧ y = .ref b ∧ Rd H2 p (tabO X.kx p kvs) ∧ FzT X.kx H2 kvs es ∧ Fz X.kx H2 (.ref b) kd ∧ nk kd = some k ∧ k.depth ≤ 8 ∧ Q (.bl (if neg then !(atKey kvs k).isSome else (atKey kvs k).isSome)) H2
theorem pc_inT {ta tb : TE} (hu : X.A.units + 64 < cLine) (ha : PE X a ta) (hb : PE X b tb) : PC X .In a b (tInT X false ta tb) := by
  refine ⟨fun pins s σ H Q I h => ?_⟩
  refine thn (ha.run pins s σ H _ I h) fun iv s1 ⟨y, H1, I1, ry, q1⟩ => thn (hb.run pins s1 σ H1 _ I1 q1) fun u s2 ⟨x, H2, I2, rx, p, kvs, es, b, kd, k, ex, ey, hr, w, wk, ek, dk, q2⟩ => ?_
  subst ex ey
  cases rx
  cases ry
  obtain ⟨z, hs, hd⟩ := tab_at I2 hr w
  exact wpAny_in_heap (knd := nestedKind X.prog X.w) (show X.A.in1.units + 8 < cLine by show X.A.units + 1 + 8 < cLine; omega) ⟨Fz.nested I2 wk rfl ek, dk⟩ hs hd ⟨.bl (atKey kvs k).isSome, H2, I2.tok _, rfl, q2⟩
theorem pc_notInT {ta tb : TE} (hu : X.A.units + 64 < cLine) (ha : PE X a ta) (hb : PE X b tb) : PC X .NotIn a b (tInT X true ta tb) := by
  refine ⟨fun pins s σ H Q I h => ?_⟩
  refine thn (ha.run pins s σ H _ I h) fun iv s1 ⟨y, H1, I1, ry, q1⟩ => thn (hb.run pins s1 σ H1 _ I1 q1) fun u s2 ⟨x, H2, I2, rx, p, kvs, es, b, kd, k, ex, ey, hr, w, wk, ek, dk, q2⟩ => ?_
  subst ex ey
  cases rx
  cases ry
  obtain ⟨z, hs, hd⟩ := tab_at I2 hr w
  show wpAny _ _ (do return Value.bool (!(← contains (.ref p) (.ref b)))) _ _ s2
  exact wpAny_bind (wpAny_contains_heap (knd := nestedKind X.prog X.w) (show X.A.in1.units + 8 < cLine by show X.A.units + 1 + 8 < cLine; omega) ⟨Fz.nested I2 wk rfl ek, dk⟩ hs hd (wpAny_pure ⟨.bl (!(atKey kvs k).isSome), H2, I2.tok _, rfl, q2⟩))
def gInT : D → D → Option R
  | dx, .dct .t es => Option.bind (nk8 dx) fun k => some (.fz (.bl (getTD es k).isSome))
  | x, y => gInA x y
def gNotInT : D → D → Option R
  | dx, .dct .t es => Option.bind (nk8 dx) fun k => some (.fz (.bl (!(getTD es k).isSome)))
  | x, y => gNotInA x y
theorem FzT.has {K : Kx} {H : Hp} {k : NestedKey} {kvs : List Row} {es : List (D × D)} (w : FzT K H kvs es) : (atKey kvs k).isSome = (getTD es k).isSome := by
  obtain ⟨h1, h2⟩ := w.find k
  cases q : getTD es k with
  | none => rw [h2 q] <;> rfl
  | some d => obtain ⟨a, u, v, e1, _⟩ := h1 d q; rw [e1] <;> rfl
theorem dc_inT (hu : X.A.units + 64 < cLine) (ha : DE X io a fa) (hb : DE X io b fb) : DC X io .In a b (eBin gInT fa fb) := by
  refine ⟨fun F ds r ds' j e => ?_⟩
  unfold eBin at e
  obtain ⟨p, e1, e⟩ := Option.bind_eq_some_iff.mp e
  obtain ⟨q, e2, e⟩ := Option.bind_eq_some_iff.mp e
  obtain ⟨dx, e3, e⟩ := Option.bind_eq_some_iff.mp e
  obtain ⟨dy, e4, e⟩ := Option.bind_eq_some_iff.mp e
  obtain ⟨r', e5, e⟩ := Option.bind_eq_some_iff.mp e
  cases e
  unfold gInT at e5
  split at e5
  · rename_i es
    obtain ⟨k, e6, e7⟩ := Option.bind_eq_some_iff.mp e5
    cases e7
    refine PC.weak (pc_inT hu (ha.run F _ _ _ j e1) (hb.run F _ _ _ j e2)) fun σ H Q ⟨hd, S, kk⟩ => ?_
    refine two S e3 e4 fun x y H2 x2 rx ry S2 => ?_
    obtain ⟨l, kvs, rfl, hl, w⟩ := ry.dctT
    obtain ⟨b', rfl, wk, ek, dk⟩ := rx.key e6
    refine ⟨l, kvs, _, b', dx, k, rfl, rfl, hl, w, wk, ek, dk, ?_⟩
    rw [w.has]
    exact kk _ H2 x2 (.fz (.bl _)) (by rw [hp_fz]; exact S2)
  · refine (dc_in hu ha hb).run F ds _ _ j ?_
    unfold eBin
    exact Option.bind_eq_some_iff.mpr ⟨p, e1, Option.bind_eq_some_iff.mpr ⟨q, e2, Option.bind_eq_some_iff.mpr ⟨_, e3, Option.bind_eq_some_iff.mpr ⟨_, e4, Option.bind_eq_some_iff.mpr ⟨_, e5, rfl⟩⟩⟩⟩⟩
theorem dc_notInT (hu : X.A.units + 64 < cLine) (ha : DE X io a fa) (hb : DE X io b fb) : DC X io .NotIn a b (eBin gNotInT fa fb) := by
  refine ⟨fun F ds r ds' j e => ?_⟩
  unfold eBin at e
  obtain ⟨p, e1, e⟩ := Option.bind_eq_some_iff.mp e
  obtain ⟨q, e2, e⟩ := Option.bind_eq_some_iff.mp e
  obtain ⟨dx, e3, e⟩ := Option.bind_eq_some_iff.mp e
  obtain ⟨dy, e4, e⟩ := Option.bind_eq_some_iff.mp e
  obtain ⟨r', e5, e⟩ := Option.bind_eq_some_iff.mp e
  cases e
  unfold gNotInT at e5
  split at e5
  · rename_i es
    obtain ⟨k, e6, e7⟩ := Option.bind_eq_some_iff.mp e5
    cases e7
    refine PC.weak (pc_notInT hu (ha.run F _ _ _ j e1) (hb.run F _ _ _ j e2)) fun σ H Q ⟨hd, S, kk⟩ => ?_
    refine two S e3 e4 fun x y H2 x2 rx ry S2 => ?_
    obtain ⟨l, kvs, rfl, hl, w⟩ := ry.dctT
    obtain ⟨b', rfl, wk, ek, dk⟩ := rx.key e6
    refine ⟨l, kvs, _, b', dx, k, rfl, rfl, hl, w, wk, ek, dk, ?_⟩
    rw [w.has]
    exact kk _ H2 x2 (.fz (.bl _)) (by rw [hp_fz]; exact S2)
  · refine (dc_notIn hu ha hb).run F ds _ _ j ?_
    unfold eBin
    exact Option.bind_eq_some_iff.mpr ⟨p, e1, Option.bind_eq_some_iff.mpr ⟨q, e2, Option.bind_eq_some_iff.mpr ⟨_, e3, Option.bind_eq_some_iff.mpr ⟨_, e4, Option.bind_eq_some_iff.mpr ⟨_, e5, rfl⟩⟩⟩⟩⟩
/-! ### o[i] = e, dicts with tuple keys as well -/
def putAtT : Ob → D → D → Option Ob
  | .dct .t es, y, d => if es.length < sizeLine then Option.bind (nk8 y) fun k => some (.dct .t (putTD es y k d)) else none
  | ob, y, d => putAt ob y d
def sPutT (fo fi fe : DX) : DSm := fun ds => Option.bind (fe ds) fun p => Option.bind (frR p.1 p.2) fun q => Option.bind (fo q.2) fun z => Option.bind (slotOf z.1) fun n => Option.bind (fi z.2) fun y => Option.bind (y.1.val y.2) fun dy =>
  Option.bind (ownAt y.2 n) fun ob => Option.bind (putAtT ob dy q.1) fun ob' => some (.nx, y.2.set n (some (.own ob')))
def rSetT (X : Cx) : V → V → V → Hp → (Hp → Prop) → Prop := fun o i v H Q => rSetA o i v H Q ∨ ∃ p kvs es b kd d k, o = .ref p ∧ i = .ref b ∧ H p = some (tabO X.kx p kvs) ∧ FzT X.kx H kvs es ∧ Fz X.kx H (.ref b) kd ∧ nk kd = some k ∧ k.depth ≤ 8 ∧ Fz X.kx H v d ∧ kvs.length < sizeLine ∧
  ∀ kvs', FzT X.kx H kvs' (putTD es kd k d) → Q (upd H p (tabO X.kx p kvs'))
/-- an object that a dict with these rows is -/
theorem tab_ok {X : Cx} {H' : Hp} {h' : Heap} {p : Addr} {kvs : List Row} (z : kvs.length ≤ sizeLine) (hs : (p == sysModules) = false) (hd : h'.DictOfH (nestedKind X.prog X.w) p kvs) : ObjOk X.prog X.w H' h' p (tabO X.kx p kvs) := by
  obtain ⟨o, es, ep, h1, h2, h3, h4, _, nd⟩ := hd
  refine ⟨⟨z, hs, nd, o, es, ep, h1, h2, h3, h4⟩, ⟨o, h1⟩, ?_⟩
  rintro ha hb ⟨z', hs', nd', o', es', ep', g1, g2, g3, g4⟩ k
  exact ⟨z', hs', nd', o', es', ep', k _ g1, g2, g3, g4⟩
theorem set_T (hu : X.A.units + 64 < cLine) : PSet X (rSetT X) := by
  intro pins s σ H o i v ov iv u Q I ro ri rv h
  rcases h with h | ⟨p, kvs, es, b, kd, d, k, rfl, rfl, hp, w, wk, ek, dk, wv, hz, q⟩
  · exact set_any (by omega) pins s σ H o i v ov iv u Q I ro ri rv h
  · cases ro
    cases ri
    obtain ⟨z, hs, hd⟩ := tab_at I (.inl hp) w
    refine wpAny_setItem_heap (knd := nestedKind X.prog X.w) (hsz := z) (show X.A.in1.units + 8 < cLine by show X.A.units + 1 + 8 < cLine; omega) ⟨Fz.nested I wk rfl ek, dk⟩ hd fun h' hd' sb => ?_
    have hl : (storedH kvs k b u).length ≤ sizeLine := by have := storedH_length kvs k b u; omega
    refine ⟨_, ?_, q _ (FzT.store wk ek dk wv rv w)⟩
    exact d_write I (by rw [hp]; exact True.intro) sb (let ⟨o, _, _, h1, _⟩ := hd'; ⟨o, h1⟩) (tab_ok hl hs hd')
theorem putAtT_ok {F : Fx} {ds : DS} {σ : Sg} {H : Hp} {hd : List (Addr × HO)} {n : Nat} {ob ob' : Ob} {v y z : V} {dy d : D} (S : SRel X.kx F ds σ H hd) (h : ownAt ds n = some ob) (hv : σ[n]? = some (some v)) (ry : Rp X.kx H y dy) (w : Fz X.kx H z d) (e : putAtT ob dy d = some ob') {Q : Hp → Prop}
    (k : ∀ H', Ext H H' → SRel X.kx F (ds.set n (some (.own ob'))) σ H' hd → Q H') : rSetT X v y z H Q := by
  unfold putAtT at e
  split at e
  · rename_i es
    obtain ⟨p, e1, o⟩ := S.own (ownAt_eq h)
    rw [hv] at e1; cases e1
    by_cases c : es.length < sizeLine
    · rw [if_pos c] at e
      obtain ⟨kk, e2, e⟩ := Option.bind_eq_some_iff.mp e
      cases e
      have o' := o
      obtain ⟨b', rfl, wk, ek, dk⟩ := ry.key e2
      cases o with
      | @dctT kvs _ h1 h2 =>
        refine .inr ⟨p, kvs, _, b', _, d, kk, rfl, rfl, h1, h2, wk, ek, dk, w, by rw [h2.len]; exact c, fun kvs' w' => ?_⟩
        have x := o'.ext (tabO X.kx p kvs')
        exact k _ x (S.sset (ownAt_eq h) hv (.own (.dctT upd_same (w'.ext x))))
    · rw [if_neg c] at e; cases e
  · exact .inl (putAt_ok S h hv ry w e k)
theorem ds_putT (hu : X.A.units + 64 < cLine) (ho : DE X io o fo) (hi : DE X io i fi) (he : DE X io value fe) (hs : swapsWithSole [.Subscript o i pos'] value pos.line X.env = pure false := by rfl) (hw : swappedStores [.Subscript o i pos'] value X.env = pure none := by rfl)
    (h1 : (assignEach [.Subscript o i pos'] X.env).map (·.2) = [assign (.Subscript o i pos') X.env] := by rfl)
    (ha : ∀ v, assign (.Subscript o i pos') X.env v = (do
      let ov ← holding [v] (eval o X.env)
      let iv ← holding [v, ov] (eval i X.env)
      standAt pos'
      holding [v, ov, iv] (setItem ov iv v)
      release [v, ov, iv] []) := by intro _; rfl) : DStm X io (.Assign [.Subscript o i pos'] value pos) (sPutT fo fi fe) := by
  refine ⟨fun F ds fl ds' j e => ?_⟩
  unfold sPutT at e
  obtain ⟨⟨r1, ds1⟩, e1, e⟩ := Option.bind_eq_some_iff.mp e
  obtain ⟨⟨d, ds2⟩, e2, e⟩ := Option.bind_eq_some_iff.mp e
  obtain ⟨⟨r3, ds3⟩, e3, e⟩ := Option.bind_eq_some_iff.mp e
  obtain ⟨n, e4, e⟩ := Option.bind_eq_some_iff.mp e
  obtain ⟨⟨r5, ds5⟩, e5, e⟩ := Option.bind_eq_some_iff.mp e
  obtain ⟨dy, e6, e⟩ := Option.bind_eq_some_iff.mp e
  obtain ⟨ob, e7, e⟩ := Option.bind_eq_some_iff.mp e
  obtain ⟨ob', e8, e⟩ := Option.bind_eq_some_iff.mp e
  cases e
  have e4' := slotOf_eq e4
  dsimp only at e4'
  subst e4'
  refine PS.weak (ps_asg (pe_frz (he.run F _ _ _ j e1)) (pg_sub (ho.run F _ _ _ j e3) (hi.run F _ _ _ j e5) (set_T hu) ha) hs hw h1) fun D σ H h => ?_
  refine ⟨[], h.1, fun y H1 x1 r1 S1 => ?_⟩
  obtain ⟨ps, k1⟩ := fr1 r1 S1 e2
  refine ⟨ps, k1.mono fun H2 ⟨x2, w, S2⟩ => ⟨[], S2, fun v H3 x3 r3 S3 => ?_⟩⟩
  cases r3 with
  | slot hv =>
    rw [hp_slot] at S3
    have S3 : SRel X.kx F ds3 σ H3 [] := S3
    refine ⟨[], S3, fun yy H4 x4 r4 S4 => ?_⟩
    have S4' : SRel X.kx F ds5 σ H4 [] := S4.drop (List.sublist_append_right _ _)
    exact putAtT_ok S4' e7 hv (r4.rp S4 e6) (w.ext (x3.trans x4)) e8 fun H5 x5 S5 => h.2 σ H5 ((((x1.trans x2).trans x3).trans x4).trans x5) S5
end
end DL
/-! DL18: op=; a, b = x, y; displays of dicts. -/
namespace DL
open PySem PySem.Spec PyProof.Rows L2
section
variable {X : Cx} {io : Bool} {a b c e i o value : Expr} {pos pos' : Pos} {fa fb fo fi fe : DX} {fs : DAs}
/-! ### name op= e -/
def gMulI : D → D → Option R := gI cMul (fun i j => i * j)
theorem opd_mulI : OpD X (binaryOp .Mult) gMulI := opd_int op_mul cMul_ok
theorem ipd_mul : OpD X (inplaceOp .Mult) gMulI := opd_int iop_mul cMul_ok
theorem ipd_add : OpD X (inplaceOp .Add) (gI (fun _ _ => true) (fun i j => i + j)) := opd_int0 iop_add
theorem ipd_sub : OpD X (inplaceOp .Sub) (gI (fun _ _ => true) (fun i j => i - j)) := opd_int0 iop_sub
theorem ipd_or : OpD X (inplaceOp .BitOr) gOr := opd_int0 iop_or
theorem ipd_xor : OpD X (inplaceOp .BitXor) gXor := opd_int0 iop_xor
/-- x op= e, x a name of something frozen (a number) -/
def fzAt (ds : DS) (i : Nat) : Option D := match ds[i]? with
  | some (some (.fz d)) => some d
  | _ => none
theorem fzAt_eq {ds : DS} {i : Nat} {d : D} (h : fzAt ds i = some d) : ds[i]? = some (some (.fz d)) := by
  unfold fzAt at h
  split at h
  · cases h; assumption
  · cases h
def sAug (i : Nat) (g : D → D → Option R) (fe : DX) : DSm := fun ds => Option.bind (fzAt ds i) fun dx => Option.bind (fe ds) fun p => Option.bind (p.1.val p.2) fun dy => Option.bind (g dx dy) fun r => match r with
  | .fz d => some (.nx, p.2.set i (some (.fz d)))
  | _ => none
theorem ds_aug {i : Nat} {x : Str} {op : Operator} {g : D → D → Option R} (hN : X.N.Nodup) (hi : X.N[i]? = some x) (hx : Loc X.env.scope x) (h0 : io = false ∨ i ≠ 0) (ho : OpD X (inplaceOp op) g) (he : DE X io e fe)
    (hf : X.fn x = true ∨ X.env.scope.names.lookup x = some .local := by first | exact .inl rfl | exact .inr rfl | assumption) : DStm X io (.AugAssign (.Name x pos') op e pos) (sAug i g fe) := by
  refine ⟨fun F ds fl ds' j q => ?_⟩
  unfold sAug at q
  obtain ⟨dx, e0, q⟩ := Option.bind_eq_some_iff.mp q
  obtain ⟨⟨r1, ds1⟩, e1, q⟩ := Option.bind_eq_some_iff.mp q
  obtain ⟨dy, e2, q⟩ := Option.bind_eq_some_iff.mp q
  obtain ⟨r, e3, q⟩ := Option.bind_eq_some_iff.mp q
  dsimp only at q
  split at q
  · rename_i d
    cases q
    obtain ⟨ns, rl, hop, hrl⟩ := ho.run dx dy _ e3
    refine PS.weak (ps_aug hN hi hx (he.run F _ _ _ j e1) (ti := rl) hop hf) fun D σ H h => ?_
    obtain ⟨v, hv, rv⟩ := h.1.slot i _ (fzAt_eq e0)
    cases rv with
    | fz w =>
      refine ⟨v, hv, [], h.1, fun y H1 x1 ry S1 => ?_⟩
      have S1' := S1.drop (List.sublist_append_right _ _)
      refine hrl v y H1 _ (.inl (w.ext x1)) (ry.rp S1 e2) fun z H2 sm wz => ?_
      exact h.2 _ H2 (x1.trans (.of_same sm)) ((S1'.grow sm).store (io_ne h0 j) wz)
  · cases q
/-! ### a, b = x, y -/
def stR : R → Option SV
  | .fz d => some (.fz d)
  | .own ob => some (.own ob)
  | .slot _ => none
theorem SRel.putR {K : Kx} {F : Fx} {ds : DS} {σ σ' : Sg} {H : Hp} {hd : List (Addr × HO)} {v : V} {r : R} {sv : SV} {i : Nat} (S : SRel K F ds σ H (hp H v r ++ hd)) (rr : RRel K σ' H v r) (hi : F.J = none ∨ i ≠ 0) (e : stR r = some sv) : SRel K F (ds.set i (some sv)) (σ.set i (some v)) H hd := by
  cases rr with
  | fz w =>
    cases e
    rw [hp_fz] at S
    exact S.store hi w
  | own w =>
    cases e
    exact S.storeR (hi) w
  | slot _ => cases e
def sPar (i j : Nat) (fs : DAs) : DSm := fun ds => Option.bind (fs ds) fun p => match p.1 with
  | [r1, r2] => Option.bind (stR r1) fun s1 => Option.bind (stR r2) fun s2 => some (.nx, (p.2.set j (some s2)).set i (some s1))
  | _ => none
theorem ds_par {i j : Nat} {x y : Str} {px py pt : Pos} {kt k2 pt2} (hc : X.calm = true) (hN : X.N.Nodup) (hi : X.N[i]? = some x) (hj : X.N[j]? = some y) (hij : i ≠ j) (hx : X.env.scope.names.lookup x = some .local) (hy : X.env.scope.names.lookup y = some .local)
    (hi0 : io = false ∨ i ≠ 0) (hj0 : io = false ∨ j ≠ 0) (ha : DA X io [a, b] fs)
    (hw : swappedStores [.Tuple [.Name x px, .Name y py] kt pt] (.Tuple [a, b] k2 pt2) X.env = pure (some [x, y]))
    (hs : swapsWithSole [.Tuple [.Name x px, .Name y py] kt pt] (.Tuple [a, b] k2 pt2) pos.line X.env = pure false := by rfl) :
    DStm X io (.Assign [.Tuple [.Name x px, .Name y py] kt pt] (.Tuple [a, b] k2 pt2) pos) (sPar i j fs) := by
  refine ⟨fun F ds fl ds' jj q => ?_⟩
  unfold sPar at q
  obtain ⟨⟨rs, ds1⟩, e1, q⟩ := Option.bind_eq_some_iff.mp q
  dsimp only at q
  split at q
  · rename_i r1 r2
    obtain ⟨s1, e2, q⟩ := Option.bind_eq_some_iff.mp q
    obtain ⟨s2, e3, q⟩ := Option.bind_eq_some_iff.mp q
    cases q
    refine PS.weak (ps_par hc hN hi hj hij hx hy (ha.run F _ _ _ jj e1) hw hs) fun D σ H h => ⟨[], h.1, fun vs H1 x1 rr S1 => ?_⟩
    cases rr with
    | @cons v1 _ vs1 _ q1 rr =>
      cases rr with
      | @cons v2 _ vs2 _ q2 rr =>
        cases rr
        have S1 : SRel X.kx F ds1 σ H1 (((hps H1 [] [] ++ hp H1 v2 r2) ++ hp H1 v1 r1) ++ []) := S1
        have S1 : SRel X.kx F ds1 σ H1 (hp H1 v2 r2 ++ (hp H1 v1 r1 ++ [])) := by
          rw [List.append_assoc] at S1
          exact S1
        refine ⟨v1, v2, rfl, ?_⟩
        rw [← List.set_comm _ _ (Ne.symm hij)]
        exact h.2 _ H1 x1 (SRel.putR (SRel.putR S1 q2 (io_ne hj0 jj) e3) q1 (io_ne hi0 jj) e2)
  · cases q
def sPar3 (i j l : Nat) (fs : DAs) : DSm := fun ds => Option.bind (fs ds) fun p => match p.1 with
  | [r1, r2, r3] => Option.bind (stR r1) fun s1 => Option.bind (stR r2) fun s2 => Option.bind (stR r3) fun s3 => some (.nx, ((p.2.set l (some s3)).set j (some s2)).set i (some s1))
  | _ => none
theorem ds_par3 {i j l : Nat} {x y z : Str} {px py pz pt : Pos} {kt k2 pt2} (hc : X.calm = true) (hN : X.N.Nodup) (hi : X.N[i]? = some x) (hj : X.N[j]? = some y) (hl : X.N[l]? = some z) (hij : i ≠ j) (hil : i ≠ l) (hjl : j ≠ l) (hx : X.env.scope.names.lookup x = some .local) (hy : X.env.scope.names.lookup y = some .local) (hz : X.env.scope.names.lookup z = some .local)
    (hi0 : io = false ∨ i ≠ 0) (hj0 : io = false ∨ j ≠ 0) (hl0 : io = false ∨ l ≠ 0) (ha : DA X io [a, b, c] fs)
    (hw : swappedStores [.Tuple [.Name x px, .Name y py, .Name z pz] kt pt] (.Tuple [a, b, c] k2 pt2) X.env = pure (some [x, y, z]))
    (hs : swapsWithSole [.Tuple [.Name x px, .Name y py, .Name z pz] kt pt] (.Tuple [a, b, c] k2 pt2) pos.line X.env = pure false := by rfl) :
    DStm X io (.Assign [.Tuple [.Name x px, .Name y py, .Name z pz] kt pt] (.Tuple [a, b, c] k2 pt2) pos) (sPar3 i j l fs) := by
  refine ⟨fun F ds fl ds' jj q => ?_⟩
  unfold sPar3 at q
  obtain ⟨⟨rs, ds1⟩, e1, q⟩ := Option.bind_eq_some_iff.mp q
  dsimp only at q
  split at q
  · rename_i r1 r2 r3
    obtain ⟨s1, e2, q⟩ := Option.bind_eq_some_iff.mp q
    obtain ⟨s2, e3, q⟩ := Option.bind_eq_some_iff.mp q
    obtain ⟨s3, e4, q⟩ := Option.bind_eq_some_iff.mp q
    cases q
    refine PS.weak (ps_par3 hc hN hi hj hl hij hil hjl hx hy hz (ha.run F _ _ _ jj e1) hw hs) fun D σ H h => ⟨[], h.1, fun vs H1 x1 rr S1 => ?_⟩
    cases rr with
    | @cons v1 _ vs1 _ q1 rr =>
      cases rr with
      | @cons v2 _ vs2 _ q2 rr =>
        cases rr with
        | @cons v3 _ vs3 _ q3 rr =>
          cases rr
          have S1 : SRel X.kx F ds1 σ H1 ((((hps H1 [] [] ++ hp H1 v3 r3) ++ hp H1 v2 r2) ++ hp H1 v1 r1) ++ []) := S1
          have S1 : SRel X.kx F ds1 σ H1 (hp H1 v3 r3 ++ (hp H1 v2 r2 ++ (hp H1 v1 r1 ++ []))) := by
            rw [List.append_assoc, List.append_assoc] at S1
            exact S1
          refine ⟨v1, v2, v3, rfl, ?_⟩
          have S2 := SRel.putR (SRel.putR (SRel.putR S1 q3 (io_ne hl0 jj) e4) q2 (io_ne hj0 jj) e3) q1 (io_ne hi0 jj) e2
          have es : ((σ.set i (some v1)).set j (some v2)).set l (some v3) = ((σ.set l (some v3)).set j (some v2)).set i (some v1) := by
            rw [List.set_comm (some v1) (some v2) hij, List.set_comm (some v1) (some v3) hil, List.set_comm (some v2) (some v3) hjl]
          rw [es]
          exact h.2 _ H1 x1 S2
  · cases q
/-! ### displays -/
abbrev DPs := DS → Option (List (D × D) × DS)
def RelP (K : Kx) (H : Hp) : List (V × V) → List (D × D) → Prop
  | [], [] => True
  | p :: ps, q :: qs => Fz K H p.1 q.1 ∧ Fz K H p.2 q.2 ∧ RelP K H ps qs
  | _, _ => False
structure DP (X : Cx) (io : Bool) (pos : Pos) (keys : List (Option Expr)) (values : List Expr) (f : DPs) : Prop where
  run : ∀ (F : Fx) (ds : DS) (es : List (D × D)) (ds' : DS), IoOk F io → f ds = some (es, ds') → ∃ trs, PPs X pos keys values trs ∧ ∀ σ H Q hd, SRel X.kx F ds σ H hd →
    (∀ ps H', Ext H H' → RelP X.kx H' ps es → SRel X.kx F ds' σ H' hd → Q ps H') → tPairs trs σ H Q
def pNil : DPs := fun ds => some ([], ds)
def pCons (fk fv : DX) (r : DPs) : DPs := fun ds => Option.bind (fk ds) fun p => Option.bind (frR p.1 p.2) fun k => Option.bind (fv k.2) fun q => Option.bind (frR q.1 q.2) fun v => Option.bind (r v.2) fun z => some ((k.1, v.1) :: z.1, z.2)
theorem dp_nil {pos : Pos} : DP X io pos [] [] pNil := ⟨fun F ds es ds' j e => ⟨[], pps_nil, fun σ H Q hd S k => by cases e; exact k [] H (Ext.refl H) trivial S⟩⟩
theorem dp_cons {pos : Pos} {k v : Expr} {ks : List (Option Expr)} {vs : List Expr} {fk fv : DX} {r : DPs} (hk : DE X io k fk) (hv : DE X io v fv) (hr : DP X io pos ks vs r) : DP X io pos (some k :: ks) (v :: vs) (pCons fk fv r) := by
  refine ⟨fun F ds es ds' j e => ?_⟩
  unfold pCons at e
  obtain ⟨⟨r1, ds1⟩, e1, e⟩ := Option.bind_eq_some_iff.mp e
  obtain ⟨⟨d2, ds2⟩, e2, e⟩ := Option.bind_eq_some_iff.mp e
  obtain ⟨⟨r3, ds3⟩, e3, e⟩ := Option.bind_eq_some_iff.mp e
  obtain ⟨⟨d4, ds4⟩, e4, e⟩ := Option.bind_eq_some_iff.mp e
  obtain ⟨⟨es5, ds5⟩, e5, e⟩ := Option.bind_eq_some_iff.mp e
  cases e
  obtain ⟨trs, h5, q5⟩ := hr.run F _ _ _ j e5
  refine ⟨_, pps_cons (pe_frz (hk.run F _ _ _ j e1)) (pe_frz (hv.run F _ _ _ j e3)) h5, fun σ H Q hd S kk => ?_⟩
  refine ⟨hd, S, fun x H1 x1 r1' S1 => ?_⟩
  obtain ⟨ps, k1⟩ := fr1 r1' S1 e2
  refine ⟨ps, k1.mono fun H2 ⟨x2, w2, S2⟩ => ⟨hd, S2, fun y H3 x3 r3' S3 => ?_⟩⟩
  obtain ⟨ps', k2⟩ := fr1 r3' S3 e4
  refine ⟨ps', k2.mono fun H4 ⟨x4, w4, S4⟩ => ?_⟩
  refine q5 σ H4 _ hd S4 fun pp H5 x5 rp S5 => ?_
  exact kk ((x, y) :: pp) H5 ((((x1.trans x2).trans x3).trans x4).trans x5) ⟨(w2.ext ((x3.trans x4).trans x5)), w4.ext x5, rp⟩ S5
def keyKs : List (D × D) → Option (List (Key × D))
  | [] => some []
  | e :: r => Option.bind (keyOf e.1) fun k => Option.bind (keyKs r) fun l => some ((k, e.2) :: l)
def mergeKD (es : List (D × D)) (l : List (Key × D)) : List (D × D) := l.foldl (fun acc e => putKD acc e.1 e.2) es
theorem keyKs_rel {K : Kx} {H : Hp} : ∀ {ps : List (V × V)} {es : List (D × D)} {l : List (Key × D)}, RelP K H ps es → keyKs es = some l → ∃ kvs : List (Key × V), ps = kvs.map (fun kv => (kV kv.1, kv.2)) ∧ kvs.length = es.length ∧ ∀ (acc : List (Key × V)) (ea : List (D × D)), FzK K H acc ea → FzK K H (mergeK acc kvs) (mergeKD ea l)
  | [], [], l, _, e => by cases e; exact ⟨[], rfl, rfl, fun acc ea h => h⟩
  | p :: ps, q :: es, l, h, e => by
    obtain ⟨h1, h2, h3⟩ := h
    obtain ⟨k, e1, e⟩ := Option.bind_eq_some_iff.mp (show Option.bind (keyOf q.1) _ = some l from e)
    obtain ⟨l', e2, e⟩ := Option.bind_eq_some_iff.mp e
    cases e
    obtain ⟨kvs, a1, a2, a3⟩ := keyKs_rel h3 e2
    refine ⟨(k, p.2) :: kvs, ?_, by rw [List.length_cons, List.length_cons, a2], fun acc ea h => a3 _ _ (FzK.putK h2 h)⟩
    rw [List.map_cons, ← a1]
    rw [← kV_of (K := K) (H := H) (.inl h1) e1]
  | [], _ :: _, _, h, _ => h.elim
  | _ :: _, [], _, h, _ => h.elim
/-- {k: v, ..}, the keys ints and texts -/
def eDisp (f : DPs) : DX := fun ds => Option.bind (f ds) fun p => Option.bind (keyKs p.1) fun l => if p.1.length ≤ 15 then some (.own (.dct .k (mergeKD [] l)), p.2) else none
theorem d_disp {keys : List (Option Expr)} {values : List Expr} {f : DPs} (h : DP X io pos keys values f) (hall : keys.all (·.isSome) = true := by rfl) (hl : keys.length = values.length := by rfl) (h0 : keys ≠ [] := by exact List.cons_ne_nil _ _) (h15 : keys.length ≤ 15 := by decide) : DE X io (.Dict keys values pos) (eDisp f) := by
  refine ⟨fun F ds r ds' j e => ?_⟩
  unfold eDisp at e
  obtain ⟨⟨es, ds1⟩, e1, e⟩ := Option.bind_eq_some_iff.mp e
  obtain ⟨l, e2, e⟩ := Option.bind_eq_some_iff.mp e
  dsimp only at e e2
  by_cases c : es.length ≤ 15
  · rw [if_pos c] at e
    cases e
    obtain ⟨trs, h1, q1⟩ := h.run F _ _ _ j e1
    refine PE.weak (pe_disp h1 hall hl h0 h15) fun σ H Q ⟨hd, S, k⟩ p hp0 => ?_
    have x1 : Ext H (upd H p (.dK [])) := Ext.new hp0
    refine q1 σ _ _ ((p, .dK []) :: hd) (S.made (o := .dK []) hp0 trivial) fun ps H2 x2 rp S2 => ?_
    have eh := (S2.held p _ List.mem_cons_self).1
    obtain ⟨kvs, a1, a2, a3⟩ := keyKs_rel rp e2
    refine ⟨eh, kvs, a1, by rw [a2]; exact c, ?_⟩
    have xx : Ext H2 (upd H2 p (.dK (mergeK [] kvs))) := Ext.bx eh trivial
    refine k _ _ ((x1.trans x2).trans xx) (.own (.dctK upd_same ((a3 [] [] .nil).ext xx))) ?_
    rw [hp_own _ upd_same]
    exact S2.hset' (u := .dK (mergeK [] kvs)) trivial
  · rw [if_neg c] at e; cases e
/-- {} -/
def eDct0 (t : KK) : DX := fun ds => some (.own (.dct t []), ds)
theorem d_dct0K : DE X io (.Dict [] [] pos) (eDct0 .k) := by
  refine ⟨fun F ds r ds' j e => ?_⟩
  cases e
  refine PE.weak pe_dnewK fun σ H Q ⟨hd, S, k⟩ p hp0 => ?_
  refine k _ _ (Ext.new hp0) (.own (.dctK upd_same .nil)) ?_
  rw [hp_own _ upd_same]
  exact S.made (o := .dK []) hp0 trivial
/-! ### displays with tuple keys -/
def keyTs : List (D × D) → Option (List (NestedKey × D × D))
  | [] => some []
  | e :: r => Option.bind (nk8 e.1) fun k => Option.bind (keyTs r) fun l => some ((k, e.1, e.2) :: l)
def mergeTD (es : List (D × D)) (l : List (NestedKey × D × D)) : List (D × D) := l.foldl (fun acc e => putTD acc e.2.1 e.1 e.2.2) es
theorem keyTs_rel {pins : List (Addr × Obj)} {σ : L2.St} {H : Hp} {s : Shared} (I : L2.Inv X pins σ H s) : ∀ {ps : List (V × V)} {es : List (D × D)} {ws : List (Value × Value)} {l : List (NestedKey × D × D)}, RelP X.kx H ps es → VV ps ws → keyTs es = some l →
    ∃ rows : List Row, CarriesH (nestedKind X.prog X.w) s.heap ws rows ∧ ∀ (acc : List Row) (ea : List (D × D)), FzT X.kx H acc ea → FzT X.kx H (storedAllH acc rows) (mergeTD ea l)
  | [], [], ws, l, _, r, e => by cases r; cases e; exact ⟨[], trivial, fun acc ea h => h⟩
  | p :: ps, q :: es, ws, l, h, r, e => by
    cases r with
    | @cons _ wv _ ws' r1 r2 =>
      obtain ⟨h1, h2, h3⟩ := h
      obtain ⟨k, e1, e⟩ := Option.bind_eq_some_iff.mp (show Option.bind (nk8 q.1) _ = some l from e)
      obtain ⟨l', e2, e⟩ := Option.bind_eq_some_iff.mp e
      cases e
      obtain ⟨rows, c, f⟩ := keyTs_rel I h3 r2 e2
      obtain ⟨b, eb, wk, ek, dk⟩ := Rp.key (K := X.kx) (H := H) (.inl h1) e1
      obtain ⟨r11, r12⟩ := r1
      rw [eb] at r11
      obtain ⟨w1, w2⟩ := wv
      obtain rfl : w1 = Value.ref b := r11
      refine ⟨(k, b, w2) :: rows, ⟨rfl, rfl, ⟨Fz.nested I wk rfl ek, dk⟩, c⟩, fun acc ea h => f _ _ (FzT.store wk ek dk h2 r12 h)⟩
  | [], _ :: _, _, _, h, _, _ => h.elim
  | _ :: _, [], _, _, h, _, _ => h.elim
theorem keyTs_len : ∀ {es : List (D × D)} {l : List (NestedKey × D × D)}, keyTs es = some l → l.length = es.length
  | [], l, e => by cases e; rfl
  | q :: es, l, e => by
    obtain ⟨k, e1, e⟩ := Option.bind_eq_some_iff.mp (show Option.bind (nk8 q.1) _ = some l from e)
    obtain ⟨l', e2, e⟩ := Option.bind_eq_some_iff.mp e
    cases e
    rw [List.length_cons, List.length_cons, keyTs_len e2]
theorem RelP_len {K : Kx} {H : Hp} : ∀ {ps : List (V × V)} {es : List (D × D)}, RelP K H ps es → ps.length = es.length
  | [], [], _ => rfl
  | _ :: _, _ :: _, h => by rw [List.length_cons, List.length_cons, RelP_len h.2.2]
  | [], _ :: _, h => h.elim
  | _ :: _, [], h => h.elim
def tDispT (X : Cx) (trs : List (TE × TE)) : TE := fun σ H Q => ∀ p, H p = none → tPairs trs σ (upd H p (tabO X.kx p [])) fun ps H2 => H2 p = some (tabO X.kx p []) ∧ ∃ es l, RelP X.kx H2 ps es ∧ keyTs es = some l ∧ l.length ≤ 15 ∧ ∀ kvs', FzT X.kx H2 kvs' (mergeTD [] l) → Q (.ref p) (upd H2 p (tabO X.kx p kvs'))
theorem dictOfH_nil {pins : List (Addr × Obj)} {σ : L2.St} {H : Hp} {s : Shared} {p : Addr} (I : L2.Inv X pins σ H s) (h : H p = some (tabO X.kx p [])) : s.heap.DictOfH (nestedKind X.prog X.w) p [] ∧ (p == sysModules) = false := by
  obtain ⟨z, hs, hd⟩ := tab_at I (.inl h) (es := []) .nil
  exact ⟨hd, hs⟩
theorem CarriesH_len {prog : Program} {w : World} {h : Heap} {ws : List (Value × Value)} {rows : List Row} (c : CarriesH (nestedKind prog w) h ws rows) : rows.length = ws.length := CarriesH.length c
theorem pe_dispT {keys : List (Option Expr)} {values : List Expr} {trs : List (TE × TE)} (hu : X.A.units + 64 < cLine) (h : PPs X pos keys values trs) (hall : keys.all (·.isSome) = true) (hl : keys.length = values.length) (h0 : keys ≠ []) (h15 : keys.length ≤ 15) : PE X (.Dict keys values pos) (tDispT X trs) := by
  refine ⟨fun pins s σ H Q I q => ?_⟩
  have hn := I.hok.fresh (Nat.le_refl s.heap.objs.size)
  have hs : (s.heap.objs.size == sysModules) = false := beq_eq_false_iff_ne.mpr (Ne.symm (Nat.ne_of_lt I.big))
  have I1 : L2.Inv X pins σ (upd H s.heap.objs.size (tabO X.kx s.heap.objs.size [])) { s with heap := s.heap.push { cls := .type "dict", data := .dict #[] }, toks := s.toks } :=
    I.laid (fun _ _ q => Heap.get?_push_of_some _ q) (Nat.le_refl _) (tab_ok (Nat.zero_le _) hs (Heap.DictOfH.new s.heap))
  have hp := pairTrees_length keys values X.env pos hall hl
  have hne : pairTrees keys values X.env pos ≠ [] := fun he => by
    rw [he] at hp
    exact h0 (List.length_eq_zero_iff.mp hp.symm)
  rw [arm_eval_Dict, zip_pairTrees keys values X.env pos hall hl, dictDisplay_pairs (pairTrees keys values X.env pos) hne (by omega)]
  refine wpAny_bind (wpAny_standAt (wpAny_bind (wpAny_subDictH (knd := nestedKind X.prog X.w) (show X.A.units + 8 < cLine by omega) (by omega) (thn (h.run pins _ σ _ _ I1 (q _ hn)) fun ws s2 ⟨ps, H2, I2, rel, e, es, l, rp, ek, hl15, q2⟩ => ?_))))
  obtain ⟨rows, c, f⟩ := keyTs_rel I2 rp rel ek
  refine ⟨rows, c, (dictOfH_nil I2 e).1, fun h' tk hd sb => wpAny_pure ⟨.ref s.heap.objs.size, _, ?_, rfl, q2 _ (f [] [] .nil)⟩⟩
  have hz : (storedAllH ([] : List Row) rows).length ≤ sizeLine := by
    have h1 := storedAllH_length rows ([] : List Row)
    have h2 : rows.length ≤ 15 := by
      have h3 := CarriesH_len c
      have h4 := keyTs_len ek
      have h5 := RelP_len rp
      have h6 := rel.length
      omega
    rw [List.length_nil] at h1
    rw [sizeLine_eq]; omega
  exact d_write I2 (by rw [e]; exact True.intro) sb (let ⟨o, _, _, h1, _⟩ := hd; ⟨o, h1⟩) (tab_ok hz hs hd)
def eDispT (f : DPs) : DX := fun ds => Option.bind (f ds) fun p => Option.bind (keyTs p.1) fun l => if l.length ≤ 15 then some (.own (.dct .t (mergeTD [] l)), p.2) else none
theorem d_dispT {keys : List (Option Expr)} {values : List Expr} {f : DPs} (hu : X.A.units + 64 < cLine) (h : DP X io pos keys values f) (hall : keys.all (·.isSome) = true := by rfl) (hl : keys.length = values.length := by rfl) (h0 : keys ≠ [] := by exact List.cons_ne_nil _ _) (h15 : keys.length ≤ 15 := by decide) : DE X io (.Dict keys values pos) (eDispT f) := by
  refine ⟨fun F ds r ds' j e => ?_⟩
  unfold eDispT at e
  obtain ⟨⟨es, ds1⟩, e1, e⟩ := Option.bind_eq_some_iff.mp e
  obtain ⟨l, e2, e⟩ := Option.bind_eq_some_iff.mp e
  dsimp only at e e2
  by_cases c : l.length ≤ 15
  · rw [if_pos c] at e
    cases e
    obtain ⟨trs, h1, q1⟩ := h.run F _ _ _ j e1
    refine PE.weak (pe_dispT hu h1 hall hl h0 h15) fun σ H Q ⟨hd, S, k⟩ p hp0 => ?_
    have x1 : Ext H (upd H p (tabO X.kx p [])) := Ext.new hp0
    refine q1 σ _ _ ((p, tabO X.kx p []) :: hd) (S.made (o := tabO X.kx p []) hp0 trivial) fun ps H2 x2 rp S2 => ?_
    have eh := (S2.held p _ List.mem_cons_self).1
    refine ⟨eh, es, l, rp, e2, c, fun kvs' w => ?_⟩
    have xx : Ext H2 (upd H2 p (tabO X.kx p kvs')) := Ext.bx eh trivial
    refine k _ _ ((x1.trans x2).trans xx) (.own (.dctT upd_same (w.ext xx))) ?_
    rw [hp_own _ upd_same]
    exact S2.hset' (u := tabO X.kx p kvs') trivial
  · rw [if_neg c] at e; cases e
theorem pe_dnewT' : PE X (.Dict [] [] pos) (fun _ H Q => ∀ p, H p = none → Q (.ref p) (upd H p (tabO X.kx p []))) := ⟨fun pins s σ H Q I h =>
  wpAny_Dict_empty ⟨.ref s.heap.objs.size, _, I.laid (a := s.heap.objs.size) (o := tabO X.kx s.heap.objs.size []) (t' := s.toks) (fun _ _ q => Heap.get?_push_of_some _ q) (Nat.le_refl _) (tab_ok (Nat.zero_le _) (beq_eq_false_iff_ne.mpr (Ne.symm (Nat.ne_of_lt I.big))) (Heap.DictOfH.new s.heap)), rfl, h _ (I.hok.fresh (Nat.le_refl _))⟩⟩
theorem d_dct0T : DE X io (.Dict [] [] pos) (eDct0 .t) := by
  refine ⟨fun F ds r ds' j e => ?_⟩
  cases e
  refine PE.weak pe_dnewT' fun σ H Q ⟨hd, S, k⟩ p hp0 => ?_
  refine k _ _ (Ext.new hp0) (.own (.dctT upd_same .nil)) ?_
  rw [hp_own _ upd_same]
  exact S.made (o := tabO X.kx p []) hp0 trivial
end
end DL
/-! DL19: sets of ints that are sorted, list(dict), list(range), sorted, max, index. -/
namespace L2
open PySem PySem.Spec PyProof.Rows
def rListDR : List V → Hp → VK → Prop := fun xs H Q => ∃ p kvs, xs = [.ref p] ∧ Rd H p (.dK kvs) ∧ ∀ q, H q = none → Q (.ref q) (upd H q (.lst (kvs.map fun kv => kV kv.1)))
theorem call_listDR {X : Cx} (hc : X.calm = true) : CallR X (.type "list") rListDR := by
  intro pins s σ H xs us Q I r h
  obtain ⟨p, kvs, e, hk, q⟩ := h
  subst e
  obtain ⟨u, eu, rx⟩ := vals1 r
  subst eu
  obtain rfl : u = Value.ref p := rx
  obtain ⟨z, lo, vs, rk, hd⟩ := (show ObjOk X.prog X.w H s.heap p (.dK kvs) from hk.ok I.hok)
  obtain ⟨ep, hat⟩ := hd.dictAt
  have hl : kvs.length = vs.length := Paired.length rk
  refine PySem.W.kdl_call (PySem.W.kdl_dict (knd := mixKind X.prog X.w) (kvs := vs) (ep := ep) lo) (I.ok.hd hc) hat (by rw [← hl]; exact z) fun h' tk acc' c' hkeep hS hacc => ?_
  refine ⟨.ref s.heap.objs.size, upd H s.heap.objs.size (.lst (kvs.map fun kv => kV kv.1)), I.laid hkeep (Nat.le_refl _) (show ObjOk X.prog X.w _ _ _ (.lst (kvs.map fun kv => kV kv.1)) from ⟨?_, acc'.toList, c', ?_, ?_⟩), rfl, q _ (I.hok.fresh (Nat.le_refl _))⟩
  · rw [List.length_map]; exact z
  · have el : acc'.toList.length = acc'.size := by simp
    refine vals_of_at (by rw [List.length_map, el, hacc.1, hl]) fun j x w h1 h2 => ?_
    obtain ⟨k, y, hky, hi⟩ := hacc.2 j w (by rw [← Array.getElem?_toList]; exact h2)
    have e1 : (kvs.map (·.1))[j]? = some k := by
      rw [KV.keys rk, List.getElem?_map, hky] <;> rfl
    have e2 : (kvs.map fun kv => kV kv.1)[j]? = some (kV k) := by
      have e3 : (kvs.map fun kv => kV kv.1) = (kvs.map (·.1)).map kV := by rw [List.map_map] <;> rfl
      rw [e3, List.getElem?_map, e1] <;> rfl
    rw [e2] at h1
    cases h1
    exact keyIs_rel hi
  · rw [Array.toArray_toList]; exact hS
section
variable {P : Program} {w : World} {A : Around} {E : Value → Shared → Prop} {s : Shared}
set_option maxHeartbeats 3200000 in
theorem call_set_lstI {l : Addr} {items : Array Value} (ns : List Int) {Q : Value → Shared → Prop} (hh : A.handled = none) (hl : s.heap.IsList l items) (hit : IntsAre items.toList ns) (hb : ns.length + 1 < scanBound)
    (h : ∀ (h' : Heap) (tk c : Nat), SetR w h' s.heap.objs.size (fun j => decide (j ∈ ns)) c → c ≤ ns.length → (∀ b o, s.heap.get? b = some o → h'.get? b = some o) → Q (.ref s.heap.objs.size) { s with heap := h', toks := tk }) :
    wpAny (model P w) A (call (.type "set") [.ref l]) Q E s := by
  have hisz : items.size = ns.length := by
    have q := IntsAre.length hit
    rw [Array.length_toList] at q
    exact q
  obtain ⟨c, tl, hmro⟩ := F.called_set.mro
  have hmade := F.called_set.made
  have hsub := F.called_set.sub
  refine wpAny_call (codeAny_of_tree ?_)
  show wpAny _ _ (callAny (.type "set") _) _ _ _
  refine wpAny_pure ⟨Code.quiet_builtin _ (by decide +kernel), codeAny_builtin F.entry_type_call ?_⟩
  rw [Around.under_plain (weight_type_call_type "set" [.ref l] []) rfl]
  have h1 := F.called_set.notType
  have h2 := F.called_set.canCreate
  have hct := F.typeCall_set_1 (.ref l)
  repeat (any_goals (first | assumption | wp_step))

  refine codeAny_mono (code_set_led1 (.ref l) (E := E) (Q₁ := fun obj s₁ => obj = .ref s.heap.objs.size ∧ s₁ = { s with heap := s.heap.push { cls := .type "set", dict := none, data := .set #[] 0 (.fresh 0 0 (!w.params.followText "set-order")) } }) ⟨rfl, rfl⟩) fun r s₁ hr => ?_
  cases r with
  | error e => exact hr
  | ok fl =>
    cases fl with
    | ret obj =>
      obtain ⟨rfl, rfl⟩ := hr
      have hS : (s.heap.push { cls := .type "set", dict := none, data := .set #[] 0 (.fresh 0 0 (!w.params.followText "set-order")) }).get? s.heap.objs.size = some { cls := .type "set", dict := none, data := .set #[] 0 (.fresh 0 0 (!w.params.followText "set-order")) } := Heap.get?_push_size _ rfl
      have hT : Shared.TypeIs { s with heap := s.heap.push { cls := .type "set", dict := none, data := .set #[] 0 (.fresh 0 0 (!w.params.followText "set-order")) } } (.ref s.heap.objs.size) "set" := ⟨_, hS, rfl⟩
      have hli := F.called_set.init.lookup
      have hbi := F.called_set.init.bind (.ref s.heap.objs.size)
      repeat (any_goals (first | assumption | wp_step))

      refine codeAny_mono (codeAny_call_builtin (R := wants (fun r s₂ => r = .none ∧ ∃ h' tk c, s₂ = { s with heap := h', toks := tk } ∧ SetR w h' s.heap.objs.size (fun j => decide (j ∈ ns)) c ∧ c ≤ ns.length ∧
          (∀ b o, s.heap.get? b = some o → h'.get? b = some o)) E) F.called_set.init.plain F.entry_set_init (check_set_init_1 hT ?_)) fun r₂ s₂ hr₂ => ?_
      · obtain ⟨ol, hol, hcl, nl, hdl⟩ := hl
        obtain ⟨ocls, odict, odata, oslots⟩ := ol
        simp only at hcl hdl
        subst hcl; subst hdl
        have hol' : (s.heap.push { cls := .type "set", dict := none, data := .set #[] 0 (.fresh 0 0 (!w.params.followText "set-order")) }).get? l = some { cls := .type "list", dict := odict, data := .seq items nl, slots := oslots } := Heap.get?_push_of_some _ hol
        have hsls := F.sub_list_set
        have hslf := F.sub_list_frozenset
        have hne : (Value.type "list" == Value.type "dict") = false := by decide
        have hl1 : (s.heap.push { cls := .type "set", dict := none, data := .set #[] 0 (.fresh 0 0 (!w.params.followText "set-order")) }).IsList l items := ⟨_, hol', rfl, nl, rfl⟩
        unfold Builtin.«set.__init__» noKeywords Builtin.Frozenset.updateFrom
        generalize hPI : pyIter = PI
        wp_walk
        subst hPI

        refine wpAny_pyIter_list hl1 ?_
        refine wpAny_bind (wpAny_runValue ?_)
        have hlS : l < s.heap.objs.size := Heap.lt_size hol
        have hh3 : A.in1.in1.in1.handled = none := by simp [hh]
        have hz1 : (s.heap.push { cls := .type "set", dict := none, data := .set #[] 0 (.fresh 0 0 (!w.params.followText "set-order")) }).objs.size = s.heap.objs.size + 1 := Heap.size_push ..
        have hneI : l ≠ (s.heap.push { cls := .type "set", dict := none, data := .set #[] 0 (.fresh 0 0 (!w.params.followText "set-order")) }).objs.size := by
          rw [Heap.size_push]; exact Nat.ne_of_lt (Nat.lt_succ_of_lt hlS)
        have hSf : s.heap.objs.size ∉ [(s.heap.push { cls := .type "set", dict := none, data := .set #[] 0 (.fresh 0 0 (!w.params.followText "set-order")) }).objs.size, l] := by
          rw [Heap.size_push]; simp only [List.mem_cons, List.mem_singleton, List.not_mem_nil, or_false, not_or]
          exact ⟨Nat.ne_of_lt (Nat.lt_succ_self _), Nat.ne_of_gt hlS⟩
        have hval : ∀ (i : Nat) (v : Value), items[i]? = some v → ∃ k t, ns[i]? = some k ∧ v = .int k t := fun i v hv => by
          have hi : i < ns.length := by rw [← hisz]; exact (Array.getElem?_eq_some_iff.mp hv).1
          obtain ⟨t, e⟩ := PyProof.Rows.IntsAre.int_at hit i v (by rw [Array.getElem?_toList]; exact hv)
          refine ⟨ns[i], t, List.getElem?_eq_getElem hi, ?_⟩
          rw [e, List.getD_eq_getElem?_getD, List.getElem?_eq_getElem hi] <;> rfl
        refine set_update_ints ((Walks.list hh3 _ l hneI items).toS) s.heap.objs.size
          hSf ns hisz hb hval (items.size - 0) 0 _ (by omega) (Nat.zero_le _)
          ⟨⟨_, Heap.get?_push_size _ rfl, rfl, rfl⟩, (hl1.push _)⟩ ?hS0 ?hR
        case hS0 =>
          have hget : ((s.heap.push { cls := .type "set", dict := none, data := .set #[] 0 (.fresh 0 0 (!w.params.followText "set-order")) }).push { cls := .type "list_iterator", data := .fields #[.ref l, .int 0 0] }).get? s.heap.objs.size
              = some { cls := .type "set", dict := none, data := .set #[] 0 (.fresh 0 0 (!w.params.followText "set-order")) } := Heap.get?_push_of_some _ hS
          exact ⟨0, Nat.le_refl 0, setR_new_at hget⟩
        case hR =>
          intro s' c' hm hc' hS'
          obtain ⟨h', g2, d', tk', os'⟩ := s'
          have eg : g2 = s.gens := hm.gens
          have ed : d' = s.drawn := hm.drawn
          have eo : os' = s.os := hm.os
          subst eg; subst ed; subst eo
          show wpAny _ _ _ _ _ _
          refine wpAny_pure ?_
          show wpAny _ _ (ret Value.none) _ _ _
          rw [hisz] at hc'
          refine wpAny_pure ⟨rfl, h', tk', c', rfl, hS', hc', fun b o e => ?_⟩
          have hb0 : b < s.heap.objs.size := Heap.lt_size e
          have hb1 : b ≠ s.heap.objs.size := Nat.ne_of_lt hb0
          have hb2 : b ≠ (s.heap.push { cls := .type "set", dict := none, data := .set #[] 0 (.fresh 0 0 (!w.params.followText "set-order")) }).objs.size := by
            rw [Heap.size_push]; exact Nat.ne_of_lt (Nat.lt_succ_of_lt hb0)
          exact hm.heap b o (by simp only [List.mem_cons, List.mem_singleton, List.not_mem_nil, or_false, not_or]; exact ⟨hb1, hb2⟩) (Heap.get?_push_of_some _ (Heap.get?_push_of_some _ e))

      · cases r₂ with
        | error e => exact hr₂
        | ok fl₂ =>
          cases fl₂ with
          | ret r =>
            obtain ⟨rfl, h', tk, c', rfl, hS', hc', hk'⟩ := hr₂
            repeat (any_goals (first | assumption | wp_step))
            exact h _ _ _ hS' hc' hk'
          | _ => exact hr₂.elim
    | _ => exact hr.elim

end
end L2
/-! DL20: sorted(set(..)), list(dict), list(range), sorted, max, index. -/
namespace DL
open PySem PySem.Spec PyProof.Rows L2
section
variable {X : Cx} {io : Bool} {a b e o : Expr} {es : List Expr} {pos p p2 pos2 apos cpos : Pos} {fa fb fo fe : DX} {fs : DAs}
/-! ### sorted(set(xs)), xs a list of ints -/
def rSetI (K : PySem.W.Frag) (w : World) : List V → Hp → VK → Prop := fun vs H Q => ∃ (l : Addr) (ns : List Int), vs = [.ref l] ∧ SqL K H l (ns.map V.int) ∧ ns.length + 1 < scanBound ∧ ∀ q c, H q = none → c ≤ ns.length → Q (.ref q) (upd H q (SetO w q (fun j => decide (j ∈ ns)) c))
theorem cr_setI (hc : X.calm = true) : CallR X (.type "set") (rSetI X.K X.w) := by
  intro pins s σ H vs us Q I r h
  obtain ⟨l, ns, rfl, hs, hb, q⟩ := h
  obtain ⟨its, rv, pl, hz⟩ := I.list hs
  rw [Vals.ref1 r]
  refine call_set_lstI ns (I.ok.hd hc) pl.isList rv.ints hb fun h' tk c R hc k => ?_
  exact ⟨.ref s.heap.objs.size, _, I.laid k (Nat.le_refl _) (setO_new R), rfl, q _ c (I.hok.fresh (Nat.le_refl _)) hc⟩
/-- the ints, ascending, each once -/
def insI (x : Int) : List Int → List Int
  | [] => [x]
  | y :: r => if x < y then x :: y :: r else if x = y then y :: r else y :: insI x r
def ascI (l : List Int) : List Int := l.foldr insI []
theorem asc_ext : ∀ {l m : List Int}, l.Pairwise (· < ·) → m.Pairwise (· < ·) → (∀ k, k ∈ l ↔ k ∈ m) → l = m
  | [], [], _, _, _ => rfl
  | [], y :: m, _, _, h => absurd ((h y).mpr List.mem_cons_self) (by simp)
  | x :: l, [], _, _, h => absurd ((h x).mp List.mem_cons_self) (by simp)
  | x :: l, y :: m, h1, h2, h => by
    obtain ⟨a1, a2⟩ := List.pairwise_cons.mp h1
    obtain ⟨b1, b2⟩ := List.pairwise_cons.mp h2
    have e : x = y := by
      rcases List.mem_cons.mp ((h x).mp List.mem_cons_self) with e | e
      · exact e
      · rcases List.mem_cons.mp ((h y).mpr List.mem_cons_self) with e' | e'
        · exact e'.symm
        · have p := b1 x e
          have q := a1 y e'
          omega
    subst e
    congr 1
    refine asc_ext a2 b2 fun k => ⟨fun hk => ?_, fun hk => ?_⟩
    · rcases List.mem_cons.mp ((h k).mp (List.mem_cons_of_mem _ hk)) with e | e
      · have p := a1 k hk; omega
      · exact e
    · rcases List.mem_cons.mp ((h k).mpr (List.mem_cons_of_mem _ hk)) with e | e
      · have p := b1 k hk; omega
      · exact e
theorem insI_mem (x k : Int) : ∀ l : List Int, k ∈ insI x l ↔ k = x ∨ k ∈ l
  | [] => by simp [insI]
  | y :: r => by
    unfold insI
    split
    · simp
    · split
      · rename_i h; subst h; simp
      · simp [insI_mem x k r]
        constructor
        · rintro (h | h | h)
          · exact .inr (.inl h)
          · exact .inl h
          · exact .inr (.inr h)
        · rintro (h | h | h)
          · exact .inr (.inl h)
          · exact .inl h
          · exact .inr (.inr h)
theorem insI_asc (x : Int) : ∀ l : List Int, l.Pairwise (· < ·) → (insI x l).Pairwise (· < ·)
  | [], _ => List.pairwise_cons.mpr ⟨fun y hy => absurd hy (by simp), List.Pairwise.nil⟩
  | y :: r, h => by
    obtain ⟨h1, h2⟩ := List.pairwise_cons.mp h
    unfold insI
    split
    · rename_i c
      refine List.pairwise_cons.mpr ⟨fun z hz => ?_, h⟩
      rcases List.mem_cons.mp hz with e | e
      · omega
      · have := h1 z e; omega
    · split
      · exact h
      · refine List.pairwise_cons.mpr ⟨fun z hz => ?_, insI_asc x r h2⟩
        rcases (insI_mem x z r).mp hz with e | e
        · omega
        · exact h1 z e
theorem ascI_mem : ∀ (l : List Int) (k : Int), k ∈ ascI l ↔ k ∈ l
  | [], k => Iff.rfl
  | x :: l, k => by
    show k ∈ insI x (ascI l) ↔ _
    rw [insI_mem, ascI_mem l k, List.mem_cons]
theorem ascI_asc : ∀ l : List Int, (ascI l).Pairwise (· < ·)
  | [] => .nil
  | x :: l => insI_asc x _ (ascI_asc l)
def gSortSet : List D → Option R
  | [.lst xs] => Option.bind (intsOf xs) fun ns => if ns.length < 64 then some (.own (.lst ((ascI ns).map D.int))) else none
  | _ => none
theorem FzL.ofInts {K : Kx} {H : Hp} : ∀ ns : List Int, FzL K H (ns.map V.int) (ns.map D.int)
  | [] => .nil
  | n :: ns => .cons (.int n) (FzL.ofInts ns)
/-- sorted(set(e)) -/
theorem d_sortSet (hc : X.calm = true) (hg1 : Gl X "sorted") (hm1 : X.mg "sorted" = none) (hg2 : Gl X "set") (hm2 : X.mg "set" = none) (ha : DA X io [e] fs)
    (he1 : starEach [Expr.Call (.Name "set" p2) [e] [] pos2] X.env = (false, eval (.Call (.Name "set" p2) [e] [] pos2) X.env) :: starEach [] X.env := by rfl)
    (he2 : starEach [e] X.env = (false, eval e X.env) :: starEach [] X.env := by rfl) :
    DE X io (.Call (.Name "sorted" p) [.Call (.Name "set" p2) [e] [] pos2] [] pos) (eCB gSortSet fs) := by
  refine ⟨fun F ds r ds' j q => ?_⟩
  unfold eCB at q
  obtain ⟨⟨rs, ds1⟩, e1, q⟩ := Option.bind_eq_some_iff.mp q
  obtain ⟨dd, e2, q⟩ := Option.bind_eq_some_iff.mp q
  obtain ⟨r', e3, q⟩ := Option.bind_eq_some_iff.mp q
  cases q
  unfold gSortSet at e3
  split at e3
  · rename_i xs
    obtain ⟨ns, e4, e3⟩ := Option.bind_eq_some_iff.mp e3
    by_cases c : ns.length < 64
    · rw [if_pos c] at e3
      cases e3
      refine PE.weak (pe_callB (cr_sortedSet hc) hg1 hm1 rfl (pa_cons (pe_callTy (cr_setI hc) hg2 hm2 rfl (ha.run F _ _ _ j e1) (by decide) (by decide) he2 rfl) pa_nil he1) (by decide) (by decide) he1 rfl) fun σ H Q ⟨hd, S, k⟩ => ?_
      refine ⟨hd, S, fun vs H1 x1 rr S1 => ?_⟩
      obtain ⟨v, rfl, rv⟩ := (rr.rps S1 e2).one
      obtain ⟨l, vs, rfl, hl, w⟩ := rv.lst
      have ev := w.ints e4
      subst ev
      refine ⟨l, ns, rfl, hl.sq, by have := sizeLine_eq; unfold scanBound; omega, fun q c' hq hc' => ?_⟩
      refine ⟨q, _, c', rfl, upd_same, by omega, fun ms p' hasc hmem hlen hp' => ?_⟩
      have em : ms = ascI ns := asc_ext hasc (ascI_asc ns) fun k => by rw [hmem, decide_eq_true_iff, ascI_mem]
      subst em
      have sm : Same H1 (upd (upd H1 q (SetO X.w q (fun j => decide (j ∈ ns)) c')) p' (.lst ((ascI ns).map V.int))) := fun b u eb => by
        have hbq := ne_of_none eb hq
        rw [upd_ne (ne_of_none (show upd H1 q _ b = some u by rw [upd_ne hbq]; exact eb) hp'), upd_ne hbq]
        exact eb
      have S1' := S1.drop (List.sublist_append_right _ _)
      have hpn : H1 p' = none := by
        have hp2 := hp'
        by_cases z : p' = q
        · subst z; exact hq
        · rw [upd_ne z] at hp2; exact hp2
      exact (resD (r := .own (.lst ((ascI ns).map D.int))) (fun i z => by cases z) x1 S1' k : ResD X.kx H1 Q _) p' _ _ sm hpn upd_same (.lst upd_same (FzL.ofInts _))
    · rw [if_neg c] at e3; cases e3
  · cases e3
/-! ### list(dict) as well -/
def gListX : List D → Option R
  | [.dct .k es] => some (.own (.lst (es.map (·.1))))
  | dd => gList dd
theorem FzK.keysFz {K : Kx} {H : Hp} : ∀ {kvs : List (Key × V)} {es : List (D × D)}, FzK K H kvs es → FzL K H (kvs.map fun kv => kV kv.1) (es.map (·.1))
  | _, _, .nil => .nil
  | _, _, .cons w r => .cons (Fz.keyV _) r.keysFz
theorem cd_listX (hc : X.calm = true) : CallD X (.type "list") gListX := by
  refine ⟨fun dd r e => ?_⟩
  unfold gListX at e
  split at e
  · cases e
    refine ⟨fun i z => (by cases z), _, call_listDR hc, fun vs H Q hv k => ?_⟩
    obtain ⟨v, rfl, h⟩ := hv.one
    obtain ⟨l, kvs, rfl, hl, w⟩ := h.dctK
    refine ⟨l, kvs, rfl, hl, fun q hq => ?_⟩
    have sm := Same.new (o := .lst (kvs.map fun kv => kV kv.1)) hq
    exact k q _ _ sm hq upd_same (.lst upd_same (w.keysFz.ext (.of_same sm)))
  · exact cd_list.run _ _ e
/-! ### list(range(n)) -/
def eLstRg1 (f : DX) : DX := fun ds => Option.bind (f ds) fun p => match p.1 with
  | .fz (.int n) => if n ≤ 2 ^ 24 ∧ -(2 ^ 62) ≤ n then some (.own (.lst (rng 0 n.toNat)), p.2) else none
  | _ => none
theorem rgV_fz {K : Kx} {H : Hp} (lo hi : Int) : FzL K H (rgV lo hi) (rng lo (hi - lo).toNat) := by
  unfold rgV rng
  generalize (List.range (hi - lo).toNat) = l
  induction l with
  | nil => exact .nil
  | cons n l ih => exact .cons (.int _) ih
theorem d_lstRg1 (hc : X.calm = true) (hg : Gl X "list") (hm : X.mg "list" = none) (hg2 : Gl X "range") (hm2 : X.mg "range" = none) (ha : DE X io a fa)
    (na : starEach [Expr.Call (.Name "range" p2) [a] [] pos2] X.env = (false, eval (.Call (.Name "range" p2) [a] [] pos2) X.env) :: starEach [] X.env := by rfl) (na2 : starEach [a] X.env = (false, eval a X.env) :: starEach [] X.env := by rfl) :
    DE X io (.Call (.Name "list" p) [.Call (.Name "range" p2) [a] [] pos2] [] pos) (eLstRg1 fa) := by
  refine ⟨fun F ds r ds' j q => ?_⟩
  unfold eLstRg1 at q
  obtain ⟨⟨r1, ds1⟩, e1, q⟩ := Option.bind_eq_some_iff.mp q
  dsimp only at q
  split at q
  · rename_i n
    by_cases c : n ≤ 2 ^ 24 ∧ -(2 ^ 62) ≤ n
    · rw [if_pos c] at q
      cases q
      refine PE.weak (pe_listRg hc hg hm (prg_1 hg2 hm2 (ha.run F _ _ _ j e1) na2) na) fun σ H Q ⟨hd, S, k⟩ => ⟨hd, S, fun v H1 x1 r1 S1 => ?_⟩
      cases r1 with
      | fz w =>
        cases w
        have S1' := S1.drop (List.sublist_append_right _ _)
        refine ⟨n, rfl, ⟨by omega, by omega, by omega, by omega, by omega⟩, fun q hq => ?_⟩
        have sm := Same.new (o := .lst (rgV 0 n)) hq
        refine (resD (r := .own (.lst (rng 0 n.toNat))) (fun i z => by cases z) x1 S1' k : ResD X.kx H1 Q _) q _ _ sm hq upd_same (.lst upd_same ?_)
        have := rgV_fz (K := X.kx) (H := upd H1 q (.lst (rgV 0 n))) 0 n
        rw [Int.sub_zero] at this
        exact this
    · rw [if_neg c] at q; cases q
  · cases q
/-! ### sorted(xs) of data -/
open PySem.W (alike dataLe AllAlike Sortable EachIs sorted_data dataLt maxD AlikeAll max_tuple_data max_list_data)
def alikeB (l : List D) : Bool := l.all fun a => l.all fun b => alike a.py b.py
def tupB1 : D → Bool
  | .tup (_ :: _) => true
  | _ => false
def atomB : D → Bool
  | .bl _ => true
  | .int _ => true
  | .str _ => true
  | .lst _ => true
  | _ => false
def srtB (l : List D) : Bool := l.all tupB1 || l.all atomB
def okSort (l : List D) : Bool := alikeB l && (srtB l && (l.all okPy && decide (l.length ≤ sizeLine)))
def sortD (l : List D) : List D := l.mergeSort (dataLe false D.py)
def gSorted : List D → Option R
  | [.lst xs] => if okSort xs = true then some (.own (.lst (sortD xs))) else none
  | _ => none
theorem okSort_all {l : List D} (h : okSort l = true) : AllAlike (l.map D.py) ∧ Sortable (l.map D.py) ∧ (∀ d ∈ l, okPy d = true) ∧ l.length ≤ sizeLine := by
  unfold okSort at h
  simp only [Bool.and_eq_true, decide_eq_true_eq] at h
  obtain ⟨h1, h2, h3, h4⟩ := h
  refine ⟨fun d hd d' hd' => ?_, ?_, fun d hd => List.all_eq_true.mp h3 d hd, h4⟩
  · obtain ⟨a, ha, rfl⟩ := List.mem_map.mp hd
    obtain ⟨b, hb, rfl⟩ := List.mem_map.mp hd'
    exact List.all_eq_true.mp (List.all_eq_true.mp h1 a ha) b hb
  · unfold srtB at h2
    rcases Bool.or_eq_true_iff.mp h2 with h | h
    · refine .inl fun d hd => ?_
      obtain ⟨a, ha, rfl⟩ := List.mem_map.mp hd
      have := List.all_eq_true.mp h a ha
      unfold tupB1 at this
      split at this
      · exact ⟨_, _, rfl⟩
      · cases this
    · refine .inr fun d hd => ?_
      obtain ⟨a, ha, rfl⟩ := List.mem_map.mp hd
      have := List.all_eq_true.mp h a ha
      cases a <;> first | (cases this; done) | (refine ⟨fun z => ?_, fun xs z => ?_⟩ <;> (unfold D.py at z; cases z))
def RV (K : Kx) (H : Hp) (u : Value) (d : D) : Prop := ∃ v, RelV v u ∧ Fz K H v d
theorem rv_each {K : Kx} {H : Hp} : ∀ {vs : List V} {us : List Value} {ds : List D}, Vals vs us → FzL K H vs ds → EachIs (RV K H) us ds
  | _, _, _, .nil, .nil => .nil
  | _, _, _, .cons r rs, .cons w ws => .cons ⟨_, r, w⟩ (rv_each rs ws)
theorem rv_vals {K : Kx} {H : Hp} : ∀ {us : List Value} {ds : List D}, EachIs (RV K H) us ds → ∃ vs, Vals vs us ∧ FzL K H vs ds
  | _, _, .nil => ⟨[], .nil, .nil⟩
  | _, _, .cons ⟨v, r, w⟩ rs => let ⟨vs, a, b⟩ := rv_vals rs; ⟨v :: vs, .cons r a, .cons w b⟩
theorem each_mem2 {α β : Type} {R S : α → β → Prop} : ∀ {as : List α} {bs : List β}, EachIs R as bs → (∀ a b, b ∈ bs → R a b → S a b) → EachIs S as bs
  | _, _, .nil, _ => .nil
  | _, _, .cons h t, f => .cons (f _ _ List.mem_cons_self h) (each_mem2 t fun a b m => f a b (List.mem_cons_of_mem _ m))
def rSortD (X : Cx) : List V → Hp → VK → Prop := fun vs H Q => ∃ l xs ds, vs = [V.ref l] ∧ SqL X.K H l xs ∧ FzL X.kx H xs ds ∧ okSort ds = true ∧ ∀ ys p, FzL X.kx H ys (sortD ds) → H p = none → Q (.ref p) (upd H p (.lst ys))
theorem cr_sortD (hu : X.A.units + 64 < cLine) : CallR X (.builtin "sorted") (rSortD X) := by
  intro pins s σ H vs us Q I r h
  obtain ⟨l, xs, ds, rfl, hs, w, ok, q⟩ := h
  obtain ⟨its, rv, pl, hz⟩ := I.list hs
  obtain ⟨o1, o2, o3, o4⟩ := okSort_all ok
  rw [Vals.ref1 r]
  refine sorted_data (enc := D.py) (R := RV X.kx H) (bs := ds) (vs := its) pl.isList (rv_each rv w) (each_mem2 (rv_each rv w) fun u d m ⟨v, r, w⟩ => w.reads I (okPy_pl (o3 d m)) r) o1 o2 o4 (fun d m => ?_) fun out hl he => ?_
  · have := okPy_dep (o3 d m); omega
  · obtain ⟨ys, a1, a2⟩ := rv_vals he
    have hlen : ys.length ≤ sizeLine := by rw [a2.len, List.length_mergeSort]; exact o4
    obtain ⟨c, hc⟩ := PyProof.Rows.sortedAll_at s.heap its out.toArray
    refine ⟨.ref (s.heap.objs.size + 1), _, I.laid (fun b u e => PyProof.Rows.sortedAll_old e) (Nat.le_succ _) ?_, rfl, q ys _ a2 (I.hok.fresh (Nat.le_succ _))⟩
    exact ⟨hlen, out, c, a1, hc⟩
theorem cd_sorted (hu : X.A.units + 64 < cLine) : CallD X (.builtin "sorted") gSorted := by
  refine ⟨fun dd r e => ?_⟩
  unfold gSorted at e
  split at e
  · rename_i xs
    by_cases c : okSort xs = true
    · rw [if_pos c] at e
      cases e
      refine ⟨fun i z => (by cases z), _, cr_sortD hu, fun vs H Q hv k => ?_⟩
      obtain ⟨v, rfl, h⟩ := hv.one
      obtain ⟨l, vs, rfl, hl, w⟩ := h.lst
      refine ⟨l, vs, xs, rfl, hl.sq, w, c, fun ys p w' hp => ?_⟩
      have sm := Same.new (o := .lst ys) hp
      exact k p _ _ sm hp upd_same (.lst upd_same (w'.ext (.of_same sm)))
    · rw [if_neg c] at e; cases e
  · cases e
/-! ### max(xs), the ints of a tuple or list -/
def maxI (n : Int) (l : List Int) : Int := l.foldl max n
def gMaxL : List D → Option R
  | [.tup xs] => Option.bind (intsOf xs) fun ns => match ns with
    | n :: ns => if ns.length < sizeLine then some (.fz (.int (maxI n ns))) else none
    | [] => none
  | _ => none
def rMaxT (K : PySem.W.Frag) : List V → Hp → VK → Prop := fun vs H Q => ∃ l n ns, vs = [V.ref l] ∧ SqT K H l ((n :: ns).map V.int) ∧ Q (.int (maxI n ns)) H
theorem readsAll_ints {h : Heap} : ∀ {us : List Value} {ns : List Int}, Vals (ns.map V.int) us → ∃ as, ReadsAll h us (ns.map PyData.int) as
  | _, [], .nil => ⟨_, .nil⟩
  | _, n :: ns, .cons r rs => by
    obtain ⟨t, rfl⟩ := r
    obtain ⟨as, q⟩ := readsAll_ints (h := h) rs
    exact ⟨_, .cons (Reads.int n t) q⟩
theorem depth_ints : ∀ ns : List Int, PyData.depthAll (ns.map PyData.int) ≤ 1
  | [] => by simp [PyData.depthAll]
  | n :: ns => by
    have := depth_ints ns
    simp [PyData.depthAll, PyData.depth]
    omega
theorem cr_maxT (hc : X.calm = true) (hu : X.A.units + 64 < cLine) : CallR X (.builtin "max") (rMaxT X.K) := by
  intro pins s σ H vs us Q I r h
  obtain ⟨l, n, ns, rfl, hs, q⟩ := h
  obtain ⟨its, rv, pl, hz⟩ := I.tuple hs
  rw [Vals.ref1 r]
  obtain ⟨as, hr⟩ := readsAll_ints (h := s.heap) rv
  refine max_tuple_data (x := .int n) (xs := ns.map .int) (I.ok.hd hc) pl hr ⟨fun x hx y hy => ?_, fun x hx => ?_⟩ ?_ fun i v h' tk bs hv hr' hk => ?_
  · obtain ⟨a, _, rfl⟩ := List.mem_map.mp (show x ∈ (n :: ns).map PyData.int from hx)
    obtain ⟨b, _, rfl⟩ := List.mem_map.mp (show y ∈ (n :: ns).map PyData.int from hy)
    rfl
  · obtain ⟨a, _, rfl⟩ := List.mem_map.mp (show x ∈ (n :: ns).map PyData.int from hx)
    exact fun z => by cases z
  · have := depth_ints (n :: ns)
    rw [List.map_cons] at this
    omega
  · rw [PySem.W.maxD_ints] at hr'
    cases hr'
    exact ⟨.int (maxI n ns), H, I.kept hk, ⟨_, rfl⟩, q⟩
theorem cd_maxL (hc : X.calm = true) (hu : X.A.units + 64 < cLine) : CallD X (.builtin "max") gMaxL := by
  refine ⟨fun dd r e => ?_⟩
  unfold gMaxL at e
  split at e
  · rename_i xs
    obtain ⟨ns, e1, e⟩ := Option.bind_eq_some_iff.mp e
    cases ns with
    | nil => cases e
    | cons n ns =>
      dsimp only at e
      by_cases c : ns.length < sizeLine
      · rw [if_pos c] at e
        cases e
        refine ⟨fun i z => (by cases z), _, cr_maxT hc hu, fun vs H Q hv k => ?_⟩
        obtain ⟨v, rfl, h⟩ := hv.one
        obtain ⟨l, vs, rfl, hl, w⟩ := h.tup
        have := w.ints e1
        subst this
        exact ⟨l, n, ns, rfl, hl, k _ H (Same.refl H) (.int _)⟩
      · rw [if_neg c] at e; cases e
  · cases e
end
end DL
/-! DL21: == and != by an own __eq__; isinstance of an own class; a list's index. -/
namespace L2
open PySem PySem.Spec PyProof.Rows
open PySem.W (findIn isFn InstAt notFirst subIn looks_findIn looks_subIn looks_mroIn CmpBack ifBound_K)
section
variable {prog : Program} {w : World} {A : Around} {E : Value → Shared → Prop} {s : Shared} {K : PySem.W.Frag} {x C L f : Addr} {h₀ : Heap} {m : Str → Option Value} {ox : Obj} {od : Option Obj} {b tb : Value}
theorem ifBound_ne {M : Model} {args : List Value} {Q : Option Value → Shared → Prop} (X : K.In s.heap) (I : InstAt s.heap x ox C od) (hs : findIn K (.ref C) "__ne__" = some (some (.builtin "object.__ne__")))
    (h : wpAny M A (call (.builtin "object.__ne__") (.ref x :: args)) (fun v => Q (some v)) E s) : wpAny M A (callSpecialIfBound? (.ref x) "__ne__" args) Q E s := by
  simp only [callSpecialIfBound?, bindSpecialIfBound?]
  refine wpAny_holding (wpAny_bind (wpAny_bind (wpAny_bind (I.type.here ((looks_findIn X hs).here ?_)))))
  refine wpAny_bind (wpAny_askSetting (wpAny_ite ?_))
  have fin : wpAny M A (call (.builtin "object.__ne__") ([.ref x] ++ args) >>= fun v => pure (some v)) Q E s := wpAny_bind (wpAny_mono h (fun v s' h' => wpAny_pure h') fun _ _ h' => h')
  split
  · exact wpAny_bind (wpAny_of_eq (PySem.F.slot_object_ne.bind _) (wpAny_pure (by exact fin)))
  · exact wpAny_tryCatch (wpAny_bind (wpAny_of_eq (PySem.F.slot_object_ne.bind _) (wpAny_pure (by exact fin))))
theorem objNe_K {Q : Fin → Shared → Prop} (hu : A.units < cLine) (X : K.In s.heap) (I : InstAt s.heap x ox C od) (he : findIn K (.ref C) "__eq__" = some (some (.ref f))) (hf : isFn K (.ref f) = true)
    (hcall : wpAny (model prog w) A (call (.ref f) [.ref x, b]) (fun v s' => ∃ c, v = .bool c ∧ Q (.done (.ret (.bool (!c)))) s') E s) :
    wpAny (model prog w) A (Builtin.«object.__ne__» ⟨[.ref x, b], []⟩) Q E s := by
  unfold Builtin.«object.__ne__»
  repeat (first
    | with_reducible refine wpAny_cRoomFor hu ?_
    | (refine wpAny_bind (m := callSpecialIfBound? (.ref x) (Str.ofString "__eq__") [b])
        (ifBound_K X I he hf (wpAny_mono hcall (fun r s' hr => by
          obtain ⟨c, rfl, hq⟩ := hr
          repeat (first | exact hq | exact wpAny_pure hq | exact wpAny_truthy_bool hq | (refine wpAny_bind (m := truthy (.bool _)) (wpAny_truthy_bool ?_)) | wp_step)) fun _ _ e => e)))
    | wp_step)
theorem cmp_Kne {Q : Value → Shared → Prop} (hu : A.units + 1 < cLine) (F : Fr h₀ L s.heap m) (X₀ : K.In h₀) (I : InstAt s.heap x ox C od) (hb : PySem.W.Looks (model prog w) s.heap (typeOf b) tb) (hn : notFirst K C tb = true)
    (hne : findIn K (.ref C) "__ne__" = some (some (.builtin "object.__ne__"))) (he : findIn K (.ref C) "__eq__" = some (some (.ref f))) (hf : isFn K (.ref f) = true) (hm : PySem.W.mroIn K C (.type "object") = some true)
    (hcall : wpAny (model prog w) A.in1 (call (.ref f) [.ref x, b]) (fun v s' => ∃ c, v = .bool c ∧ Q (.bool (!c)) s') E s) : wpAny (model prog w) A (richCompare .NotEq (.ref x) b) Q E s := by
  have X := X₀.keeps F.keep
  have one : wpAny (model prog w) A (tryCompare (.ref x) (cmpInfo .NotEq).2.1 b) (fun r s' => ∃ v, r = some v ∧ Q v s') E s := by
    unfold tryCompare
    refine wpAny_bind (ifBound_ne X I hne (wpAny_call (codeAny_call_builtin PySem.F.slot_object_ne.plain PySem.F.entry_object_ne (PySem.W.check_slot PySem.F.cmpKind_ne PySem.F.cmpSplit_ne (I.type.andThen (looks_mroIn X hm)) (PySem.F.args_object_ne_2 _ _)
      (objNe_K (A := A.in1) hu X I he hf (wpAny_mono hcall (fun v s' hv => ?_) fun _ _ e => e))))))
    obtain ⟨c, rfl, hq⟩ := hv
    first | exact ⟨c, rfl, wpAny_pure ⟨_, rfl, hq⟩⟩ | exact ⟨c, rfl, wpAny_pure (wpAny_pure ⟨_, rfl, hq⟩)⟩ | exact ⟨c, rfl, ⟨_, rfl, hq⟩⟩
  unfold richCompare
  simp only [oneThing_ref]
  refine wpAny_holding (wpAny_bind (wpAny_cRoomFor (Nat.lt_of_succ_lt hu) ?_))
  refine wpAny_bind (I.type.here (wpAny_bind (hb.here ?_)))
  split
  · rename_i q
    have e : subIn K tb (.ref C) = some false := by
      rcases Bool.or_eq_true_iff.mp hn with e | e
      · rw [beq_iff_eq.mp e] at q; simp at q
      · exact beq_iff_eq.mp e
    refine wpAny_bind ((looks_subIn X e).here ?_)
    simp only [Bool.false_eq_true, if_false]
    refine wpAny_bind (wpAny_mono one (fun r s' z => ?_) fun _ _ e => e)
    obtain ⟨v, rfl, hq⟩ := z
    exact wpAny_pure hq
  · refine wpAny_bind (wpAny_pure ?_)
    simp only [Bool.false_eq_true, if_false]
    refine wpAny_bind (wpAny_mono one (fun r s' z => ?_) fun _ _ e => e)
    obtain ⟨v, rfl, hq⟩ := z
    exact wpAny_pure hq
end
end L2
namespace DL
open PySem PySem.Spec PyProof.Rows L2
section
variable {X : Cx} {io : Bool} {a b e o : Expr} {es : List Expr} {pos p apos cpos : Pos} {fa fb fo : DX} {fs : DAs}
/-- x == y, x != y by the class's own __eq__, both instances of it -/
structure EqC (X : Cx) (c : Str) (k : Nat) (sem : List D → Option SV) : Prop where
  ex : ∃ f fd ps, FnOk X.prog X.w X.K X.mg X.base CX0 k f fd ps (spP X.kx 2 sem) ∧ Binds X.K fd ps [] ∧ PySem.W.isFn X.K (.ref f) = true ∧ PySem.W.findIn X.K (.ref (He.ga X.K c)) "__eq__" = some (some (.ref f)) ∧
    PySem.W.findIn X.K (.ref (He.ga X.K c)) "__ne__" = some (some (.builtin "object.__ne__")) ∧ PySem.W.mroIn X.K (He.ga X.K c) (.type "object") = some true
/-- the def, at a surrounding with the frames of this one -/
theorem run_at {k n : Nat} {f : Addr} {fd : FuncData} {ps : List Str} {sem : List D → Option SV} {A : Around} {pins : List (Addr × Obj)} {σ : L2.St} {H : Hp} {s : Shared} {us : List Value} {vs : List V} {dd : List D} {bb : Bool} (F : FnOk X.prog X.w X.K X.mg X.base CX0 k f fd ps (spP X.kx n sem)) (hb : Binds X.K fd ps []) (hr : Room k A) (fr : A.frames = X.A.frames) (I : L2.Inv X pins σ H s)
    (hn : dd.length = n) (e : sem dd = some (.fz (.bl bb))) (w : FzL X.kx H vs dd) (r : Vals vs us) : wpAny (model X.prog X.w) A (call (.ref f) us) (fun v s' => v = .bool bb ∧ ∃ H', L2.Inv X pins σ H' s' ∧ Same H H') X.xe s := by
  have hsp : spP X.kx n sem vs H (fun v H' => v = .bl bb ∧ Same H H') (fun _ _ _ => False) := ⟨dd, _, hn, e, w, fun v H' sm rv _ => by
    cases rv with
    | fz wv => cases wv; exact ⟨rfl, sm⟩⟩
  have e0 : Env0 X.prog X.w X.K X.mg X.base A X.stack s H := by
    have e := I.env0
    exact ⟨by rw [fr]; exact e.frames, e.mod, e.bs, e.bsz, e.funs, e.frf, e.hok, e.bare⟩
  have hl : (us ++ []).length = ps.length := by rw [List.append_nil, ← r.length]; exact F.len _ _ _ _ hsp
  have hb' := hb s us I.kIn hl
  rw [List.append_nil] at hb'
  refine wpAny_call (codeAny_mono (F.run A X.stack s H ⟨us, []⟩ us vs _ _ hr e0 hb' r hsp) fun r' s' hq => ?_)
  cases r' with
  | error e => exact hq.elim
  | ok fl =>
    cases fl with
    | ret u =>
      obtain ⟨z, H', I', rz, ez, sm⟩ := I.after hq
      subst ez
      cases rz
      exact ⟨rfl, H', I', sm⟩
    | next => exact False.elim hq
    | brk => exact False.elim hq
    | cont => exact False.elim hq
def rEqI (X : Cx) (neg : Bool) (c : Str) (sem : List D → Option SV) : R2 := fun x y H Q => ∃ fs gs bb, Fz X.kx H x (.ins c fs) ∧ Fz X.kx H y (.ins c gs) ∧ sem [.ins c fs, .ins c gs] = some (.fz (.bl bb)) ∧ ∀ H', Same H H' → Q (.bl (if neg then !bb else bb)) H'
theorem Fz.insR {K : Kx} {H : Hp} {v : V} {c : Str} {fs : List (Str × D)} (h : Fz K H v (.ins c fs)) : ∃ a dx vs, v = .ref a ∧ Rd H a (.ins (He.ga K.F c) dx vs) := by
  cases h with
  | ins h r => exact ⟨_, _, _, rfl, .inr ⟨_, h⟩⟩
theorem op_eqI {c : Str} {k : Nat} {sem : List D → Option SV} (h : EqC X c k sem) (hr : Room (k + 1) X.A) : OpR X (compareOp .Eq) (rEqI X false c sem) := by
  intro pins s σ H x y v u Q I rx ry ⟨fs, gs, bb, w1, w2, e, q⟩
  obtain ⟨f, fd, ps, F, hb, hf, he, hne, hm⟩ := h.ex
  obtain ⟨a, dx, vs, rfl, r1⟩ := w1.insR
  obtain ⟨a2, dx2, vs2, rfl, r2⟩ := w2.insR
  cases rx
  cases ry
  obtain ⟨mA, O, _⟩ := ins_getR I.hok r1
  obtain ⟨mB, O2, _⟩ := ins_getR I.hok r2
  obtain ⟨od, J, _⟩ := O.look
  obtain ⟨od2, J2, _⟩ := O2.look
  obtain ⟨m, hF⟩ := I.fr
  show wpAny (model X.prog X.w) X.A (richCompare .Eq (.ref a) (.ref a2)) (EP X pins σ Q) X.xe s
  refine PySem.W.cmp_K (op := .Eq) (tb := .ref (He.ga X.K c)) hr.units0 hF I.ok.mod.kin J J2.type (by simp [PySem.W.notFirst]) he hf ?_
  refine wpAny_mono (run_at F hb (hr.mono (Nat.le_succ _)) rfl I rfl e (.cons w1 (.cons w2 .nil)) (.cons rfl (.cons rfl .nil))) (fun r s' z => ?_) fun _ _ x => x
  obtain ⟨rfl, H', I', sm⟩ := z
  exact ⟨.bl bb, H', I', rfl, q H' sm⟩
theorem op_neI {c : Str} {k : Nat} {sem : List D → Option SV} (h : EqC X c k sem) (hr : Room (k + 1) X.A) : OpR X (compareOp .NotEq) (rEqI X true c sem) := by
  intro pins s σ H x y v u Q I rx ry ⟨fs, gs, bb, w1, w2, e, q⟩
  obtain ⟨f, fd, ps, F, hb, hf, he, hne, hm⟩ := h.ex
  obtain ⟨a, dx, vs, rfl, r1⟩ := w1.insR
  obtain ⟨a2, dx2, vs2, rfl, r2⟩ := w2.insR
  cases rx
  cases ry
  obtain ⟨mA, O, _⟩ := ins_getR I.hok r1
  obtain ⟨mB, O2, _⟩ := ins_getR I.hok r2
  obtain ⟨od, J, _⟩ := O.look
  obtain ⟨od2, J2, _⟩ := O2.look
  obtain ⟨m, hF⟩ := I.fr
  show wpAny (model X.prog X.w) X.A (richCompare .NotEq (.ref a) (.ref a2)) (EP X pins σ Q) X.xe s
  refine L2.cmp_Kne (tb := .ref (He.ga X.K c)) (by have := hr.units; omega) hF I.ok.mod.kin J J2.type (by simp [PySem.W.notFirst]) hne he hf hm ?_
  refine wpAny_mono (run_at F hb hr.in1 rfl I rfl e (.cons w1 (.cons w2 .nil)) (.cons rfl (.cons rfl .nil))) (fun r s' z => ?_) fun _ _ x => x
  obtain ⟨rfl, H', I', sm⟩ := z
  exact ⟨bb, rfl, .bl (!bb), H', I', rfl, q H' sm⟩
def eEqI (neg : Bool) (c : Str) (sem : List D → Option SV) (fa fb : DX) : DX := fun ds => Option.bind (fa ds) fun p => Option.bind (frR p.1 p.2) fun x => Option.bind (fb x.2) fun q => Option.bind (frR q.1 q.2) fun y => match x.1, y.1 with
  | .ins c1 fs, .ins c2 gs => if c1 = c ∧ c2 = c then (match sem [.ins c fs, .ins c gs] with
      | some (.fz (.bl bb)) => some (.fz (.bl (if neg then !bb else bb)), y.2)
      | _ => none) else none
  | _, _ => none
theorem dc_eqX {op : CmpOp} {neg : Bool} {c : Str} {sem : List D → Option SV} (ho : OpR X (compareOp op) (rEqI X neg c sem)) (ha : DE X io a fa) (hb : DE X io b fb) : DC X io op a b (eEqI neg c sem fa fb) := by
  refine ⟨fun F ds r ds' j q => ?_⟩
  unfold eEqI at q
  obtain ⟨⟨r1, ds1⟩, e1, q⟩ := Option.bind_eq_some_iff.mp q
  obtain ⟨⟨d2, ds2⟩, e2, q⟩ := Option.bind_eq_some_iff.mp q
  obtain ⟨⟨r3, ds3⟩, e3, q⟩ := Option.bind_eq_some_iff.mp q
  obtain ⟨⟨d4, ds4⟩, e4, q⟩ := Option.bind_eq_some_iff.mp q
  obtain ⟨c1, fs, rfl⟩ : ∃ c1 fs, d2 = .ins c1 fs := by cases d2 <;> first | exact ⟨_, _, rfl⟩ | cases q
  obtain ⟨c2, gs, rfl⟩ : ∃ c2 gs, d4 = .ins c2 gs := by cases d4 <;> first | exact ⟨_, _, rfl⟩ | cases q
  dsimp only at q
  by_cases c0 : c1 = c ∧ c2 = c
  · rw [if_pos c0] at q
    obtain ⟨rfl, rfl⟩ := c0
    cases es : sem [.ins _ fs, .ins _ gs] with
    | none => rw [es] at q; cases q
    | some sv =>
      rw [es] at q
      obtain ⟨bb, rfl⟩ : ∃ bb, sv = .fz (.bl bb) := by
        cases sv with
        | own _ => cases q
        | fz d => cases d <;> first | exact ⟨_, rfl⟩ | cases q
      cases q
      refine PC.weak (pc_R ho (pe_frz (ha.run F _ _ _ j e1)) (pe_frz (hb.run F _ _ _ j e3))) fun σ H Q ⟨hd, S, k⟩ => ?_
      refine ⟨hd, S, fun x H1 x1 rx S1 => ?_⟩
      obtain ⟨ps, k1⟩ := fr1 rx S1 e2
      refine ⟨ps, k1.mono fun H2 ⟨x2, w2, S2⟩ => ⟨hd, S2, fun y H3 x3 ry S3 => ?_⟩⟩
      obtain ⟨ps', k2⟩ := fr1 ry S3 e4
      refine ⟨ps', k2.mono fun H4 ⟨x4, w4, S4⟩ => ?_⟩
      refine ⟨fs, gs, bb, w2.ext (x3.trans x4), w4, es, fun H5 sm => ?_⟩
      exact k _ H5 ((((x1.trans x2).trans x3).trans x4).trans (.of_same sm)) (.fz (.bl _)) (by rw [hp_fz]; exact S4.grow sm)
  · rw [if_neg c0] at q; cases q
/-! ### isinstance(x, C) -/
/-- what is asked of the class of the instances that come here -/
structure IsO (K : PySem.W.Frag) (C : Addr) : Prop where
  cl : Cls K C
  ha : PySem.W.findIn K (.ref C) "__class__" = some (some (.builtin "object.__class__"))
  hn : PySem.W.specialIn K (.builtin "object.__class__") "__get__" = some (some (.builtin "getset_descriptor.__get__"))
  htk : PySem.W.takesIn K (.builtin "object.__class__") = some true
  hm : PySem.W.mroIn K C (.type "object") = some true
  r : PySem.W.kitOne K (.ref C) (.ref C) = some true
  no : ∀ T ∈ ["NoneType", "bool", "int", "str", "tuple", "list", "dict"], PySem.W.kitOne K (.type T) (.ref C) = some false
def rIsO (X : Cx) (c : Str) : List V → Hp → VK → Prop := fun xs H Q => ∃ x d b, xs = [x, .ref (He.ga X.K c)] ∧ Rp X.kx H x d ∧ (match d with
  | .ins c' _ => c' = c ∧ b = true
  | .dct .t _ => False
  | _ => b = false) ∧ Q (.bl b) H
theorem call_isO {c : Str} (hO : IsO X.K (He.ga X.K c)) : CallR X (.builtin "isinstance") (rIsO X c) := by
  intro pins s σ H xs us Q I r h
  obtain ⟨x, d, b, rfl, rx, hb, q⟩ := h
  obtain ⟨u1, u2, rfl, r1, r2⟩ := vals2 r
  obtain rfl : u2 = Value.ref (He.ga X.K c) := r2
  have base : ∀ {T : String}, isiT T d = some false → b = false → (tyN d) ∈ ["NoneType", "bool", "int", "str", "tuple", "list", "dict"] → wpAny (model X.prog X.w) X.A (call (.builtin "isinstance") [u1, .ref (He.ga X.K c)]) (EP X pins σ Q) X.xe s := fun {T} e hbf hm => by
    obtain ⟨P, Z, p, hx⟩ := kit_of I r1 (rx.tyX e)
    have e2 := hO.no _ hm
    rw [← hbf] at e2
    exact PySem.W.kia_one Z I.kIn p e2 hx fun tk => ⟨.bl b, H, I.tok tk, rfl, q⟩
  cases d with
  | ins c' fs =>
    obtain ⟨rfl, rfl⟩ := hb
    obtain ⟨a, dx, vs, rfl, ra⟩ := rx.insC
    cases r1
    obtain ⟨mA, O, _⟩ := ins_getR I.hok ra
    obtain ⟨od, J, _⟩ := O.look
    exact PySem.W.kia_one (PySem.W.kitx_own (hO.cl.get _) hO.cl.hd hO.ha hO.hn hO.htk hO.hm) I.kIn J hO.r (fun z => nomatch z) fun tk => ⟨.bl true, H, I.tok tk, rfl, q⟩
  | dct t es =>
    cases t with
    | k => exact base (T := "") rfl hb (by simp [tyN])
    | t => exact hb.elim
  | non => exact base (T := "") rfl hb (by simp [tyN])
  | bl _ => exact base (T := "") rfl hb (by simp [tyN])
  | int _ => exact base (T := "") rfl hb (by simp [tyN])
  | str _ => exact base (T := "") rfl hb (by simp [tyN])
  | tup _ => exact base (T := "") rfl hb (by simp [tyN])
  | lst _ => exact base (T := "") rfl hb (by simp [tyN])
def isO (c : Str) : D → Option Bool
  | .ins c' _ => if c' = c then some true else none
  | .dct .t _ => none
  | _ => some false
def eIsO (c : Str) (f : DX) : DX := fun ds => Option.bind (f ds) fun p => Option.bind (p.1.val p.2) fun d => Option.bind (isO c d) fun b => some (.fz (.bl b), p.2)
theorem d_isO {c y : Str} {py : Pos} {f : DX} (hO : IsO X.K (He.ga X.K c)) (hg : Gl X "isinstance") (hm : X.mg "isinstance" = none) (he : DE X io e f) (hgy : Gl X y) (hmy : X.mg y = some (.ref (He.ga X.K c))) (hdy : (y == ("__debug__" : Str)) = false := by decide)
    (hse : starEach [e, .Name y py] X.env = (false, eval e X.env) :: starEach [.Name y py] X.env := by rfl) (hpl : (backTo pos (starEach [Expr.Name y py] X.env)).any (·.1) = false := by rfl) :
    DE X io (.Call (.Name "isinstance" p) [e, .Name y py] [] pos) (eIsO c f) := by
  refine ⟨fun F ds r ds' j q => ?_⟩
  unfold eIsO at q
  obtain ⟨⟨r1, ds1⟩, e1, q⟩ := Option.bind_eq_some_iff.mp q
  obtain ⟨d, e2, q⟩ := Option.bind_eq_some_iff.mp q
  obtain ⟨b, e3, q⟩ := Option.bind_eq_some_iff.mp q
  cases q
  refine PE.weak (pe_callB (call_isO hO) hg hm rfl (pa_cons (he.run F _ _ _ j e1) (pa_cons (pe_glob hgy hmy (v := .ref (He.ga X.K c)) rfl hdy) pa_nil rfl) hse) (by decide) (by decide) hse hpl) fun σ H Q ⟨hd, S, k⟩ => ?_
  refine ⟨hd, S, fun v H1 x1 r1 S1 => ?_⟩
  refine ⟨v, d, b, rfl, r1.rp S1 e2, ?_, k _ H1 x1 (.fz (.bl b)) (by rw [hp_fz]; exact S1.drop (List.sublist_append_right _ _))⟩
  cases d with
  | ins c' fs =>
    by_cases z : c' = c
    · rw [show isO c (.ins c' fs) = some true from if_pos z] at e3; cases e3; exact ⟨z, rfl⟩
    · rw [show isO c (.ins c' fs) = none from if_neg z] at e3; cases e3
  | dct t es =>
    cases t with
    | k => cases e3; rfl
    | t => cases e3
  | non => cases e3; rfl
  | bl _ => cases e3; rfl
  | int _ => cases e3; rfl
  | str _ => cases e3; rfl
  | tup _ => cases e3; rfl
  | lst _ => cases e3; rfl
/-! ### l.index(x) -/
mutual
theorem Fz.dp {K : Kx} {H : Hp} : ∀ {v : V} {d : D}, Fz K H v d → d.pl = true → Dp K.F H v d.py
  | _, _, .non, _ => by rw [D.py]; exact .non
  | _, _, .bl b, _ => by rw [D.py]; exact .bl b
  | _, _, .int i, _ => by rw [D.py]; exact .int i
  | _, _, .str x, _ => by rw [D.py]; exact .str x
  | _, _, .tup h r, e => by rw [D.py]; rw [D.pl] at e; exact .tup h (FzL.dp r e)
  | _, _, .lst h r, e => by rw [D.py]; rw [D.pl] at e; exact .lst (.inl (.inr ⟨_, h⟩)) (FzL.dp r e)
  | _, _, .lstW h r, e => by rw [D.py]; rw [D.pl] at e; exact .lst h.sq (FzL.dp r e)
  | _, _, .dctK _ _, e => by rw [D.pl] at e; cases e
  | _, _, .dctT _ _, e => by rw [D.pl] at e; cases e
  | _, _, .ins _ _, e => by rw [D.pl] at e; cases e
theorem FzL.dp {K : Kx} {H : Hp} : ∀ {vs : List V} {ds : List D}, FzL K H vs ds → D.pls ds = true → DpAll K.F H vs (D.pys ds)
  | _, _, .nil, _ => by rw [D.pys]; exact .nil
  | _, _, .cons w r, e => by
    rw [D.pls] at e
    rw [D.pys]
    exact .cons (Fz.dp w (Bool.and_eq_true_iff.mp e).1) (FzL.dp r (Bool.and_eq_true_iff.mp e).2)
end
/-- a method of a list that changes nothing -/
def eRM (g : D → List D → Option R) (fo : DX) (fs : DAs) : DX := fun ds => Option.bind (fo ds) fun p => Option.bind (frR p.1 p.2) fun x => Option.bind (fs x.2) fun q => Option.bind (frRs q.1 q.2) fun z => Option.bind (g x.1 z.1) fun r => some (r, z.2)
def firstAt (d : D) : List D → Option Nat
  | [] => none
  | x :: r => if PyData.eqv x.py d.py = true then some 0 else Option.map (· + 1) (firstAt d r)
theorem firstAt_eq {d : D} : ∀ {l : List D} {n : Nat}, firstAt d l = some n → (∃ z, l[n]? = some z ∧ PyData.eqv z.py d.py = true) ∧ ∀ (m : Nat) (z : D), m < n → l[m]? = some z → PyData.eqv z.py d.py = false
  | [], n, e => by cases e
  | x :: r, n, e => by
    unfold firstAt at e
    by_cases c : PyData.eqv x.py d.py = true
    · rw [if_pos c] at e; cases e; exact ⟨⟨x, rfl, c⟩, fun m z h => absurd h (by omega)⟩
    · rw [if_neg c] at e
      obtain ⟨k, e1, rfl⟩ := Option.map_eq_some_iff.mp e
      obtain ⟨⟨z, a1, a2⟩, a3⟩ := firstAt_eq e1
      refine ⟨⟨z, a1, a2⟩, fun m z' h h' => ?_⟩
      cases m with
      | zero => cases h'; exact Bool.eq_false_iff.mpr c
      | succ m => exact a3 m z' (by omega) h'
def gIndex : D → List D → Option R
  | .lst l, [d] => if D.pl (.lst l) = true ∧ d.pl = true ∧ SeqAt.shaped (D.lst l).py = true ∧ SeqAt.shaped d.py = true then Option.map (fun n : Nat => R.fz (.int n)) (firstAt d l) else none
  | _, _ => none
theorem gIndex_inv {x : D} {dd : List D} {r : R} (e : gIndex x dd = some r) : ∃ l d n, x = .lst l ∧ dd = [d] ∧ (D.pl (.lst l) = true ∧ d.pl = true ∧ SeqAt.shaped (D.lst l).py = true ∧ SeqAt.shaped d.py = true) ∧ firstAt d l = some n ∧ r = .fz (.int (n : Nat)) := by
  unfold gIndex at e
  split at e
  · rename_i l d
    by_cases c : D.pl (.lst l) = true ∧ d.pl = true ∧ SeqAt.shaped (D.lst l).py = true ∧ SeqAt.shaped d.py = true
    · rw [if_pos c] at e
      obtain ⟨n, e6, e7⟩ := Option.map_eq_some_iff.mp e
      exact ⟨l, d, n, rfl, rfl, c, e6, e7.symm⟩
    · rw [if_neg c] at e; cases e
  · cases e
theorem pys_get : ∀ {l : List D} {n : Nat}, (D.pys l)[n]? = (l[n]?).map D.py
  | [], n => by rw [D.pys]; simp
  | x :: r, 0 => by rw [D.pys]; rfl
  | x :: r, n + 1 => by rw [D.pys, List.getElem?_cons_succ, List.getElem?_cons_succ]; exact pys_get
theorem d_index (hu : X.A.units + 65 < cLine) (ho : DE X io o fo) (ha : DA X io [e] fs)
    (hbase : attributeBase o "index" X.env (eval o X.env) = eval o X.env := by rfl)
    (hfew : ((backTo cpos (starEach [e] X.env)).all (fun x => !x.1) && (backToKw cpos (keywordEach [] X.env)).all (fun x => x.1.isSome)
      && decide ([e].length + ([] : List Keyword).length + (if ([] : List Keyword).isEmpty then 0 else 1) < 30)) = true := by rfl)
    (hline : (apos.endLine == cpos.line) = true := by rfl) (hs : starEach [e] X.env = (false, eval e X.env) :: starEach [] X.env := by rfl) :
    DE X io (.Call (.Attribute o "index" apos) [e] [] cpos) (eRM gIndex fo fs) := by
  refine ⟨fun F ds r ds' j q => ?_⟩
  unfold eRM at q
  obtain ⟨⟨r1, ds1⟩, e1, q⟩ := Option.bind_eq_some_iff.mp q
  obtain ⟨⟨d2, ds2⟩, e2, q⟩ := Option.bind_eq_some_iff.mp q
  obtain ⟨⟨rs3, ds3⟩, e3, q⟩ := Option.bind_eq_some_iff.mp q
  obtain ⟨⟨dd4, ds4⟩, e4, q⟩ := Option.bind_eq_some_iff.mp q
  obtain ⟨r5, e5, q⟩ := Option.bind_eq_some_iff.mp q
  cases q
  obtain ⟨l, d, n, ex, ed, ⟨c1, c2, c3, c4⟩, e6, rfl⟩ := gIndex_inv e5
  dsimp only at ex ed
  subst ex ed
  obtain ⟨⟨z, z1, z2⟩, z3⟩ := firstAt_eq e6
  refine PE.weak (pe_bm PySem.F.plainAttrs_list PySem.F.slot_list_index (by first | rfl | kernel_rfl) (mt_indexD hu) (pe_frz (ho.run F _ _ _ j e1)) (pa_frz (ha.run F _ _ _ j e3)) hbase hfew hline hs rfl) fun σ H Q ⟨hd, S, k⟩ => ⟨hd, S, fun v H1 x1 r1' S1 => ?_⟩
  obtain ⟨ps, k1⟩ := fr1 r1' S1 e2
  refine ⟨ps, k1.mono fun H2 ⟨x2, w2, S2⟩ => ?_⟩
  obtain ⟨a', vs', ev, hq, wl⟩ := w2.lstX
  subst ev
  refine ⟨.inl ⟨rfl, vs', hq _ (Ext.refl _)⟩, hd, S2, fun us H3 x3 r3 S3 => ?_⟩
  obtain ⟨ps', k2⟩ := frs r3 S3 e4
  refine ⟨ps', k2.mono fun H4 ⟨x4, w4, S4⟩ => ?_⟩
  cases w4 with
  | cons w4 rr =>
    cases rr
    have wl4 := (Fz.dp (w2.ext (x3.trans x4)) c1)
    rw [D.py] at wl4 c3
    refine ⟨a', _, d.py, D.pys l, n, z.py, rfl, rfl, wl4, Fz.dp w4 c2, c3, c4, by rw [pys_get, z1]; rfl, z2, fun m z' hm hz' => ?_, k _ H4 (((x1.trans x2).trans x3).trans x4) (.fz (.int _)) (by rw [hp_fz]; exact S4)⟩
    rw [pys_get] at hz'
    obtain ⟨y, y1, rfl⟩ := Option.map_eq_some_iff.mp hz'
    exact z3 m y hm y1
end
end DL
/-! DL22: a program's defs by name; constants of its top. -/
namespace DL
open PySem PySem.Spec PyProof.Rows L2
/-! ### a value of the written part that stands for a tree -/
mutual
def fzW (K : PySem.W.Frag) : D → Value → Bool
  | .non, .none => true
  | .bl b, .bool c => b == c
  | .int i, .int j _ => decide (i = j)
  | .str x, .str y _ => decide (x = y)
  | .tup ds, .ref a => (match K.lookup a with
    | some ⟨.type c, none, .seq items _, _⟩ => decide (c = "tuple") && (decide (items.size ≤ sizeLine) && fzWs K ds items.toList)
    | _ => false)
  | .lst ds, .ref a => (match K.lookup a with
    | some ⟨.type c, none, .seq items _, _⟩ => decide (c = "list") && (decide (items.size ≤ sizeLine) && fzWs K ds items.toList)
    | _ => false)
  | _, _ => false
def fzWs (K : PySem.W.Frag) : List D → List Value → Bool
  | [], [] => true
  | d :: ds, v :: vs => fzW K d v && fzWs K ds vs
  | _, _ => false
end
def FzW (K : PySem.W.Frag) (u : Value) (d : D) : Prop := ∃ v, RelV v u ∧ ∀ P w H, Fz ⟨K, P, w⟩ H v d
mutual
theorem fzW_ok {K : PySem.W.Frag} : ∀ {d : D} {u : Value}, fzW K d u = true → FzW K u d
  | .non, u, h => by
    cases u <;> first | exact ⟨.non, rfl, fun _ _ _ => .non⟩ | (unfold fzW at h; cases h)
  | .bl b, u, h => by
    cases u <;> first | (unfold fzW at h; cases h; done) | skip
    unfold fzW at h
    cases beq_iff_eq.mp h
    exact ⟨.bl b, rfl, fun _ _ _ => .bl b⟩
  | .int i, u, h => by
    cases u <;> first | (unfold fzW at h; cases h; done) | skip
    unfold fzW at h
    cases of_decide_eq_true h
    exact ⟨.int i, ⟨_, rfl⟩, fun _ _ _ => .int i⟩
  | .str x, u, h => by
    cases u <;> first | (unfold fzW at h; cases h; done) | skip
    unfold fzW at h
    cases of_decide_eq_true h
    exact ⟨.str x, ⟨_, rfl⟩, fun _ _ _ => .str x⟩
  | .tup ds, u, h => by
    cases u <;> first | (unfold fzW at h; cases h; done) | skip
    rename_i a
    unfold fzW at h
    split at h
    · rename_i c items n sl hk
      simp only [Bool.and_eq_true, decide_eq_true_eq] at h
      obtain ⟨rfl, hz, h⟩ := h
      obtain ⟨vs, rv, w⟩ := fzWs_ok h
      refine ⟨.ref a, rfl, fun P w' H => .tup (.inr ⟨_, items, n, hk, rfl, rfl, hz, rv⟩) (w P w' H)⟩
    · cases h
  | .lst ds, u, h => by
    cases u <;> first | (unfold fzW at h; cases h; done) | skip
    rename_i a
    unfold fzW at h
    split at h
    · rename_i c items n sl hk
      simp only [Bool.and_eq_true, decide_eq_true_eq] at h
      obtain ⟨rfl, hz, h⟩ := h
      obtain ⟨vs, rv, w⟩ := fzWs_ok h
      exact ⟨.ref a, rfl, fun P w' H => .lstW ⟨_, items, n, hk, rfl, rfl, rfl, hz, rv⟩ (w P w' H)⟩
    · cases h
  | .dct _ _, u, h => by cases u <;> (unfold fzW at h; cases h)
  | .ins _ _, u, h => by cases u <;> (unfold fzW at h; cases h)
theorem fzWs_ok {K : PySem.W.Frag} : ∀ {ds : List D} {us : List Value}, fzWs K ds us = true → ∃ vs, Vals vs us ∧ ∀ P w H, FzL ⟨K, P, w⟩ H vs ds
  | [], [], _ => ⟨[], .nil, fun _ _ _ => .nil⟩
  | d :: ds, u :: us, h => by
    unfold fzWs at h
    obtain ⟨h1, h2⟩ := Bool.and_eq_true_iff.mp h
    obtain ⟨v, r, w⟩ := fzW_ok h1
    obtain ⟨vs, rs, ws⟩ := fzWs_ok h2
    exact ⟨v :: vs, .cons r rs, fun P w' H => .cons (w P w' H) (ws P w' H)⟩
  | [], _ :: _, h => by unfold fzWs at h; cases h
  | _ :: _, [], h => by unfold fzWs at h; cases h
end
/-- the top's name x is a constant -/
def conW (K : PySem.W.Frag) (x : Str) (d : D) : Bool := match PySem.W.nsIn K mainGlobals x with
  | some (some u) => fzW K d u
  | _ => false
def Con (K : PySem.W.Frag) (mg : Str → Option Value) (x : Str) (d : D) : Prop := ∃ u, mg x = some u ∧ FzW K u d
theorem conW_ok {K : PySem.W.Frag} {h : Heap} {mg : Str → Option Value} {x : Str} {d : D} (X : K.In h) (G : h.Ns mainGlobals mg) (c : conW K x d = true) : Con K mg x d := by
  unfold conW at c
  split at c
  · rename_i u e
    exact ⟨u, PySem.W.mg_of X G e, fzW_ok c⟩
  · cases c
/-- the top's name x is a dict with text keys -/
def dctW (K : PySem.W.Frag) (x : Str) (t : List (Str × D)) : Bool := t.all fun e => match PySem.W.nsIn K (He.ga K x) e.1 with
  | some (some u) => fzW K e.2 u
  | _ => false
theorem dctW_ok {K : PySem.W.Frag} {w : World} {x : Str} {t : List (Str × D)} {es : Array DictEntry} {n : Nat} (hd : KDict K w (He.ga K x) es n) (c : dctW K x t = true) : ∀ k d, tblGet t k = some d → ∃ v, KDct K w (He.ga K x) k v ∧ ∀ P H, Fz ⟨K, P, w⟩ H v d := fun k d e => by
  have hm : (k, d) ∈ t := by
    unfold tblGet at e
    clear c
    induction t with
    | nil => cases e
    | cons p t ih =>
      obtain ⟨a, b⟩ := p
      rw [List.lookup_cons] at e
      split at e
      · rename_i q; cases e; rw [beq_iff_eq.mp q]; exact List.mem_cons_self
      · exact List.mem_cons_of_mem _ (ih e)
  have h := List.all_eq_true.mp c _ hm
  dsimp only at h
  split at h
  · rename_i u e2
    obtain ⟨v, r, w'⟩ := fzW_ok h
    exact ⟨v, ⟨es, n, u, hd.at_, hd.lit, e2, r⟩, fun P H => w' P w H⟩
  · cases h
/-! ### defs by name -/
section
variable (P : Program) (w : World) (K : PySem.W.Frag) (mg : Str → Option Value) (base : Heap)
/-- the def x, k calls deep, of n arguments, does sem -/
structure Ok (x : Str) (k n : Nat) (sem : List D → Option SV) : Prop where
  ex : ∃ fd ps, FnOk P w K mg base CX0 k (He.ga K x) fd ps (spP ⟨K, P, w⟩ n sem) ∧ Binds K fd ps []
  kp : PySem.W.keepIn K (.ref (He.ga K x)) = true
  at_ : mg x = some (.ref (He.ga K x))
  len : ∀ dd r, sem dd = some r → dd.length = n
structure OkIo (x : Str) (k n : Nat) (sem : Ob → List D → Option (SV × SV)) : Prop where
  ex : ∃ fd ps, FnOk P w K mg base CX0 k (He.ga K x) fd ps (spIo ⟨K, P, w⟩ n sem) ∧ Binds K fd ps []
  kp : PySem.W.keepIn K (.ref (He.ga K x)) = true
  at_ : mg x = some (.ref (He.ga K x))
  len : ∀ ob dd r, sem ob dd = some r → dd.length + 1 = n
/-- the class C, its __init__ -/
structure OkMk (c : Str) (k n : Nat) (sem : Ob → List D → Option (SV × SV)) : Prop where
  ex : ∃ f fd ps, Mk K (He.ga K c) f ∧ FnOk P w K mg base CX0 k f fd ps (spIo ⟨K, P, w⟩ n sem) ∧ Binds K fd ps []
  at_ : mg c = some (.ref (He.ga K c))
  len : ∀ ob dd r, sem ob dd = some r → dd.length + 1 = n
end
section
variable {P : Program} {w : World} {K : PySem.W.Frag} {mg : Str → Option Value} {base : Heap} {N : List Str} {qual : Str} {scope : Scope} {f : Addr} {cdv : Value} {A : Around} {outer : List Env} {s : Shared} {H : Hp} {E : XK} {io : Bool} {x : Str} {k j n : Nat} {p pos : Pos} {e : Expr} {es : List Expr} {fs : DAs}
theorem own_nox : PassesOwn (model P w) A (envOfC qual scope s.heap.objs.size f cdv) (fun _ _ => False) := PassesOwn.never
end
section
variable {X : Cx} {io : Bool} {x : Str} {k j n : Nat} {p pos : Pos} {e : Expr} {es : List Expr} {fs : DAs}
theorem c_call {sem : List D → Option SV} (o : Ok X.prog X.w X.K X.mg X.base x k n sem) (hr : Room j X.A) (hk : k ≤ j) (ha : DA X io (e :: es) fs) (hg : Gl X x := by rfl) (hdb : (x == ("__debug__" : Str)) = false := by decide) (he : starEach (e :: es) X.env = (false, eval e X.env) :: starEach es X.env := by rfl) (hpl : (backTo pos (starEach es X.env)).any (·.1) = false := by rfl) :
    DE X io (.Call (.Name x p) (e :: es) [] pos) (eCall sem fs) := by
  obtain ⟨fd, ps, F, hb⟩ := o.ex
  exact d_call F o.len (hr.mono hk) hg o.at_ o.kp hb ha hdb he hpl
theorem c_callIo {sem : Ob → List D → Option (SV × SV)} (o : OkIo X.prog X.w X.K X.mg X.base x k n sem) (hr : Room j X.A) (hk : k ≤ j) (ha : DA X io (e :: es) fs) (hg : Gl X x := by rfl) (hdb : (x == ("__debug__" : Str)) = false := by decide) (he : starEach (e :: es) X.env = (false, eval e X.env) :: starEach es X.env := by rfl) (hpl : (backTo pos (starEach es X.env)).any (·.1) = false := by rfl) :
    DE X io (.Call (.Name x p) (e :: es) [] pos) (eCallIo sem fs) := by
  obtain ⟨fd, ps, F, hb⟩ := o.ex
  exact d_callIo F o.len (hr.mono hk) hg o.at_ o.kp hb ha hdb he hpl
theorem c_make {sem : Ob → List D → Option (SV × SV)} (o : OkMk X.prog X.w X.K X.mg X.base x k n sem) (hr : Room j X.A) (hk : k + 1 ≤ j) (ha : DA X io (e :: es) fs) (hg : Gl X x := by rfl) (hdb : (x == ("__debug__" : Str)) = false := by decide) (he : starEach (e :: es) X.env = (false, eval e X.env) :: starEach es X.env := by rfl) (hpl : (backTo pos (starEach es X.env)).any (·.1) = false := by rfl) :
    DE X io (.Call (.Name x p) (e :: es) [] pos) (eMake x sem fs) := by
  obtain ⟨fi, fd, ps, M, F, hb⟩ := o.ex
  exact d_make M F o.len (hr.mono hk) hg o.at_ hb ha hdb he hpl
theorem c_con {d : D} (c : Con X.K X.mg x d) (hg : Gl X x := by rfl) (hd : (x == ("__debug__" : Str)) = false := by decide) : DE X io (.Name x pos) (eC d) := by
  obtain ⟨u, hm, v, r, w⟩ := c
  exact d_glob hg hm r (fun H => w _ _ H) hd
def eNeg (f : DX) : DX := fun ds => Option.bind (f ds) fun p => match p.1 with
  | .fz (.int i) => some (.fz (.int (-i)), p.2)
  | _ => none
theorem d_neg {f : DX} (h : DE X io e f) : DE X io (.UnaryOp .USub e pos) (eNeg f) := by
  refine ⟨fun F ds r ds' j q => ?_⟩
  unfold eNeg at q
  obtain ⟨⟨r1, ds1⟩, e1, q⟩ := Option.bind_eq_some_iff.mp q
  dsimp only at q
  split at q
  · rename_i i
    cases q
    refine PE.weak (pe_un un_neg (h.run F _ _ _ j e1)) fun σ H Q ⟨hd, S, k⟩ => ⟨hd, S, fun v H1 x1 r1 S1 => ?_⟩
    cases r1 with
    | fz w =>
      cases w
      exact ⟨i, rfl, k _ H1 x1 (.fz (.int _)) (by rw [hp_fz]; rw [hp_fz] at S1; exact S1)⟩
  · cases q
/-- x[e], x a dict of the top with text keys -/
theorem c_ixW {t : List (Str × D)} {f : DX} (hm : X.mg x = some (.ref (He.ga X.K x))) (ht : ∀ k d, tblGet t k = some d → ∃ v, KDct X.K X.w (He.ga X.K x) k v ∧ ∀ P H, Fz ⟨X.K, P, X.w⟩ H v d) (hb : DE X io e f) (hg : Gl X x := by rfl)
    (hs : PlainIx e := by exact fun _ _ => rfl) (hd : (x == ("__debug__" : Str)) = false := by decide) : DE X io (.Subscript (.Name x p) e pos) (eIxW t f) :=
  d_ixW hg hm (fun k d q => let ⟨v, a, b⟩ := ht k d q; ⟨v, a, fun H => b _ H⟩) hb hs hd
end
/-- a def's meaning, of n arguments, over m slots -/
def dfn (n m : Nat) (g : DSm) : List D → Option SV := fun dd => if dd.length = n then dfun m g dd else none
def dfnIo (n m : Nat) (g : DSm) : Ob → List D → Option (SV × SV) := fun ob dd => if dd.length + 1 = n then dfunIo m g ob dd else none
theorem dfn_len {n m : Nat} {g : DSm} (dd : List D) (r : SV) (h : dfn n m g dd = some r) : dd.length = n := by
  unfold dfn at h
  by_cases c : dd.length = n
  · exact c
  · rw [if_neg c] at h; cases h
theorem dfnIo_len {n m : Nat} {g : DSm} (ob : Ob) (dd : List D) (r : SV × SV) (h : dfnIo n m g ob dd = some r) : dd.length + 1 = n := by
  unfold dfnIo at h
  by_cases c : dd.length + 1 = n
  · exact c
  · rw [if_neg c] at h; cases h
section
variable {P : Program} {w : World} {K : PySem.W.Frag} {mg : Str → Option Value} {base : Heap} {x : Str} {st : Stmt} {N ps : List Str} {k n m : Nat} {g : DSm} {fa : Addr} {qual : Str}
abbrev BindsAll (x qual : Str) (st : Stmt) (ps : List Str) : Prop := ∀ (kV doc pm : Value) (an : Option Addr) (cdv ct : Value) (us : List Value), us.length = ps.length → bindArgs (PySem.W.fnOf x qual (defArgs st) (defBody st) (defScope st) .none kV doc pm an cdv ct) ⟨us, []⟩ = pure (ps.zip us)
theorem Fn.pure (S : FnScope N ps (defScope st)) (hn : ps.length = n) (hm : N.length = m) {fd : FuncData} (F : FunD K x qual (defArgs st) (defBody st) (defScope st) [] [] fa fd)
    (hbody : ∀ (cdv : Value) (A : Around) (outer : List Env) (s : Shared) (H : Hp) (E : XK), Room k (A.deeper (envOfC qual (defScope st) s.heap.objs.size fa cdv)) → DSs (cxOf CX0 P w K mg base N qual (defScope st) fa cdv A outer s H E).nox false (defBody st) g) :
    FnOk P w K mg base CX0 (k + 1) fa fd ps (spP ⟨K, P, w⟩ n (dfn n m g)) := by
  subst hn hm
  exact (fn_pure F S hbody).imp fun vs H Q E h => spP_imp (fun dd sv hl e => by unfold dfn at e; rw [if_pos hl] at e; exact e) vs H Q E h
theorem Fn.io (S : FnScope N ps (defScope st)) (hn : ps.length = n) (hm : N.length = m) {fd : FuncData} (F : FunD K x qual (defArgs st) (defBody st) (defScope st) [] [] fa fd)
    (hbody : ∀ (cdv : Value) (A : Around) (outer : List Env) (s : Shared) (H : Hp) (E : XK), Room k (A.deeper (envOfC qual (defScope st) s.heap.objs.size fa cdv)) → DSs (cxOf CX0 P w K mg base N qual (defScope st) fa cdv A outer s H E).nox true (defBody st) g) :
    FnOk P w K mg base CX0 (k + 1) fa fd ps (spIo ⟨K, P, w⟩ n (dfnIo n m g)) := by
  subst hn hm
  exact (fn_io F S hbody).imp fun vs H Q E h => spIo_imp (fun ob dd r hl e => by unfold dfnIo at e; rw [if_pos hl] at e; exact e) vs H Q E h
theorem Ok.mk' (S : FnScope N ps (defScope st)) (hn : ps.length = n) (hm : N.length = m) (F : ∃ fd, FunD K x x (defArgs st) (defBody st) (defScope st) [] [] (He.ga K x) fd) (hat : mg x = some (.ref (He.ga K x))) (hb : BindsAll x x st ps)
    (hbody : ∀ (cdv : Value) (A : Around) (outer : List Env) (s : Shared) (H : Hp) (E : XK), Room k (A.deeper (envOfC x (defScope st) s.heap.objs.size (He.ga K x) cdv)) → DSs (cxOf CX0 P w K mg base N x (defScope st) (He.ga K x) cdv A outer s H E).nox false (defBody st) g) :
    Ok P w K mg base x (k + 1) n (dfn n m g) := by
  obtain ⟨fd, F⟩ := F
  exact ⟨⟨fd, ps, Fn.pure S hn hm F hbody, F.bindsN hb⟩, F.kp, hat, dfn_len⟩
theorem OkIo.mk' (S : FnScope N ps (defScope st)) (hn : ps.length = n) (hm : N.length = m) (F : ∃ fd, FunD K x x (defArgs st) (defBody st) (defScope st) [] [] (He.ga K x) fd) (hat : mg x = some (.ref (He.ga K x))) (hb : BindsAll x x st ps)
    (hbody : ∀ (cdv : Value) (A : Around) (outer : List Env) (s : Shared) (H : Hp) (E : XK), Room k (A.deeper (envOfC x (defScope st) s.heap.objs.size (He.ga K x) cdv)) → DSs (cxOf CX0 P w K mg base N x (defScope st) (He.ga K x) cdv A outer s H E).nox true (defBody st) g) :
    OkIo P w K mg base x (k + 1) n (dfnIo n m g) := by
  obtain ⟨fd, F⟩ := F
  exact ⟨⟨fd, ps, Fn.io S hn hm F hbody, F.bindsN hb⟩, F.kp, hat, dfnIo_len⟩
theorem OkMk.mk' {c q : Str} (S : FnScope N ps (defScope st)) (hn : ps.length = n) (hm : N.length = m) (M : Mk K (He.ga K c) (He.ma K (He.ga K c) "__init__")) (F : ∃ fd, FunD K "__init__" q (defArgs st) (defBody st) (defScope st) [] [] (He.ma K (He.ga K c) "__init__") fd) (hat : mg c = some (.ref (He.ga K c))) (hb : BindsAll "__init__" q st ps)
    (hbody : ∀ (cdv : Value) (A : Around) (outer : List Env) (s : Shared) (H : Hp) (E : XK), Room k (A.deeper (envOfC q (defScope st) s.heap.objs.size (He.ma K (He.ga K c) "__init__") cdv)) → DSs (cxOf CX0 P w K mg base N q (defScope st) (He.ma K (He.ga K c) "__init__") cdv A outer s H E).nox true (defBody st) g) :
    OkMk P w K mg base c (k + 1) n (dfnIo n m g) := by
  obtain ⟨fd, F⟩ := F
  exact ⟨⟨_, fd, ps, M, Fn.io S hn hm F hbody, F.bindsN hb⟩, hat, dfnIo_len⟩
end
/-! ### own classes: == and isinstance -/
def eqB1 (a b : Option Bool) : Bool := decide (a = b)
theorem eqB1_ok {a b : Option Bool} (h : eqB1 a b = true) : a = b := of_decide_eq_true h
def isoB (K : PySem.W.Frag) (c : Str) : Bool := He.eqO (PySem.W.findIn K (.ref (He.ga K c)) "__class__") (some (some (.builtin "object.__class__"))) && (He.eqO (PySem.W.specialIn K (.builtin "object.__class__") "__get__") (some (some (.builtin "getset_descriptor.__get__"))) &&
  (eqB1 (PySem.W.takesIn K (.builtin "object.__class__")) (some true) && (eqB1 (PySem.W.mroIn K (He.ga K c) (.type "object")) (some true) && (eqB1 (PySem.W.kitOne K (.ref (He.ga K c)) (.ref (He.ga K c))) (some true) &&
  (["NoneType", "bool", "int", "str", "tuple", "list", "dict"].all fun T => eqB1 (PySem.W.kitOne K (.type T) (.ref (He.ga K c))) (some false))))))
theorem isoB_ok {K : PySem.W.Frag} {c : Str} (cl : Cls K (He.ga K c)) (h : isoB K c = true) : IsO K (He.ga K c) := by
  unfold isoB at h
  simp only [Bool.and_eq_true] at h
  obtain ⟨h1, h2, h3, h4, h5, h6⟩ := h
  exact ⟨cl, He.eqO_ok h1, He.eqO_ok h2, eqB1_ok h3, eqB1_ok h4, eqB1_ok h5, fun T hT => eqB1_ok (List.all_eq_true.mp h6 T hT)⟩
def eqB (K : PySem.W.Frag) (c : Str) : Bool := PySem.W.isFn K (.ref (He.ma K (He.ga K c) "__eq__")) && (He.eqO (PySem.W.findIn K (.ref (He.ga K c)) "__eq__") (some (some (.ref (He.ma K (He.ga K c) "__eq__")))) &&
  (He.eqO (PySem.W.findIn K (.ref (He.ga K c)) "__ne__") (some (some (.builtin "object.__ne__"))) && eqB1 (PySem.W.mroIn K (He.ga K c) (.type "object")) (some true)))
theorem eqB_ok {X : Cx} {c : Str} {k : Nat} {sem : List D → Option SV} (h : eqB X.K c = true) (F : ∃ fd ps, FnOk X.prog X.w X.K X.mg X.base CX0 k (He.ma X.K (He.ga X.K c) "__eq__") fd ps (spP X.kx 2 sem) ∧ Binds X.K fd ps []) : EqC X c k sem := by
  unfold eqB at h
  simp only [Bool.and_eq_true] at h
  obtain ⟨h1, h2, h3, h4⟩ := h
  obtain ⟨fd, ps, F, hb⟩ := F
  exact ⟨_, fd, ps, F, hb, h1, He.eqO_ok h2, He.eqO_ok h3, eqB1_ok h4⟩
theorem units65 {k : Nat} {A : Around} (r : Room k A) : A.units + 65 < cLine := by have := r.un; omega
end DL
/-! DL23: instances that own lists and dicts: fields read, set, led on; methods of own classes. -/
namespace DL
open PySem PySem.Spec PyProof.Rows L2
def putSF (f : Str) (s : SF) : List (Str × SF) → List (Str × SF)
  | [] => [(f, s)]
  | (g, t) :: r => if g = f then (g, s) :: r else (g, t) :: putSF f s r
section
variable {K : Kx} {H H' : Hp}
theorem OwF.len : ∀ {vs : List (Str × V)} {fs : List (Str × SF)}, OwF K H vs fs → vs.length = fs.length
  | _, _, .nil => rfl
  | _, _, .fz _ r => congrArg (· + 1) r.len
  | _, _, .lst _ _ r => congrArg (· + 1) r.len
  | _, _, .dctK _ _ r => congrArg (· + 1) r.len
  | _, _, .dctT _ _ r => congrArg (· + 1) r.len
theorem OwF.lookFz {f : Str} {d : D} : ∀ {vs : List (Str × V)} {fs : List (Str × SF)}, OwF K H vs fs → fs.lookup f = some (.fz d) → ∃ v, vs.lookup f = some v ∧ Fz K H v d
  | _, _, .nil, e => by cases e
  | _, _, .fz (f := g) h r, e => by
    rw [List.lookup_cons] at e ⊢
    cases hb : f == g with
    | true => simp only [hb] at e; cases e; exact ⟨_, rfl, h⟩
    | false => simp only [hb] at e; exact r.lookFz e
  | _, _, .lst (f := g) h w r, e => by
    rw [List.lookup_cons] at e ⊢
    cases hb : f == g with
    | true => simp only [hb] at e; cases e
    | false => simp only [hb] at e; exact r.lookFz e
  | _, _, .dctK (f := g) h w r, e => by
    rw [List.lookup_cons] at e ⊢
    cases hb : f == g with
    | true => simp only [hb] at e; cases e
    | false => simp only [hb] at e; exact r.lookFz e
  | _, _, .dctT (f := g) h w r, e => by
    rw [List.lookup_cons] at e ⊢
    cases hb : f == g with
    | true => simp only [hb] at e; cases e
    | false => simp only [hb] at e; exact r.lookFz e
/-- what stands at an owned field -/
def KidAt (K : Kx) (H : Hp) (q : Addr) : SF → Prop
  | .fz _ => False
  | .lst ds => ∃ us, H q = some (.lst us) ∧ FzL K H us ds
  | .dct .k es => ∃ kvs, H q = some (.dK kvs) ∧ FzK K H kvs es
  | .dct .t es => ∃ kvs, H q = some (tabO K q kvs) ∧ FzT K H kvs es
theorem OwF.lookKid {f : Str} {s : SF} (hs : ∀ d, s ≠ .fz d) : ∀ {vs : List (Str × V)} {fs : List (Str × SF)}, OwF K H vs fs → fs.lookup f = some s → ∃ q, vs.lookup f = some (.ref q) ∧ q ∈ kidsF vs fs ∧ KidAt K H q s
  | _, _, .nil, e => by cases e
  | _, _, .fz (f := g) h r, e => by
    rw [List.lookup_cons] at e ⊢
    cases hb : f == g with
    | true => simp only [hb] at e; cases e; exact absurd rfl (hs _)
    | false => simp only [hb] at e; exact r.lookKid hs e
  | _, _, .lst (f := g) (q := q) h w r, e => by
    rw [List.lookup_cons] at e ⊢
    cases hb : f == g with
    | true => simp only [hb] at e; cases e; exact ⟨q, rfl, List.mem_cons_self, _, h, w⟩
    | false =>
      simp only [hb] at e
      obtain ⟨q', e1, m, k⟩ := r.lookKid hs e
      exact ⟨q', e1, List.mem_cons_of_mem _ m, k⟩
  | _, _, .dctK (f := g) (q := q) h w r, e => by
    rw [List.lookup_cons] at e ⊢
    cases hb : f == g with
    | true => simp only [hb] at e; cases e; exact ⟨q, rfl, List.mem_cons_self, _, h, w⟩
    | false =>
      simp only [hb] at e
      obtain ⟨q', e1, m, k⟩ := r.lookKid hs e
      exact ⟨q', e1, List.mem_cons_of_mem _ m, k⟩
  | _, _, .dctT (f := g) (q := q) h w r, e => by
    rw [List.lookup_cons] at e ⊢
    cases hb : f == g with
    | true => simp only [hb] at e; cases e; exact ⟨q, rfl, List.mem_cons_self, _, h, w⟩
    | false =>
      simp only [hb] at e
      obtain ⟨q', e1, m, k⟩ := r.lookKid hs e
      exact ⟨q', e1, List.mem_cons_of_mem _ m, k⟩
/-- a field's value -/
def FldOk (K : Kx) (H : Hp) (v : V) : SF → Prop
  | .fz d => Fz K H v d
  | .lst ds => ∃ q, v = .ref q ∧ KidAt K H q (.lst ds)
  | .dct t es => ∃ q, v = .ref q ∧ KidAt K H q (.dct t es)
theorem OwF.cons {f : Str} {v : V} {s : SF} {vs : List (Str × V)} {fs : List (Str × SF)} (h : FldOk K H v s) (r : OwF K H vs fs) : OwF K H ((f, v) :: vs) ((f, s) :: fs) := by
  cases s with
  | fz d => exact .fz h r
  | lst ds => obtain ⟨q, rfl, us, h1, h2⟩ := h; exact .lst h1 h2 r
  | dct t es =>
    cases t with
    | k => obtain ⟨q, rfl, us, h1, h2⟩ := h; exact .dctK h1 h2 r
    | t => obtain ⟨q, rfl, us, h1, h2⟩ := h; exact .dctT h1 h2 r
theorem OwF.head {f g : Str} {v : V} {s : SF} {vs : List (Str × V)} {fs : List (Str × SF)} (h : OwF K H ((f, v) :: vs) ((g, s) :: fs)) : f = g ∧ FldOk K H v s ∧ OwF K H vs fs := by
  cases h with
  | fz h r => exact ⟨rfl, h, r⟩
  | lst h w r => exact ⟨rfl, ⟨_, rfl, _, h, w⟩, r⟩
  | dctK h w r => exact ⟨rfl, ⟨_, rfl, _, h, w⟩, r⟩
  | dctT h w r => exact ⟨rfl, ⟨_, rfl, _, h, w⟩, r⟩
/-- the object of a value at a field -/
def kid1 (v : V) (s : SF) : List Addr := match s, v with
  | .fz _, _ => []
  | _, .ref q => [q]
  | _, _ => []
theorem kidsF_cons (f g : Str) (v : V) (s : SF) (vs : List (Str × V)) (fs : List (Str × SF)) : kidsF ((f, v) :: vs) ((g, s) :: fs) = kid1 v s ++ kidsF vs fs := rfl
/-- a field put -/
theorem OwF.put {f : Str} {v : V} {s : SF} (h : FldOk K H v s) : ∀ {vs : List (Str × V)} {fs : List (Str × SF)}, OwF K H vs fs → OwF K H (putF f v vs) (putSF f s fs)
  | [], [], _ => OwF.cons h .nil
  | (g, u) :: vs, (g', t) :: fs, r => by
    obtain ⟨rfl, h1, r1⟩ := r.head
    unfold putF putSF
    by_cases e : g = f
    · subst e; rw [if_pos rfl, if_pos rfl]; exact OwF.cons h r1
    · rw [if_neg e, if_neg e]; exact OwF.cons h1 (OwF.put h r1)
  | [], _ :: _, r => by cases r
  | _ :: _, [], r => by cases r
theorem kids_put {f : Str} {v : V} {s : SF} : ∀ {vs : List (Str × V)} {fs : List (Str × SF)}, OwF K H vs fs → (kid1 v s ++ kidsF vs fs).Nodup → (kidsF (putF f v vs) (putSF f s fs)).Nodup ∧ ∀ a ∈ kidsF (putF f v vs) (putSF f s fs), a ∈ kid1 v s ∨ a ∈ kidsF vs fs
  | [], [], _, n => by
    have e : kidsF (putF f v []) (putSF f s []) = kid1 v s ++ [] := rfl
    rw [e, List.append_nil]
    exact ⟨(List.nodup_append.mp n).1, fun a m => .inl m⟩
  | (g, u) :: vs, (g', t) :: fs, r, n => by
    obtain ⟨rfl, h1, r1⟩ := r.head
    rw [kidsF_cons] at n
    obtain ⟨n1, n2, n3⟩ := List.nodup_append.mp n
    obtain ⟨n4, n5, n6⟩ := List.nodup_append.mp n2
    unfold putF putSF
    by_cases e : g = f
    · subst e
      rw [if_pos rfl, if_pos rfl, kidsF_cons, kidsF_cons]
      refine ⟨List.nodup_append.mpr ⟨n1, n5, fun a ha b hb => n3 a ha b (List.mem_append_right _ hb)⟩, fun a m => ?_⟩
      rcases List.mem_append.mp m with m | m
      · exact .inl m
      · exact .inr (List.mem_append_right _ m)
    · rw [if_neg e, if_neg e, kidsF_cons, kidsF_cons]
      obtain ⟨i1, i2⟩ := kids_put (f := f) (v := v) (s := s) r1 (List.nodup_append.mpr ⟨n1, n5, fun a ha b hb => n3 a ha b (List.mem_append_right _ hb)⟩)
      refine ⟨List.nodup_append.mpr ⟨n4, i1, fun a ha b hb => ?_⟩, fun a m => ?_⟩
      · rcases i2 b hb with z | z
        · exact fun e => n3 b z a (List.mem_append_left _ ha) e.symm
        · exact n6 a ha b z
      · rcases List.mem_append.mp m with m | m
        · exact .inr (List.mem_append_left _ m)
        · rcases i2 a m with z | z
          · exact .inl z
          · exact .inr (List.mem_append_right _ z)
  | [], _ :: _, r, _ => by cases r
  | _ :: _, [], r, _ => by cases r
/-- the object of a field led on -/
theorem OwF.upd {f : Str} {s s' : SF} {q : Addr} {u : HO} (hs : ∀ d, s ≠ .fz d) (hs' : ∀ d, s' ≠ .fz d) (x : Ext H (L2.upd H q u)) (k : KidAt K (L2.upd H q u) q s') : ∀ {vs : List (Str × V)} {fs : List (Str × SF)}, OwF K H vs fs → (kidsF vs fs).Nodup → fs.lookup f = some s → vs.lookup f = some (.ref q) →
    OwF K (L2.upd H q u) vs (putSF f s' fs) ∧ kidsF vs (putSF f s' fs) = kidsF vs fs
  | [], [], _, _, e, _ => by cases e
  | (g, v) :: vs, (g', t) :: fs, r, n, e1, e2 => by
    obtain ⟨rfl, h1, r1⟩ := r.head
    rw [kidsF_cons] at n
    obtain ⟨n1, n2, n3⟩ := List.nodup_append.mp n
    rw [List.lookup_cons] at e1 e2
    unfold putSF
    cases hb : f == g with
    | true =>
      simp only [hb] at e1 e2
      cases e1; cases e2
      have hg : g = f := (beq_iff_eq.mp hb).symm
      rw [if_pos hg]
      have hq : ∀ a ∈ kidsF vs fs, a ≠ q := fun a m z => by
        subst z
        refine n3 a ?_ a m rfl
        unfold kid1
        cases s with
        | fz d => exact absurd rfl (hs d)
        | lst _ => exact List.mem_cons_self
        | dct _ _ => exact List.mem_cons_self
      refine ⟨OwF.cons ?_ (r1.keep x fun a m => upd_ne (hq a m)), ?_⟩
      · cases s' with
        | fz d => exact absurd rfl (hs' d)
        | lst ds => exact ⟨q, rfl, k⟩
        | dct t es => exact ⟨q, rfl, k⟩
      · rw [kidsF_cons, kidsF_cons]
        congr 1
        unfold kid1
        cases s with
        | fz d => exact absurd rfl (hs d)
        | lst _ =>
          cases s' with
          | fz d => exact absurd rfl (hs' d)
          | lst _ => rfl
          | dct _ _ => rfl
        | dct _ _ =>
          cases s' with
          | fz d => exact absurd rfl (hs' d)
          | lst _ => rfl
          | dct _ _ => rfl
    | false =>
      simp only [hb] at e1 e2
      have hg : ¬ g = f := fun z => by subst z; simp at hb
      rw [if_neg hg]
      obtain ⟨i1, i2⟩ := OwF.upd hs hs' x k r1 n2 e1 e2
      have hq : q ∈ kidsF vs fs := by
        obtain ⟨q', e3, m, _⟩ := r1.lookKid hs e1
        rw [e2] at e3; cases e3
        exact m
      refine ⟨OwF.cons ?_ i1, by rw [kidsF_cons, kidsF_cons, i2]⟩
      cases t with
      | fz d => exact h1.ext x
      | lst ds =>
        obtain ⟨q', rfl, us, a1, a2⟩ := h1
        exact ⟨q', rfl, us, (upd_ne fun z => n3 q' List.mem_cons_self q' (by rw [z]; exact hq) rfl).trans a1, a2.ext x⟩
      | dct t es =>
        cases t with
        | k =>
          obtain ⟨q', rfl, us, a1, a2⟩ := h1
          exact ⟨q', rfl, us, (upd_ne fun z => n3 q' List.mem_cons_self q' (by rw [z]; exact hq) rfl).trans a1, a2.ext x⟩
        | t =>
          obtain ⟨q', rfl, us, a1, a2⟩ := h1
          exact ⟨q', rfl, us, (upd_ne fun z => n3 q' List.mem_cons_self q' (by rw [z]; exact hq) rfl).trans a1, a2.ext x⟩
  | [], _ :: _, r, _, _, _ => by cases r
  | _ :: _, [], r, _, _, _ => by cases r
end
/-! ### the instance of a slot -/
def insOAt (c : Str) (ds : DS) (i : Nat) : Option (List (Str × SF)) := match ds[i]? with
  | some (some (.own (.insO c' fs))) => if c' = c then some fs else none
  | _ => none
theorem insOAt_eq {c : Str} {ds : DS} {i : Nat} {fs : List (Str × SF)} (h : insOAt c ds i = some fs) : ds[i]? = some (some (.own (.insO c fs))) := by
  unfold insOAt at h
  split at h
  · rename_i c' fs' e
    by_cases z : c' = c
    · rw [if_pos z] at h; cases h; subst z; exact e
    · rw [if_neg z] at h; cases h
  · cases h
theorem SRel.insO {K : Kx} {F : Fx} {ds : DS} {σ : Sg} {H : Hp} {hd : List (Addr × HO)} (S : SRel K F ds σ H hd) {i : Nat} {c : Str} {fs : List (Str × SF)} {v : V} (h : insOAt c ds i = some fs) (hv : σ[i]? = some (some v)) : ∃ p dx vs, v = .ref p ∧ H p = some (.ins (He.ga K.F c) dx vs) ∧ OwF K H vs fs ∧ (p :: kidsF vs fs).Nodup ∧ feet H p (.insO c fs) = p :: kidsF vs fs := by
  obtain ⟨p, e1, w⟩ := S.own (insOAt_eq h)
  rw [hv] at e1; cases e1
  cases w with
  | insO h1 h2 h3 => exact ⟨p, _, _, rfl, h1, h2, h3, feet_insO _ _ h1⟩
section
variable {X : Cx} {io : Bool} {k : Nat} {f C : Addr} {fd : FuncData} {ps : List Str} {x m : Str} {p pos apos tpos cpos : Pos} {e o value : Expr} {es : List Expr} {fa fe fo fv : DX} {fs : DAs} {n : Nat}
/-- x.f, f a frozen field -/
def eFldO (c f : Str) (fe : DX) : DX := fun ds => Option.bind (fe ds) fun p => Option.bind (slotOf p.1) fun i => Option.bind (insOAt c p.2 i) fun fs => match fs.lookup f with
  | some (.fz d) => some (.fz d, p.2)
  | _ => none
theorem d_fldO {c g : Str} (hc : Cls X.K (He.ga X.K c)) (hna : NoAttr X.K (He.ga X.K c) g) (he : DE X io e fe) (hb : attributeBase e g X.env (eval e X.env) = eval e X.env := by rfl) : DE X io (.Attribute e g pos) (eFldO c g fe) := by
  refine ⟨fun F ds r ds' j q => ?_⟩
  unfold eFldO at q
  obtain ⟨⟨r1, ds1⟩, e1, q⟩ := Option.bind_eq_some_iff.mp q
  obtain ⟨i, e2, q⟩ := Option.bind_eq_some_iff.mp q
  obtain ⟨fs, e3, q⟩ := Option.bind_eq_some_iff.mp q
  have e2' := slotOf_eq e2
  subst e2'
  dsimp only at q
  split at q
  · rename_i d e4
    cases q
    refine PE.weak (pe_fldR (he.run F _ _ _ j e1) hb) fun σ H Q ⟨hd, S, k⟩ => ⟨hd, S, fun v H1 x1 r1 S1 => ?_⟩
    cases r1 with
    | slot hv =>
      rw [hp_slot] at S1
      obtain ⟨p, dx, vs, rfl, h1, h2, h3, _⟩ := S1.insO e3 hv
      obtain ⟨v', l, w'⟩ := h2.lookFz e4
      exact ⟨p, _, dx, vs, v', rfl, .inl h1, hc, hna, l, k v' H1 x1 (.fz w') (by rw [hp_fz]; exact S1)⟩
  · cases q
/-- x.f, all of x frozen -/
def eFldF (c f : Str) (fe : DX) : DX := fun ds => Option.bind (fe ds) fun p => Option.bind (frR p.1 p.2) fun q => match q.1 with
  | .ins c' fs => if c' = c then Option.bind (fs.lookup f) fun x => some (.fz x, q.2) else none
  | _ => none
theorem d_fldF {c g : Str} (hc : Cls X.K (He.ga X.K c)) (hna : NoAttr X.K (He.ga X.K c) g) (he : DE X io e fe) (hb : attributeBase e g X.env (eval e X.env) = eval e X.env := by rfl) : DE X io (.Attribute e g pos) (eFldF c g fe) := by
  refine ⟨fun F ds r ds' j q => ?_⟩
  unfold eFldF at q
  obtain ⟨⟨r1, ds1⟩, e1, q⟩ := Option.bind_eq_some_iff.mp q
  obtain ⟨⟨d2, ds2⟩, e2, q⟩ := Option.bind_eq_some_iff.mp q
  dsimp only at q
  split at q
  · rename_i c' fs
    by_cases hcc : c' = c
    · rw [if_pos hcc] at q
      obtain ⟨d, e3, q⟩ := Option.bind_eq_some_iff.mp q
      cases q
      subst hcc
      refine PE.weak (pe_fldR (pe_frz (he.run F _ _ _ j e1)) hb) fun σ H Q ⟨hd, S, k⟩ => ⟨hd, S, fun v H1 x1 r1 S1 => ?_⟩
      obtain ⟨ps, k1⟩ := fr1 r1 S1 e2
      refine ⟨ps, k1.mono fun H2 ⟨x2, w, S2⟩ => ?_⟩
      cases w with
      | @ins a ob dx _ vs _ h2 w2 =>
        obtain ⟨v', l, w'⟩ := w2.look e3
        exact ⟨a, _, dx, vs, v', rfl, .inr ⟨_, h2⟩, hc, hna, l, k v' H2 (x1.trans x2) (.fz w') (by rw [hp_fz]; exact S2)⟩
    · rw [if_neg hcc] at q; cases q
  · cases q
/-- the instance of slot i with a field put, at hand in the state -/
theorem SRel.putO {F : Fx} {ds : DS} {σ : Sg} {H : Hp} {hd : List (Addr × HO)} {i : Nat} {c g : Str} {fs : List (Str × SF)} {p dx : Addr} {vs : List (Str × V)} {v : V} {d : D} (S : SRel X.kx F ds σ H hd) (h : insOAt c ds i = some fs) (hv : σ[i]? = some (some (.ref p))) (h1 : H p = some (.ins (He.ga X.K c) dx vs)) (w : Fz X.kx H v d) :
    Ext H (upd H p (.ins (He.ga X.K c) dx (putF g v vs))) ∧ SRel X.kx F (ds.set i (some (.own (.insO c (putSF g (.fz d) fs))))) σ (upd H p (.ins (He.ga X.K c) dx (putF g v vs))) hd := by
  obtain ⟨p', dx', vs', e1, h1', h2, h3, h4⟩ := S.insO h hv
  cases e1
  rw [h1] at h1'; cases h1'
  have x : Ext H (upd H p (.ins (He.ga X.K c) dx (putF g v vs))) := Ext.bx h1 trivial
  obtain ⟨n1, n2⟩ := List.nodup_cons.mp h3
  have r := OwF.put (f := g) (s := .fz d) (v := v) w h2
  obtain ⟨k1, k2⟩ := kids_put (f := g) (s := .fz d) (v := v) h2 (by exact n2)
  have k2' : ∀ a ∈ kidsF (putF g v vs) (putSF g (.fz d) fs), a ∈ kidsF vs fs := fun a m => (k2 a m).resolve_left (fun z => by cases z)
  have r' := r.keep x fun a m => upd_ne (fun z => n1 (z ▸ k2' a m))
  have ow : Ow X.kx (upd H p (.ins (He.ga X.K c) dx (putF g v vs))) p (.insO c (putSF g (.fz d) fs)) := .insO upd_same r' (List.nodup_cons.mpr ⟨fun m => n1 (k2' p m), k1⟩)
  refine ⟨x, S.chg (insOAt_eq h) hv x (fun a o ea m => ?_) (fun a m => ?_) (.own ow) fun a m => .inl ?_⟩
  · rw [h4] at m
    rw [upd_ne (fun z : a = p => m (by rw [z]; exact List.mem_cons_self))]; exact ea
  · by_cases z : a = p
    · subst z; exact ⟨_, upd_same⟩
    · rw [h4] at m
      rcases List.mem_cons.mp m with e | m
      · exact absurd e z
      · obtain ⟨o, eo, _⟩ := h2.at_ m
        exact ⟨o, by rw [upd_ne z]; exact eo⟩
  · rw [h4]
    have m : a ∈ feet (upd H p (.ins (He.ga X.K c) dx (putF g v vs))) p (.insO c (putSF g (.fz d) fs)) := m
    rw [feet_insO _ _ upd_same] at m
    rcases List.mem_cons.mp m with e | m
    · rw [e]; exact List.mem_cons_self
    · exact List.mem_cons_of_mem _ (k2' a m)
/-- o.g = e, a frozen value -/
def sFldSetO (c g : Str) (fo fv : DX) : DSm := fun ds => Option.bind (fv ds) fun p => Option.bind (frR p.1 p.2) fun q => Option.bind (fo q.2) fun z => Option.bind (slotOf z.1) fun i => Option.bind (insOAt c z.2 i) fun fs =>
  if fs.length < 1000 then some (.nx, z.2.set i (some (.own (.insO c (putSF g (.fz q.1) fs))))) else none
theorem ds_fldO {c g : Str} (hc : Cls X.K (He.ga X.K c)) (hna : NoAttr X.K (He.ga X.K c) g) (ho : DE X io o fo) (hv : DE X io value fv) (hs : swapsWith value (some (.Attribute o g tpos)) pos.line X.env = pure false := by rfl) : DStm X io (.Assign [.Attribute o g tpos] value pos) (sFldSetO c g fo fv) := by
  refine ⟨fun F ds fl ds' j q => ?_⟩
  unfold sFldSetO at q
  obtain ⟨⟨r1, ds1⟩, e1, q⟩ := Option.bind_eq_some_iff.mp q
  obtain ⟨⟨d, ds2⟩, e2, q⟩ := Option.bind_eq_some_iff.mp q
  obtain ⟨⟨r3, ds3⟩, e3, q⟩ := Option.bind_eq_some_iff.mp q
  obtain ⟨i, e4, q⟩ := Option.bind_eq_some_iff.mp q
  obtain ⟨fs, e5, q⟩ := Option.bind_eq_some_iff.mp q
  have e4' := slotOf_eq e4
  subst e4'
  dsimp only at q
  by_cases hl : fs.length < 1000
  · rw [if_pos hl] at q
    cases q
    refine PS.weak (ps_fld (ho.run F _ _ _ j e3) (pe_frz (hv.run F _ _ _ j e1)) hs) fun D σ H h => ?_
    refine ⟨[], h.1, fun y H1 x1 r1 S1 => ?_⟩
    obtain ⟨ps, k1⟩ := fr1 r1 S1 e2
    refine ⟨ps, k1.mono fun H2 ⟨x2, w, S2⟩ => ⟨[], S2, fun v H3 x3 r3 S3 => ?_⟩⟩
    cases r3 with
    | slot hv =>
      rw [hp_slot] at S3
      have S3 : SRel X.kx F ds3 σ H3 [] := S3
      obtain ⟨p, dx, vs, rfl, h1, h2, h3, _⟩ := S3.insO e5 hv
      obtain ⟨x4, S4⟩ := SRel.putO (g := g) S3 e5 hv h1 (w.ext x3)
      exact ⟨p, _, dx, vs, rfl, h1, hc, hna, by rw [h2.len]; exact hl, h.2 σ _ (((x1.trans x2).trans x3).trans x4) S4⟩
  · rw [if_neg hl] at q; cases q
/-- o.g op= e, a frozen field -/
def sAugO (c g : Str) (gg : D → D → Option R) (fo fe : DX) : DSm := fun ds => Option.bind (fo ds) fun p => Option.bind (slotOf p.1) fun i => Option.bind (insOAt c p.2 i) fun fs => match fs.lookup g with
  | some (.fz dx) => Option.bind (fe p.2) fun q => Option.bind (q.1.val q.2) fun dy => Option.bind (gg dx dy) fun r => (match r with
    | .fz d => Option.bind (insOAt c q.2 i) fun fs2 => if fs2.length < 1000 then some (.nx, q.2.set i (some (.own (.insO c (putSF g (.fz d) fs2))))) else none
    | _ => none)
  | _ => none
theorem ds_augO {c g : Str} {op : Operator} {gg : D → D → Option R} (hc : Cls X.K (He.ga X.K c)) (hna : NoAttr X.K (He.ga X.K c) g) (hop : OpD X (inplaceOp op) gg) (ho : DE X io o fo) (he : DE X io e fe) : DStm X io (.AugAssign (.Attribute o g tpos) op e pos) (sAugO c g gg fo fe) := by
  refine ⟨fun F ds fl ds' j q => ?_⟩
  unfold sAugO at q
  obtain ⟨⟨r1, ds1⟩, e1, q⟩ := Option.bind_eq_some_iff.mp q
  obtain ⟨i, e2, q⟩ := Option.bind_eq_some_iff.mp q
  obtain ⟨fs, e3, q⟩ := Option.bind_eq_some_iff.mp q
  have e2' := slotOf_eq e2
  subst e2'
  dsimp only at q
  split at q
  · rename_i dx el
    obtain ⟨⟨r2, ds2⟩, e4, q⟩ := Option.bind_eq_some_iff.mp q
    obtain ⟨dy, e5, q⟩ := Option.bind_eq_some_iff.mp q
    obtain ⟨r, e6, q⟩ := Option.bind_eq_some_iff.mp q
    dsimp only at q
    split at q
    · rename_i d
      obtain ⟨fs2, e7, q⟩ := Option.bind_eq_some_iff.mp q
      by_cases hl : fs2.length < 1000
      · rw [if_pos hl] at q
        cases q
        obtain ⟨ns, rl, hop', hrl⟩ := hop.run dx dy _ e6
        refine PS.weak (ps_fldaug (ho.run F _ _ _ j e1) (he.run F _ _ _ j e4) (rd := rl) hop') fun D σ H h => ?_
        refine ⟨[], h.1, fun v H1 x1 r1 S1 => ?_⟩
        cases r1 with
        | slot hv =>
          rw [hp_slot] at S1
          have S1 : SRel X.kx F ds1 σ H1 [] := S1
          obtain ⟨p, dx', vs, rfl, h1, h2, h3, _⟩ := S1.insO e3 hv
          obtain ⟨v', l, w'⟩ := h2.lookFz el
          refine ⟨p, _, dx', vs, v', rfl, h1, hc, hna, l, [], S1, fun y H2 x2 ry S2 => ?_⟩
          have S2' := S2.drop (List.sublist_append_right _ _)
          refine hrl v' y H2 _ (.inl (w'.ext x2)) (ry.rp S2 e5) fun z H3 sm wz => ?_
          have S3 := S2'.grow sm
          obtain ⟨p3, dx3, vs3, e8, h13, h23, h33, _⟩ := S3.insO e7 hv
          cases e8
          obtain ⟨x4, S4⟩ := SRel.putO (g := g) S3 e7 hv h13 wz
          exact ⟨dx3, vs3, h13, by rw [h23.len]; exact hl, h.2 σ _ ((x1.trans x2).trans ((Ext.of_same sm).trans x4)) S4⟩
      · rw [if_neg hl] at q; cases q
    · cases q
  · cases q
end
end DL
/-! DL24: lists that an instance owns led on; own lists stored in fields; methods of own classes. -/
namespace DL
open PySem PySem.Spec PyProof.Rows L2
section
variable {X : Cx} {io : Bool} {k : Nat} {f C : Addr} {fd : FuncData} {ps : List Str} {x m name : Str} {p pos apos tpos cpos : Pos} {e o value : Expr} {es : List Expr} {fa fe fo fv : DX} {fs : DAs} {n : Nat} {idn : String}
/-- arguments read whatever the def's frame is -/
theorem da_any {ds ds' : DS} {rs : List R} (ha : DA X io es fs) (e1 : fs ds = some (rs, ds')) : PA X es (fun σ H Q => ∃ F, IoOk F io ∧ tFrzA (tDA X.kx F ds rs ds') σ H Q) :=
  ⟨fun pos pins s σ H Q I ⟨F, j, h⟩ => (pa_frz (ha.run F _ _ _ j e1)).run pos pins s σ H Q I h⟩
/-- x.f.m(e, ..), x.f a list that x owns; the arguments don't name x -/
def eLMF (c f : Str) (g : GL) (fo : DX) (fs : DAs) : DX := fun ds => Option.bind (fo ds) fun p => Option.bind (slotOf p.1) fun i => Option.bind (insOAt c p.2 i) fun fl => match fl.lookup f with
  | some (.lst l) => Option.bind (fs (p.2.set i none)) fun q => Option.bind (frRs q.1 q.2) fun z => if (match z.2[i]? with
      | some none => true
      | _ => false) = true then Option.bind (g l z.1) fun y => some (.fz y.1, z.2.set i (some (.own (.insO c (putSF f (.lst y.2) fl))))) else none
  | _ => none
theorem lent {K : Kx} {F : Fx} {ds : DS} {σ : Sg} {H : Hp} {hd : List (Addr × HO)} (S : SRel K F ds σ H hd) {i : Nat} {ob : Ob} {p : Addr} (h : ds[i]? = some (some (.own ob))) (hp : σ[i]? = some (some (V.ref p))) :
    SRel K (F.lend (feet H p ob)) (ds.set i none) σ H (hpO H (feet H p ob) ++ hd) ∧ (hpO H (feet H p ob)).map (·.1) = feet H p ob ∧ (∀ a ∈ feet H p ob, F.H0 a = none ∨ (i = 0 ∧ F.isJ a)) ∧ (∀ p, F.J = some p → σ[0]? = some (some (V.ref p))) ∧ ∀ a o, (a, o) ∈ hd → F.H0 a = none ∧ ¬ F.isJ a := by
  obtain ⟨q, e1, w⟩ := S.own h
  rw [hp] at e1; cases e1
  have hm := hpO_map (H := H) (l := feet H p ob) fun a m => by
    obtain ⟨o, e, _⟩ := w.feetAt m
    exact ⟨o, e⟩
  refine ⟨S.lend h hp hm fun a o m => (hpO_mem m).2, hm, fun a m => S.new i a (by rw [fts_own h hp]; exact m), fun q e => (S.prot q e).1, fun a o m => ?_⟩
  obtain ⟨_, h2, h3, _⟩ := S.held a o m
  exact ⟨h2, h3⟩
theorem lmF_end {F : Fx} {ds1 ds2 : DS} {σ : Sg} {H0 H1 H2 : Hp} {hd : List (Addr × HO)} {i : Nat} {c f : Str} {fl : List (Str × SF)} {l l' dd : List D} {d : D} {p q dx : Addr} {vs0 : List (Str × V)} {vs : List V} {Q : VK} {rl : V → List V → Hp → VK → Prop}
    (S1 : SRel X.kx F ds1 σ H1 hd) (hi : insOAt c ds1 i = some fl) (hv : σ[i]? = some (some (.ref p))) (h1 : H1 p = some (.ins (He.ga X.K c) dx vs0)) (hl : fl.lookup f = some (.lst l)) (hq : vs0.lookup f = some (.ref q)) (x : Ext H0 H1) (x2 : Ext H1 H2)
    (S2 : SRel X.kx (F.lend (feet H1 p (.insO c fl))) ds2 σ H2 (hpO H1 (feet H1 p (.insO c fl)) ++ hd)) (h0 : ds2[i]? = some none) (fv : FzL X.kx H2 vs dd)
    (hrl : ∀ p xs vs H Q, H p = some (.lst xs) → FzL X.kx H xs l → FzL X.kx H vs dd → (∀ v xs', Fz X.kx H v d → FzL X.kx H xs' l' → Q v (upd H p (.lst xs'))) → rl (.ref p) vs H Q)
    (k : ∀ v H', Ext H0 H' → RRel X.kx σ H' v (.fz d) → SRel X.kx F (ds2.set i (some (.own (.insO c (putSF f (.lst l') fl))))) σ H' (hp H' v (.fz d) ++ hd) → Q v H') : rl (.ref q) vs H2 Q := by
  obtain ⟨p', dx', vs', e1, h1', h2, h3, h4⟩ := S1.insO hi hv
  cases e1
  rw [h1] at h1'; cases h1'
  obtain ⟨_, hm, hnew, hprot, hhd⟩ := lent S1 (insOAt_eq hi) hv
  obtain ⟨q', e2, mq, us, hus, wus⟩ := h2.lookKid (fun d z => by cases z) hl
  rw [hq] at e2; cases e2
  have same : ∀ a ∈ feet H1 p (.insO c fl), H2 a = H1 a := fun a m => by
    have m2 := m
    rw [h4] at m2
    have ex : ∃ o, H1 a = some o := by
      rcases List.mem_cons.mp m2 with e | m2
      · rw [e]; exact ⟨_, h1⟩
      · obtain ⟨o, e, _⟩ := h2.at_ m2
        exact ⟨o, e⟩
    obtain ⟨o, eo⟩ := ex
    rw [(S2.held a o (List.mem_append_left _ (hpO_all eo m))).1, eo]
  have inp : p ∈ feet H1 p (.insO c fl) := by rw [h4]; exact List.mem_cons_self
  have ink : ∀ a ∈ kidsF vs0 fl, a ∈ feet H1 p (.insO c fl) := fun a m => by rw [h4]; exact List.mem_cons_of_mem _ m
  have hp2 : H2 p = some (.ins (He.ga X.K c) dx vs0) := (same p inp).trans h1
  have hq2 : H2 q = some (.lst us) := (same q (ink q mq)).trans hus
  obtain ⟨n1, n2⟩ := List.nodup_cons.mp h3
  have r2 : OwF X.kx H2 vs0 fl := h2.keep x2 fun a m => same a (ink a m)
  refine hrl q us vs H2 Q hq2 (wus.ext x2) fv fun v xs' w w' => ?_
  have xx : Ext H2 (upd H2 q (.lst xs')) := Ext.bx hq2 trivial
  obtain ⟨u1, u2⟩ := OwF.upd (f := f) (s := .lst l) (s' := .lst l') (fun d z => by cases z) (fun d z => by cases z) xx ⟨xs', upd_same, w'.ext xx⟩ r2 n2 hl hq
  have hpq : p ≠ q := fun z => n1 (z ▸ mq)
  have hp3 : (upd H2 q (.lst xs')) p = some (.ins (He.ga X.K c) dx vs0) := by rw [upd_ne hpq]; exact hp2
  have ow : Ow X.kx (upd H2 q (.lst xs')) p (.insO c (putSF f (.lst l') fl)) := .insO hp3 u1 (by rw [u2]; exact h3)
  have S3 := SRel.back (F := F) S2 hm h0 hv hnew hprot hhd xx (fun b hb => upd_ne (fun z : b = q => hb (by rw [z]; exact ink q mq))) (fun b hb => ?_) (.own ow) (fun a m => by
    rw [feet_insO _ _ hp3, u2] at m
    rw [h4]
    exact m)
  · exact k v _ ((x.trans x2).trans xx) (.fz (w.ext xx)) (by rw [hp_fz]; exact S3)
  · by_cases z : b = q
    · subst z; exact ⟨_, upd_same⟩
    · rw [h4] at hb
      rcases List.mem_cons.mp hb with e | hb
      · rw [e]; exact ⟨_, hp3⟩
      · obtain ⟨o, e, _⟩ := r2.at_ hb
        exact ⟨o, by rw [upd_ne z]; exact e⟩
theorem slotNone {ds : DS} {i : Nat} (h : (match ds[i]? with
      | some none => true
      | _ => false) = true) : ds[i]? = some none := by
  split at h
  · assumption
  · cases h
theorem d_lmF {c f : Str} {g : GL} (hg : LstD X idn g) (pa : PlainAttrs "list") (slot : Slot "list" name idn) (hty : typeOf (.builtin idn) = pure (.type "method_descriptor")) (hc : Cls X.K (He.ga X.K c)) (hna : NoAttr X.K (He.ga X.K c) f) (ho : DE X io o fo) (ha : DA X io (e :: es) fs)
    (hb : attributeBase o f X.env (eval o X.env) = eval o X.env := by rfl)
    (hbase : attributeBase (.Attribute o f tpos) name X.env (eval (.Attribute o f tpos) X.env) = eval (.Attribute o f tpos) X.env := by rfl)
    (hfew : ((backTo cpos (starEach (e :: es) X.env)).all (fun x => !x.1) && (backToKw cpos (keywordEach [] X.env)).all (fun x => x.1.isSome)
      && decide ((e :: es).length + ([] : List Keyword).length + (if ([] : List Keyword).isEmpty then 0 else 1) < 30)) = true := by rfl)
    (hline : (apos.endLine == cpos.line) = true := by rfl) (hs : starEach (e :: es) X.env = (false, eval e X.env) :: starEach es X.env := by rfl) (hplain : (backTo cpos (starEach es X.env)).any (·.1) = false := by rfl) :
    DE X io (.Call (.Attribute (.Attribute o f tpos) name apos) (e :: es) [] cpos) (eLMF c f g fo fs) := by
  refine ⟨fun F ds r ds' j q => ?_⟩
  unfold eLMF at q
  obtain ⟨⟨r1, ds1⟩, e1, q⟩ := Option.bind_eq_some_iff.mp q
  obtain ⟨i, e2, q⟩ := Option.bind_eq_some_iff.mp q
  obtain ⟨fl, e3, q⟩ := Option.bind_eq_some_iff.mp q
  have e2' := slotOf_eq e2
  subst e2'
  dsimp only at q
  split at q
  · rename_i l el
    obtain ⟨⟨rs, ds2⟩, e4, q⟩ := Option.bind_eq_some_iff.mp q
    obtain ⟨⟨dd, ds3⟩, e5, q⟩ := Option.bind_eq_some_iff.mp q
    dsimp only at q
    by_cases hn : (match ds3[i]? with
      | some none => true
      | _ => false) = true
    · rw [if_pos hn] at q
      obtain ⟨⟨d, l'⟩, e6, q⟩ := Option.bind_eq_some_iff.mp q
      cases q
      obtain ⟨rl, hm, hrl⟩ := hg.run l dd d l' e6
      refine PE.weak (pe_bm pa slot hty hm (pe_fldR (ho.run F _ _ _ j e1) hb) (da_any ha e4) hbase hfew hline hs hplain) fun σ H Q ⟨hd, S, kq⟩ => ⟨hd, S, fun v H1 x1 r1 S1 => ?_⟩
      cases r1 with
      | slot hv =>
        rw [hp_slot] at S1
        have S1 : SRel X.kx F ds1 σ H1 hd := S1
        obtain ⟨p, dx, vs0, rfl, h1, h2, h3, h4⟩ := S1.insO e3 hv
        obtain ⟨q, e7, mq, us, hus, wus⟩ := h2.lookKid (fun d z => by cases z) el
        refine ⟨p, _, dx, vs0, .ref q, rfl, .inl h1, hc, hna, e7, .inl ⟨rfl, us, SqL.of hus⟩, ?_⟩
        obtain ⟨SL, _⟩ := lent S1 (insOAt_eq e3) hv
        refine ⟨F.lend (feet H1 p (.insO c fl)), .inl rfl, _, SL, fun vs H2 x2 r2 S2 => ?_⟩
        obtain ⟨ps, k1⟩ := frs r2 S2 e5
        refine ⟨ps, k1.mono fun H3 ⟨x3, f3, S3⟩ => ?_⟩
        exact lmF_end S1 e3 hv h1 el e7 x1 (x2.trans x3) S3 (slotNone hn) f3 hrl kq
    · rw [if_neg hn] at q; cases q
  · cases q
/-- o.g = e, a new list or dict that o is to own -/
def sFldSetK (c g : Str) (fo fv : DX) : DSm := fun ds => Option.bind (fv ds) fun p => Option.bind (fo p.2) fun z => Option.bind (slotOf z.1) fun i => Option.bind (insOAt c z.2 i) fun fs => if fs.length < 1000 then (match p.1 with
  | .own (.lst l) => some (.nx, z.2.set i (some (.own (.insO c (putSF g (.lst l) fs)))))
  | .own (.dct t es) => some (.nx, z.2.set i (some (.own (.insO c (putSF g (.dct t es) fs)))))
  | _ => none) else none
theorem SRel.putK {F : Fx} {ds : DS} {σ : Sg} {H : Hp} {hd : List (Addr × HO)} {i : Nat} {c g : Str} {fs : List (Str × SF)} {p q dx : Addr} {u : HO} {vs : List (Str × V)} {s : SF} (S : SRel X.kx F ds σ H ((q, u) :: hd)) (h : insOAt c ds i = some fs) (hv : σ[i]? = some (some (.ref p))) (h1 : H p = some (.ins (He.ga X.K c) dx vs)) (hs : ∀ d, s ≠ .fz d) (w : KidAt X.kx H q s) :
    Ext H (upd H p (.ins (He.ga X.K c) dx (putF g (.ref q) vs))) ∧ SRel X.kx F (ds.set i (some (.own (.insO c (putSF g s fs))))) σ (upd H p (.ins (He.ga X.K c) dx (putF g (.ref q) vs))) hd := by
  obtain ⟨p', dx', vs', e1, h1', h2, h3, h4⟩ := S.insO h hv
  cases e1
  rw [h1] at h1'; cases h1'
  have x : Ext H (upd H p (.ins (He.ga X.K c) dx (putF g (.ref q) vs))) := Ext.bx h1 trivial
  obtain ⟨n1, n2⟩ := List.nodup_cons.mp h3
  obtain ⟨q1, q2, q3, q4, q5⟩ := S.held q u List.mem_cons_self
  have qf : q ∉ p :: kidsF vs fs := fun z => q5 i (by rw [fts_own (insOAt_eq h) hv, h4]; exact z)
  obtain ⟨qp, qk⟩ := not_or.mp (fun z => qf (List.mem_cons.mpr z))
  have ho : FldOk X.kx H (.ref q) s := by
    cases s with
    | fz d => exact absurd rfl (hs d)
    | lst l => exact ⟨q, rfl, w⟩
    | dct t es => exact ⟨q, rfl, w⟩
  have k1q : kid1 (.ref q) s = [q] := by
    cases s with
    | fz d => exact absurd rfl (hs d)
    | lst l => rfl
    | dct t es => rfl
  have r := OwF.put (f := g) ho h2
  obtain ⟨k1, k2⟩ := kids_put (f := g) (s := s) (v := .ref q) h2 (by rw [k1q]; exact List.nodup_cons.mpr ⟨qk, n2⟩)
  have k2' : ∀ a ∈ kidsF (putF g (.ref q) vs) (putSF g s fs), a = q ∨ a ∈ kidsF vs fs := fun a m => (k2 a m).imp (fun z => by rw [k1q] at z; exact List.mem_singleton.mp z) id
  have pk : p ∉ kidsF (putF g (.ref q) vs) (putSF g s fs) := fun m => by
    rcases k2' p m with z | z
    · exact qp z.symm
    · exact n1 z
  have r' := r.keep x fun a m => upd_ne (fun z : a = p => pk (by rw [← z]; exact m))
  have ow : Ow X.kx (upd H p (.ins (He.ga X.K c) dx (putF g (.ref q) vs))) p (.insO c (putSF g s fs)) := .insO upd_same r' (List.nodup_cons.mpr ⟨pk, k1⟩)
  refine ⟨x, SRel.chgH (hs := [(q, u)]) S (insOAt_eq h) hv x (fun a o ea m => ?_) (fun a m => ?_) (.own ow) fun a m => ?_⟩
  · rw [h4] at m
    rw [upd_ne (fun z : a = p => m (by rw [z]; exact List.mem_cons_self))]; exact ea
  · by_cases z : a = p
    · subst z; exact ⟨_, upd_same⟩
    · rw [h4] at m
      rcases List.mem_cons.mp m with e | m
      · exact absurd e z
      · obtain ⟨o, eo, _⟩ := h2.at_ m
        exact ⟨o, by rw [upd_ne z]; exact eo⟩
  · rw [h4]
    have m : a ∈ feet (upd H p (.ins (He.ga X.K c) dx (putF g (.ref q) vs))) p (.insO c (putSF g s fs)) := m
    rw [feet_insO _ _ upd_same] at m
    rcases List.mem_cons.mp m with e | m
    · rw [e]; exact .inl List.mem_cons_self
    · rcases k2' a m with z | z
      · exact .inr (.inr (List.mem_singleton.mpr z))
      · exact .inl (List.mem_cons_of_mem _ z)
theorem ds_fldK {c g : Str} (hc : Cls X.K (He.ga X.K c)) (hna : NoAttr X.K (He.ga X.K c) g) (ho : DE X io o fo) (hv : DE X io value fv) (hs : swapsWith value (some (.Attribute o g tpos)) pos.line X.env = pure false := by rfl) : DStm X io (.Assign [.Attribute o g tpos] value pos) (sFldSetK c g fo fv) := by
  refine ⟨fun F ds fl ds' j q => ?_⟩
  unfold sFldSetK at q
  obtain ⟨⟨r1, ds1⟩, e1, q⟩ := Option.bind_eq_some_iff.mp q
  obtain ⟨⟨r3, ds3⟩, e3, q⟩ := Option.bind_eq_some_iff.mp q
  obtain ⟨i, e4, q⟩ := Option.bind_eq_some_iff.mp q
  obtain ⟨fs, e5, q⟩ := Option.bind_eq_some_iff.mp q
  have e4' := slotOf_eq e4
  subst e4'
  by_cases hl : fs.length < 1000
  case neg => rw [if_neg hl] at q; cases q
  rw [if_pos hl] at q
  dsimp only at q
  -- what is stored, and that it stands
  have key : ∀ (ob : Ob) (s : SF), ob.simple = true → (∀ d, s ≠ .fz d) → (∀ {H : Hp} {a : Addr}, Ow X.kx H a ob → KidAt X.kx H a s) → r1 = .own ob → (fl = .nx ∧ ds' = ds3.set i (some (.own (.insO c (putSF g s fs))))) → PS X (.Assign [.Attribute o g tpos] value pos) (tDS X.kx F ds fl ds') := by
    intro ob s hob hsf hk er ef
    subst er
    obtain ⟨rfl, rfl⟩ := ef
    refine PS.weak (ps_fld (ho.run F _ _ _ j e3) (hv.run F _ _ _ j e1) hs) fun D σ H h => ?_
    refine ⟨[], h.1, fun y H1 x1 r1 S1 => ?_⟩
    cases r1 with
    | @own a _ w =>
      obtain ⟨u, eu, _⟩ := w.at_
      rw [hp_own _ eu hob] at S1
      refine ⟨_, S1, fun v H3 x3 r3 S3 => ?_⟩
      cases r3 with
      | slot hv =>
        rw [hp_slot] at S3
        have S3 : SRel X.kx F ds3 σ H3 ((a, u) :: []) := S3
        have ha : H3 a = some u := (S3.held a u List.mem_cons_self).1
        have w3 : Ow X.kx H3 a ob := w.keep x3 fun b m => by
          rw [feet_simple hob] at m
          rw [List.mem_singleton.mp m, ha, eu]
        obtain ⟨p, dx, vs, rfl, h1, h2, h3, _⟩ := S3.insO e5 hv
        obtain ⟨x4, S4⟩ := SRel.putK (g := g) S3 e5 hv h1 hsf (hk w3)
        exact ⟨p, _, dx, vs, rfl, h1, hc, hna, by rw [h2.len]; exact hl, h.2 σ _ ((x1.trans x3).trans x4) S4⟩
  split at q
  · cases q
    exact key (.lst _) (.lst _) rfl (fun d z => by cases z) (fun w => by cases w with | lst h r => exact ⟨_, h, r⟩) rfl ⟨rfl, rfl⟩
  · cases q
    exact key (.dct _ _) (.dct _ _) rfl (fun d z => by cases z) (fun w => by
      cases w with
      | dctK h r => exact ⟨_, h, r⟩
      | dctT h r => exact ⟨_, h, r⟩) rfl ⟨rfl, rfl⟩
  · cases q
/-- o.m(e, ..), o an instance of an own class in a slot, which m changes -/
def eMethO (c m : Str) (sem : Ob → List D → Option (SV × SV)) (fo : DX) (fa : DAs) : DX := fun ds => Option.bind (fo ds) fun p => Option.bind (slotOf p.1) fun i => Option.bind (insOAt c p.2 i) fun fl => if (fl.lookup m).isSome = true then none else
  Option.bind (fa p.2) fun a => Option.bind (frRs a.1 a.2) fun q => (match q.2[i]? with
    | some (some (.own ob)) => Option.bind (sem ob q.1) fun z => some (svR z.1, q.2.set i (some z.2))
    | _ => none)
theorem OwF.lookNone {K : Kx} {H : Hp} {f : Str} : ∀ {vs : List (Str × V)} {fs : List (Str × SF)}, OwF K H vs fs → fs.lookup f = none → vs.lookup f = none
  | [], _, _, _ => rfl
  | (g, v) :: vs, (g', s) :: fs, h, e => by
    obtain ⟨rfl, _, r⟩ := h.head
    rw [List.lookup_cons] at e ⊢
    cases hb : f == g with
    | true => simp only [hb] at e; cases e
    | false => simp only [hb] at e; exact OwF.lookNone r e
  | _ :: _, [], h, _ => by cases h
theorem d_methO {pl : Sem Bool} {c : Str} {sem : Ob → List D → Option (SV × SV)} (hc : Cls X.K (He.ga X.K c)) (hm : Meth X.K (He.ga X.K c) m f) (F : FnOk X.prog X.w X.K X.mg X.base CX0 k f fd ps (spIo X.kx n sem)) (hn : ∀ ob dd r, sem ob dd = some r → dd.length + 1 = n) (hr : Room k X.A) (hb : Binds X.K fd ps [])
    (ho : DE X io o fo) (ha : DA X io (e :: es) fs)
    (hst : starEach (e :: es) X.env = (false, eval e X.env) :: starEach es X.env := by rfl) (hpl : (backTo pos (starEach es X.env)).any (·.1) = false := by rfl)
    (ht : eval (.Call (.Attribute o m apos) (e :: es) [] pos) X.env = (do
      let ov ← eval o X.env
      standAt apos.atName
      let (f, first) ← holding [ov] (getMethod ov m pl)
      callWith pos f first (backTo pos (starEach (e :: es) X.env)) (backToKw pos (keywordEach [] X.env))) := by rfl) :
    DE X io (.Call (.Attribute o m apos) (e :: es) [] pos) (eMethO c m sem fo fs) := by
  refine ⟨fun F' ds r ds' j q => ?_⟩
  unfold eMethO at q
  obtain ⟨⟨r1, ds1⟩, e1, q⟩ := Option.bind_eq_some_iff.mp q
  obtain ⟨i, e2, q⟩ := Option.bind_eq_some_iff.mp q
  obtain ⟨fl, e3, q⟩ := Option.bind_eq_some_iff.mp q
  have e2' := slotOf_eq e2
  subst e2'
  dsimp only at q
  by_cases hno : (fl.lookup m).isSome = true
  · rw [if_pos hno] at q; cases q
  · rw [if_neg hno] at q
    obtain ⟨⟨rs, ds2⟩, e4, q⟩ := Option.bind_eq_some_iff.mp q
    obtain ⟨⟨dd, ds3⟩, e5, q⟩ := Option.bind_eq_some_iff.mp q
    dsimp only at q
    split at q
    · rename_i ob hi
      obtain ⟨⟨sv, s0⟩, e6, q⟩ := Option.bind_eq_some_iff.mp q
      cases q
      refine PE.weak (pe_meth (ho.run F' _ _ _ j e1) hc hm F hr hb .nil pass0 (pa_frz (ha.run F' _ _ _ j e4)) hst hpl ht) fun σ H Q ⟨hd, S, kq⟩ => ?_
      refine ⟨hd, S, fun v H1 x1 r1 S1 => ?_⟩
      cases r1 with
      | slot hv =>
        rw [hp_slot] at S1
        have S1 : SRel X.kx F' ds1 σ H1 hd := S1
        obtain ⟨p, dx, vs0, rfl, h1, h2, h3, h4⟩ := S1.insO e3 hv
        refine ⟨p, dx, vs0, rfl, h1, h2.lookNone (by cases z : fl.lookup m with | none => rfl | some _ => rw [z] at hno; exact absurd rfl hno), ?_⟩
        refine ⟨hd, S1, fun vs H2 x2 r2 S2 => ?_⟩
        obtain ⟨ps', k1⟩ := frs r2 S2 e5
        refine ⟨ps', k1.mono fun H3 ⟨x3, f3, S3⟩ => ?_⟩
        show spIo X.kx n sem (.ref p :: (vs ++ [])) H3 Q _
        rw [List.append_nil]
        exact callIo_end (hn _ _ _ e6) e6 ((x1.trans x2).trans x3) S3 hv hi f3 kq
    · cases q
end
end DL
set_option maxHeartbeats 4000000
/-! DL25: tuples and lists times ints; signs in texts; isinstance of one of many. -/
namespace DL
open PySem PySem.Spec PyProof.Rows L2
theorem tuple_mulSame (l : Addr) (items : Array Value) (n : Nat) (dd : Option Addr) (sl : Array (Option Value)) (x : Int) (u : Tok) (c0 : (decide (x < -(2 ^ 63)) || decide (x ≥ 2 ^ 63)) = false) (c1 : (items.isEmpty || x == 1) = true) :
    Meets (Builtin.«tuple.__mul__» ⟨[.ref l, .int x u], []⟩) (fun _ R s => s.heap.get? l = some { cls := .type "tuple", dict := dd, data := .seq items n, slots := sl } ∧ R (.ok (.ret (Value.ref l))) s) :=
  .of_wp fun prog w A R s h => by
    obtain ⟨hp, g, d, tk, os⟩ := s
    obtain ⟨hl, h⟩ := h
    have f1 := AutoSeq1.idx_int
    wp_walk using wpAny_loadPart' hl
    repeat (first
      | (refine wpAny_ite_false (decide_eq_false (by rw [c0]; exact Bool.false_ne_true)) ?_; wp_walk using wpAny_loadPart' hl)
      | (refine wpAny_ite_true (decide_eq_true c1) ?_; wp_walk using wpAny_loadPart' hl))
    exact ⟨_, rfl, h⟩
theorem tuple_mulNone (l : Addr) (items : Array Value) (n : Nat) (dd : Option Addr) (sl : Array (Option Value)) (x : Int) (u : Tok) (c0 : (decide (x < -(2 ^ 63)) || decide (x ≥ 2 ^ 63)) = false) (c1 : (items.isEmpty || x == 1) = false) (c2 : (decide (x ≤ 0) || items.isEmpty) = true) :
    Meets (Builtin.«tuple.__mul__» ⟨[.ref l, .int x u], []⟩) (fun _ R s => s.heap.get? l = some { cls := .type "tuple", dict := dd, data := .seq items n, slots := sl } ∧
      R (.ok (.ret (Value.ref s.heap.objs.size))) { s with heap := s.heap.push { cls := Value.type "tuple", data := Data.seq #[] }, toks := s.toks }) :=
  .of_wp fun prog w A R s h => by
    obtain ⟨hp, g, d, tk, os⟩ := s
    obtain ⟨hl, h⟩ := h
    have f1 := AutoSeq1.idx_int
    wp_walk using wpAny_loadPart' hl
    repeat (first
      | (refine wpAny_ite_false (decide_eq_false (by rw [c0]; exact Bool.false_ne_true)) ?_; wp_walk using wpAny_loadPart' hl)
      | (refine wpAny_ite_false (decide_eq_false (by rw [c1]; exact Bool.false_ne_true)) ?_; wp_walk using wpAny_loadPart' hl)
      | (refine wpAny_ite_true (decide_eq_true c2) ?_; wp_walk using wpAny_loadPart' hl))
    exact ⟨_, rfl, h⟩
end DL
namespace DL
open PySem PySem.Spec PyProof.Rows L2
theorem list_mulW (l : Addr) (items : Array Value) (n : Nat) (dd : Option Addr) (sl : Array (Option Value)) (x : Int) (u : Tok) (hc0 : ¬(!Builtin.List.listFitsIndex x) = true) (hc1 : ¬items.size * x.toNat > (2 ^ 63 - 1) / 8) (hc2 : ¬Builtin.List.listTooLong (items.size * x.toNat) = true) :
    Meets (Builtin.«list.__mul__» ⟨[.ref l, .int x u], []⟩) (fun _ R s => s.heap.get? l = some { cls := .type "list", dict := dd, data := .seq items n, slots := sl } ∧ R (.ok (.ret (Value.ref s.heap.objs.size))) { s with heap := s.heap.push { cls := Value.type "list", data := Data.seq (List.foldl (fun x1 x2 => x1 ++ x2) #[] (List.replicate (if items.isEmpty = true then 0 else x.toNat) items)) }, toks := s.toks }) :=
  .of_wp fun prog w A R s h => by
    obtain ⟨hp, g, d, tk, os⟩ := s; obtain ⟨hl, h⟩ := h
    have hsz := AutoListH.joined_fits hc2
    wp_walk using AutoSeq1.wpAny_loadPart' hl
    refine wpAny_ite_false (decide_eq_false (Nat.not_lt.mpr hsz)) ?_
    wp_walk using AutoSeq1.wpAny_loadPart' hl
    exact ⟨_, rfl, h⟩
theorem int_rmul_listW (a : Int) (t : Tok) (l : Addr) (items : Array Value) (n : Nat) (dd : Option Addr) (sl : Array (Option Value)) :
    Meets (Builtin.«int.__rmul__» ⟨[.int a t, .ref l], []⟩) (fun _ R s => s.heap.get? l = some { cls := .type "list", dict := dd, data := .seq items n, slots := sl } ∧ R (.ok (.ret Value.notImplemented)) s) :=
  .of_wp fun prog w A R s h => by obtain ⟨hp, g, d, tk, os⟩ := s; obtain ⟨hl, h⟩ := h; wp_walk using AutoSeq1.wpAny_loadPart' hl; exact ⟨_, rfl, h⟩
section
variable {X : Cx}
def okRep (n : Nat) (k : Int) : Bool := decide (-(1000 : Int) ≤ k) && decide (k ≤ 1000) && decide (n ≤ 1000)
def gMulX : D → D → Option R
  | .int i, .int j => if cMul i j = true then some (.fz (.int (i * j))) else none
  | .tup xs, .int k => if okRep xs.length k = true then some (.fz (.tup (List.replicate k.toNat xs).flatten)) else none
  | .lst xs, .int k => if okRep xs.length k = true then some (.own (.lst (List.replicate k.toNat xs).flatten)) else none
  | _, _ => none
def rRepX (K : PySem.W.Frag) : R2 := fun x y H Q => ∃ l k xs, x = .ref l ∧ y = .int k ∧ SqT K H l xs ∧ okRep xs.length k = true ∧ ((xs = [] ∨ k = 1) → Q (.ref l) H) ∧ (xs ≠ [] → k ≠ 1 → ∀ p, H p = none → Q (.ref p) (upd H p (.tup (List.replicate k.toNat xs).flatten)))
theorem okRep_iff {n : Nat} {k : Int} (h : okRep n k = true) : -(1000 : Int) ≤ k ∧ k ≤ 1000 ∧ n ≤ 1000 := by
  unfold okRep at h
  simp only [Bool.and_eq_true, decide_eq_true_eq] at h
  exact ⟨h.1.1, h.1.2, h.2⟩
theorem op_repX : OpR X (binaryOp .Mult) (rRepX X.K) := by
  intro pins s σ H x y v u Q I rx ry h
  obtain ⟨l, k, xs, rfl, rfl, hT, hok, q1, q2⟩ := h
  obtain ⟨b1, b2, b3⟩ := okRep_iff hok
  cases rx
  obtain ⟨t, rfl⟩ := ry
  obtain ⟨its, r, ⟨⟨cls, dd, data, sl⟩, ho, hc, n, hd⟩, hs⟩ := I.tuple hT
  simp only at hc hd
  subst hc hd
  have hle : its.length = xs.length := r.length.symm
  have hem : its.toArray.isEmpty = xs.isEmpty := by
    cases its with
    | nil => cases xs with
      | nil => rfl
      | cons _ _ => simp at hle
    | cons a b => cases xs with
      | nil => simp at hle
      | cons _ _ => rfl
  have c0 : (decide (k < -(2 ^ 63)) || decide (k ≥ 2 ^ 63)) = false := by
    rw [decide_eq_false (by omega), decide_eq_false (by omega)] <;> rfl
  by_cases hsame : (its.toArray.isEmpty || k == 1) = true
  · have hx : xs = [] ∨ k = 1 := by
      rw [Bool.or_eq_true, hem] at hsame
      rcases hsame with z | z
      · exact .inl (List.isEmpty_iff.mp z)
      · exact .inr (beq_iff_eq.mp z)
    refine wpAny_binaryOp_repeat_ref (T := "tuple") (U := "int") (by decide) ⟨_, ho, rfl⟩ (fun s' => typeIs_int s' k t) noFill_tuple_mul F.fills_int_mul F.slot_int_rmul repeat_tuple F.slot_int_index.lookup
      (call_meets F.slot_int_rmul (typeIs_int s k t) F.entry_int_rmul (F.args_int_rmul_2 _ _) (int_rmul_tuple k t l its.toArray n dd sl)
        ⟨ho, rfl, ⟨_, ho, rfl⟩, call_meets F.slot_tuple_mul ⟨_, ho, rfl⟩ F.entry_tuple_mul (F.args_tuple_mul_2 _ _) (tuple_mulSame l its.toArray n dd sl k t c0 hsame) ⟨ho, ?_⟩⟩)
    exact ⟨.ref l, H, I, rfl, q1 hx⟩
  · have hsame : (its.toArray.isEmpty || k == 1) = false := Bool.eq_false_iff.mpr hsame
    have hx : xs ≠ [] ∧ k ≠ 1 := by
      rw [Bool.or_eq_false_iff, hem] at hsame
      exact ⟨fun e => (by have h1 := hsame.1; rw [e] at h1; cases h1), fun e => (by have h1 := hsame.2; rw [e] at h1; cases h1)⟩
    have hi : its.toArray.isEmpty = false := (Bool.or_eq_false_iff.mp hsame).1
    have flen : (List.replicate k.toNat its).flatten.length ≤ sizeLine := by
      rw [PyProof.Rows.lm_len_rep_flat, hle, sizeLine_eq]
      have a1 : k.toNat * xs.length ≤ 1000 * 1000 := Nat.mul_le_mul (by omega) b3
      omega
    have fin : ∀ Q' : Value → Shared → Prop, (∀ a s', Q' a s' → True) → True := fun _ _ => trivial
    by_cases h0 : k ≤ 0
    · have c2 : (decide (k ≤ 0) || its.toArray.isEmpty) = true := by rw [decide_eq_true h0]; rfl
      refine wpAny_binaryOp_repeat_ref (T := "tuple") (U := "int") (by decide) ⟨_, ho, rfl⟩ (fun s' => typeIs_int s' k t) noFill_tuple_mul F.fills_int_mul F.slot_int_rmul repeat_tuple F.slot_int_index.lookup
        (call_meets F.slot_int_rmul (typeIs_int s k t) F.entry_int_rmul (F.args_int_rmul_2 _ _) (int_rmul_tuple k t l its.toArray n dd sl)
          ⟨ho, rfl, ⟨_, ho, rfl⟩, call_meets F.slot_tuple_mul ⟨_, ho, rfl⟩ F.entry_tuple_mul (F.args_tuple_mul_2 _ _) (tuple_mulNone l its.toArray n dd sl k t c0 hsame c2) ⟨ho, ?_⟩⟩)
      have e0 : (List.replicate k.toNat xs).flatten = [] := by
        rw [show k.toNat = 0 from by omega]
        rfl
      have qq := q2 hx.1 hx.2 s.heap.objs.size (I.hok.fresh (Nat.le_refl _))
      rw [e0] at qq
      refine ⟨.ref s.heap.objs.size, _, I.laid (t' := s.toks) (o := .tup []) (fun b ob q => Heap.get?_push_of_some _ q) (Nat.le_refl _) ?_, rfl, qq⟩
      exact ⟨by rw [sizeLine_eq]; exact Nat.zero_le _, [], .nil, IsTup.new _ _⟩
    · have c2 : (decide (k ≤ 0) || its.toArray.isEmpty) = false := by
        rw [hi, Bool.or_false]
        exact decide_eq_false h0
      have hsz0 : its.toArray.size = xs.length := by rw [List.size_toArray, hle]
      have hm : ((its.toArray.size : Nat) : Int) * k ≤ 1000000 := by
        rw [hsz0]
        have a1 : ((xs.length : Nat) : Int) * k ≤ 1000 * k := Int.mul_le_mul_of_nonneg_right (by omega) (by omega)
        omega
      have c4 : Builtin.Tuple.tupleTooMany (((its.toArray.size : Nat) : Int) * k) = false := by
        unfold Builtin.Tuple.tupleTooMany
        rw [sizeLine_eq]
        exact decide_eq_false (by omega)
      refine wpAny_binaryOp_repeat_ref (T := "tuple") (U := "int") (by decide) ⟨_, ho, rfl⟩ (fun s' => typeIs_int s' k t) noFill_tuple_mul F.fills_int_mul F.slot_int_rmul repeat_tuple F.slot_int_index.lookup
        (call_meets F.slot_int_rmul (typeIs_int s k t) F.entry_int_rmul (F.args_int_rmul_2 _ _) (int_rmul_tuple k t l its.toArray n dd sl)
          ⟨ho, rfl, ⟨_, ho, rfl⟩, call_meets F.slot_tuple_mul ⟨_, ho, rfl⟩ F.entry_tuple_mul (F.args_tuple_mul_2 _ _) (tuple_mulW l its.toArray n dd sl k t c0 hsame c2 (by omega) c4 (by rw [size_rep, List.size_toArray]; exact flen)) ⟨ho, ?_⟩⟩)
      rw [size_rep]
      refine ⟨.ref s.heap.objs.size, _, I.laid (t' := s.toks) (o := .tup (List.replicate k.toNat xs).flatten) (fun b ob q => Heap.get?_push_of_some _ q) (Nat.le_refl _) ?_, rfl, q2 hx.1 hx.2 _ (I.hok.fresh (Nat.le_refl _))⟩
      exact ⟨by rw [PyProof.Rows.lm_len_rep_flat, sizeLine_eq]; have a1 : k.toNat * xs.length ≤ 1000 * 1000 := Nat.mul_le_mul (by omega) b3; omega, _, r.rep k.toNat, IsTup.new _ _⟩
def rRepL (K : PySem.W.Frag) : R2 := fun x y H Q => ∃ l k xs, x = .ref l ∧ y = .int k ∧ LsX K H l xs ∧ okRep xs.length k = true ∧ ∀ p, H p = none → Q (.ref p) (upd H p (.lst (List.replicate k.toNat xs).flatten))
theorem op_repL : OpR X (binaryOp .Mult) (rRepL X.K) := by
  intro pins s σ H x y v u Q I rx ry h
  obtain ⟨l, k, xs, rfl, rfl, hH, hok, q⟩ := h
  obtain ⟨h1, h2, hz⟩ := okRep_iff hok
  cases rx
  obtain ⟨t, rfl⟩ := ry
  obtain ⟨z, its, n, sl, r, hl, e⟩ := hH.obj I
  have hz2 : xs.length * k.toNat ≤ 1000 * 1000 := Nat.mul_le_mul hz (by omega)
  have hlen : its.toArray.size * k.toNat ≤ sizeLine := by rw [List.size_toArray, ← hl, sizeLine_eq]; omega
  have hcap : ¬ its.toArray.size * k.toNat > (2 ^ 63 - 1) / 8 := by
    have : (sizeLine : Nat) ≤ (2 ^ 63 - 1) / 8 := by decide
    omega
  have hfit : ¬ (!Builtin.List.listFitsIndex k) = true := by
    rw [fitsIndex_both (by omega) (by omega)]
    exact Bool.false_ne_true
  have hlong : ¬ Builtin.List.listTooLong (its.toArray.size * k.toNat) = true := by
    rw [notLongL hlen]
    exact Bool.false_ne_true
  have hnew : List.foldl (fun x1 x2 => x1 ++ x2) #[] (List.replicate (if its.toArray.isEmpty = true then 0 else k.toNat) its.toArray) = (List.replicate k.toNat its).flatten.toArray := by
    have f0 : ∀ m : Nat, List.foldl (fun x1 x2 => x1 ++ x2) #[] (List.replicate m its.toArray) = (List.replicate m its).flatten.toArray := fun m => size_rep its m
    rw [f0]
    cases its with
    | nil => simp
    | cons a r' => rw [if_neg (by simp)]
  refine wpAny_binaryOp_repeat_ref (T := "list") (U := "int") (by decide) ⟨_, e, rfl⟩ (fun s' => typeIs_int s' k t) noFill_list_mul F.fills_int_mul F.slot_int_rmul repeat_list F.slot_int_index.lookup
    (call_meets F.slot_int_rmul (typeIs_int s k t) F.entry_int_rmul (F.args_int_rmul_2 _ _) (int_rmul_listW k t l its.toArray n none sl)
      ⟨e, rfl, ⟨_, e, rfl⟩, call_meets F.slot_list_mul ⟨_, e, rfl⟩ F.entry_list_mul (F.args_list_mul_2 _ _) (list_mulW l its.toArray n none sl k t hfit hcap hlong) ⟨e, ?_⟩⟩)
  rw [hnew]
  exact ⟨.ref _, _, I.lnew (t' := s.toks) (r.rep k.toNat) (by rw [PyProof.Rows.lm_len_rep_flat, Nat.mul_comm, sizeLine_eq]; omega), rfl, q _ I.fresh⟩
theorem FzL.flat {K : Kx} {H : Hp} {vs : List V} {ds : List D} (h : FzL K H vs ds) : ∀ n : Nat, FzL K H (List.replicate n vs).flatten (List.replicate n ds).flatten
  | 0 => .nil
  | n + 1 => by
    rw [List.replicate_succ, List.replicate_succ, List.flatten_cons, List.flatten_cons]
    exact h.app (FzL.flat h n)
theorem opd_mulX : OpD X (binaryOp .Mult) gMulX := by
  refine ⟨fun dx dy r e => ?_⟩
  unfold gMulX at e
  split at e
  · rename_i i j
    have h := (opd_mulI (X := X)).run (.int i) (.int j) r e
    exact h
  · rename_i xs k
    by_cases c : okRep xs.length k = true
    · rw [if_pos c] at e
      cases e
      refine ⟨fun i z => (by cases z), _, op_repX, fun x y H Q rx ry kk => ?_⟩
      obtain ⟨p, vs, rfl, hp, fp⟩ := rx.tup
      refine ⟨p, k, vs, rfl, ry.int, hp, by rw [fp.len]; exact c, fun z => ?_, fun z1 z2 q hq => ?_⟩
      · refine kk _ H (Same.refl H) ?_
        rcases z with rfl | rfl
        · cases fp
          have : (List.replicate k.toNat ([] : List D)).flatten = [] := by simp
          rw [this]
          exact .tup hp .nil
        · rw [show (List.replicate (1 : Int).toNat xs).flatten = xs from by simp]
          exact .tup hp fp
      · have sm := Same.new (o := .tup (List.replicate k.toNat vs).flatten) hq
        exact kk _ _ sm (.tup (SqT.of upd_same) ((fp.flat k.toNat).ext (.of_same sm)))
    · rw [if_neg c] at e; cases e
  · rename_i xs k
    by_cases c : okRep xs.length k = true
    · rw [if_pos c] at e
      cases e
      refine ⟨fun i z => (by cases z), _, op_repL, fun x y H Q rx ry kk => ?_⟩
      obtain ⟨p, vs, rfl, hp, fp⟩ := rx.lst
      refine ⟨p, k, vs, rfl, ry.int, hp, by rw [fp.len]; exact c, fun q hq => ?_⟩
      have sm := Same.new (o := .lst (List.replicate k.toNat vs).flatten) hq
      exact kk q _ _ sm hq upd_same (.lst upd_same ((fp.flat k.toNat).ext (.of_same sm)))
    · rw [if_neg c] at e; cases e
  · cases e
/-! ### a sign in a text -/
def gInS : D → D → Option R
  | .str ⟨cs⟩, .str z => (match cs.toList with
    | [c] => some (.fz (.bl (decide (c ∈ z.cps.toList))))
    | _ => none)
  | x, y => gInT x y
def gNotInS : D → D → Option R
  | .str ⟨cs⟩, .str z => (match cs.toList with
    | [c] => some (.fz (.bl (!decide (c ∈ z.cps.toList))))
    | _ => none)
  | x, y => gNotInT x y
def gSign : D → D → Option R
  | .str ⟨cs⟩, .str z => (match cs.toList with
    | [c] => some (.fz (.bl (decide (c ∈ z.cps.toList))))
    | _ => none)
  | _, _ => none
def gNoSign : D → D → Option R
  | .str ⟨cs⟩, .str z => (match cs.toList with
    | [c] => some (.fz (.bl (!decide (c ∈ z.cps.toList))))
    | _ => none)
  | _, _ => none
theorem one_cp {cs : Array Nat} {c : Nat} (h : cs.toList = [c]) : cs = #[c] := by
  cases cs with
  | mk l => cases h; rfl
theorem opd_sign : OpD X (compareOp .In) gSign := by
  refine ⟨fun dx dy r e => ?_⟩
  unfold gSign at e
  split at e
  · split at e
    · rename_i cs z _ c hc
      cases e
      refine ⟨fun i z => (by cases z), _, op_in_sign, fun x y H Q rx ry k => ⟨c, z, ?_, ry.str, k _ H (Same.refl H) (.bl _)⟩⟩
      rw [rx.str, one_cp hc]
    · cases e
  · cases e
theorem opd_noSign : OpD X (compareOp .NotIn) gNoSign := by
  refine ⟨fun dx dy r e => ?_⟩
  unfold gNoSign at e
  split at e
  · split at e
    · rename_i cs z _ c hc
      cases e
      refine ⟨fun i z => (by cases z), _, op_notIn_sign, fun x y H Q rx ry k => ⟨c, z, ?_, ry.str, k _ H (Same.refl H) (.bl _)⟩⟩
      rw [rx.str, one_cp hc]
    · cases e
  · cases e
end
end DL
/-! DL26: in, over texts as well; isinstance of two types; own methods by name. -/
namespace DL
open PySem PySem.Spec PyProof.Rows L2
section
variable {X : Cx} {io : Bool} {a b e o : Expr} {es : List Expr} {fa fb fo : DX} {fs : DAs} {p pos apos : Pos}
theorem gInS_or {dx dy : D} {r : R} (h : gInS dx dy = some r) : gSign dx dy = some r ∨ gInT dx dy = some r := by
  unfold gInS at h
  split at h
  · exact .inl h
  · exact .inr h
theorem gNotInS_or {dx dy : D} {r : R} (h : gNotInS dx dy = some r) : gNoSign dx dy = some r ∨ gNotInT dx dy = some r := by
  unfold gNotInS at h
  split at h
  · exact .inl h
  · exact .inr h
theorem eBin_or {g g1 g2 : D → D → Option R} (h : ∀ {dx dy r}, g dx dy = some r → g1 dx dy = some r ∨ g2 dx dy = some r) {ds : DS} {r : R × DS} (e : eBin g fa fb ds = some r) : eBin g1 fa fb ds = some r ∨ eBin g2 fa fb ds = some r := by
  unfold eBin at e ⊢
  obtain ⟨p, e1, e⟩ := Option.bind_eq_some_iff.mp e
  obtain ⟨q, e2, e⟩ := Option.bind_eq_some_iff.mp e
  obtain ⟨dx, e3, e⟩ := Option.bind_eq_some_iff.mp e
  obtain ⟨dy, e4, e⟩ := Option.bind_eq_some_iff.mp e
  obtain ⟨r', e5, e⟩ := Option.bind_eq_some_iff.mp e
  rw [e1]
  rcases h e5 with z | z
  · left
    exact Option.bind_eq_some_iff.mpr ⟨p, rfl, Option.bind_eq_some_iff.mpr ⟨q, e2, Option.bind_eq_some_iff.mpr ⟨dx, e3, Option.bind_eq_some_iff.mpr ⟨dy, e4, Option.bind_eq_some_iff.mpr ⟨r', z, e⟩⟩⟩⟩⟩
  · right
    exact Option.bind_eq_some_iff.mpr ⟨p, rfl, Option.bind_eq_some_iff.mpr ⟨q, e2, Option.bind_eq_some_iff.mpr ⟨dx, e3, Option.bind_eq_some_iff.mpr ⟨dy, e4, Option.bind_eq_some_iff.mpr ⟨r', z, e⟩⟩⟩⟩⟩
theorem dc_inS (hu : X.A.units + 64 < cLine) (ha : DE X io a fa) (hb : DE X io b fb) : DC X io .In a b (eBin gInS fa fb) := by
  refine ⟨fun F ds r ds' j e => ?_⟩
  rcases eBin_or gInS_or e with z | z
  · exact (dc_op opd_sign ha hb).run F ds r ds' j z
  · exact (dc_inT hu ha hb).run F ds r ds' j z
theorem dc_notInS (hu : X.A.units + 64 < cLine) (ha : DE X io a fa) (hb : DE X io b fb) : DC X io .NotIn a b (eBin gNotInS fa fb) := by
  refine ⟨fun F ds r ds' j e => ?_⟩
  rcases eBin_or gNotInS_or e with z | z
  · exact (dc_op opd_noSign ha hb).run F ds r ds' j z
  · exact (dc_notInT hu ha hb).run F ds r ds' j z
/-! ### isinstance(x, (A, B)) -/
def eIsi2 (T U : String) (f : DX) : DX := fun ds => Option.bind (f ds) fun p => Option.bind (p.1.val p.2) fun d => Option.bind (isiT T d) fun b => Option.bind (isiT U d) fun c => some (.fz (.bl (b || c)), p.2)
theorem kitAny_two {K : PySem.W.Frag} {t u1 u2 : Value} {b c : Bool} (h1 : PySem.W.kitOne K t u1 = some b) (h2 : PySem.W.kitOne K t u2 = some c) : PySem.W.kitAny K t [u1, u2] = some (b || c) := by
  unfold PySem.W.kitAny
  rw [h1]
  cases b with
  | true => rfl
  | false =>
    show (match PySem.W.kitOne K t u2 with
      | some true => some true
      | some false => some false
      | none => none) = some (false || c)
    rw [h2]
    cases c <;> rfl
theorem d_isi2 {T U : String} {y z : Str} {py pz pt : Pos} {kt : Nat} {f : DX} (hT : isiTab T = true) (hN : (T == "NoneType") = false) (hU : isiTab U = true) (hM : (U == "NoneType") = false) (hg : Gl X "isinstance") (hm : X.mg "isinstance" = none) (hv : bootBuiltins "isinstance" = some (.builtin "isinstance")) (he : DE X io e f)
    (hgy : Gl X y) (hmy : X.mg y = none) (hvy : bootBuiltins y = some (.type T)) (hgz : Gl X z) (hmz : X.mg z = none) (hvz : bootBuiltins z = some (.type U))
    (hny : y ≠ "__name__" := by decide) (hdy : (y == ("__debug__" : Str)) = false := by decide) (hnz : z ≠ "__name__" := by decide) (hdz : (z == ("__debug__" : Str)) = false := by decide)
    (hse : starEach [e, .Tuple [.Name y py, .Name z pz] kt pt] X.env = (false, eval e X.env) :: starEach [.Tuple [.Name y py, .Name z pz] kt pt] X.env := by rfl)
    (hse1 : starEach [.Tuple [.Name y py, .Name z pz] kt pt] X.env = (false, eval (.Tuple [.Name y py, .Name z pz] kt pt) X.env) :: starEach [] X.env := by rfl)
    (hse2 : starEach [Expr.Name y py, .Name z pz] X.env = (false, eval (.Name y py) X.env) :: starEach [.Name z pz] X.env := by rfl)
    (hse3 : starEach [Expr.Name z pz] X.env = (false, eval (.Name z pz) X.env) :: starEach [] X.env := by rfl)
    (hpl : (backTo pos (starEach [Expr.Tuple [.Name y py, .Name z pz] kt pt] X.env)).any (·.1) = false := by rfl) :
    DE X io (.Call (.Name "isinstance" p) [e, .Tuple [.Name y py, .Name z pz] kt pt] [] pos) (eIsi2 T U f) := by
  refine ⟨fun F ds r ds' j q => ?_⟩
  unfold eIsi2 at q
  obtain ⟨⟨r1, ds1⟩, e1, q⟩ := Option.bind_eq_some_iff.mp q
  obtain ⟨d, e2, q⟩ := Option.bind_eq_some_iff.mp q
  obtain ⟨b, e3, q⟩ := Option.bind_eq_some_iff.mp q
  obtain ⟨c, e4, q⟩ := Option.bind_eq_some_iff.mp q
  cases q
  refine PE.weak (pe_callB call_isiT hg hm hv (pa_cons (he.run F _ _ _ j e1) (pa_cons (pe_tup (pa_cons (pe_bltn hgy hmy hvy (v := .ty T) rfl hny hdy) (pa_cons (pe_bltn hgz hmz hvz (v := .ty U) rfl hnz hdz) pa_nil hse3) hse2)) pa_nil hse1) hse) (by decide) (by decide) hse hpl) fun σ H Q ⟨hd, S, k⟩ => ?_
  refine ⟨hd, S, fun v H1 x1 r1 S1 => ?_⟩
  refine ⟨by rw [sizeLine_eq]; exact Nat.le_of_ble_eq_true rfl, fun tp htp => ?_⟩
  have S1' := S1.drop (List.sublist_append_right _ _)
  have sm := Same.new (o := .tup [.ty T, .ty U]) htp
  have rp := r1.rp S1 e2
  have rp2 : Rp X.kx (upd H1 tp (.tup [.ty T, .ty U])) v d := by
    rcases rp with w | ⟨pp, ob, rfl, w, rfl⟩
    · exact .inl (w.ext (.of_same sm))
    · refine .inr ⟨pp, ob, rfl, w.keep (.of_same sm) fun a m => ?_, rfl⟩
      obtain ⟨o, eo, _⟩ := w.feetAt m
      rw [sm a o eo, eo]
  refine ⟨v, tp, [.ty T, .ty U], .type (tyN d), [.type T, .type U], b || c, rfl, upd_same, .cons (.ty T) (.cons (.ty U) .nil), rp2.tyX e3, kitAny_two (kit_ty (isiT_kit hT hN e3)) (kit_ty (isiT_kit hU hM e4)), ?_⟩
  exact k _ _ (x1.trans (.of_same sm)) (.fz (.bl (b || c))) (by rw [hp_fz]; exact S1'.grow sm)
end
/-! ### own methods by name -/
section
variable (P : Program) (w : World) (K : PySem.W.Frag) (mg : Str → Option Value) (base : Heap)
structure OkMt (c m : Str) (k n : Nat) (sem : Ob → List D → Option (SV × SV)) : Prop where
  ex : ∃ fd ps, FnOk P w K mg base CX0 k (He.ma K (He.ga K c) m) fd ps (spIo ⟨K, P, w⟩ n sem) ∧ Binds K fd ps []
  mt : Meth K (He.ga K c) m (He.ma K (He.ga K c) m)
  cl : Cls K (He.ga K c)
  len : ∀ ob dd r, sem ob dd = some r → dd.length + 1 = n
end
section
variable {X : Cx} {io : Bool} {c m : Str} {k j n : Nat} {p pos apos : Pos} {e o : Expr} {es : List Expr} {fo : DX} {fs : DAs}
theorem c_methO {pl : Sem Bool} {sem : Ob → List D → Option (SV × SV)} (ok : OkMt X.prog X.w X.K X.mg X.base c m k n sem) (hr : Room j X.A) (hk : k ≤ j) (ho : DE X io o fo) (ha : DA X io (e :: es) fs)
    (hst : starEach (e :: es) X.env = (false, eval e X.env) :: starEach es X.env := by rfl) (hpl : (backTo pos (starEach es X.env)).any (·.1) = false := by rfl)
    (ht : eval (.Call (.Attribute o m apos) (e :: es) [] pos) X.env = (do
      let ov ← eval o X.env
      standAt apos.atName
      let (f, first) ← holding [ov] (getMethod ov m pl)
      callWith pos f first (backTo pos (starEach (e :: es) X.env)) (backToKw pos (keywordEach [] X.env))) := by rfl) :
    DE X io (.Call (.Attribute o m apos) (e :: es) [] pos) (eMethO c m sem fo fs) := by
  obtain ⟨fd, ps, F, hb⟩ := ok.ex
  exact d_methO ok.cl ok.mt F ok.len (hr.mono hk) hb ho ha hst hpl ht
theorem c_makeO {x : Str} {sem : Ob → List D → Option (SV × SV)} (o : OkMk X.prog X.w X.K X.mg X.base x k n sem) (hr : Room j X.A) (hk : k + 1 ≤ j) (ha : DA X io (e :: es) fs) (hg : Gl X x := by rfl) (hdb : (x == ("__debug__" : Str)) = false := by decide) (he : starEach (e :: es) X.env = (false, eval e X.env) :: starEach es X.env := by rfl) (hpl : (backTo pos (starEach es X.env)).any (·.1) = false := by rfl) :
    DE X io (.Call (.Name x p) (e :: es) [] pos) (eMakeO x sem fs) := by
  obtain ⟨fi, fd, ps, M, F, hb⟩ := o.ex
  exact d_makeO M F o.len (hr.mono hk) hg o.at_ hb ha hdb he hpl
end
end DL
/-! DL27: dicts with tuple keys: len, for, list(..), sorted(..); displays of either kind. -/
namespace DL
open PySem PySem.Spec PyProof.Rows L2
section
variable {X : Cx} {io : Bool} {pins : List (Addr × Obj)} {σ : L2.St} {H : Hp} {s : Shared} {e tg : Expr} {pos : Pos} {fe : DX}
/-- what stands at a dict with tuple keys -/
theorem tab_get {a : Addr} {kvs : List Row} (I : L2.Inv X pins σ H s) (h : Rd H a (tabO X.kx a kvs)) : kvs.length ≤ sizeLine ∧ (a == sysModules) = false ∧ ∃ o es ep, s.heap.get? a = some o ∧ o.ExactDict ∧ o.data = .dict es ep ∧ es.toList = kvs.map (entryOfKey (nestedKind X.prog X.w)) := by
  obtain ⟨⟨z, hs, nd, o, es', ep', h1, h2, h3, h4⟩, _⟩ := (show ObjOk X.prog X.w H s.heap a (tabO X.kx a kvs) from h.ok I.hok)
  exact ⟨z, hs, o, es', ep', h1, h2, h3, h4⟩
theorem ent_size {P : Program} {w : World} {es : Array DictEntry} {kvs : List Row} (h : es.toList = kvs.map (entryOfKey (nestedKind P w))) : es.size = kvs.length := by
  have := congrArg List.length h
  rw [Array.length_toList, List.length_map] at this
  exact this
theorem ent_at {P : Program} {w : World} {es : Array DictEntry} {kvs : List Row} (h : es.toList = kvs.map (entryOfKey (nestedKind P w))) {i : Nat} {y : Row} (e : kvs[i]? = some y) : ∃ en, es[i]? = some en ∧ en.key = .ref y.2.1 ∧ en.val = y.2.2 := by
  refine ⟨entryOfKey (nestedKind P w) y, ?_, rfl, rfl⟩
  rw [← Array.getElem?_toList, h, List.getElem?_map, e]
  rfl
/-! ### len -/
def gLenX : List D → Option R
  | [.dct .t es] => some (.fz (.int es.length))
  | dd => gLen dd
theorem call_lenT : CallR X (.builtin "len") (fun xs H Q => ∃ a kvs es, xs = [V.ref a] ∧ Rd H a (tabO X.kx a kvs) ∧ FzT X.kx H kvs es ∧ Q (.int kvs.length) H) := by
  intro pins s σ H xs us Q I r h
  obtain ⟨a, kvs, es, rfl, ha, w, q⟩ := h
  obtain ⟨u, rfl, ru⟩ := vals1 r
  cases ru
  obtain ⟨z, hs, hd⟩ := tab_at I ha w
  refine call_len_dictH (knd := nestedKind X.prog X.w) hs hd (by rw [sizeLine_eq] at z; omega) ?_
  exact ⟨.int kvs.length, H, I.tok _, ⟨_, rfl⟩, q⟩
theorem cd_lenX : CallD X (.builtin "len") gLenX := by
  refine ⟨fun dd r e => ?_⟩
  unfold gLenX at e
  split at e
  · cases e
    refine ⟨fun i z => (by cases z), _, call_lenT, fun vs H Q hv k => ?_⟩
    obtain ⟨v, rfl, h⟩ := hv.one
    obtain ⟨l, kvs, rfl, hl, w⟩ := h.dctT
    exact ⟨l, kvs, _, rfl, hl, w, by rw [w.len]; exact k _ H (Same.refl H) (.int _)⟩
  · exact cd_len.run _ _ e
/-! ### for -/
def Itx (K : Kx) (d : Addr) (o : Obj) (kvs : List Row) : It :=
  ⟨fun i H => H d = some (.frz o (tabO K d kvs)) ∧ i < kvs.length, fun i H x H' => H' = H ∧ ∃ y, kvs[i]? = some y ∧ x = .ref y.2.1, fun i H => H d = some (.frz o (tabO K d kvs)) ∧ kvs.length ≤ i⟩
theorem frzX {d : Addr} {o : Obj} {kvs : List Row} (I : L2.Inv X pins σ H s) (h : H d = some (.frz o (tabO X.kx d kvs))) : (d == sysModules) = false ∧ s.heap.get? d = some o ∧ o.ExactDict ∧ ∃ es ep, o.data = .dict es ep ∧ es.toList = kvs.map (entryOfKey (nestedKind X.prog X.w)) := by
  obtain ⟨hd, ⟨z, hs, nd, o', es', ep', h1, h2, h3, h4⟩, _⟩ := (show ObjOk X.prog X.w H s.heap d (.frz o (tabO X.kx d kvs)) from I.hok d _ h)
  rw [hd] at h1; cases h1
  exact ⟨hs, hd, h2, es', ep', h3, h4⟩
theorem turn_keysX {P : Program} {w : World} {K : PySem.W.Frag} {d : Addr} {o : Obj} {es : Array DictEntry} {ep : Nat} {kvs : List Row} (it : Addr) (hod : o.data = .dict es ep) (hes : es.toList = kvs.map (entryOfKey (nestedKind P w))) :
    Turn P w K tg (Itx ⟨K, P, w⟩ d o kvs) [it] it (fun i h => h.IsKeyIter it d i kvs.length ep) where
  mem := by simp
  obj := fun i h st b hb => by
    have e : b = it := by simpa using hb
    subst e
    obtain ⟨oi, e, c, dd⟩ := st
    exact ⟨oi, e, fun v z => by rw [dd] at z; cases z⟩
  keep := fun i h h' st k => st.at fun oi e => k it (by simp) oi e
  item := by
    intro X hP hw hK hc i pins s σ H E I hf st hg
    subst hP hw hK
    obtain ⟨hd, hi⟩ := hg
    obtain ⟨_, hgd, _⟩ := frzX I hd
    obtain ⟨f0, f1, f2, f3, f4, f5⟩ := hf it (by simp)
    obtain ⟨y, hy⟩ : ∃ y, kvs[i]? = some y := ⟨kvs[i], List.getElem?_eq_getElem hi⟩
    obtain ⟨en, hen, hkey, _⟩ := ent_at hes hy
    refine next_key_item st hgd hod (ent_size hes) hen fun h' st' sb => ?_
    have I1 : L2.Inv X pins σ H { s with heap := h' } := I.turned (t' := s.toks) (fun b ob hb e => (sb.2 b hb).trans e) f0 f1 f3 f4 f5
    obtain ⟨oi, e, c, dd⟩ := id st'
    exact ⟨en.key, rfl, go_of (s := { s with heap := h' }) e c dd (by decide) ⟨.ref y.2.1, H, I1, hkey, ⟨rfl, y, hy, rfl⟩, st', fun b hb => (hf b hb).1⟩⟩
  done := by
    intro X hP hw hK hc i pins s σ H E I hf st hg
    subst hP hw hK
    obtain ⟨hd, hi⟩ := hg
    obtain ⟨_, hgd, _⟩ := frzX I hd
    obtain ⟨f0, f1, f2, f3, f4, f5⟩ := hf it (by simp)
    exact next_key_end (I.ok.hd hc) st hgd hod (ent_size hes) hi fun h' eb => ⟨rfl, I.turned (t' := s.toks) (fun b ob hb e => eb b ob hb e) f0 f1 f3 f4 f5⟩
  self := fun A i s Q E st h => by
    refine wpAny_pyIter_slot st.typeIs F.slot_dict_keyiterator_iter (wpAny_call_entry F.slot_dict_keyiterator_iter st.typeIs F.entry_dict_keyiterator_iter ?_ (F.args_dict_keyiterator_iter_1 _))
    show wpAny _ _ (ret (.ref it)) _ _ s
    exact wpAny_pure ⟨_, rfl, "dict_keyiterator", _, st.typeIs, F.slot_dict_keyiterator_next.lookup, h⟩
def iTab (K : Kx) (tl : TE) : TI := fun σ H R => tl σ H fun x H1 => ∃ d o kvs, x = .ref d ∧ H1 d = some (.frz o (tabO K d kvs)) ∧ R (Itx K d o kvs) H1
theorem pi_tab {tl : TE} (hl : PE X e tl) : PI X tg e (iTab X.kx tl) := by
  refine ⟨fun pins s σ H R I h => ?_⟩
  refine thn (hl.run pins s σ H _ I h) fun v s1 ⟨x, H1, I1, r1, q1⟩ => ?_
  obtain ⟨a, o, kvs, rfl, hq, q⟩ := q1
  cases r1
  obtain ⟨hs, hgd, hx, es, ep, hdt, hes⟩ := frzX I1 hq
  refine iter_keys hs hgd hx hdt (pi_one (tk := s1.toks) I1 _ (turn_keysX _ hdt hes) ⟨_, Heap.get?_push_size _ rfl, rfl, ?_⟩ q)
  rw [ent_size hes] <;> rfl
theorem FzT.getD {K : Kx} {H : Hp} : ∀ {kvs : List Row} {es : List (D × D)} (_ : FzT K H kvs es) {i : Nat} {k d : D}, es[i]? = some (k, d) → ∃ y, kvs[i]? = some y ∧ Fz K H (.ref y.2.1) k
  | _, _, .nil, i, k, d, e => by cases i <;> cases e
  | _, _, .cons w _ _ _ _ r, 0, k, d, e => by cases e; exact ⟨_, rfl, w⟩
  | _, _, .cons _ _ _ _ _ r, i + 1, k, d, e => r.getD (i := i) e
theorem its_tab {K : Kx} {H0 : Hp} {a : Addr} {o : Obj} {kvs : List Row} {es : List (D × D)} (h : H0 a = some (.frz o (tabO K a kvs))) (w : FzT K H0 kvs es) : Its K (Itx K a o kvs) (es.map (·.1)) H0 := fun H x => by
  refine ⟨fun i d e => ?_, fun i hi => ⟨x.frzs _ _ _ h, by rw [w.len, ← List.length_map (·.1)]; exact hi⟩⟩
  rw [List.getElem?_map] at e
  cases q : es[i]? with
  | none => rw [q] at e; cases e
  | some kd =>
    rw [q] at e
    cases e
    obtain ⟨y, e1, w1⟩ := w.getD (i := i) (k := kd.1) (d := kd.2) q
    refine ⟨⟨x.frzs _ _ _ h, (List.getElem?_eq_some_iff.mp e1).1⟩, fun u H' ⟨eh, y2, q1, q2⟩ => ?_⟩
    subst eh
    rw [e1] at q1
    cases q1
    subst q2
    exact ⟨Same.refl _, w1.ext x⟩
def tabIt : D → Option (List D)
  | .dct .t es => some (es.map (·.1))
  | _ => none
def iOfT (fe : DX) : DIt := fun ds => Option.bind (fe ds) fun p => Option.bind (frR p.1 p.2) fun q => Option.bind (tabIt q.1) fun l => some (l, q.2)
theorem di_ofT (he : DE X io e fe) : DI X io tg e (iOfT fe) := by
  refine ⟨fun F ds items ds' j q => ?_⟩
  unfold iOfT at q
  obtain ⟨⟨r1, ds1⟩, e1, q⟩ := Option.bind_eq_some_iff.mp q
  obtain ⟨⟨d, ds2⟩, e2, q⟩ := Option.bind_eq_some_iff.mp q
  obtain ⟨l, e3, q⟩ := Option.bind_eq_some_iff.mp q
  cases q
  refine PI.weak (pi_tab (pe_frz (he.run F _ _ _ j e1))) fun σ H R ⟨hd, S, k⟩ => ⟨hd, S, fun v H1 x1 r1 S1 => ?_⟩
  obtain ⟨ps, k1⟩ := fr1 r1 S1 e2
  refine ⟨ps, k1.mono fun H2 ⟨x2, w, S2⟩ => ?_⟩
  dsimp only at e3
  unfold tabIt at e3
  split at e3
  · cases e3
    cases w with
    | dctT h r => exact ⟨_, _, _, rfl, h, k _ _ (x1.trans x2) S2 (its_tab h r)⟩
  · cases e3
/-- what a loop walks, dicts of either kind among it -/
def iOfX (fe : DX) : DIt := fun ds => match iOf fe ds with
  | some r => some r
  | none => iOfT fe ds
theorem di_ofX (he : DE X io e fe) : DI X io tg e (iOfX fe) := by
  refine ⟨fun F ds items ds' j q => ?_⟩
  unfold iOfX at q
  split at q
  · rename_i r h
    cases q
    exact (di_of he).run F ds items ds' j h
  · exact (di_ofT he).run F ds items ds' j q
/-! ### list(d), sorted(d) -/
theorem kdl_tab {P : Program} {w : World} {d : Addr} {kvs : List Row} {es : Array DictEntry} {ep : Nat} (lo : (d == sysModules) = false) (hes : es.toList = kvs.map (entryOfKey (nestedKind P w))) :
    PySem.W.KdlSrc P w "dict" d d es.size (fun i v => ∃ y, kvs[i]? = some y ∧ v = .ref y.2.1) (fun h => h.DictRaw d es ep) where
  type := fun _ hm => hm.typeIs
  there := fun _ hm => let ⟨_, ho, _⟩ := hm; ⟨Heap.lt_size ho, Heap.lt_size ho⟩
  keep := fun _ _ hm hk => hm.at fun o e => hk d (.inl rfl) o e
  notList := by decide
  notTuple := by decide
  hint := fun _ _ _ _ hm hq => PySem.W.kdl_hint_dict hm.typeIs hq
  iter := fun _ s hh hm => ⟨_, _, (fun _ _ hq => wpAny_pyIter_dict_raw lo hm hq), Walks.keysH hh _ d (Nat.ne_of_lt (let ⟨_, ho, _⟩ := hm; Heap.lt_size ho)) es ep (fun i hi => by
      have hx : i < kvs.length := by rw [← ent_size hes]; exact hi
      obtain ⟨en, h1, h2, h3⟩ := ent_at hes (List.getElem?_eq_getElem hx)
      rw [Array.getElem?_eq_getElem hi] at h1
      cases h1
      exact ⟨kvs[i], List.getElem?_eq_getElem hx, h2, h3⟩), ⟨⟨_, Heap.get?_push_size _ rfl, rfl, rfl⟩, hm.at fun o e => Heap.get?_push_of_some _ e⟩⟩
/-- the keys, as they stand -/
theorem FzT.keysFz {K : Kx} {H : Hp} : ∀ {kvs : List Row} {es : List (D × D)}, FzT K H kvs es → FzL K H (kvs.map fun y => V.ref y.2.1) (es.map (·.1))
  | _, _, .nil => .nil
  | _, _, .cons w _ _ _ _ r => .cons w r.keysFz
theorem vals_keys : ∀ {us : List Value} {kvs : List Row}, us.length = kvs.length → (∀ (j : Nat) (v : Value), us[j]? = some v → ∃ y, kvs[j]? = some y ∧ v = .ref y.2.1) → Vals (kvs.map fun y => V.ref y.2.1) us
  | [], [], _, _ => .nil
  | u :: us, y :: kvs, hl, h => by
    obtain ⟨y', e1, e2⟩ := h 0 u rfl
    cases e1
    rw [List.map_cons]
    exact .cons e2 (vals_keys (by simpa using hl) fun j v e => by
      obtain ⟨y, a, b⟩ := h (j + 1) v (by simpa using e)
      exact ⟨y, by simpa using a, b⟩)
  | [], _ :: _, hl, _ => by simp at hl
  | _ :: _, [], hl, _ => by simp at hl
theorem call_listT (hc : X.calm = true) : CallR X (.type "list") (fun xs H Q => ∃ a kvs, xs = [V.ref a] ∧ Rd H a (tabO X.kx a kvs) ∧ ∀ p, H p = none → Q (.ref p) (upd H p (.lst (kvs.map fun y => V.ref y.2.1)))) := by
  intro pins s σ H xs us Q I r h
  obtain ⟨a, kvs, rfl, ha, q⟩ := h
  obtain ⟨u, rfl, ru⟩ := vals1 r
  cases ru
  obtain ⟨z, hs, o, es, ep, h1, h2, h3, h4⟩ := tab_get I ha
  have hl := ent_size h4
  refine PySem.W.kdl_call (kdl_tab hs h4) (I.ok.hd hc) (show s.heap.DictRaw a es ep from ⟨o, h1, h2, h3⟩) (by rw [hl]; exact z) fun h' tk acc' c' hk hS hacc => ?_
  refine ⟨.ref s.heap.objs.size, upd H s.heap.objs.size (.lst (kvs.map fun y => V.ref y.2.1)), I.laid (t' := tk) hk (Nat.le_refl _)
    (show ObjOk X.prog X.w _ _ _ (.lst (kvs.map fun y => V.ref y.2.1)) from ⟨by rw [List.length_map]; exact z, acc'.toList, c', vals_keys (by rw [Array.length_toList, hacc.1, hl]) fun j v e => hacc.2 j v (by rw [← Array.getElem?_toList]; exact e), by rw [Array.toArray_toList]; exact hS⟩), rfl, q _ (I.hok.fresh (Nat.le_refl _))⟩
def gListY : List D → Option R
  | [.dct .t es] => some (.own (.lst (es.map (·.1))))
  | dd => gListX dd
theorem cd_listY (hc : X.calm = true) : CallD X (.type "list") gListY := by
  refine ⟨fun dd r e => ?_⟩
  unfold gListY at e
  split at e
  · cases e
    refine ⟨fun i z => (by cases z), _, call_listT hc, fun vs H Q hv k => ?_⟩
    obtain ⟨v, rfl, h⟩ := hv.one
    obtain ⟨l, kvs, rfl, hl, w⟩ := h.dctT
    refine ⟨l, kvs, rfl, hl, fun q hq => ?_⟩
    have sm := Same.new (o := .lst (kvs.map fun y => V.ref y.2.1)) hq
    exact k q _ _ sm hq upd_same (.lst upd_same (w.keysFz.ext (.of_same sm)))
  · exact (cd_listX hc).run _ _ e
end
end DL
/-! DL28: sorted(..) of lists and dicts of either kind; one item is sorted whatever it is. -/
namespace PySem.W
open PySem PySem.Calls PyProof.Rows
section
variable {prog : Program} {w : World} {A : Around} {s : Shared}
theorem SortsAt.few {vs : List Value} {ds : List PyData} (e : EachIs (fun v d => ∃ as, Reads s.heap v d as) vs ds) (hal : AllAlike ds) (hn : ∀ d, d ∈ ds → d ≠ .none) (h1 : vs.length ≤ 1) (hu : ∀ d, d ∈ ds → A.units + d.depth < cLine) : SortsAt prog w A s (dataKind s.heap ds) vs := by
  have room : ∀ {d d' : PyData}, d ∈ ds → A.units + min d.depth d'.depth < cLine := fun {d d'} hd => Nat.lt_of_le_of_lt (Nat.add_le_add_left (Nat.min_le_left _ _) _) (hu d hd)
  refine ⟨fun v hv => ?_, general', ?_, fun h2 => by omega⟩
  · obtain ⟨d, hd, as, r⟩ := e.left v hv
    exact ⟨_, dataKind_some hal hd r⟩
  · intro E x y a b Q ha hb hq
    obtain ⟨d, as, hd, ra, rfl⟩ := dataKind_inv ha
    obtain ⟨d', as', hd', rb, rfl⟩ := dataKind_inv hb
    show wpAny _ _ (oneLt' false x y) _ _ _
    exact oneLt_alike (f := false) (fun z => by cases z) ra rb (hal d hd d' hd') (hn d hd) (room hd) hq
end
end PySem.W
namespace DL
open PySem PySem.Spec PyProof.Rows L2
open PySem.W (alike dataLe AllAlike Sortable EachIs dataLt SortsAt dataKind sortingHeap copyHeap sortVals)
/-! ### insertion, which the kernel can work out -/
def insD (a : D) : List D → List D
  | [] => [a]
  | b :: l => if dataLe false D.py a b = true then a :: b :: l else b :: insD a l
def sortI (l : List D) : List D := l.foldr insD []
theorem insD_at (a : D) : ∀ (l1 l2 : List D), (∀ b ∈ l1, (!dataLe false D.py a b) = true) → (∀ c ∈ l2, dataLe false D.py a c = true) → insD a (l1 ++ l2) = l1 ++ a :: l2
  | [], [], _, _ => rfl
  | [], c :: l2, _, h => by
    show (if dataLe false D.py a c = true then _ else _) = _
    rw [if_pos (h c List.mem_cons_self)]
    rfl
  | b :: l1, l2, h1, h2 => by
    have hb := h1 b List.mem_cons_self
    rw [Bool.not_eq_true'] at hb
    show (if dataLe false D.py a b = true then _ else b :: insD a (l1 ++ l2)) = _
    rw [if_neg (by rw [hb]; exact Bool.false_ne_true), insD_at a l1 l2 (fun c hc => h1 c (List.mem_cons_of_mem _ hc)) h2]
    rfl
theorem sortI_eq : ∀ l : List D, sortI l = sortD l
  | [] => by
    unfold sortD
    rw [List.mergeSort_nil]
    rfl
  | a :: l => by
    have T : PySem.W.TotalLe (dataLe false D.py) := PySem.W.sortLe_total _ _ _
    have ih := sortI_eq l
    obtain ⟨l1, l2, e1, e2, h1⟩ := List.mergeSort_cons (le := dataLe false D.py) (fun a b c => T.trans a b c) (fun a b => by rw [Bool.or_eq_true]; exact T.total a b) a l
    have hp := PySem.W.sort_pairwise T (a :: l)
    rw [e1] at hp
    show insD a (sortI l) = _
    rw [ih]
    unfold sortD
    rw [e1, e2]
    refine insD_at a l1 l2 h1 fun c hc => ?_
    have := (List.pairwise_append.mp hp).2.1
    exact (List.pairwise_cons.mp this).1 c hc
def okSortX (l : List D) : Bool := alikeB l && ((srtB l || (decide (l.length ≤ 1) && l.all fun d => notNone d.py)) && (l.all okPy && decide (l.length ≤ sizeLine)))
theorem okSortX_all {l : List D} (h : okSortX l = true) : AllAlike (l.map D.py) ∧ (Sortable (l.map D.py) ∨ (l.length ≤ 1 ∧ ∀ d ∈ l.map D.py, d ≠ .none)) ∧ (∀ d ∈ l, okPy d = true) ∧ l.length ≤ sizeLine := by
  unfold okSortX at h
  simp only [Bool.and_eq_true, decide_eq_true_eq] at h
  obtain ⟨h1, h2, h3, h4⟩ := h
  rcases Bool.or_eq_true_iff.mp h2 with h | h
  · obtain ⟨a1, a2, a3, a4⟩ := okSort_all (l := l) (by
      unfold okSort
      rw [h1, h, h3, decide_eq_true h4]
      rfl)
    exact ⟨a1, .inl a2, a3, a4⟩
  · refine ⟨fun d hd d' hd' => ?_, .inr ?_, fun d hd => List.all_eq_true.mp h3 d hd, h4⟩
    · obtain ⟨a, ha, rfl⟩ := List.mem_map.mp hd
      obtain ⟨b, hb, rfl⟩ := List.mem_map.mp hd'
      exact List.all_eq_true.mp (List.all_eq_true.mp h1 a ha) b hb
    · rw [Bool.and_eq_true, decide_eq_true_eq] at h
      refine ⟨h.1, fun d hd z => ?_⟩
      obtain ⟨a, ha, rfl⟩ := List.mem_map.mp hd
      have := List.all_eq_true.mp h.2 a ha
      rw [z] at this
      cases this
section
variable {X : Cx}
theorem sortsX {P : Program} {w : World} {A : Around} {s : Shared} {vs : List Value} {ds : List D} (e : EachIs (fun v b => ∃ as, Reads s.heap v (D.py b) as) vs ds) (ok : okSortX ds = true) (hu : A.units + 60 < cLine) : SortsAt P w A s (dataKind s.heap (ds.map D.py)) vs := by
  obtain ⟨o1, o2, o3, o4⟩ := okSortX_all ok
  have e2 := PySem.W.each_map (R := fun v d => ∃ as, Reads s.heap v d as) D.py e
  have hb := PySem.W.bound_map (enc := D.py) (bs := ds) (A := A) fun b hb => by
    have := okPy_dep (o3 b hb)
    omega
  rcases o2 with k | ⟨k1, k2⟩
  · exact SortsAt.data e2 o1 k hb
  · exact SortsAt.few e2 o1 k2 (by rw [e.length]; exact k1) hb
/-- what a sort leaves -/
theorem sorted_out {h' : Heap} {R : Value → D → Prop} {vs : List Value} {ds : List D} (e : EachIs R vs ds) (er : EachIs (fun v b => ∃ as, Reads h' v (D.py b) as) vs ds) (ok : okSortX ds = true) : (sortVals (dataKind h' (ds.map D.py)) false vs vs).length = ds.length ∧ EachIs R (sortVals (dataKind h' (ds.map D.py)) false vs vs) (sortI ds) := by
  obtain ⟨o1, _, _, _⟩ := okSortX_all ok
  rw [sortI_eq]
  exact ⟨by rw [PySem.W.sortVals_length false rfl]; exact e.length, PySem.W.sortVals_data false e er o1⟩
def rSortX (X : Cx) : List V → Hp → VK → Prop := fun vs H Q => ∃ l xs ds, vs = [V.ref l] ∧ SqL X.K H l xs ∧ FzL X.kx H xs ds ∧ okSortX ds = true ∧ ∀ ys p, FzL X.kx H ys (sortI ds) → H p = none → Q (.ref p) (upd H p (.lst ys))
theorem cr_sortX (hu : X.A.units + 64 < cLine) : CallR X (.builtin "sorted") (rSortX X) := by
  intro pins s σ H vs us Q I r h
  obtain ⟨l, xs, ds, rfl, hs, w, ok, q⟩ := h
  obtain ⟨its, rv, pl, hz⟩ := I.list hs
  obtain ⟨o1, o2, o3, o4⟩ := okSortX_all ok
  rw [Vals.ref1 r]
  have er := each_mem2 (rv_each rv w) fun u d m ⟨v, r, w⟩ => w.reads I (okPy_pl (o3 d m)) r
  have er' : EachIs (fun v b => ∃ as, Reads (sortingHeap (copyHeap s.heap its) (s.heap.objs.size + 1) its) v (D.py b) as) its ds := er.mono fun _ _ ⟨as, r⟩ => ⟨as, PyProof.Rows.Reads.keeps (fun _ _ => PySem.W.sorting_copy_old) r⟩
  obtain ⟨hl, he⟩ := sorted_out (rv_each rv w) er' ok
  have hn : its.length ≤ sizeLine := by
    have := (rv_each rv w).length
    omega
  refine PySem.W.sorted_vals pl.isList (sortsX (s := { s with heap := sortingHeap (copyHeap s.heap its) (s.heap.objs.size + 1) its }) er' ok (by show X.A.units + 1 + 1 + 60 < cLine; omega)) hn ?_
  obtain ⟨ys, a1, a2⟩ := rv_vals he
  have hlen : ys.length ≤ sizeLine := by rw [a2.len, sortI_eq]; unfold sortD; rw [List.length_mergeSort]; exact o4
  obtain ⟨c, hc⟩ := PyProof.Rows.sortedAll_at s.heap its (sortVals (dataKind (sortingHeap (copyHeap s.heap its) (s.heap.objs.size + 1) its) (ds.map D.py)) false its its).toArray
  refine ⟨.ref (s.heap.objs.size + 1), _, I.laid (fun b u e => PyProof.Rows.sortedAll_old e) (Nat.le_succ _) ?_, rfl, q ys _ a2 (I.hok.fresh (Nat.le_succ _))⟩
  exact ⟨hlen, _, c, a1, hc⟩
/-- sorted(d), d a dict: its keys are at vs -/
theorem sorted_src {T : String} {r d : Addr} {n : Nat} {Pp : Nat → Value → Prop} {OK : Heap → Prop} {pins : List (Addr × Obj)} {s : Shared} {σ : L2.St} {H : Hp} {Q : VK} {ds : List D} {vs : List V} (hcalm : X.calm = true) (hu : X.A.units + 64 < cLine) (I : L2.Inv X pins σ H s) (K : PySem.W.KdlSrc X.prog X.w T r d n Pp OK) (hok : OK s.heap) (hn : n ≤ sizeLine)
    (hv : ∀ acc : List Value, acc.length = n → (∀ (j : Nat) (v : Value), acc[j]? = some v → Pp j v) → Vals vs acc) (w : FzL X.kx H vs ds) (ok : okSortX ds = true) (q : ∀ ys p, FzL X.kx H ys (sortI ds) → H p = none → Q (.ref p) (upd H p (.lst ys))) :
    wpAny (model X.prog X.w) X.A (call (.builtin "sorted") [.ref r]) (EP X pins σ Q) X.xe s := by
  obtain ⟨o1, o2, o3, o4⟩ := okSortX_all ok
  refine Calls.call_function_entry PyProof.Rows.kind_sorted PyProof.Rows.plain_sorted PyProof.Rows.entry_sorted (PyProof.Rows.args_sorted1 _) ?_
  unfold Builtin.«sorted»
  refine wpAny_bind (m := checkCount "sorted" 1 1 _) (wpAny_pure ?_)
  refine wpAny_bind (PySem.W.kdu_collect (A := X.A.in1) K (I.ok.hd hcalm) hok hn fun h' tk acc hk hacc => ?_)
  have rv := hv acc.toList (by rw [Array.length_toList]; exact hacc.1) fun j v e => hacc.2 j v (by rw [← Array.getElem?_toList]; exact e)
  have hal : acc.toList.length = n := by rw [Array.length_toList]; exact hacc.1
  have I1 : L2.Inv X pins σ H { s with heap := h', toks := tk } := I.kept hk
  refine wpAny_bind (wpAny_newList ?_ (by rw [hal]; exact hn))
  have hoL : (h'.push (seqObj "list" acc.toList.toArray 0)).get? h'.objs.size = some (seqObj "list" acc.toList.toArray 0) := Heap.get?_push_size _ rfl
  show wpAny _ _ _ _ _ { s with heap := h'.push (seqObj "list" acc.toList.toArray 0), toks := tk }
  have er := each_mem2 (rv_each rv w) fun u d m ⟨v, r, w⟩ => w.reads I1 (okPy_pl (o3 d m)) r
  have er' : EachIs (fun v b => ∃ as, Reads (sortingHeap (h'.push (seqObj "list" acc.toList.toArray 0)) h'.objs.size acc.toList) v (D.py b) as) acc.toList ds := er.mono fun _ _ ⟨as, r⟩ => ⟨as, PyProof.Rows.Reads.keeps (fun b o e => PySem.W.sortingHeap_old (Nat.ne_of_lt (Heap.lt_size e)) (Heap.get?_push_of_some _ e)) r⟩
  obtain ⟨hl, he⟩ := sorted_out (rv_each rv w) er' ok
  obtain ⟨ys, a1, a2⟩ := rv_vals he
  have hlen : ys.length ≤ sizeLine := by rw [a2.len, sortI_eq]; unfold sortD; rw [List.length_mergeSort]; exact o4
  refine wpAny_bind (wpAny_holding (wpAny_call_entry PyProof.Rows.slot_list_sort ⟨_, hoL, rfl⟩ PyProof.Rows.entry_list_sort
    (PySem.W.list_sort_vals (s := { s with heap := h'.push (seqObj "list" acc.toList.toArray 0), toks := tk }) hoL (sortsX (s := { s with heap := sortingHeap (h'.push (seqObj "list" acc.toList.toArray 0)) h'.objs.size acc.toList, toks := tk }) er' ok (by show X.A.units + 1 + 1 + 60 < cLine; omega)) (by rw [hal]; exact hn) ⟨_, rfl, ?_⟩)
    (PyProof.Rows.args_list_sort _)))
  obtain ⟨c', hc'⟩ := PyProof.Rows.sortedHeap_at (vs := acc.toList) (out := (sortVals (dataKind (sortingHeap (h'.push (seqObj "list" acc.toList.toArray 0)) h'.objs.size acc.toList) (ds.map D.py)) false acc.toList acc.toList).toArray) hoL
  refine wpAny_pure ⟨_, rfl, .ref h'.objs.size, upd H h'.objs.size (.lst ys), I1.laid (t' := tk) (fun b u e => ?_) (Nat.le_refl _)
    (show ObjOk X.prog X.w _ _ _ (.lst ys) from ⟨hlen, _, c', a1, hc'⟩), rfl, q ys _ a2 (I1.hok.fresh (Nat.le_refl _))⟩
  have hb : b < h'.objs.size := Heap.lt_size e
  rw [PyProof.Rows.sortedHeap_old (Nat.ne_of_lt hb) (by rw [size_push']; exact Nat.lt_succ_of_lt hb)]
  exact Heap.get?_push_of_some _ e
theorem call_sortT (hc : X.calm = true) (hu : X.A.units + 64 < cLine) : CallR X (.builtin "sorted") (fun xs H Q => ∃ a kvs es, xs = [V.ref a] ∧ Rd H a (tabO X.kx a kvs) ∧ FzT X.kx H kvs es ∧ okSortX (es.map (·.1)) = true ∧ ∀ ys p, FzL X.kx H ys (sortI (es.map (·.1))) → H p = none → Q (.ref p) (upd H p (.lst ys))) := by
  intro pins s σ H xs us Q I r h
  obtain ⟨a, kvs, es, rfl, ha, w, ok, q⟩ := h
  obtain ⟨u, rfl, ru⟩ := vals1 r
  cases ru
  obtain ⟨z, hs, o, des, ep, h1, h2, h3, h4⟩ := tab_get I ha
  have hl := ent_size h4
  exact sorted_src hc hu I (kdl_tab hs h4) (show s.heap.DictRaw a des ep from ⟨o, h1, h2, h3⟩) (by rw [hl]; exact z) (fun acc hn hv => vals_keys (by rw [hn, hl]) hv) w.keysFz ok q
theorem call_sortK (hc : X.calm = true) (hu : X.A.units + 64 < cLine) : CallR X (.builtin "sorted") (fun xs H Q => ∃ a kvs es, xs = [V.ref a] ∧ Rd H a (.dK kvs) ∧ FzK X.kx H kvs es ∧ okSortX (es.map (·.1)) = true ∧ ∀ ys p, FzL X.kx H ys (sortI (es.map (·.1))) → H p = none → Q (.ref p) (upd H p (.lst ys))) := by
  intro pins s σ H xs us Q I r h
  obtain ⟨a, kvs, es, rfl, ha, w, ok, q⟩ := h
  obtain ⟨u, rfl, ru⟩ := vals1 r
  cases ru
  obtain ⟨z, lo, vs, rel, dd⟩ := dk_rd I.hok ha
  obtain ⟨ep, hat⟩ := dd.dictAt
  have hl : kvs.length = vs.length := Paired.length rel
  have ek : (kvs.map fun kv => kV kv.1) = vs.map fun p => kV p.1 := by
    have e := congrArg (List.map kV) rel.keys
    rw [List.map_map, List.map_map] at e
    exact e
  refine sorted_src hc hu I (PySem.W.kdl_dict (knd := mixKind X.prog X.w) (kvs := vs) (ep := ep) lo) hat (by rw [← hl]; exact z) (fun acc hn hv => ?_) w.keysFz ok q
  rw [ek]
  exact keys_at hn fun j v e => hv j v e
def gSortedX : List D → Option R
  | [.lst xs] => if okSortX xs = true then some (.own (.lst (sortI xs))) else none
  | [.dct .t es] => if okSortX (es.map (·.1)) = true then some (.own (.lst (sortI (es.map (·.1))))) else none
  | [.dct .k es] => if okSortX (es.map (·.1)) = true then some (.own (.lst (sortI (es.map (·.1))))) else none
  | _ => none
theorem cd_sortedX (hc : X.calm = true) (hu : X.A.units + 64 < cLine) : CallD X (.builtin "sorted") gSortedX := by
  refine ⟨fun dd r e => ?_⟩
  unfold gSortedX at e
  split at e
  · rename_i xs
    by_cases c : okSortX xs = true
    · rw [if_pos c] at e
      cases e
      refine ⟨fun i z => (by cases z), _, cr_sortX hu, fun vs H Q hv k => ?_⟩
      obtain ⟨v, rfl, h⟩ := hv.one
      obtain ⟨l, vs, rfl, hl, w⟩ := h.lst
      refine ⟨l, vs, xs, rfl, hl.sq, w, c, fun ys p w' hp => ?_⟩
      have sm := Same.new (o := .lst ys) hp
      exact k p _ _ sm hp upd_same (.lst upd_same (w'.ext (.of_same sm)))
    · rw [if_neg c] at e; cases e
  · rename_i es
    by_cases c : okSortX (es.map (·.1)) = true
    · rw [if_pos c] at e
      cases e
      refine ⟨fun i z => (by cases z), _, call_sortT hc hu, fun vs H Q hv k => ?_⟩
      obtain ⟨v, rfl, h⟩ := hv.one
      obtain ⟨l, kvs, rfl, hl, w⟩ := h.dctT
      refine ⟨l, kvs, es, rfl, hl, w, c, fun ys p w' hp => ?_⟩
      have sm := Same.new (o := .lst ys) hp
      exact k p _ _ sm hp upd_same (.lst upd_same (w'.ext (.of_same sm)))
    · rw [if_neg c] at e; cases e
  · rename_i es
    by_cases c : okSortX (es.map (·.1)) = true
    · rw [if_pos c] at e
      cases e
      refine ⟨fun i z => (by cases z), _, call_sortK hc hu, fun vs H Q hv k => ?_⟩
      obtain ⟨v, rfl, h⟩ := hv.one
      obtain ⟨l, kvs, rfl, hl, w⟩ := h.dctK
      refine ⟨l, kvs, es, rfl, hl, w, c, fun ys p w' hp => ?_⟩
      have sm := Same.new (o := .lst ys) hp
      exact k p _ _ sm hp upd_same (.lst upd_same (w'.ext (.of_same sm)))
    · rw [if_neg c] at e; cases e
  · cases e
end
/-! ### a display, of the kind of its keys -/
section
variable {X : Cx} {io : Bool} {pos : Pos} {keys : List (Option Expr)} {values : List Expr} {f : DPs}
def eDispX (f : DPs) : DX := fun ds => match eDisp f ds with
  | some r => some r
  | none => eDispT f ds
theorem d_dispX {e : Expr} (h1 : DE X io e (eDisp f)) (h2 : DE X io e (eDispT f)) : DE X io e (eDispX f) := by
  refine ⟨fun F ds r ds' j q => ?_⟩
  unfold eDispX at q
  split at q
  · rename_i r' h
    cases q
    exact h1.run F ds r ds' j h
  · exact h2.run F ds r ds' j q
end
end DL
set_option maxHeartbeats 4000000
/-! printed by gen2.py: the meanings of the defs that several laws reach -/
namespace DL.Law
open PySem PySem.Spec PyProof.Rows L2 DL
def fuel : Nat := 1000000
def clsBody (s : Stmt) : List Stmt := match s with
  | .ClassDef _ _ _ b _ _ _ _ _ _ _ => b
  | _ => []
def g__law_hand : DSm := sSeq (sSet 1 (eLC (iOfX (eSl (eVar 0) (oNone) (oSome (eC (.int 63))))) (gN 2) (bYes) (eCB gAbs (aCons (eCB gInt (aCons (eVar 2) (aNil))) (aNil))) [2])) (sSeq (sRet (eLst (aCons (eVar 1) (aCons (eC (.int 0)) (aCons (eC (.int 0)) (aCons (eBin gAdd (eC (.int 1)) (eCB gLenX (aCons (eVar 1) (aNil)))) (aCons (eC (.int 0)) (aNil)))))))) sNil)
def m__law_hand : List D → Option SV := dfn 1 3 g__law_hand
def g__law_draw : DSm := sSeq (sIf (bAnd (tOf (eBin gEqD (eBin gAtT (eVar 0) (eC (.int 2))) (eC (.int 0)))) (tOf (eBin gLtD (eBin gAtT (eVar 0) (eC (.int 1))) (eCB gLenX (aCons (eBin gAtT (eVar 0) (eC (.int 0))) (aNil)))))) (sSeq (sSet 2 (eBin gAtT (eBin gAtT (eVar 0) (eC (.int 0))) (eBin gAtT (eVar 0) (eC (.int 1))))) (sSeq (sPutT (eVar 0) (eC (.int 1)) (eBin gAdd (eBin gAtT (eVar 0) (eC (.int 1))) (eC (.int 1)))) (sSeq (sPutT (eVar 0) (eC (.int 3)) (eBin gMod (eCB gInt (aCons (eBin gAdd (eBin gAdd (eBin gMulX (eBin gAtT (eVar 0) (eC (.int 3))) (eC (.int 69621))) (eVar 2)) (eC (.int 11))) (aNil))) (eC (.int 2147483629)))) (sSeq (sIf (tOf (eBin gGeD (eVar 2) (eBin gPow (eC (.int 10)) (eC (.int 18))))) (sSeq (sPutT (eVar 0) (eC (.int 2)) (eVar 2)) sNil) (sNil)) sNil)))) (sNil)) (sSeq (sIf (tOf (eBin gGtD (eBin gAtT (eVar 0) (eC (.int 2))) (eC (.int 0)))) (sSeq (sSet 3 (eBin gMod (eCB gInt (aCons (eBin gAtT (eVar 0) (eC (.int 2))) (aNil))) (eVar 1))) (sSeq (sPutT (eVar 0) (eC (.int 2)) (eBin gFdiv (eBin gAtT (eVar 0) (eC (.int 2))) (eVar 1))) (sSeq (sRet (eVar 3)) sNil))) (sNil)) (sSeq (sPutT (eVar 0) (eC (.int 4)) (eBin gAdd (eBin gAtT (eVar 0) (eC (.int 4))) (eC (.int 1)))) (sSeq (sSet 4 (eBin gMod (eCB gInt (aCons (eBin gMulX (eCB gInt (aCons (eBin gAdd (eBin gAtT (eVar 0) (eC (.int 3))) (eBin gMulX (eC (.int 7919)) (eBin gAtT (eVar 0) (eC (.int 4))))) (aNil))) (eC (.int 48271))) (aNil))) (eC (.int 2147483647)))) (sSeq (sSet 4 (eBin gMod (eCB gInt (aCons (eBin gMulX (eVar 4) (eBin gAdd (eBin gFdiv (eVar 4) (eC (.int 1009))) (eC (.int 69621)))) (aNil))) (eC (.int 2147483647)))) (sSeq (sSet 4 (eBin gMod (eCB gInt (aCons (eBin gMulX (eVar 4) (eBin gAdd (eBin gFdiv (eVar 4) (eC (.int 2003))) (eC (.int 40692)))) (aNil))) (eC (.int 2147483399)))) (sSeq (sRet (eBin gMod (eCB gInt (aCons (eBin gFdiv (eVar 4) (eC (.int 16))) (aNil))) (eVar 1))) sNil))))))
def m__law_draw : Ob → List D → Option (SV × SV) := dfnIo 2 5 g__law_draw
def g__law_sizes : DSm := sSeq (sSet 2 (eLst (aNil))) (sSeq (sSet 3 (eC (.int 1))) (sSeq (sFor (iR1 (aCons (eBin gAdd (eC (.int 1)) (eCallIo m__law_draw (aCons (eVar 0) (aCons (eC (.int 6)) (aNil))))) (aNil))) (gN 4) (sSeq (sSet 5 (eBin gAtT (eLst (aCons (eC (.int 2)) (aCons (eC (.int 2)) (aCons (eC (.int 2)) (aCons (eC (.int 3)) (aCons (eC (.int 3)) (aCons (eC (.int 4)) (aNil)))))))) (eCallIo m__law_draw (aCons (eVar 0) (aCons (eC (.int 6)) (aNil)))))) (sSeq (sIf (tOf (eBin gLeD (eBin gMulX (eVar 3) (eVar 5)) (eVar 1))) (sSeq (sExpr (eLM gAppend (eVar 2) (aCons (eVar 5) (aNil)))) (sSeq (sSet 3 (eBin gMulX (eVar 3) (eVar 5))) sNil)) (sNil)) sNil))) (sSeq (sRet (eIf (tOf (eBin gGtD (eCB gLenX (aCons (eVar 2) (aNil))) (eC (.int 0)))) (eCB gTuple (aCons (eVar 2) (aNil))) (eTup (aCons (eC (.int 2)) (aNil))))) sNil)))
def m__law_sizes : Ob → List D → Option (SV × SV) := dfnIo 2 6 g__law_sizes
def g__law_name : DSm := sSeq (sRet (eBin gAtT (eVar 1) (eCallIo m__law_draw (aCons (eVar 0) (aCons (eCB gLenX (aCons (eVar 1) (aNil))) (aNil)))))) sNil
def m__law_name : Ob → List D → Option (SV × SV) := dfnIo 2 2 g__law_name
def g__law_test : DSm := sSeq (sSet 2 (eCB gTuple (aCons (eCB gSortSet (aCons (eLC (iR1 (aCons (eCallIo m__law_draw (aCons (eVar 0) (aCons (eC (.int 4)) (aNil)))) (aNil))) (gN 3) (bYes) (eCallIo m__law_draw (aCons (eVar 0) (aCons (eCB gLenX (aCons (eVar 1) (aNil))) (aNil)))) [3]) (aNil))) (aNil)))) (sSeq (sRet (eTup (aCons (eVar 2) (aCons (eCB gTuple (aCons (eLC (iOfX (eVar 2)) (gN 3) (bYes) (eCallIo m__law_draw (aCons (eVar 0) (aCons (eBin gAtT (eVar 1) (eVar 3)) (aNil)))) [3]) (aNil))) (aNil))))) sNil)
def m__law_test : Ob → List D → Option (SV × SV) := dfnIo 2 4 g__law_test
def g__law_statements : DSm := sSeq (sSet 4 (eLst (aNil))) (sSeq (sFor (iR1 (aCons (eCallIo m__law_draw (aCons (eVar 0) (aCons (eBin gAdd (eVar 3) (eC (.int 1))) (aNil)))) (aNil))) (gN 5) (sSeq (sSet 6 (eBin gAtT (eLst (aCons (eC (.str "set")) (aCons (eC (.str "set")) (aCons (eC (.str "clear")) (aCons (eC (.str "turn")) (aCons (eC (.str "turn")) (aCons (eC (.str "skip")) (aCons (eC (.str "deed")) (aCons (eC (.str "deed")) (aNil)))))))))) (eCallIo m__law_draw (aCons (eVar 0) (aCons (eC (.int 8)) (aNil)))))) (sSeq (sIf (tOf (eBin gEqD (eVar 6) (eC (.str "deed")))) (sSeq (sExpr (eLM gAppend (eVar 4) (aCons (eTup (aCons (eVar 6) (aCons (eCallIo m__law_name (aCons (eVar 0) (aCons (eVar 2) (aNil)))) (aNil)))) (aNil)))) sNil) (sSeq (sIf (tOf (eBin gEqD (eVar 6) (eC (.str "skip")))) (sSeq (sExpr (eLM gAppend (eVar 4) (aCons (eTup (aCons (eVar 6) (aCons (eBin gAdd (eC (.int 1)) (eCallIo m__law_draw (aCons (eVar 0) (aCons (eC (.int 2)) (aNil))))) (aCons (eCallIo m__law_test (aCons (eVar 0) (aCons (eVar 1) (aNil)))) (aNil))))) (aNil)))) sNil) (sSeq (sExpr (eLM gAppend (eVar 4) (aCons (eTup (aCons (eVar 6) (aCons (eCallIo m__law_test (aCons (eVar 0) (aCons (eVar 1) (aNil)))) (aNil)))) (aNil)))) sNil)) sNil)) sNil))) (sSeq (sRet (eCB gTuple (aCons (eVar 4) (aNil)))) sNil))
def m__law_statements : Ob → List D → Option (SV × SV) := dfnIo 4 7 g__law_statements
def g__law_pieces : DSm := sSeq (sPar 3 4 (aCons (eCB gListY (aCons (eVar 2) (aNil))) (aCons (eLst (aNil)) (aNil)))) (sSeq (sWhile fuel (tOf (eBin gGtD (eCB gLenX (aCons (eVar 3) (aNil))) (eC (.int 0)))) (sSeq (sSet 5 (eLM gPop (eVar 3) (aCons (eCallIo m__law_draw (aCons (eVar 0) (aCons (eCB gLenX (aCons (eVar 3) (aNil))) (aNil)))) (aNil)))) (sSeq (sIf (tOf (eBin gGtD (eCallIo m__law_draw (aCons (eVar 0) (aCons (eC (.int 3)) (aNil)))) (eC (.int 0)))) (sSeq (sExpr (eLM gAppend (eVar 4) (aCons (eTup (aCons (eBin gAtT (eLst (aCons (eC (.str "clear")) (aCons (eC (.str "set")) (aNil)))) (eCallIo m__law_draw (aCons (eVar 0) (aCons (eC (.int 2)) (aNil))))) (aCons (eTup (aCons (eTup (aNil)) (aCons (eTup (aNil)) (aNil)))) (aNil)))) (aNil)))) sNil) (sNil)) (sSeq (sFor (iR1 (aCons (eBin gAdd (eC (.int 1)) (eCallIo m__law_draw (aCons (eVar 0) (aCons (eC (.int 3)) (aNil))))) (aNil))) (gN 6) (sSeq (sSet 7 (eCB gTuple (aCons (eCB gSortSet (aCons (eLC (iR1 (aCons (eBin gAdd (eC (.int 1)) (eCallIo m__law_draw (aCons (eVar 0) (aCons (eC (.int 2)) (aNil))))) (aNil))) (gN 8) (bYes) (eCallIo m__law_draw (aCons (eVar 0) (aCons (eCB gLenX (aCons (eVar 1) (aNil))) (aNil)))) [8]) (aNil))) (aNil)))) (sSeq (sSet 9 (eBin gAtT (eLst (aCons (eC (.str "set")) (aCons (eC (.str "clear")) (aCons (eC (.str "turn")) (aCons (eC (.str "turn")) (aNil)))))) (eCallIo m__law_draw (aCons (eVar 0) (aCons (eC (.int 4)) (aNil)))))) (sSeq (sExpr (eLM gAppend (eVar 4) (aCons (eTup (aCons (eVar 9) (aCons (eTup (aCons (eVar 7) (aCons (eCB gTuple (aCons (eLC (iOfX (eVar 7)) (gN 8) (bYes) (eCallIo m__law_draw (aCons (eVar 0) (aCons (eBin gAtT (eVar 1) (eVar 8)) (aNil)))) [8]) (aNil))) (aNil)))) (aNil)))) (aNil)))) sNil)))) (sSeq (sExpr (eLM gAppend (eVar 4) (aCons (eTup (aCons (eC (.str "deed")) (aCons (eVar 5) (aNil)))) (aNil)))) sNil))))) (sSeq (sRet (eCB gTuple (aCons (eVar 4) (aNil)))) sNil))
def m__law_pieces : Ob → List D → Option (SV × SV) := dfnIo 3 10 g__law_pieces
def g__law_controller : DSm := sSeq (sSet 2 (eSl (eCallIo m__law_sizes (aCons (eVar 0) (aCons (eBin gFdiv (eVar 1) (eC (.int 4))) (aNil)))) (oNone) (oSome (eC (.int 4))))) (sSeq (sSet 3 (eBin gAtT (eLst (aCons (eC (.int 0)) (aCons (eC (.int 1)) (aCons (eC (.int 1)) (aCons (eC (.int 2)) (aCons (eC (.int 2)) (aCons (eC (.int 3)) (aNil)))))))) (eCallIo m__law_draw (aCons (eVar 0) (aCons (eC (.int 6)) (aNil)))))) (sSeq (sSet 3 (eCB gMin2 (aCons (eVar 3) (aCons (eBin gSub (eC (.int 6)) (eCB gLenX (aCons (eVar 2) (aNil)))) (aNil))))) (sSeq (sSet 4 (eBin gAdd (eLst (aCons (eC (.str "lamp")) (aCons (eC (.str "bell")) (aCons (eC (.str "go")) (aNil))))) (eSl (eLst (aCons (eC (.str "a")) (aCons (eC (.str "a")) (aCons (eC (.str "b")) (aCons (eC (.str "b")) (aCons (eC (.str "c")) (aNil))))))) (oNone) (oSome (eBin gAtT (eLst (aCons (eC (.int 0)) (aCons (eC (.int 2)) (aCons (eC (.int 4)) (aCons (eC (.int 5)) (aNil)))))) (eVar 3)))))) (sSeq (sIf (tOf (eBin gGtD (eCallIo m__law_draw (aCons (eVar 0) (aCons (eC (.int 4)) (aNil)))) (eC (.int 0)))) (sSeq (sRet (eTup (aCons (eVar 2) (aCons (eVar 3) (aCons (eCallIo m__law_pieces (aCons (eVar 0) (aCons (eBin gAdd (eVar 2) (eBin gMulX (eTup (aCons (eC (.int 2)) (aNil))) (eVar 3))) (aCons (eBin gAdd (eSl (eLst (aCons (eC (.str "a")) (aCons (eC (.str "b")) (aCons (eC (.str "c")) (aNil))))) (oNone) (oSome (eVar 3))) (eLst (aCons (eC (.str "lamp")) (aCons (eC (.str "bell")) (aNil))))) (aNil))))) (aNil)))))) sNil) (sNil)) (sSeq (sRet (eTup (aCons (eVar 2) (aCons (eVar 3) (aCons (eCallIo m__law_statements (aCons (eVar 0) (aCons (eBin gAdd (eVar 2) (eBin gMulX (eTup (aCons (eC (.int 2)) (aNil))) (eVar 3))) (aCons (eVar 4) (aCons (eBin gAtT (eLst (aCons (eC (.int 8)) (aCons (eC (.int 14)) (aCons (eC (.int 22)) (aNil))))) (eCallIo m__law_draw (aCons (eVar 0) (aCons (eC (.int 3)) (aNil))))) (aNil)))))) (aNil)))))) sNil)))))
def m__law_controller : Ob → List D → Option (SV × SV) := dfnIo 2 5 g__law_controller
def g_is_integer : DSm := sSeq (sRet (eAnd (eIsi "int" (eVar 0)) (eNot (eIsi "bool" (eVar 0))))) sNil
def m_is_integer : List D → Option SV := dfn 1 1 g_is_integer
def g_is_within : DSm := sSeq (sRet (eAnd (eCall m_is_integer (aCons (eVar 0) (aNil))) (eChain gLeD gLeD (eVar 1) (eVar 0) (eVar 2)))) sNil
def m_is_within : List D → Option SV := dfn 3 3 g_is_within
def g_are_inputs : DSm := sSeq (sIf (bOr (bNot (tOf (eIsi "tuple" (eVar 0)))) (bNot (tOf (eChain gLeD gLeD (eC (.int 1)) (eCB gLenX (aCons (eVar 0) (aNil))) (eC (.int 6)))))) (sSeq (sRet (eC (.bl false))) sNil) (sNil)) (sSeq (sRet (eCB gAll (aCons (eLC (iOfX (eVar 0)) (gN 1) (bYes) (eCall m_is_within (aCons (eVar 1) (aCons (eC (.int 2)) (aCons (eC (.int 4)) (aNil))))) [1]) (aNil)))) sNil)
def m_are_inputs : List D → Option SV := dfn 1 2 g_are_inputs
def g_Controller_init : DSm := sSeq (sIf (bNot (tOf (eCall m_are_inputs (aCons (eVar 1) (aNil))))) (sNo) (sNil)) (sSeq (sIf (bNot (tOf (eCall m_is_within (aCons (eVar 2) (aCons (eC (.int 0)) (aCons (eBin gSub (eC (.int 6)) (eCB gLenX (aCons (eVar 1) (aNil)))) (aNil))))))) (sNo) (sNil)) (sSeq (sIf (bOr (bNot (tOf (eIsO "Program" (eVar 3)))) (tOf (eBin gNeD (eFld "Program" "sizes" (eVar 3)) (eBin gAdd (eVar 1) (eBin gMulX (eTup (aCons (eC (.int 2)) (aNil))) (eVar 2)))))) (sNo) (sNil)) (sSeq (sFldSet "Controller" "sizes" (eVar 0) (eVar 1)) (sSeq (sFldSet "Controller" "cells" (eVar 0) (eVar 2)) (sSeq (sFldSet "Controller" "program" (eVar 0) (eVar 3)) sNil)))))
def m_Controller_init : Ob → List D → Option (SV × SV) := dfnIo 4 4 g_Controller_init
def g_check_sizes : DSm := sSeq (sIf (bOr (bNot (tOf (eIsi "tuple" (eVar 0)))) (bNot (tOf (eChain gLeD gLeD (eC (.int 1)) (eCB gLenX (aCons (eVar 0) (aNil))) (eC (.int 6)))))) (sNo) (sNil)) (sSeq (sIf (bNot (tOf (eCB gAll (aCons (eLC (iOfX (eVar 0)) (gN 1) (bYes) (eCall m_is_within (aCons (eVar 1) (aCons (eC (.int 2)) (aCons (eC (.int 4)) (aNil))))) [1]) (aNil))))) (sNo) (sNil)) sNil)
def m_check_sizes : List D → Option SV := dfn 1 2 g_check_sizes
def g_is_content : DSm := sSeq (sIf (bOr (bNot (tOf (eIsi "tuple" (eVar 1)))) (tOf (eBin gNeD (eCB gLenX (aCons (eVar 1) (aNil))) (eCB gLenX (aCons (eVar 0) (aNil)))))) (sSeq (sRet (eC (.bl false))) sNil) (sNil)) (sSeq (sRet (eCB gAll (aCons (eLC (iZipD (aCons (eVar 0) (aCons (eVar 1) (aNil)))) (gTp (gCons' (gN 2) (gCons' (gN 3) (gNil')))) (bYes) (eCall m_is_within (aCons (eVar 3) (aCons (eC (.int 0)) (aCons (eBin gSub (eVar 2) (eC (.int 1))) (aNil))))) [2, 3]) (aNil)))) sNil)
def m_is_content : List D → Option SV := dfn 2 4 g_is_content
def g_sizes_at : DSm := sSeq (sRet (eCB gTuple (aCons (eLC (iOfX (eVar 1)) (gN 2) (bYes) (eBin gAtT (eVar 0) (eVar 2)) [2]) (aNil)))) sNil
def m_sizes_at : List D → Option SV := dfn 2 3 g_sizes_at
def g_is_pair : DSm := sSeq (sRet (eAnd (eIsi "tuple" (eVar 0)) (eBin gEqD (eCB gLenX (aCons (eVar 0) (aNil))) (eC (.int 2))))) sNil
def m_is_pair : List D → Option SV := dfn 1 1 g_is_pair
def g_is_lot : DSm := sSeq (sIf (bNot (tOf (eIsi "tuple" (eVar 0)))) (sSeq (sRet (eC (.bl false))) sNil) (sNil)) (sSeq (sSet 2 (eNeg (eC (.int 1)))) (sSeq (sFor (iOfX (eVar 0)) (gN 3) (sSeq (sIf (bNot (tOf (eCall m_is_within (aCons (eVar 3) (aCons (eBin gAdd (eVar 2) (eC (.int 1))) (aCons (eBin gSub (eVar 1) (eC (.int 1))) (aNil))))))) (sSeq (sRet (eC (.bl false))) sNil) (sNil)) (sSeq (sSet 2 (eVar 3)) sNil))) (sSeq (sRet (eC (.bl true))) sNil)))
def m_is_lot : List D → Option SV := dfn 2 4 g_is_lot
def g_is_test : DSm := sSeq (sIf (bOr (bNot (tOf (eCall m_is_pair (aCons (eVar 1) (aNil))))) (bOr (bNot (tOf (eCall m_is_lot (aCons (eBin gAtT (eVar 1) (eC (.int 0))) (aCons (eCB gLenX (aCons (eVar 0) (aNil))) (aNil)))))) (tOf (eBin gGtD (eCB gLenX (aCons (eBin gAtT (eVar 1) (eC (.int 0))) (aNil))) (eC (.int 3)))))) (sSeq (sRet (eC (.bl false))) sNil) (sNil)) (sSeq (sRet (eCall m_is_content (aCons (eCall m_sizes_at (aCons (eVar 0) (aCons (eBin gAtT (eVar 1) (eC (.int 0))) (aNil)))) (aCons (eBin gAtT (eVar 1) (eC (.int 1))) (aNil))))) sNil)
def m_is_test : List D → Option SV := dfn 2 2 g_is_test
def g_is_name : DSm := sSeq (sIf (bOr (bNot (tOf (eIsi "str" (eVar 0)))) (bNot (tOf (eChain gLeD gLeD (eC (.int 1)) (eCB gLenX (aCons (eVar 0) (aNil))) (eC (.int 8)))))) (sSeq (sRet (eC (.bl false))) sNil) (sNil)) (sSeq (sRet (eCB gAll (aCons (eLC (iOfX (eVar 0)) (gN 1) (bYes) (eChain gLeD gLeD (eC (.str "a")) (eVar 1) (eC (.str "z"))) [1]) (aNil)))) sNil)
def m_is_name : List D → Option SV := dfn 1 2 g_is_name
def g_is_statement : DSm := sSeq (sIf (bOr (bNot (tOf (eIsi "tuple" (eVar 1)))) (bOr (tOf (eBin gLtD (eCB gLenX (aCons (eVar 1) (aNil))) (eC (.int 2)))) (bNot (tOf (eIsi "str" (eBin gAtT (eVar 1) (eC (.int 0)))))))) (sSeq (sRet (eC (.bl false))) sNil) (sNil)) (sSeq (sIf (tOf (eBin gEqD (eBin gAtT (eVar 1) (eC (.int 0))) (eC (.str "skip")))) (sSeq (sRet (eAnd (eBin gEqD (eCB gLenX (aCons (eVar 1) (aNil))) (eC (.int 3))) (eAnd (eCall m_is_within (aCons (eBin gAtT (eVar 1) (eC (.int 1))) (aCons (eC (.int 1)) (aCons (eC (.int 2)) (aNil))))) (eCall m_is_test (aCons (eVar 0) (aCons (eBin gAtT (eVar 1) (eC (.int 2))) (aNil))))))) sNil) (sNil)) (sSeq (sIf (tOf (eBin gEqD (eBin gAtT (eVar 1) (eC (.int 0))) (eC (.str "deed")))) (sSeq (sRet (eAnd (eBin gEqD (eCB gLenX (aCons (eVar 1) (aNil))) (eC (.int 2))) (eCall m_is_name (aCons (eBin gAtT (eVar 1) (eC (.int 1))) (aNil))))) sNil) (sNil)) (sSeq (sRet (eAnd (eBin gInS (eBin gAtT (eVar 1) (eC (.int 0))) (eC (.tup [(.str "set"), (.str "clear"), (.str "turn")]))) (eAnd (eBin gEqD (eCB gLenX (aCons (eVar 1) (aNil))) (eC (.int 2))) (eCall m_is_test (aCons (eVar 0) (aCons (eBin gAtT (eVar 1) (eC (.int 1))) (aNil))))))) sNil)))
def m_is_statement : List D → Option SV := dfn 2 2 g_is_statement
def g_Program_init : DSm := sSeq (sExpr (eCall m_check_sizes (aCons (eVar 1) (aNil)))) (sSeq (sIf (bOr (bNot (tOf (eIsi "tuple" (eVar 2)))) (tOf (eBin gGtD (eCB gLenX (aCons (eVar 2) (aNil))) (eC (.int 5000))))) (sNo) (sNil)) (sSeq (sFor (iEnumD (aCons (eVar 2) (aNil))) (gTp (gCons' (gN 3) (gCons' (gN 4) (gNil')))) (sSeq (sIf (bNot (tOf (eCall m_is_statement (aCons (eVar 1) (aCons (eVar 4) (aNil)))))) (sNo) (sNil)) sNil)) (sSeq (sFldSet "Program" "sizes" (eVar 0) (eVar 1)) (sSeq (sFldSet "Program" "statements" (eVar 0) (eVar 2)) sNil))))
def m_Program_init : Ob → List D → Option (SV × SV) := dfnIo 3 5 g_Program_init
def g__law_made : DSm := sSeq (sAsg (eVar 0) (gTp (gCons' (gN 1) (gCons' (gN 2) (gCons' (gN 3) (gNil')))))) (sSeq (sRet (eMake "Controller" m_Controller_init (aCons (eVar 1) (aCons (eVar 2) (aCons (eMake "Program" m_Program_init (aCons (eBin gAdd (eVar 1) (eBin gMulX (eTup (aCons (eC (.int 2)) (aNil))) (eVar 2))) (aCons (eVar 3) (aNil)))) (aNil)))))) sNil)
def m__law_made : List D → Option SV := dfn 1 4 g__law_made
def g__law_contents : DSm := sSeq (sSet 1 (eLst (aCons (eTup (aNil)) (aNil)))) (sSeq (sFor (iOfX (eVar 0)) (gN 2) (sSeq (sSet 3 (eLst (aNil))) (sSeq (sFor (iOfX (eVar 1)) (gN 4) (sSeq (sExpr (eLM gExtend (eVar 3) (aCons (eLC (iR1 (aCons (eVar 2) (aNil))) (gN 5) (bYes) (eBin gAdd (eVar 4) (eTup (aCons (eVar 5) (aNil)))) [5]) (aNil)))) sNil)) (sSeq (sSet 1 (eVar 3)) sNil)))) (sSeq (sRet (eVar 1)) sNil))
def m__law_contents : List D → Option SV := dfn 1 6 g__law_contents
def g_check_state : DSm := sSeq (sIf (bNot (tOf (eCall m_is_content (aCons (eBin gMulX (eTup (aCons (eC (.int 2)) (aNil))) (eFld "Controller" "cells" (eVar 0))) (aCons (eVar 1) (aNil)))))) (sNo) (sNil)) sNil
def m_check_state : List D → Option SV := dfn 2 2 g_check_state
def g_check_content : DSm := sSeq (sIf (bNot (tOf (eCall m_is_content (aCons (eVar 0) (aCons (eVar 1) (aNil)))))) (sNo) (sNil)) sNil
def m_check_content : List D → Option SV := dfn 2 2 g_check_content
def g_Run_init : DSm := sSeq (sFldSetO "Run" "content" (eVar 0) (eVar 1)) (sSeq (sFldSetO "Run" "flag" (eVar 0) (eC (.bl false))) (sSeq (sFldSetO "Run" "left" (eVar 0) (eC (.int 0))) (sSeq (sFldSetK "Run" "names" (eVar 0) (eLst (aNil))) sNil)))
def m_Run_init : Ob → List D → Option (SV × SV) := dfnIo 2 2 g_Run_init
def g_joint_of : DSm := sSeq (sRet (eCB gTuple (aCons (eLC (iOfX (eVar 0)) (gN 2) (bYes) (eBin gAtT (eVar 1) (eVar 2)) [2]) (aNil)))) sNil
def m_joint_of : List D → Option SV := dfn 2 3 g_joint_of
def g_shows : DSm := sSeq (sRet (eBin gEqD (eCall m_joint_of (aCons (eBin gAtT (eVar 1) (eC (.int 0))) (aCons (eVar 0) (aNil)))) (eBin gAtT (eVar 1) (eC (.int 1))))) sNil
def m_shows : List D → Option SV := dfn 2 2 g_shows
def g_changed : DSm := sSeq (sRet (eIf (tOf (eBin gEqD (eVar 1) (eC (.str "turn")))) (eNot (eVar 0)) (eBin gEqD (eVar 1) (eC (.str "set"))))) sNil
def m_changed : List D → Option SV := dfn 2 2 g_changed
def g_Run_step : DSm := sSeq (sIf (tOf (eBin gGtD (eFldO "Run" "left" (eVar 0)) (eC (.int 0)))) (sSeq (sAugO "Run" "left" (gI (fun _ _ => true) (fun i j => i - j)) (eVar 0) (eC (.int 1))) (sSeq (sRet (eC (.bl true))) sNil)) (sNil)) (sSeq (sSet 2 (eBin gAtT (eVar 1) (eC (.int 0)))) (sSeq (sIf (tOf (eBin gEqD (eVar 2) (eC (.str "deed")))) (sSeq (sIf (tOf (eFldO "Run" "flag" (eVar 0))) (sSeq (sExpr (eLMF "Run" "names" gAppend (eVar 0) (aCons (eBin gAtT (eVar 1) (eC (.int 1))) (aNil)))) sNil) (sNil)) sNil) (sSeq (sIf (tOf (eCall m_shows (aCons (eFldO "Run" "content" (eVar 0)) (aCons (eBin gAtT (eVar 1) (eNeg (eC (.int 1)))) (aNil))))) (sSeq (sIf (tOf (eBin gEqD (eVar 2) (eC (.str "skip")))) (sSeq (sFldSetO "Run" "left" (eVar 0) (eBin gAtT (eVar 1) (eC (.int 1)))) sNil) (sSeq (sFldSetO "Run" "flag" (eVar 0) (eCall m_changed (aCons (eFldO "Run" "flag" (eVar 0)) (aCons (eVar 2) (aNil))))) sNil)) sNil) (sNil)) sNil)) (sSeq (sRet (eC (.bl false))) sNil)))
def m_Run_step : Ob → List D → Option (SV × SV) := dfnIo 2 3 g_Run_step
def g_run_of : DSm := sSeq (sSet 2 (eMakeO "Run" m_Run_init (aCons (eVar 1) (aNil)))) (sSeq (sFor (iOfX (eFld "Program" "statements" (eVar 0))) (gN 3) (sSeq (sExpr (eMethO "Run" "step" m_Run_step (eVar 2) (aCons (eVar 3) (aNil)))) sNil)) (sSeq (sRet (eVar 2)) sNil))
def m_run_of : List D → Option SV := dfn 2 4 g_run_of
def g_scan_of : DSm := sSeq (sSet 3 (eFldF "Run" "names" (eCall m_run_of (aCons (eFld "Controller" "program" (eVar 0)) (aCons (eBin gAdd (eVar 2) (eVar 1)) (aNil)))))) (sSeq (sSet 4 (eSl (eC (.str "abcdef")) (oNone) (oSome (eFld "Controller" "cells" (eVar 0))))) (sSeq (sSet 5 (eCB gTuple (aCons (eLC (iOfX (eVar 4)) (gN 6) (bYes) (eCB gInt (aCons (eBin gInS (eVar 6) (eVar 3)) (aNil))) [6]) (aNil)))) (sSeq (sRet (eTup (aCons (eVar 5) (aCons (eLC (iOfX (eVar 3)) (gN 7) (bNot (bAnd (tOf (eBin gEqD (eCB gLenX (aCons (eVar 7) (aNil))) (eC (.int 1)))) (tOf (eBin gInS (eVar 7) (eVar 4))))) (eVar 7) [7]) (aNil))))) sNil)))
def m_scan_of : List D → Option SV := dfn 3 8 g_scan_of
def g_scan : DSm := sSeq (sExpr (eCall m_check_state (aCons (eVar 0) (aCons (eVar 1) (aNil))))) (sSeq (sExpr (eCall m_check_content (aCons (eFld "Controller" "sizes" (eVar 0)) (aCons (eVar 2) (aNil))))) (sSeq (sRet (eCall m_scan_of (aCons (eVar 0) (aCons (eVar 1) (aCons (eVar 2) (aNil)))))) sNil))
def m_scan : List D → Option SV := dfn 3 3 g_scan
def g__law_joint : DSm := sSeq (sRet (eCB gTuple (aCons (eLC (iOfX (eVar 0)) (gN 2) (bYes) (eBin gAtT (eVar 1) (eVar 2)) [2]) (aNil)))) sNil
def m__law_joint : List D → Option SV := dfn 2 3 g__law_joint
def g__law_run : DSm := sSeq (sPar3 2 3 4 (aCons (eC (.int 0)) (aCons (eC (.int 0)) (aCons (eLst (aNil)) (aNil))))) (sSeq (sFor (iOfX (eVar 0)) (gN 5) (sSeq (sIf (tOf (eBin gGtD (eVar 3) (eC (.int 0)))) (sSeq (sSet 3 (eBin gSub (eVar 3) (eC (.int 1)))) sNil) (sSeq (sIf (tOf (eBin gEqD (eBin gAtT (eVar 5) (eC (.int 0))) (eC (.str "deed")))) (sSeq (sIf (tOf (eBin gEqD (eVar 2) (eC (.int 1)))) (sSeq (sExpr (eLM gAppend (eVar 4) (aCons (eBin gAtT (eVar 5) (eC (.int 1))) (aNil)))) sNil) (sNil)) sNil) (sSeq (sIf (tOf (eBin gEqD (eCall m__law_joint (aCons (eBin gAtT (eBin gAtT (eVar 5) (eNeg (eC (.int 1)))) (eC (.int 0))) (aCons (eVar 1) (aNil)))) (eBin gAtT (eBin gAtT (eVar 5) (eNeg (eC (.int 1)))) (eC (.int 1))))) (sSeq (sIf (tOf (eBin gEqD (eBin gAtT (eVar 5) (eC (.int 0))) (eC (.str "skip")))) (sSeq (sSet 3 (eBin gAtT (eVar 5) (eC (.int 1)))) sNil) (sSeq (sSet 2 (eBin gAtT (eDispX (pCons (eC (.str "set")) (eC (.int 1)) (pCons (eC (.str "clear")) (eC (.int 0)) (pCons (eC (.str "turn")) (eBin gSub (eC (.int 1)) (eVar 2)) (pNil))))) (eBin gAtT (eVar 5) (eC (.int 0))))) sNil)) sNil) (sNil)) sNil)) sNil)) sNil)) (sSeq (sRet (eTup (aCons (eVar 2) (aCons (eVar 4) (aNil))))) sNil))
def m__law_run : List D → Option SV := dfn 2 6 g__law_run
def g__law_scan : DSm := sSeq (sAsg (eVar 0) (gTp (gCons' (gN 3) (gCons' (gN 4) (gCons' (gN 5) (gNil')))))) (sSeq (sSet 6 (eBin gAtT (eCall m__law_run (aCons (eVar 5) (aCons (eBin gAdd (eVar 2) (eVar 1)) (aNil)))) (eC (.int 1)))) (sSeq (sSet 7 (eSl (eLst (aCons (eC (.str "a")) (aCons (eC (.str "b")) (aCons (eC (.str "c")) (aCons (eC (.str "d")) (aCons (eC (.str "e")) (aNil))))))) (oNone) (oSome (eVar 4)))) (sSeq (sRet (eTup (aCons (eCB gTuple (aCons (eLC (iOfX (eVar 7)) (gN 8) (bYes) (eCB gInt (aCons (eBin gInS (eVar 8) (eVar 6)) (aNil))) [8]) (aNil))) (aCons (eLC (iOfX (eVar 6)) (gN 9) (tOf (eBin gNotInS (eVar 9) (eVar 7))) (eVar 9) [9]) (aNil))))) sNil)))
def m__law_scan : List D → Option SV := dfn 3 10 g__law_scan
def g_first_state : DSm := sSeq (sRet (eBin gMulX (eTup (aCons (eC (.int 0)) (aNil))) (eFld "Controller" "cells" (eVar 0)))) sNil
def m_first_state : List D → Option SV := dfn 1 1 g_first_state
def g_tuples_of : DSm := sSeq (sSet 1 (eLst (aCons (eTup (aNil)) (aNil)))) (sSeq (sFor (iOfX (eVar 0)) (gN 2) (sSeq (sSet 1 (eLC2 (iOfX (eVar 1)) (gN 3) (bYes) (iR1 (aCons (eVar 2) (aNil))) (gN 4) (bYes) (eBin gAdd (eVar 3) (eTup (aCons (eVar 4) (aNil)))) [3, 4] [4])) sNil)) (sSeq (sRet (eVar 1)) sNil))
def m_tuples_of : List D → Option SV := dfn 1 5 g_tuples_of
def g_states_of : DSm := sSeq (sSet 1 (eLst (aCons (eCall m_first_state (aCons (eVar 0) (aNil))) (aNil)))) (sSeq (sSet 2 (eDispX (pCons (eBin gAtT (eVar 1) (eC (.int 0))) (eC (.bl true)) (pNil)))) (sSeq (sWhile fuel (tOf (eBin gGtD (eCB gLenX (aCons (eVar 1) (aNil))) (eC (.int 0)))) (sSeq (sSet 3 (eLM gPop (eVar 1) aNil)) (sSeq (sFor (iOfX (eCall m_tuples_of (aCons (eFld "Controller" "sizes" (eVar 0)) (aNil)))) (gN 4) (sSeq (sSet 5 (eBin gAtT (eCall m_scan_of (aCons (eVar 0) (aCons (eVar 3) (aCons (eVar 4) (aNil))))) (eC (.int 0)))) (sSeq (sIf (tOf (eBin gNotInS (eVar 5) (eVar 2))) (sSeq (sPutT (eVar 2) (eVar 5) (eC (.bl true))) (sSeq (sExpr (eLM gAppend (eVar 1) (aCons (eVar 5) (aNil)))) sNil)) (sNil)) sNil))) sNil))) (sSeq (sRet (eCB gSortedX (aCons (eVar 2) (aNil)))) sNil)))
def m_states_of : List D → Option SV := dfn 1 6 g_states_of
def g_states : DSm := sSeq (sRet (eCall m_states_of (aCons (eVar 0) (aNil)))) sNil
def m_states : List D → Option SV := dfn 1 1 g_states
def g_settled : DSm := sSeq (sExpr (eCall m_check_state (aCons (eVar 0) (aCons (eVar 1) (aNil))))) (sSeq (sExpr (eCall m_check_content (aCons (eFld "Controller" "sizes" (eVar 0)) (aCons (eVar 2) (aNil))))) (sSeq (sSet 3 (eDct0 .t)) (sSeq (sSet 4 (eVar 1)) (sSeq (sWhile fuel (tOf (eBin gNotInS (eVar 4) (eVar 3))) (sSeq (sPutT (eVar 3) (eVar 4) (eCB gLenX (aCons (eVar 3) (aNil)))) (sSeq (sSet 4 (eBin gAtT (eCall m_scan_of (aCons (eVar 0) (aCons (eVar 4) (aCons (eVar 2) (aNil))))) (eC (.int 0)))) sNil))) (sSeq (sRet (eTup (aCons (eBin gAtT (eVar 3) (eVar 4)) (aCons (eBin gSub (eCB gLenX (aCons (eVar 3) (aNil))) (eBin gAtT (eVar 3) (eVar 4))) (aNil))))) sNil)))))
def m_settled : List D → Option SV := dfn 3 5 g_settled
def g_steady : DSm := sSeq (sExpr (eCall m_check_content (aCons (eFld "Controller" "sizes" (eVar 0)) (aCons (eVar 1) (aNil))))) (sSeq (sSet 2 (eCall m_tuples_of (aCons (eBin gMulX (eTup (aCons (eC (.int 2)) (aNil))) (eFld "Controller" "cells" (eVar 0))) (aNil)))) (sSeq (sRet (eLC (iOfX (eVar 2)) (gN 3) (tOf (eBin gEqD (eBin gAtT (eCall m_scan_of (aCons (eVar 0) (aCons (eVar 3) (aCons (eVar 1) (aNil))))) (eC (.int 0))) (eVar 3))) (eVar 3) [3])) sNil))
def m_steady : List D → Option SV := dfn 2 4 g_steady
def g_first_bad : DSm := sSeq (sIf (bNot (tOf (eIsi2 "list" "tuple" (eVar 1)))) (sSeq (sRet (eNeg (eC (.int 1)))) sNil) (sNil)) (sSeq (sFor (iEnumD (aCons (eVar 1) (aNil))) (gTp (gCons' (gN 2) (gCons' (gN 3) (gNil')))) (sSeq (sIf (bNot (tOf (eCall m_is_content (aCons (eFld "Controller" "sizes" (eVar 0)) (aCons (eVar 3) (aNil)))))) (sSeq (sRet (eVar 2)) sNil) (sNil)) sNil)) (sSeq (sRet (eC .non)) sNil))
def m_first_bad : List D → Option SV := dfn 2 4 g_first_bad
def g_scanned : DSm := sSeq (sExpr (eCall m_check_state (aCons (eVar 0) (aCons (eVar 1) (aNil))))) (sSeq (sSet 3 (eCall m_first_bad (aCons (eVar 0) (aCons (eVar 2) (aNil))))) (sSeq (sIf (tOf (eBin gNotN (eVar 3) (eC .non))) (sNo) (sNil)) (sSeq (sSet 4 (eLst (aNil))) (sSeq (sSet 5 (eVar 1)) (sSeq (sFor (iOfX (eVar 2)) (gN 6) (sSeq (sExpr (eLM gAppend (eVar 4) (aCons (eCall m_scan_of (aCons (eVar 0) (aCons (eVar 5) (aCons (eVar 6) (aNil))))) (aNil)))) (sSeq (sSet 5 (eBin gAtT (eBin gAtT (eVar 4) (eNeg (eC (.int 1)))) (eC (.int 0)))) sNil))) (sSeq (sRet (eVar 4)) sNil))))))
def m_scanned : List D → Option SV := dfn 3 7 g_scanned
def g_check_inputs : DSm := sSeq (sIf (tOf (eBin gNeD (eFld "Controller" "sizes" (eVar 0)) (eFld "Controller" "sizes" (eVar 1)))) (sNo) (sNil)) sNil
def m_check_inputs : List D → Option SV := dfn 2 2 g_check_inputs
def g_is_parting : DSm := sSeq (sExpr (eCall m_check_inputs (aCons (eVar 0) (aCons (eVar 1) (aNil))))) (sSeq (sIf (bOr (bNot (tOf (eIsi "tuple" (eVar 2)))) (bOr (tOf (eBin gEqD (eCB gLenX (aCons (eVar 2) (aNil))) (eC (.int 0)))) (tOf (eBin gNotN (eCall m_first_bad (aCons (eVar 0) (aCons (eVar 2) (aNil)))) (eC .non))))) (sSeq (sRet (eC (.bl false))) sNil) (sNil)) (sSeq (sPar 3 4 (aCons (eCall m_scanned (aCons (eVar 0) (aCons (eCall m_first_state (aCons (eVar 0) (aNil))) (aCons (eVar 2) (aNil))))) (aCons (eCall m_scanned (aCons (eVar 1) (aCons (eCall m_first_state (aCons (eVar 1) (aNil))) (aCons (eVar 2) (aNil))))) (aNil)))) (sSeq (sRet (eBin gNeD (eBin gAtT (eBin gAtT (eVar 3) (eNeg (eC (.int 1)))) (eC (.int 1))) (eBin gAtT (eBin gAtT (eVar 4) (eNeg (eC (.int 1)))) (eC (.int 1))))) sNil)))
def m_is_parting : List D → Option SV := dfn 3 5 g_is_parting
def g_parting : DSm := sSeq (sExpr (eCall m_check_inputs (aCons (eVar 0) (aCons (eVar 1) (aNil))))) (sSeq (sSet 2 (eLst (aCons (eTup (aCons (eTup (aNil)) (aCons (eCall m_first_state (aCons (eVar 0) (aNil))) (aCons (eCall m_first_state (aCons (eVar 1) (aNil))) (aNil))))) (aNil)))) (sSeq (sSet 3 (eDispX (pCons (eSl (eBin gAtT (eVar 2) (eC (.int 0))) (oSome (eC (.int 1))) (oNone)) (eC (.bl true)) (pNil)))) (sSeq (sWhile fuel (tOf (eBin gGtD (eCB gLenX (aCons (eVar 2) (aNil))) (eC (.int 0)))) (sSeq (sSet 4 (eLst (aNil))) (sSeq (sFor (iOfX (eVar 2)) (gTp (gCons' (gN 5) (gCons' (gN 6) (gCons' (gN 7) (gNil'))))) (sSeq (sFor (iOfX (eCall m_tuples_of (aCons (eFld "Controller" "sizes" (eVar 0)) (aNil)))) (gN 8) (sSeq (sPar 9 10 (aCons (eCall m_scan_of (aCons (eVar 0) (aCons (eVar 6) (aCons (eVar 8) (aNil))))) (aCons (eCall m_scan_of (aCons (eVar 1) (aCons (eVar 7) (aCons (eVar 8) (aNil))))) (aNil)))) (sSeq (sIf (tOf (eBin gNeD (eBin gAtT (eVar 9) (eC (.int 1))) (eBin gAtT (eVar 10) (eC (.int 1))))) (sSeq (sRet (eBin gAdd (eVar 5) (eTup (aCons (eVar 8) (aNil))))) sNil) (sNil)) (sSeq (sIf (tOf (eBin gNotInS (eTup (aCons (eBin gAtT (eVar 9) (eC (.int 0))) (aCons (eBin gAtT (eVar 10) (eC (.int 0))) (aNil)))) (eVar 3))) (sSeq (sPutT (eVar 3) (eTup (aCons (eBin gAtT (eVar 9) (eC (.int 0))) (aCons (eBin gAtT (eVar 10) (eC (.int 0))) (aNil)))) (eC (.bl true))) (sSeq (sExpr (eLM gAppend (eVar 4) (aCons (eTup (aCons (eBin gAdd (eVar 5) (eTup (aCons (eVar 8) (aNil)))) (aCons (eBin gAtT (eVar 9) (eC (.int 0))) (aCons (eBin gAtT (eVar 10) (eC (.int 0))) (aNil))))) (aNil)))) sNil)) (sNil)) sNil)))) sNil)) (sSeq (sSet 2 (eVar 4)) sNil)))) (sSeq (sRet (eC .non)) sNil))))
def m_parting : List D → Option SV := dfn 2 11 g_parting
end DL.Law
/-! PL1: what the combinators do on ints, tuples of ints; loops. -/
namespace DL
open PySem PySem.Spec PyProof.Rows L2
open PySem.W (dataLt alike dataLe)
/-! ### ints compared -/
theorem py_int (i : Int) : (D.int i).py = .int i := by rw [D.py]
theorem pl_int (i : Int) : (D.int i).pl = true := by simp [D.pl]
theorem okPy_int (i : Int) : okPy (.int i) = true := by
  unfold okPy
  rw [py_int, pl_int]
  simp [PyData.depth]
theorem okOrd_int (i j : Int) : okOrd (.int i) (.int j) = true := by
  unfold okOrd
  rw [okPy_int, okPy_int, py_int, py_int]
  rfl
@[simp] theorem gLtD_int (i j : Int) : gLtD (.int i) (.int j) = some (.fz (.bl (decide (i < j)))) := by
  unfold gLtD gCmpD
  rw [if_pos (okOrd_int i j)]
  dsimp only
  rw [py_int, py_int, PySem.W.dataLt_int]
@[simp] theorem gGtD_int (i j : Int) : gGtD (.int i) (.int j) = some (.fz (.bl (decide (j < i)))) := by
  unfold gGtD gCmpD
  rw [if_pos (okOrd_int i j)]
  dsimp only
  rw [py_int, py_int, PySem.W.dataLt_int]
@[simp] theorem gLeD_int (i j : Int) : gLeD (.int i) (.int j) = some (.fz (.bl (decide (i ≤ j)))) := by
  unfold gLeD gCmpD
  rw [if_pos (okOrd_int i j)]
  dsimp only
  rw [py_int, py_int, PySem.W.dataLt_int]
  congr 3
  by_cases h : j < i
  · rw [decide_eq_true h, decide_eq_false (by omega)]; rfl
  · rw [decide_eq_false h, decide_eq_true (by omega)]; rfl
@[simp] theorem gGeD_int (i j : Int) : gGeD (.int i) (.int j) = some (.fz (.bl (decide (j ≤ i)))) := by
  unfold gGeD gCmpD
  rw [if_pos (okOrd_int i j)]
  dsimp only
  rw [py_int, py_int, PySem.W.dataLt_int]
  congr 3
  by_cases h : i < j
  · rw [decide_eq_true h, decide_eq_false (by omega)]; rfl
  · rw [decide_eq_false h, decide_eq_true (by omega)]; rfl
theorem eqv_int (i j : Int) : PyData.eqv (.int i) (.int j) = decide (i = j) := by
  simp [PyData.eqv, Bool.beq_eq_decide_eq]
@[simp] theorem gEqD_int (i j : Int) : gEqD (.int i) (.int j) = some (.fz (.bl (decide (i = j)))) := by
  unfold gEqD gCmpD okBoth
  rw [okPy_int, okPy_int, if_pos (by rfl)]
  dsimp only
  rw [py_int, py_int, eqv_int]
@[simp] theorem gNeD_int (i j : Int) : gNeD (.int i) (.int j) = some (.fz (.bl (!decide (i = j)))) := by
  unfold gNeD gCmpD okBoth
  rw [okPy_int, okPy_int, if_pos (by rfl)]
  dsimp only
  rw [py_int, py_int, eqv_int]
@[simp] theorem gSub_int (i j : Int) : gSub (.int i) (.int j) = some (.fz (.int (i - j))) := rfl
@[simp] theorem gAnd_int (i j : Int) : gAnd (.int i) (.int j) = some (.fz (.int (Builtin.bitAnd i j))) := rfl
@[simp] theorem gOr_int (i j : Int) : gOr (.int i) (.int j) = some (.fz (.int (Builtin.bitOr i j))) := rfl
@[simp] theorem gXor_int (i j : Int) : gXor (.int i) (.int j) = some (.fz (.int (Builtin.bitXor i j))) := rfl
@[simp] theorem gAdd_int (i j : Int) : gAdd (.int i) (.int j) = some (.fz (.int (i + j))) := rfl
/-! ### tuples of ints -/
def tupI (l : List Int) : D := .tup (l.map .int)
theorem pys_ints : ∀ l : List Int, D.pys (l.map D.int) = l.map PyData.int
  | [] => by rw [List.map_nil, D.pys]; rfl
  | i :: l => by rw [List.map_cons, D.pys, D.py, pys_ints l]; rfl
theorem pls_ints : ∀ l : List Int, D.pls (l.map D.int) = true
  | [] => by rw [List.map_nil, D.pls]
  | i :: l => by rw [List.map_cons, D.pls, pl_int, pls_ints l]; rfl
theorem py_tupI (l : List Int) : (tupI l).py = .tuple (l.map .int) := by
  unfold tupI
  rw [D.py, pys_ints]
theorem pl_tupI (l : List Int) : (tupI l).pl = true := by
  unfold tupI
  rw [D.pl, pls_ints]
theorem okPy_tupI (l : List Int) : okPy (tupI l) = true := by
  unfold okPy
  rw [pl_tupI, py_tupI, PyData.depth]
  have := depth_ints l
  simp
  omega
theorem eqvAll_ints : ∀ l m : List Int, PyData.eqvAll (l.map PyData.int) (m.map PyData.int) = decide (l = m)
  | [], [] => by simp [PyData.eqvAll]
  | [], _ :: _ => by simp [PyData.eqvAll]
  | _ :: _, [] => by simp [PyData.eqvAll]
  | i :: l, j :: m => by
    rw [List.map_cons, List.map_cons, PyData.eqvAll, eqv_int, eqvAll_ints l m]
    by_cases h : i = j
    · subst h
      by_cases h2 : l = m
      · subst h2; simp
      · simp [h2]
    · simp [h]
theorem eqv_tupI (l m : List Int) : PyData.eqv (tupI l).py (tupI m).py = decide (l = m) := by
  rw [py_tupI, py_tupI, PyData.eqv, eqvAll_ints]
@[simp] theorem gEqD_tupI (l m : List Int) : gEqD (tupI l) (tupI m) = some (.fz (.bl (decide (l = m)))) := by
  unfold gEqD gCmpD okBoth
  rw [okPy_tupI, okPy_tupI, if_pos (by rfl)]
  dsimp only
  rw [eqv_tupI]
theorem alike_tupI (l m : List Int) : alike (tupI l).py (tupI m).py = true := by
  rw [py_tupI, py_tupI]
  have h := PySem.W.alikeAll_map (α := Int) l m
  unfold PySem.W.alike
  exact h
theorem dataLt_tupI (l m : List Int) : dataLt (tupI l).py (tupI m).py = PySem.W.listLt l m := by
  rw [py_tupI, py_tupI, PySem.W.dataLt_tuple]
  exact PySem.W.lexAll_map (α := Int) l m
/-! ### loops -/
/-- a loop whose turns all go on, told by a relation -/
theorem forL_rel {α σ : Type} {enc : α → D} {g : DGt} {b : DSm} (Rl : σ → DS → Prop) (step : σ → α → σ) : ∀ (l : List α) (s : σ) (ds : DS), Rl s ds →
    (∀ a ∈ l, ∀ s ds, Rl s ds → ∃ ds1 ds2, g (enc a) ds = some ds1 ∧ b ds1 = some (.nx, ds2) ∧ Rl (step s a) ds2) → ∃ ds', forL g b (l.map enc) ds = some (.nx, ds') ∧ Rl (l.foldl step s) ds'
  | [], s, ds, h, _ => ⟨ds, rfl, h⟩
  | a :: l, s, ds, h, k => by
    obtain ⟨ds1, ds2, e1, e2, h2⟩ := k a List.mem_cons_self s ds h
    obtain ⟨ds', e3, h3⟩ := forL_rel Rl step l (step s a) ds2 h2 fun a' m => k a' (List.mem_cons_of_mem _ m)
    refine ⟨ds', ?_, h3⟩
    rw [List.map_cons]
    unfold forL
    rw [e1]
    show Option.bind (b ds1) _ = _
    rw [e2]
    exact e3
/-- a comprehension whose slots stay as they are -/
theorem lcL_map {α : Type} {enc : α → D} {g : DGt} {t : DB} {f : DX} {vs : List Nat} (F : α → D) (dsw : DS) : ∀ (l : List α) (acc : List D), acc.length + l.length ≤ sizeLine →
    (∀ a ∈ l, ∃ ds1 ds2 r ds3 ds4, g (enc a) dsw = some ds1 ∧ t ds1 = some (true, ds2) ∧ f ds2 = some (r, ds3) ∧ frR r ds3 = some (F a, ds4) ∧ wipeD ds4 vs = dsw) →
    lcL g t f vs (l.map enc) acc dsw = some (acc ++ l.map F, dsw)
  | [], acc, _, _ => by rw [List.map_nil, List.map_nil, List.append_nil]; rfl
  | a :: l, acc, hz, k => by
    obtain ⟨ds1, ds2, r, ds3, ds4, e1, e2, e3, e4, e5⟩ := k a List.mem_cons_self
    rw [List.length_cons] at hz
    have ih := lcL_map F dsw l (acc ++ [F a]) (by rw [List.length_append, List.length_singleton]; omega) fun a' m => k a' (List.mem_cons_of_mem _ m)
    rw [List.map_cons, List.map_cons]
    unfold lcL
    rw [e1]
    show Option.bind (t ds1) _ = _
    rw [e2]
    show Option.bind (f ds2) _ = _
    rw [e3]
    show Option.bind (frR r ds3) _ = _
    rw [e4]
    show (if acc.length < sizeLine then lcL g t f vs (l.map enc) (acc ++ [F a]) (wipeD ds4 vs) else none) = _
    rw [if_pos (by omega), e5, ih, List.append_assoc]
    rfl
/-- .. with a test -/
theorem lcL_filter {α : Type} {enc : α → D} {g : DGt} {t : DB} {f : DX} {vs : List Nat} (p : α → Bool) (F : α → D) (dsw : DS) : ∀ (l : List α) (acc : List D), acc.length + l.length ≤ sizeLine →
    (∀ a ∈ l, ∃ ds1 ds2, g (enc a) dsw = some ds1 ∧ t ds1 = some (p a, ds2) ∧ (p a = false → wipeD ds2 vs = dsw) ∧ (p a = true → ∃ r ds3 ds4, f ds2 = some (r, ds3) ∧ frR r ds3 = some (F a, ds4) ∧ wipeD ds4 vs = dsw)) →
    lcL g t f vs (l.map enc) acc dsw = some (acc ++ (l.filter p).map F, dsw)
  | [], acc, _, _ => by rw [List.map_nil, List.filter_nil, List.map_nil, List.append_nil]; rfl
  | a :: l, acc, hz, k => by
    obtain ⟨ds1, ds2, e1, e2, kf, kt⟩ := k a List.mem_cons_self
    rw [List.length_cons] at hz
    rw [List.map_cons]
    unfold lcL
    rw [e1]
    show Option.bind (t ds1) _ = _
    rw [e2]
    cases hp : p a with
    | false =>
      have ih := lcL_filter p F dsw l acc (by omega) fun a' m => k a' (List.mem_cons_of_mem _ m)
      show lcL g t f vs (l.map enc) acc (wipeD ds2 vs) = _
      rw [kf hp, ih, List.filter_cons_of_neg (by rw [hp]; exact Bool.false_ne_true)]
    | true =>
      obtain ⟨r, ds3, ds4, e3, e4, e5⟩ := kt hp
      have ih := lcL_filter p F dsw l (acc ++ [F a]) (by rw [List.length_append, List.length_singleton]; omega) fun a' m => k a' (List.mem_cons_of_mem _ m)
      show Option.bind (f ds2) _ = _
      rw [e3]
      show Option.bind (frR r ds3) _ = _
      rw [e4]
      show (if acc.length < sizeLine then lcL g t f vs (l.map enc) (acc ++ [F a]) (wipeD ds4 vs) else none) = _
      rw [if_pos (by omega), e5, ih, List.append_assoc, List.filter_cons_of_pos hp]
      rfl
end DL
/-! PL2: sorted tuples; a work list led to its end. -/
namespace DL
open PySem PySem.Spec PyProof.Rows L2
open PySem.W (dataLt alike dataLe listLt)
/-! ### sorting tuples of ints -/
def leT (a b : List Int) : Bool := !listLt b a
def sortT (l : List (List Int)) : List (List Int) := l.mergeSort leT
theorem dataLe_tupI (a b : List Int) : dataLe false D.py (tupI a) (tupI b) = leT a b := by
  unfold leT
  rw [← dataLt_tupI]
  rfl
theorem leT_total : PySem.W.TotalLe leT where
  trans a b c h1 h2 := by
    rw [← dataLe_tupI] at h1 h2 ⊢
    exact (PySem.W.sortLe_total _ _ _).trans _ _ _ h1 h2
  total a b := by
    rw [← dataLe_tupI, ← dataLe_tupI]
    exact (PySem.W.sortLe_total _ _ _).total _ _
theorem sortD_tupI (l : List (List Int)) : sortD (l.map tupI) = (sortT l).map tupI := by
  unfold sortD sortT
  exact (PySem.W.sort_maps (r := leT) (s := dataLe false D.py) tupI fun a _ b _ => (dataLe_tupI a b).symm).symm
theorem okSort_tupI {l : List (List Int)} (hn : ∀ a ∈ l, a ≠ []) (hz : l.length ≤ sizeLine) : okSort (l.map tupI) = true := by
  unfold okSort alikeB srtB
  simp only [Bool.and_eq_true, Bool.or_eq_true, List.all_eq_true, decide_eq_true_eq, List.length_map]
  refine ⟨fun a ha b hb => ?_, .inl fun a ha => ?_, fun a ha => ?_, hz⟩
  · obtain ⟨x, _, rfl⟩ := List.mem_map.mp ha
    obtain ⟨y, _, rfl⟩ := List.mem_map.mp hb
    exact alike_tupI x y
  · obtain ⟨x, hx, rfl⟩ := List.mem_map.mp ha
    cases x with
    | nil => exact absurd rfl (hn _ hx)
    | cons i x => rfl
  · obtain ⟨x, _, rfl⟩ := List.mem_map.mp ha
    exact okPy_tupI x
theorem gSorted_tupI {l : List (List Int)} (hn : ∀ a ∈ l, a ≠ []) (hz : l.length ≤ sizeLine) : gSorted [.lst (l.map tupI)] = some (.own (.lst ((sortT l).map tupI))) := by
  unfold gSorted
  dsimp only
  rw [if_pos (okSort_tupI hn hz), sortD_tupI]
theorem listLt_anti : ∀ {a b : List Int}, listLt a b = false → listLt b a = false → a = b
  | [], [], _, _ => rfl
  | [], _ :: _, h, _ => by cases h
  | _ :: _, [], _, h => by cases h
  | x :: a, y :: b, h1, h2 => by
    have h1 : (if x = y then listLt a b else decide (x < y)) = false := h1
    have h2 : (if y = x then listLt b a else decide (y < x)) = false := h2
    by_cases e : x = y
    · subst e
      rw [if_pos rfl] at h1 h2
      rw [listLt_anti h1 h2]
    · rw [if_neg e] at h1
      rw [if_neg (Ne.symm e)] at h2
      have := of_decide_eq_false h1
      have := of_decide_eq_false h2
      omega
theorem leT_anti (a b : List Int) (h1 : leT a b = true) (h2 : leT b a = true) : a = b := by
  unfold leT at h1 h2
  rw [Bool.not_eq_true'] at h1 h2
  exact listLt_anti h2 h1
/-- one order of a set of tuples -/
theorem sortT_perm {l m : List (List Int)} (h : l.Perm m) : sortT l = sortT m := by
  have hp : (sortT l).Pairwise (fun a b => leT a b = true) := PySem.W.sort_pairwise leT_total l
  exact PySem.W.Srt.the_of_perm leT leT_total.trans (fun a b => by rw [Bool.or_eq_true]; exact leT_total.total a b) leT_anti ((List.mergeSort_perm l _).trans h) hp
theorem sortT_mem {l : List (List Int)} {a : List Int} : a ∈ sortT l ↔ a ∈ l := List.mem_mergeSort
theorem sortT_nodup {l : List (List Int)} (h : l.Nodup) : (sortT l).Nodup := (List.mergeSort_perm l _).nodup_iff.mpr h
theorem sortT_len (l : List (List Int)) : (sortT l).length = l.length := List.length_mergeSort _
/-! ### a work list -/
def visit (kw : List Int × List Int) (x : Int) : List Int × List Int := if x ∈ kw.1 then kw else (kw.1 ++ [x], kw.2 ++ [x])
/-- what is come to -/
inductive Reach (succ : Int → List Int) (s : Int) : Int → Prop
  | start : Reach succ s s
  | step {x y : Int} : Reach succ s x → y ∈ succ x → Reach succ s y
structure FloodInv (succ : Int → List Int) (s : Int) (k w : List Int) : Prop where
  nd : k.Nodup
  sub : ∀ x ∈ w, x ∈ k
  done : ∀ x ∈ k, x ∈ w ∨ ∀ y ∈ succ x, y ∈ k
  rch : ∀ x ∈ k, Reach succ s x
  st : s ∈ k
/-- while the successors of x are seen: those of x that are left may lack -/
structure MidInv (succ : Int → List Int) (s x : Int) (seen : List Int) (k w : List Int) : Prop where
  nd : k.Nodup
  sub : ∀ z ∈ w, z ∈ k
  done : ∀ z ∈ k, z ∈ w ∨ z = x ∨ ∀ y ∈ succ z, y ∈ k
  here : ∀ y ∈ seen, y ∈ k
  rch : ∀ z ∈ k, Reach succ s z
  st : s ∈ k
theorem visit_mid {succ : Int → List Int} {s x y : Int} {seen k w : List Int} (hx : Reach succ s x) (hy : y ∈ succ x) (h : MidInv succ s x seen k w) : MidInv succ s x (seen ++ [y]) (visit (k, w) y).1 (visit (k, w) y).2 := by
  unfold visit
  by_cases c : y ∈ k
  · rw [if_pos c]
    exact ⟨h.nd, h.sub, h.done, fun z hz => by
      rcases List.mem_append.mp hz with hz | hz
      · exact h.here z hz
      · rw [List.mem_singleton.mp hz]; exact c, h.rch, h.st⟩
  · rw [if_neg c]
    refine ⟨?_, fun z hz => ?_, fun z hz => ?_, fun z hz => ?_, fun z hz => ?_, List.mem_append_left _ h.st⟩
    · rw [List.nodup_append]
      exact ⟨h.nd, by simp, fun a ha b hb => by rw [List.mem_singleton.mp hb]; exact fun e => c (e ▸ ha)⟩
    · rcases List.mem_append.mp hz with hz | hz
      · exact List.mem_append_left _ (h.sub z hz)
      · exact List.mem_append_right _ hz
    · rcases List.mem_append.mp hz with hz | hz
      · rcases h.done z hz with d | d | d
        · exact .inl (List.mem_append_left _ d)
        · exact .inr (.inl d)
        · exact .inr (.inr fun u hu => List.mem_append_left _ (d u hu))
      · exact .inl (List.mem_append_right _ hz)
    · rcases List.mem_append.mp hz with hz | hz
      · exact List.mem_append_left _ (h.here z hz)
      · exact List.mem_append_right _ hz
    · rcases List.mem_append.mp hz with hz | hz
      · exact h.rch z hz
      · rw [List.mem_singleton.mp hz]; exact .step hx hy
theorem visits_mid {succ : Int → List Int} {s x : Int} (hx : Reach succ s x) : ∀ {l seen k w : List Int}, (∀ y ∈ l, y ∈ succ x) → MidInv succ s x seen k w → MidInv succ s x (seen ++ l) (l.foldl visit (k, w)).1 (l.foldl visit (k, w)).2
  | [], seen, k, w, _, h => by rw [List.append_nil]; exact h
  | y :: l, seen, k, w, hl, h => by
    have h1 := visit_mid hx (hl y List.mem_cons_self) h
    have h2 := visits_mid hx (l := l) (fun z hz => hl z (List.mem_cons_of_mem _ hz)) h1
    rw [List.append_assoc] at h2
    exact h2
/-- one turn of the work list -/
theorem flood_turn {succ : Int → List Int} {s x : Int} {k w : List Int} (h : FloodInv succ s k (w ++ [x])) : FloodInv succ s ((succ x).foldl visit (k, w)).1 ((succ x).foldl visit (k, w)).2 := by
  have hxk : x ∈ k := h.sub x (List.mem_append_right _ (List.mem_singleton.mpr rfl))
  have m0 : MidInv succ s x [] k w := ⟨h.nd, fun z hz => h.sub z (List.mem_append_left _ hz), fun z hz => by
    rcases h.done z hz with d | d
    · rcases List.mem_append.mp d with d | d
      · exact .inl d
      · exact .inr (.inl (List.mem_singleton.mp d))
    · exact .inr (.inr d), fun y hy => absurd hy (by simp), h.rch, h.st⟩
  have m1 := visits_mid (h.rch x hxk) (l := succ x) (fun y hy => hy) m0
  rw [List.nil_append] at m1
  exact ⟨m1.nd, m1.sub, fun z hz => by
    rcases m1.done z hz with d | d | d
    · exact .inl d
    · subst d; exact .inr m1.here
    · exact .inr d, m1.rch, m1.st⟩
theorem visits_len : ∀ (l k w : List Int), (l.foldl visit (k, w)).2.length + k.length = (l.foldl visit (k, w)).1.length + w.length
  | [], k, w => Nat.add_comm _ _
  | y :: l, k, w => by
    rw [List.foldl_cons]
    by_cases c : y ∈ k
    · rw [show visit (k, w) y = (k, w) from if_pos c]; exact visits_len l k w
    · rw [show visit (k, w) y = (k ++ [y], w ++ [y]) from if_neg c]
      have := visits_len l (k ++ [y]) (w ++ [y])
      simp only [List.length_append, List.length_singleton] at this
      omega
theorem nodup_le {l u : List Int} (hn : l.Nodup) (hs : ∀ x ∈ l, x ∈ u) : l.length ≤ u.length := by
  induction l generalizing u with
  | nil => exact Nat.zero_le _
  | cons x l ih =>
    obtain ⟨h1, h2⟩ := List.nodup_cons.mp hn
    have hx := hs x List.mem_cons_self
    have := ih (u := u.erase x) h2 fun y hy => (List.mem_erase_of_ne (fun e : y = x => h1 (by rw [← e]; exact hy))).mpr (hs y (List.mem_cons_of_mem _ hy))
    rw [List.length_erase_of_mem hx] at this
    have : 0 < u.length := List.length_pos_of_mem hx
    rw [List.length_cons]
    omega
/-- THE RULE for a work list: St tells the slots by what is known and what waits; U holds all that is come to -/
theorem wh_flood {t : DB} {f : DSm} {succ : Int → List Int} {s : Int} {U : List Int} (St : List Int → List Int → DS → Prop) (hU : ∀ x, Reach succ s x → x ∈ U)
    (ht : ∀ k w ds, St k w ds → ∃ ds', t ds = some (decide (w ≠ []), ds') ∧ St k w ds')
    (hf : ∀ k w x ds, FloodInv succ s k (w ++ [x]) → St k (w ++ [x]) ds → ∃ ds', f ds = some (.nx, ds') ∧ St ((succ x).foldl visit (k, w)).1 ((succ x).foldl visit (k, w)).2 ds') :
    ∀ (n : Nat) (k w : List Int) (ds : DS), FloodInv succ s k w → St k w ds → U.length + w.length < n + k.length → ∃ K ds', wh t f n ds = some (.nx, ds') ∧ FloodInv succ s K [] ∧ St K [] ds'
  | 0, k, w, ds, h, _, hn => by
    have := nodup_le h.nd fun x hx => hU x (h.rch x hx)
    omega
  | n + 1, k, w, ds, h, hs, hn => by
    obtain ⟨ds1, e1, s1⟩ := ht k w ds hs
    by_cases c : w = []
    · subst c
      refine ⟨k, ds1, ?_, h, s1⟩
      unfold wh
      rw [e1]
      rfl
    · obtain ⟨w', x, rfl⟩ : ∃ w' x, w = w' ++ [x] := ⟨w.dropLast, w.getLast c, (List.dropLast_concat_getLast c).symm⟩
      obtain ⟨ds2, e2, s2⟩ := hf k w' x ds1 h s1
      have hl := visits_len (succ x) k w'
      obtain ⟨K, ds', e3, h3, s3⟩ := wh_flood St hU ht hf n _ _ ds2 (flood_turn h) s2 (by rw [List.length_append, List.length_singleton] at hn; omega)
      refine ⟨K, ds', ?_, h3, s3⟩
      unfold wh
      rw [e1]
      show (if decide (w' ++ [x] ≠ []) = true then Option.bind (f ds1) _ else _) = _
      rw [if_pos (decide_eq_true c), e2]
      exact e3
theorem FloodInv.mem {succ : Int → List Int} {s : Int} {K : List Int} (h : FloodInv succ s K []) (x : Int) : x ∈ K ↔ Reach succ s x := by
  refine ⟨h.rch x, fun r => ?_⟩
  induction r with
  | start => exact h.st
  | step r hy ih =>
    rcases h.done _ ih with d | d
    · cases d
    · exact d _ hy
theorem FloodInv.init (succ : Int → List Int) (s : Int) : FloodInv succ s [s] [s] :=
  ⟨List.nodup_cons.mpr ⟨by simp, List.nodup_nil⟩, fun x hx => hx, fun x hx => .inl hx, fun x hx => by rw [List.mem_singleton.mp hx]; exact .start, List.mem_singleton.mpr rfl⟩
end DL
/-! PL3: the combinators by what they do (printed by pl3.py). -/
namespace DL
open PySem PySem.Spec PyProof.Rows L2
@[simp] theorem eVar_ap (i : Nat) (ds : DS) : eVar i ds = (match ds[i]? with
  | some (some (.fz d)) => some (.fz d, ds)
  | some (some (.own _)) => some (.slot i, ds)
  | _ => none) := rfl
@[simp] theorem eC_ap (d : D) (ds : DS) : eC d ds = (some (.fz d, ds)) := rfl
@[simp] theorem aNil_ap  (ds : DS) : aNil  ds = (some ([], ds)) := rfl
@[simp] theorem aCons_ap (f : DX) (g : DAs) (ds : DS) : aCons f g ds = (Option.bind (f ds) fun p => Option.bind (g p.2) fun q => some (p.1 :: q.1, q.2)) := rfl
@[simp] theorem eBin_ap (g : D → D → Option R) (fa fb : DX) (ds : DS) : eBin g fa fb ds = (Option.bind (fa ds) fun p => Option.bind (fb p.2) fun q => Option.bind (p.1.val q.2) fun dx => Option.bind (q.1.val q.2) fun dy => Option.bind (g dx dy) fun r => some (r, q.2)) := rfl
@[simp] theorem tOf_ap (f : DX) (ds : DS) : tOf f ds = (Option.bind (f ds) fun p => Option.bind (bOf p.1) fun b => some (b, p.2)) := rfl
@[simp] theorem bAnd_ap (f g : DB) (ds : DS) : bAnd f g ds = (Option.bind (f ds) fun p => if p.1 = true then g p.2 else some (false, p.2)) := rfl
@[simp] theorem bOr_ap (f g : DB) (ds : DS) : bOr f g ds = (Option.bind (f ds) fun p => if p.1 = true then some (true, p.2) else g p.2) := rfl
@[simp] theorem bNot_ap (f : DB) (ds : DS) : bNot f ds = (Option.bind (f ds) fun p => some (!p.1, p.2)) := rfl
@[simp] theorem sNil_ap  (ds : DS) : sNil  ds = (some (.nx, ds)) := rfl
@[simp] theorem sSeq_ap (f g : DSm) (ds : DS) : sSeq f g ds = (Option.bind (f ds) fun p => match p.1 with
  | .nx => g p.2
  | .ret r => some (.ret r, p.2)
  | .brk => some (.brk, p.2)
  | .cont => some (.cont, p.2)) := rfl
@[simp] theorem sBrk_ap  (ds : DS) : sBrk  ds = (some (.brk, ds)) := rfl
@[simp] theorem sCont_ap  (ds : DS) : sCont  ds = (some (.cont, ds)) := rfl
@[simp] theorem sExpr_ap (f : DX) (ds : DS) : sExpr f ds = (Option.bind (f ds) fun p => some (.nx, p.2)) := rfl
@[simp] theorem sRet_ap (f : DX) (ds : DS) : sRet f ds = (Option.bind (f ds) fun p => some (.ret p.1, p.2)) := rfl
@[simp] theorem sIf_ap (t : DB) (f g : DSm) (ds : DS) : sIf t f g ds = (Option.bind (t ds) fun p => if p.1 = true then f p.2 else g p.2) := rfl
@[simp] theorem sSet_ap (i : Nat) (f : DX) (ds : DS) : sSet i f ds = (Option.bind (f ds) fun p => match p.1 with
  | .own ob => some (.nx, p.2.set i (some (.own ob)))
  | .fz d => some (.nx, p.2.set i (some (.fz d)))
  | .slot k => Option.bind (frR (.slot k) p.2) fun q => some (.nx, q.2.set i (some (.fz q.1)))) := rfl
@[simp] theorem gN_ap (i : Nat) (d : D) (ds : DS) : gN i d ds = (some (ds.set i (some (.fz d)))) := rfl
@[simp] theorem gNil__ap  (dd : List D) (ds : DS) : gNil'  dd ds = (match dd with
  | [] => some ds
  | _ => none) := rfl
@[simp] theorem gCons__ap (g : DGt) (gs : DGs) (dd : List D) (ds : DS) : gCons' g gs dd ds = (match dd with
  | d :: r => Option.bind (g d ds) fun ds1 => gs r ds1
  | [] => none) := rfl
@[simp] theorem gTp_ap (gs : DGs) (d : D) (ds : DS) : gTp gs d ds = (match d with
  | .tup dd => gs dd ds
  | _ => none) := rfl
@[simp] theorem sAsg_ap (f : DX) (g : DGt) (ds : DS) : sAsg f g ds = (Option.bind (f ds) fun p => Option.bind (frR p.1 p.2) fun q => Option.bind (g q.1 q.2) fun ds2 => some (.nx, ds2)) := rfl
@[simp] theorem sFor_ap (fi : DIt) (g : DGt) (b : DSm) (ds : DS) : sFor fi g b ds = (Option.bind (fi ds) fun p => forL g b p.1 p.2) := rfl
@[simp] theorem bYes_ap  (ds : DS) : bYes  ds = (some (true, ds)) := rfl
@[simp] theorem eCall_ap (sem : List D → Option SV) (fa : DAs) (ds : DS) : eCall sem fa ds = (Option.bind (fa ds) fun p => Option.bind (frRs p.1 p.2) fun q => Option.bind (sem q.1) fun sv => some (svR sv, q.2)) := rfl
@[simp] theorem eCallIo_ap (sem : Ob → List D → Option (SV × SV)) (fa : DAs) (ds : DS) : eCallIo sem fa ds = (Option.bind (fa ds) fun p => match p.1 with
  | .slot i :: rs => Option.bind (frRs rs p.2) fun q => match q.2[i]? with
    | some (some (.own ob)) => Option.bind (sem ob q.1) fun z => some (svR z.1, q.2.set i (some z.2))
    | _ => none
  | _ => none) := rfl
@[simp] theorem eMakeO_ap (c : Str) (sem : Ob → List D → Option (SV × SV)) (fa : DAs) (ds : DS) : eMakeO c sem fa ds = (Option.bind (fa ds) fun p => Option.bind (frRs p.1 p.2) fun q => Option.bind (sem (.insO c []) q.1) fun z => match z with
  | (.fz .non, .own ob) => some (.own ob, q.2)
  | _ => none) := rfl
@[simp] theorem eMake_ap (c : Str) (sem : Ob → List D → Option (SV × SV)) (fa : DAs) (ds : DS) : eMake c sem fa ds = (Option.bind (fa ds) fun p => Option.bind (frRs p.1 p.2) fun q => Option.bind (sem (.ins c []) q.1) fun z => match z with
  | (.fz .non, .own ob) => some (.own ob, q.2)
  | _ => none) := rfl
@[simp] theorem eFld_ap (c f : Str) (fe : DX) (ds : DS) : eFld c f fe ds = (Option.bind (fe ds) fun p => if p.1.plain p.2 = true then (match p.1.val p.2 with
  | some (.ins c' fs) => if c' = c then Option.bind (fs.lookup f) fun x => some (.fz x, p.2) else none
  | _ => none) else none) := rfl
@[simp] theorem sFldSet_ap (c g : Str) (fo fv : DX) (ds : DS) : sFldSet c g fo fv ds = (Option.bind (fv ds) fun p => Option.bind (frR p.1 p.2) fun q => Option.bind (fo q.2) fun z => match z.1 with
  | .slot i => match z.2[i]? with
    | some (some (.own (.ins c' fs))) => if c' = c ∧ fs.length < 1000 then some (.nx, z.2.set i (some (.own (.ins c (putD g q.1 fs))))) else none
    | _ => none
  | _ => none) := rfl
@[simp] theorem eTup_ap (fa : DAs) (ds : DS) : eTup fa ds = (Option.bind (fa ds) fun p => Option.bind (frRs p.1 p.2) fun q => if q.1.length ≤ sizeLine then some (.fz (.tup q.1), q.2) else none) := rfl
@[simp] theorem eLst_ap (fa : DAs) (ds : DS) : eLst fa ds = (Option.bind (fa ds) fun p => Option.bind (frRs p.1 p.2) fun q => if q.1.length ≤ sizeLine then some (.own (.lst q.1), q.2) else none) := rfl
@[simp] theorem eAnd_ap (f g : DX) (ds : DS) : eAnd f g ds = (Option.bind (f ds) fun p => match bOf p.1 with
  | some true => g p.2
  | some false => some (.fz (.bl false), p.2)
  | none => none) := rfl
@[simp] theorem eOr_ap (f g : DX) (ds : DS) : eOr f g ds = (Option.bind (f ds) fun p => match bOf p.1 with
  | some true => some (.fz (.bl true), p.2)
  | some false => g p.2
  | none => none) := rfl
@[simp] theorem eNot_ap (f : DX) (ds : DS) : eNot f ds = (Option.bind (f ds) fun p => Option.bind (bOf p.1) fun b => some (.fz (.bl (!b)), p.2)) := rfl
@[simp] theorem eIf_ap (t : DB) (f g : DX) (ds : DS) : eIf t f g ds = (Option.bind (t ds) fun p => if p.1 = true then f p.2 else g p.2) := rfl
@[simp] theorem eChain_ap (g1 g2 : D → D → Option R) (fa fb fc : DX) (ds : DS) : eChain g1 g2 fa fb fc ds = (Option.bind (fa ds) fun p => Option.bind (fb p.2) fun q => Option.bind (p.1.val q.2) fun dx => Option.bind (q.1.val q.2) fun dy => Option.bind (g1 dx dy) fun r => match bOf r with
  | some true => Option.bind (fc q.2) fun z => Option.bind (q.1.val z.2) fun dy => Option.bind (z.1.val z.2) fun dz => Option.bind (g2 dy dz) fun r => Option.bind (bOf r) fun b => some (.fz (.bl b), z.2)
  | some false => some (.fz (.bl false), q.2)
  | none => none) := rfl
@[simp] theorem oNone_ap  (ds : DS) : oNone  ds = (some (none, ds)) := rfl
@[simp] theorem oSome_ap (f : DX) (ds : DS) : oSome f ds = (Option.bind (f ds) fun p => match p.1 with
  | .fz (.int i) => some (some i, p.2)
  | _ => none) := rfl
@[simp] theorem eSl_ap (fa : DX) (fl fh : DOp) (ds : DS) : eSl fa fl fh ds = (Option.bind (fa ds) fun p => Option.bind (fl p.2) fun l => Option.bind (fh l.2) fun h => match p.1.val h.2 with
  | some (.lst xs) => some (.own (.lst (cutL xs l.1 h.1)), h.2)
  | some (.tup xs) => some (.fz (.tup (cutL xs l.1 h.1)), h.2)
  | some (.str z) => if z.length ≤ sizeLine then some (.fz (.str (cutS z l.1 h.1)), h.2) else none
  | _ => none) := rfl
@[simp] theorem eCB_ap (g : List D → Option R) (fs : DAs) (ds : DS) : eCB g fs ds = (Option.bind (fs ds) fun p => Option.bind (vals p.1 p.2) fun dd => Option.bind (g dd) fun r => some (r, p.2)) := rfl
@[simp] theorem eIsi_ap (T : String) (f : DX) (ds : DS) : eIsi T f ds = (Option.bind (f ds) fun p => Option.bind (p.1.val p.2) fun d => Option.bind (isiT T d) fun b => some (.fz (.bl b), p.2)) := rfl
@[simp] theorem eLM_ap (g : GL) (fo : DX) (fs : DAs) (ds : DS) : eLM g fo fs ds = (Option.bind (fo ds) fun p => Option.bind (slotOf p.1) fun i => Option.bind (lstAt p.2 i) fun _ => Option.bind (fs p.2) fun q => Option.bind (frRs q.1 q.2) fun z => Option.bind (lstAt z.2 i) fun l =>
  Option.bind (g l z.1) fun y => some (.fz y.1, z.2.set i (some (.own (.lst y.2))))) := rfl
@[simp] theorem iOf_ap (fe : DX) (ds : DS) : iOf fe ds = (Option.bind (fe ds) fun p => Option.bind (frR p.1 p.2) fun q => Option.bind (selIt q.1) fun l => some (l, q.2)) := rfl
@[simp] theorem iR1_ap (fs : DAs) (ds : DS) : iR1 fs ds = (Option.bind (fs ds) fun p => match p.1 with
  | [.fz (.int j)] => if small j = true then some (rng 0 j.toNat, p.2) else none
  | _ => none) := rfl
@[simp] theorem iR2_ap (fs : DAs) (ds : DS) : iR2 fs ds = (Option.bind (fs ds) fun p => match p.1 with
  | [.fz (.int i), .fz (.int j)] => if small i = true ∧ small j = true then some (rng i (j - i).toNat, p.2) else none
  | _ => none) := rfl
@[simp] theorem iEnumD_ap (fs : DAs) (ds : DS) : iEnumD fs ds = (Option.bind (fs ds) fun p => Option.bind (frRs p.1 p.2) fun q => match q.1 with
  | [d] => Option.bind (selLT d) fun l => some (enumD l, q.2)
  | _ => none) := rfl
@[simp] theorem iZipD_ap (fs : DAs) (ds : DS) : iZipD fs ds = (Option.bind (fs ds) fun p => Option.bind (frRs p.1 p.2) fun q => match q.1 with
  | [.lst l, .lst m] => some (zipD l m, q.2)
  | [.tup l, .tup m] => some (zipD l m, q.2)
  | _ => none) := rfl
@[simp] theorem eIxW_ap (t : List (Str × D)) (f : DX) (ds : DS) : eIxW t f ds = (Option.bind (f ds) fun p => Option.bind (p.1.val p.2) fun d => match d with
  | .str x => Option.bind (tblGet t x) fun r => some (.fz r, p.2)
  | _ => none) := rfl
@[simp] theorem sPutT_ap (fo fi fe : DX) (ds : DS) : sPutT fo fi fe ds = (Option.bind (fe ds) fun p => Option.bind (frR p.1 p.2) fun q => Option.bind (fo q.2) fun z => Option.bind (slotOf z.1) fun n => Option.bind (fi z.2) fun y => Option.bind (y.1.val y.2) fun dy =>
  Option.bind (ownAt y.2 n) fun ob => Option.bind (putAtT ob dy q.1) fun ob' => some (.nx, y.2.set n (some (.own ob')))) := rfl
@[simp] theorem sAug_ap (i : Nat) (g : D → D → Option R) (fe : DX) (ds : DS) : sAug i g fe ds = (Option.bind (fzAt ds i) fun dx => Option.bind (fe ds) fun p => Option.bind (p.1.val p.2) fun dy => Option.bind (g dx dy) fun r => match r with
  | .fz d => some (.nx, p.2.set i (some (.fz d)))
  | _ => none) := rfl
@[simp] theorem sPar_ap (i j : Nat) (fs : DAs) (ds : DS) : sPar i j fs ds = (Option.bind (fs ds) fun p => match p.1 with
  | [r1, r2] => Option.bind (stR r1) fun s1 => Option.bind (stR r2) fun s2 => some (.nx, (p.2.set j (some s2)).set i (some s1))
  | _ => none) := rfl
@[simp] theorem sPar3_ap (i j l : Nat) (fs : DAs) (ds : DS) : sPar3 i j l fs ds = (Option.bind (fs ds) fun p => match p.1 with
  | [r1, r2, r3] => Option.bind (stR r1) fun s1 => Option.bind (stR r2) fun s2 => Option.bind (stR r3) fun s3 => some (.nx, ((p.2.set l (some s3)).set j (some s2)).set i (some s1))
  | _ => none) := rfl
@[simp] theorem pNil_ap  (ds : DS) : pNil  ds = (some ([], ds)) := rfl
@[simp] theorem pCons_ap (fk fv : DX) (r : DPs) (ds : DS) : pCons fk fv r ds = (Option.bind (fk ds) fun p => Option.bind (frR p.1 p.2) fun k => Option.bind (fv k.2) fun q => Option.bind (frR q.1 q.2) fun v => Option.bind (r v.2) fun z => some ((k.1, v.1) :: z.1, z.2)) := rfl
@[simp] theorem eDisp_ap (f : DPs) (ds : DS) : eDisp f ds = (Option.bind (f ds) fun p => Option.bind (keyKs p.1) fun l => if p.1.length ≤ 15 then some (.own (.dct .k (mergeKD [] l)), p.2) else none) := rfl
@[simp] theorem eDct0_ap (t : KK) (ds : DS) : eDct0 t ds = (some (.own (.dct t []), ds)) := rfl
@[simp] theorem eDispT_ap (f : DPs) (ds : DS) : eDispT f ds = (Option.bind (f ds) fun p => Option.bind (keyTs p.1) fun l => if l.length ≤ 15 then some (.own (.dct .t (mergeTD [] l)), p.2) else none) := rfl
@[simp] theorem eLstRg1_ap (f : DX) (ds : DS) : eLstRg1 f ds = (Option.bind (f ds) fun p => match p.1 with
  | .fz (.int n) => if n ≤ 2 ^ 24 ∧ -(2 ^ 62) ≤ n then some (.own (.lst (rng 0 n.toNat)), p.2) else none
  | _ => none) := rfl
@[simp] theorem eEqI_ap (neg : Bool) (c : Str) (sem : List D → Option SV) (fa fb : DX) (ds : DS) : eEqI neg c sem fa fb ds = (Option.bind (fa ds) fun p => Option.bind (frR p.1 p.2) fun x => Option.bind (fb x.2) fun q => Option.bind (frR q.1 q.2) fun y => match x.1, y.1 with
  | .ins c1 fs, .ins c2 gs => if c1 = c ∧ c2 = c then (match sem [.ins c fs, .ins c gs] with
      | some (.fz (.bl bb)) => some (.fz (.bl (if neg then !bb else bb)), y.2)
      | _ => none) else none
  | _, _ => none) := rfl
@[simp] theorem eIsO_ap (c : Str) (f : DX) (ds : DS) : eIsO c f ds = (Option.bind (f ds) fun p => Option.bind (p.1.val p.2) fun d => Option.bind (isO c d) fun b => some (.fz (.bl b), p.2)) := rfl
@[simp] theorem eRM_ap (g : D → List D → Option R) (fo : DX) (fs : DAs) (ds : DS) : eRM g fo fs ds = (Option.bind (fo ds) fun p => Option.bind (frR p.1 p.2) fun x => Option.bind (fs x.2) fun q => Option.bind (frRs q.1 q.2) fun z => Option.bind (g x.1 z.1) fun r => some (r, z.2)) := rfl
@[simp] theorem eNeg_ap (f : DX) (ds : DS) : eNeg f ds = (Option.bind (f ds) fun p => match p.1 with
  | .fz (.int i) => some (.fz (.int (-i)), p.2)
  | _ => none) := rfl
@[simp] theorem eFldO_ap (c f : Str) (fe : DX) (ds : DS) : eFldO c f fe ds = (Option.bind (fe ds) fun p => Option.bind (slotOf p.1) fun i => Option.bind (insOAt c p.2 i) fun fs => match fs.lookup f with
  | some (.fz d) => some (.fz d, p.2)
  | _ => none) := rfl
@[simp] theorem eFldF_ap (c f : Str) (fe : DX) (ds : DS) : eFldF c f fe ds = (Option.bind (fe ds) fun p => Option.bind (frR p.1 p.2) fun q => match q.1 with
  | .ins c' fs => if c' = c then Option.bind (fs.lookup f) fun x => some (.fz x, q.2) else none
  | _ => none) := rfl
@[simp] theorem sFldSetO_ap (c g : Str) (fo fv : DX) (ds : DS) : sFldSetO c g fo fv ds = (Option.bind (fv ds) fun p => Option.bind (frR p.1 p.2) fun q => Option.bind (fo q.2) fun z => Option.bind (slotOf z.1) fun i => Option.bind (insOAt c z.2 i) fun fs =>
  if fs.length < 1000 then some (.nx, z.2.set i (some (.own (.insO c (putSF g (.fz q.1) fs))))) else none) := rfl
@[simp] theorem sAugO_ap (c g : Str) (gg : D → D → Option R) (fo fe : DX) (ds : DS) : sAugO c g gg fo fe ds = (Option.bind (fo ds) fun p => Option.bind (slotOf p.1) fun i => Option.bind (insOAt c p.2 i) fun fs => match fs.lookup g with
  | some (.fz dx) => Option.bind (fe p.2) fun q => Option.bind (q.1.val q.2) fun dy => Option.bind (gg dx dy) fun r => (match r with
    | .fz d => Option.bind (insOAt c q.2 i) fun fs2 => if fs2.length < 1000 then some (.nx, q.2.set i (some (.own (.insO c (putSF g (.fz d) fs2))))) else none
    | _ => none)
  | _ => none) := rfl
@[simp] theorem eLMF_ap (c f : Str) (g : GL) (fo : DX) (fs : DAs) (ds : DS) : eLMF c f g fo fs ds = (Option.bind (fo ds) fun p => Option.bind (slotOf p.1) fun i => Option.bind (insOAt c p.2 i) fun fl => match fl.lookup f with
  | some (.lst l) => Option.bind (fs (p.2.set i none)) fun q => Option.bind (frRs q.1 q.2) fun z => if (match z.2[i]? with
      | some none => true
      | _ => false) = true then Option.bind (g l z.1) fun y => some (.fz y.1, z.2.set i (some (.own (.insO c (putSF f (.lst y.2) fl))))) else none
  | _ => none) := rfl
@[simp] theorem sFldSetK_ap (c g : Str) (fo fv : DX) (ds : DS) : sFldSetK c g fo fv ds = (Option.bind (fv ds) fun p => Option.bind (fo p.2) fun z => Option.bind (slotOf z.1) fun i => Option.bind (insOAt c z.2 i) fun fs => if fs.length < 1000 then (match p.1 with
  | .own (.lst l) => some (.nx, z.2.set i (some (.own (.insO c (putSF g (.lst l) fs)))))
  | .own (.dct t es) => some (.nx, z.2.set i (some (.own (.insO c (putSF g (.dct t es) fs)))))
  | _ => none) else none) := rfl
@[simp] theorem eMethO_ap (c m : Str) (sem : Ob → List D → Option (SV × SV)) (fo : DX) (fa : DAs) (ds : DS) : eMethO c m sem fo fa ds = (Option.bind (fo ds) fun p => Option.bind (slotOf p.1) fun i => Option.bind (insOAt c p.2 i) fun fl => if (fl.lookup m).isSome = true then none else
  Option.bind (fa p.2) fun a => Option.bind (frRs a.1 a.2) fun q => (match q.2[i]? with
    | some (some (.own ob)) => Option.bind (sem ob q.1) fun z => some (svR z.1, q.2.set i (some z.2))
    | _ => none)) := rfl
@[simp] theorem eIsi2_ap (T U : String) (f : DX) (ds : DS) : eIsi2 T U f ds = (Option.bind (f ds) fun p => Option.bind (p.1.val p.2) fun d => Option.bind (isiT T d) fun b => Option.bind (isiT U d) fun c => some (.fz (.bl (b || c)), p.2)) := rfl
@[simp] theorem iOfT_ap (fe : DX) (ds : DS) : iOfT fe ds = (Option.bind (fe ds) fun p => Option.bind (frR p.1 p.2) fun q => Option.bind (tabIt q.1) fun l => some (l, q.2)) := rfl
@[simp] theorem iOfX_ap (fe : DX) (ds : DS) : iOfX fe ds = (match iOf fe ds with
  | some r => some r
  | none => iOfT fe ds) := rfl
@[simp] theorem eDispX_ap (f : DPs) (ds : DS) : eDispX f ds = (match eDisp f ds with
  | some r => some r
  | none => eDispT f ds) := rfl
@[simp] theorem sNo_ap (ds : DS) : sNo ds = none := rfl
@[simp] theorem eNo_ap (ds : DS) : eNo ds = none := rfl
@[simp] theorem frR_fz (d : D) (ds : DS) : frR (.fz d) ds = some (d, ds) := rfl
@[simp] theorem frR_own (o : Ob) (ds : DS) : frR (.own o) ds = some (o.d, ds) := rfl
@[simp] theorem frR_slot (i : Nat) (ds : DS) : frR (.slot i) ds = (match ds[i]? with
    | some (some (.own o)) => some (o.d, ds.set i (some (.fz o.d)))
    | some (some (.fz d)) => some (d, ds)
    | _ => none) := rfl
@[simp] theorem frRs_nil (ds : DS) : frRs [] ds = some ([], ds) := rfl
@[simp] theorem frRs_cons (r : R) (rs : List R) (ds : DS) : frRs (r :: rs) ds = Option.bind (frRs rs ds) fun p => Option.bind (frR r p.2) fun q => some (q.1 :: p.1, q.2) := rfl
@[simp] theorem val_fz (d : D) (ds : DS) : R.val ds (.fz d) = some d := rfl
@[simp] theorem val_own (o : Ob) (ds : DS) : R.val ds (.own o) = some o.d := rfl
@[simp] theorem val_slot (i : Nat) (ds : DS) : R.val ds (.slot i) = (match ds[i]? with
    | some (some sv) => some sv.d
    | _ => none) := rfl
@[simp] theorem vals_nil (ds : DS) : vals [] ds = some [] := rfl
@[simp] theorem vals_cons (r : R) (rs : List R) (ds : DS) : vals (r :: rs) ds = Option.bind (r.val ds) fun d => Option.bind (vals rs ds) fun dd => some (d :: dd) := rfl
@[simp] theorem bOf_bl (b : Bool) : bOf (.fz (.bl b)) = some b := rfl
@[simp] theorem slotOf_slot (i : Nat) : slotOf (.slot i) = some i := rfl
@[simp] theorem stR_fz (d : D) : stR (.fz d) = some (.fz d) := rfl
@[simp] theorem stR_own (o : Ob) : stR (.own o) = some (.own o) := rfl
@[simp] theorem svR_fz (d : D) : svR (.fz d) = .fz d := rfl
@[simp] theorem svR_own (o : Ob) : svR (.own o) = .own o := rfl
@[simp] theorem svd_fz (d : D) : SV.d (.fz d) = d := rfl
@[simp] theorem svd_own (o : Ob) : SV.d (.own o) = o.d := rfl
@[simp] theorem obd_lst (l : List D) : Ob.d (.lst l) = .lst l := rfl
@[simp] theorem obd_dct (t : KK) (l : List (D × D)) : Ob.d (.dct t l) = .dct t l := rfl
@[simp] theorem obd_ins (c : Str) (l : List (Str × D)) : Ob.d (.ins c l) = .ins c l := rfl
@[simp] theorem obd_insO (c : Str) (l : List (Str × SF)) : Ob.d (.insO c l) = .ins c (fsD l) := rfl
@[simp] theorem insOAt_ap (c : Str) (ds : DS) (i : Nat) : insOAt c ds i = (match ds[i]? with
  | some (some (.own (.insO c' fs))) => if c' = c then some fs else none
  | _ => none) := rfl
@[simp] theorem noOwn_nil (ds : DS) : noOwn [] ds = true := rfl
@[simp] theorem noOwn_cons (v : Nat) (vs : List Nat) (ds : DS) : noOwn (v :: vs) ds = ((match ds[v]? with
  | some (some (.own _)) => false
  | _ => true) && noOwn vs ds) := rfl
@[simp] theorem wipeD_nil (ds : DS) : wipeD ds [] = ds := rfl
@[simp] theorem wipeD_cons (ds : DS) (v : Nat) (vs : List Nat) : wipeD ds (v :: vs) = (wipeD ds vs).set v none := rfl
@[simp] theorem restoreD_nil (ds0 ds : DS) : restoreD ds0 ds [] = ds := rfl
@[simp] theorem restoreD_cons (ds0 ds : DS) (v : Nat) (vs : List Nat) : restoreD ds0 ds (v :: vs) = (restoreD ds0 ds vs).set v ((ds0[v]?).getD none) := rfl
@[simp] theorem ownAt_ap (ds : DS) (i : Nat) : ownAt ds i = (match ds[i]? with
  | some (some (.own ob)) => some ob
  | _ => none) := rfl
@[simp] theorem lstAt_ap (ds : DS) (i : Nat) : lstAt ds i = (match ds[i]? with
  | some (some (.own (.lst l))) => some l
  | _ => none) := rfl
@[simp] theorem fzAt_ap (ds : DS) (i : Nat) : fzAt ds i = (match ds[i]? with
  | some (some (.fz d)) => some d
  | _ => none) := rfl
/-- a list made of another's items, the slots as they were -/
theorem eLC_map {α : Type} {enc : α → D} {fi : DIt} {g : DGt} {t : DB} {f : DX} {vs : List Nat} (F : α → D) {ds ds1 : DS} {l : List α} (h1 : fi ds = some (l.map enc, ds1)) (hn : noOwn vs ds1 = true) (hz : l.length ≤ sizeLine)
    (h : ∀ a ∈ l, ∃ ds2 ds3 r ds4 ds5, g (enc a) (wipeD ds1 vs) = some ds2 ∧ t ds2 = some (true, ds3) ∧ f ds3 = some (r, ds4) ∧ frR r ds4 = some (F a, ds5) ∧ wipeD ds5 vs = wipeD ds1 vs) :
    eLC fi g t f vs ds = some (.own (.lst (l.map F)), restoreD ds1 (wipeD ds1 vs) vs) := by
  unfold eLC
  rw [h1]
  show (if noOwn vs ds1 = true then _ else none) = _
  rw [if_pos hn]
  show Option.bind (lcL g t f vs (l.map enc) [] (wipeD ds1 vs)) _ = _
  rw [lcL_map F (wipeD ds1 vs) l [] (by rw [List.length_nil]; omega) h]
  rfl
theorem eLC_filter {α : Type} {enc : α → D} {fi : DIt} {g : DGt} {t : DB} {f : DX} {vs : List Nat} (p : α → Bool) (F : α → D) {ds ds1 : DS} {l : List α} (h1 : fi ds = some (l.map enc, ds1)) (hn : noOwn vs ds1 = true) (hz : l.length ≤ sizeLine)
    (h : ∀ a ∈ l, ∃ ds2 ds3, g (enc a) (wipeD ds1 vs) = some ds2 ∧ t ds2 = some (p a, ds3) ∧ (p a = false → wipeD ds3 vs = wipeD ds1 vs) ∧ (p a = true → ∃ r ds4 ds5, f ds3 = some (r, ds4) ∧ frR r ds4 = some (F a, ds5) ∧ wipeD ds5 vs = wipeD ds1 vs)) :
    eLC fi g t f vs ds = some (.own (.lst ((l.filter p).map F)), restoreD ds1 (wipeD ds1 vs) vs) := by
  unfold eLC
  rw [h1]
  show (if noOwn vs ds1 = true then _ else none) = _
  rw [if_pos hn]
  show Option.bind (lcL g t f vs (l.map enc) [] (wipeD ds1 vs)) _ = _
  rw [lcL_filter p F (wipeD ds1 vs) l [] (by rw [List.length_nil]; omega) h]
  rfl
end DL
/-! PL4: items, numbers, dicts of numbers; the tape's cells. -/
namespace DL
open PySem PySem.Spec PyProof.Rows L2
theorem bind_some' {α β : Type} (a : α) (f : α → Option β) : Option.bind (some a) f = f a := rfl
theorem ixN_nat {n k : Nat} (h : k < n) : ixN n (k : Int) = some k := by
  unfold ixN
  rw [if_pos (by omega), if_pos (by omega), Int.toNat_natCast]
theorem ixN_int {n : Nat} {i : Int} (h0 : 0 ≤ i) (h : i < n) : ixN n i = some i.toNat := by
  unfold ixN
  rw [if_pos h0, if_pos h]
theorem atI_int {α : Type} {l : List α} {i : Int} (h0 : 0 ≤ i) (h : i < l.length) : atI l i = l[i.toNat]? := by
  unfold atI
  rw [ixN_int h0 h]
  rfl
@[simp] theorem gAtT_lst (l : List D) (i : Int) : gAtT (.lst l) (.int i) = Option.map R.fz (atI l i) := rfl
@[simp] theorem gAtT_tup (l : List D) (i : Int) : gAtT (.tup l) (.int i) = Option.map R.fz (atI l i) := rfl
@[simp] theorem putAtT_lst (l : List D) (i : Int) (d : D) : putAtT (.lst l) (.int i) d = Option.bind (ixN l.length i) fun j => some (.lst (l.set j d)) := rfl
@[simp] theorem gInt_int (i : Int) : gInt [.int i] = some (.fz (.int i)) := rfl
@[simp] theorem gAbs_int (i : Int) : gAbs [.int i] = some (.fz (.int (if i < 0 then -i else i))) := rfl
@[simp] theorem gLen_lst (l : List D) : gLen [.lst l] = some (.fz (.int l.length)) := rfl
@[simp] theorem gLen_tup (l : List D) : gLen [.tup l] = some (.fz (.int l.length)) := rfl
@[simp] theorem gListX_tup (l : List D) : gListX [.tup l] = some (.own (.lst l)) := rfl
@[simp] theorem gListX_lst (l : List D) : gListX [.lst l] = some (.own (.lst l)) := rfl
@[simp] theorem gListX_dct (es : List (D × D)) : gListX [.dct .k es] = some (.own (.lst (es.map (·.1)))) := rfl
@[simp] theorem gTuple_lst (l : List D) : gTuple [.lst l] = some (.fz (.tup l)) := rfl
@[simp] theorem gTuple_tup (l : List D) : gTuple [.tup l] = some (.fz (.tup l)) := rfl
theorem gMod_int {i j : Int} (h : j ≠ 0) : gMod (.int i) (.int j) = some (.fz (.int (Int.fmod i j))) := by
  unfold gMod gI
  dsimp only
  rw [if_pos (decide_eq_true h)]
theorem gFdiv_int {i j : Int} (h : 0 < j) (h2 : j < 1073741824) : gFdiv (.int i) (.int j) = some (.fz (.int (Int.fdiv i j))) := by
  unfold gFdiv gI cDivN
  dsimp only
  rw [if_pos (by rw [decide_eq_true (show j ≠ 0 by omega), decide_eq_true (show j.natAbs < 1073741824 by omega)]; rfl)]
theorem gMulI_int {i j : Int} (h : small64b i = true ∨ small64b j = true) : gMulI (.int i) (.int j) = some (.fz (.int (i * j))) := by
  unfold gMulI gI cMul
  dsimp only
  rw [if_pos (by rw [Bool.or_eq_true]; exact h)]
@[simp] theorem iR1_int {n : Nat} (h : n < 2 ^ 62) : small ((n : Nat) : Int) = true := by
  unfold small
  rw [Bool.and_eq_true, decide_eq_true_eq, decide_eq_true_eq]
  omega
theorem rng0 (n : Nat) : rng 0 n = (List.range n).map fun (i : Nat) => D.int (i : Int) := by
  unfold rng
  congr 1
  funext i
  rw [Int.zero_add]
theorem sSeq_nx {f g : DSm} {ds ds1 : DS} (h : f ds = some (.nx, ds1)) : sSeq f g ds = g ds1 := by
  unfold sSeq
  rw [h]
  rfl
theorem sSeq_ret {f g : DSm} {ds ds1 : DS} {r : R} (h : f ds = some (.ret r, ds1)) : sSeq f g ds = some (.ret r, ds1) := by
  unfold sSeq
  rw [h]
  rfl
theorem sRet_of {f : DX} {ds ds1 : DS} {r : R} (h : f ds = some (r, ds1)) : sRet f ds = some (.ret r, ds1) := by
  unfold sRet
  rw [h]
  rfl
theorem sExpr_of {f : DX} {ds ds1 : DS} {r : R} (h : f ds = some (r, ds1)) : sExpr f ds = some (.nx, ds1) := by
  unfold sExpr
  rw [h]
  rfl
theorem sSet_fz {f : DX} {ds ds1 : DS} {d : D} {i : Nat} (h : f ds = some (.fz d, ds1)) : sSet i f ds = some (.nx, ds1.set i (some (.fz d))) := by
  unfold sSet
  rw [h]
  rfl
theorem sSet_own {f : DX} {ds ds1 : DS} {o : Ob} {i : Nat} (h : f ds = some (.own o, ds1)) : sSet i f ds = some (.nx, ds1.set i (some (.own o))) := by
  unfold sSet
  rw [h]
  rfl
theorem callIo_of {sem : Ob → List D → Option (SV × SV)} {fa : DAs} {ds ds1 : DS} {i : Nat} {rs : List R} {q : List D × DS} {ob : Ob} {z : SV × SV} (h1 : fa ds = some (.slot i :: rs, ds1)) (h2 : frRs rs ds1 = some q) (h3 : q.2[i]? = some (some (.own ob))) (h4 : sem ob q.1 = some z) :
    eCallIo sem fa ds = some (svR z.1, q.2.set i (some z.2)) := by
  unfold eCallIo
  rw [h1]
  show Option.bind (frRs rs ds1) _ = _
  rw [h2]
  show (match q.2[i]? with
    | some (some (.own ob)) => Option.bind (sem ob q.1) fun z => some (svR z.1, q.2.set i (some z.2))
    | _ => none) = _
  rw [h3]
  show Option.bind (sem ob q.1) _ = _
  rw [h4]
  rfl
theorem call_of {sem : List D → Option SV} {fa : DAs} {ds ds1 : DS} {rs : List R} {q : List D × DS} {z : SV} (h1 : fa ds = some (rs, ds1)) (h2 : frRs rs ds1 = some q) (h4 : sem q.1 = some z) : eCall sem fa ds = some (svR z, q.2) := by
  unfold eCall
  rw [h1]
  show Option.bind (frRs rs ds1) _ = _
  rw [h2]
  show Option.bind (sem q.1) _ = _
  rw [h4]
  rfl
/-! ### the law's tape -/
def tp (cells : List Int) (a b c d : Int) : Ob := .lst [.lst (cells.map .int), .int a, .int b, .int c, .int d]
def Tape (ob : Ob) : Prop := ∃ cells a b c d, 0 ≤ a ∧ ob = tp cells a b c d
end DL
/-! PL5: bits of naturals, dicts whose keys are ints. -/
namespace DL
open PySem PySem.Spec PyProof.Rows L2
theorem bitAnd_nat (a b : Nat) : Builtin.bitAnd (a : Int) (b : Int) = ((a &&& b : Nat) : Int) := by
  rw [bitAnd_pp (Int.natCast_nonneg _) (Int.natCast_nonneg _), Int.toNat_natCast, Int.toNat_natCast]
theorem bitXor_nat (a b : Nat) : Builtin.bitXor (a : Int) (b : Int) = ((a ^^^ b : Nat) : Int) := by
  rw [Bits.bitXor_pp (Int.natCast_nonneg _) (Int.natCast_nonneg _), Int.toNat_natCast, Int.toNat_natCast]
theorem bitOr_nat (a b : Nat) : Builtin.bitOr (a : Int) (b : Int) = ((a ||| b : Nat) : Int) := by
  rw [Bits.bitOr_pp (Int.natCast_nonneg _) (Int.natCast_nonneg _), Int.toNat_natCast, Int.toNat_natCast]
theorem gAppend_ok {l : List D} (d : D) (h : l.length < sizeLine) : gAppend l [d] = some (.non, l ++ [d]) := by
  unfold gAppend
  dsimp only
  rw [if_pos h]
theorem gPop_last {l : List D} (d : D) : gPop (l ++ [d]) [] = some (d, l) := by
  unfold gPop
  dsimp only
  rw [List.length_append, List.length_singleton, Nat.add_sub_cancel, List.getElem?_append_right (Nat.le_refl _), Nat.sub_self]
  show some (d, (l ++ [d]).dropLast) = _
  rw [List.dropLast_concat]
end DL
/-! PL6: lists of tuples of ints: in, index; is data like itself. -/
namespace DL
open PySem PySem.Spec PyProof.Rows L2
open PySem.W (dataLt alike dataLe)
theorem pys_map {α : Type} (f : α → D) : ∀ l : List α, D.pys (l.map f) = l.map fun a => (f a).py
  | [] => by rw [List.map_nil, D.pys]; rfl
  | a :: l => by rw [List.map_cons, D.pys, pys_map f l]; rfl
theorem pls_map {α : Type} (f : α → D) : ∀ l : List α, (∀ a ∈ l, (f a).pl = true) → D.pls (l.map f) = true
  | [], _ => by rw [List.map_nil, D.pls]
  | a :: l, h => by rw [List.map_cons, D.pls, h a List.mem_cons_self, pls_map f l fun b hb => h b (List.mem_cons_of_mem _ hb)]; rfl
theorem depthAll_le {n : Nat} : ∀ l : List PyData, (∀ a ∈ l, a.depth ≤ n) → PyData.depthAll l ≤ n
  | [], _ => by simp [PyData.depthAll]
  | a :: l, h => by
    have := h a List.mem_cons_self
    have := depthAll_le l fun b hb => h b (List.mem_cons_of_mem _ hb)
    simp [PyData.depthAll]
    omega
theorem depth_tupI (l : List Int) : (tupI l).py.depth ≤ 2 := by
  rw [py_tupI, PyData.depth]
  have := depth_ints l
  omega
theorem py_rows (l : List (List Int)) : (D.lst (l.map tupI)).py = .list (l.map fun a => (tupI a).py) := by rw [D.py, pys_map]
theorem pl_rows (l : List (List Int)) : (D.lst (l.map tupI)).pl = true := by
  rw [D.pl]
  exact pls_map _ _ fun a _ => pl_tupI a
theorem depth_rows (l : List (List Int)) : (D.lst (l.map tupI)).py.depth ≤ 3 := by
  rw [py_rows, PyData.depth]
  have := depthAll_le (n := 2) (l.map fun a => (tupI a).py) fun a ha => by
    obtain ⟨x, _, rfl⟩ := List.mem_map.mp ha
    exact depth_tupI x
  omega
theorem okPy_rows (l : List (List Int)) : okPy (.lst (l.map tupI)) = true := by
  unfold okPy
  rw [pl_rows]
  have := depth_rows l
  simp
  omega
theorem lay_ints : ∀ l : List Int, PyData.canLayAll0 (l.map PyData.int) = true
  | [] => by simp [PyData.canLayAll0]
  | i :: l => by simp [PyData.canLayAll0, PyData.canLay0, lay_ints l]
theorem lay_tupI (l : List Int) : (tupI l).py.canLay0 = true := by
  rw [py_tupI, PyData.canLay0, lay_ints]
theorem shaped_tupI (l : List Int) : SeqAt.shaped (tupI l).py = true := by
  unfold SeqAt.shaped
  rw [lay_tupI]
  have := depth_tupI l
  simp
  omega
theorem lay_all : ∀ l : List PyData, (∀ a ∈ l, a.canLay0 = true) → PyData.canLayAll0 l = true
  | [], _ => by simp [PyData.canLayAll0]
  | i :: l, h => by simp [PyData.canLayAll0, h i List.mem_cons_self, lay_all l fun b hb => h b (List.mem_cons_of_mem _ hb)]
theorem shaped_rows (l : List (List Int)) : SeqAt.shaped (D.lst (l.map tupI)).py = true := by
  unfold SeqAt.shaped
  have h1 := depth_rows l
  rw [py_rows] at h1 ⊢
  rw [PyData.canLay0, lay_all _ fun a ha => by
    obtain ⟨x, _, rfl⟩ := List.mem_map.mp ha
    exact lay_tupI x]
  simp
  omega
theorem inD_rows (a : List Int) (l : List (List Int)) : inD (tupI a) (l.map tupI) = decide (a ∈ l) := by
  unfold inD
  rw [pys_map, List.any_map]
  induction l with
  | nil => rfl
  | cons b l ih =>
    rw [List.any_cons, ih]
    show (PyData.eqv (tupI b).py (tupI a).py || _) = _
    rw [eqv_tupI]
    by_cases h : b = a
    · subst h; simp
    · simp [h, Ne.symm h]
theorem gInT_rows (a : List Int) (l : List (List Int)) : gInT (tupI a) (.lst (l.map tupI)) = some (.fz (.bl (decide (a ∈ l)))) := by
  show (if okPy (tupI a) = true ∧ okPy (.lst (l.map tupI)) = true then some (R.fz (.bl (inD (tupI a) (l.map tupI)))) else none) = _
  rw [if_pos ⟨okPy_tupI a, okPy_rows l⟩, inD_rows]
theorem firstAt_rows (a : List Int) : ∀ l : List (List Int), a ∈ l → firstAt (tupI a) (l.map tupI) = some (l.idxOf a)
  | [], h => by cases h
  | b :: l, h => by
    rw [List.map_cons, firstAt, eqv_tupI]
    by_cases e : b = a
    · subst e
      rw [if_pos (decide_eq_true rfl), List.idxOf_cons_self]
    · rw [if_neg (by rw [decide_eq_false e]; exact Bool.false_ne_true), firstAt_rows a l ((List.mem_cons.mp h).resolve_left (Ne.symm e))]
      rw [List.idxOf_cons, show (b == a) = false from beq_false_of_ne e]
      rfl
theorem gIndex_rows {a : List Int} {l : List (List Int)} (h : a ∈ l) : gIndex (.lst (l.map tupI)) [tupI a] = some (.fz (.int (l.idxOf a : Nat))) := by
  unfold gIndex
  dsimp only
  rw [if_pos ⟨pl_rows l, pl_tupI a, shaped_rows l, shaped_tupI a⟩, firstAt_rows a l h]
  rfl
theorem idx_get {l : List (List Int)} (hn : l.Nodup) {i : Nat} (h : i < l.length) : l.idxOf l[i] = i := hn.idxOf_getElem i h
/-! ### all(..) of yeses -/
theorem blsOf_map {α : Type} (p : α → Bool) : ∀ l : List α, blsOf (l.map fun a => D.bl (p a)) = some (l.map p)
  | [] => rfl
  | a :: l => by
    rw [List.map_cons, blsOf, blsOf_map p l]
    rfl
theorem gAll_map {α : Type} (p : α → Bool) (l : List α) : gAll [.lst (l.map fun a => D.bl (p a))] = some (.fz (.bl (l.all p))) := by
  show Option.bind (blsOf _) _ = _
  rw [blsOf_map]
  show some (R.fz (.bl ((l.map p).all fun b => b))) = _
  rw [List.all_map]
  rfl
theorem gAny_map {α : Type} (p : α → Bool) (l : List α) : gAny [.lst (l.map fun a => D.bl (p a))] = some (.fz (.bl (l.any p))) := by
  show Option.bind (blsOf _) _ = _
  rw [blsOf_map]
  show some (R.fz (.bl ((l.map p).any fun b => b))) = _
  rw [List.any_map]
  rfl
theorem intsOf_map : ∀ l : List Int, intsOf (l.map D.int) = some l
  | [] => rfl
  | a :: l => by
    rw [List.map_cons, intsOf, intsOf_map l]
    rfl
theorem gMaxL_tup (a : Int) (l : List Int) (h : l.length < sizeLine) : gMaxL [tupI (a :: l)] = some (.fz (.int (maxI a l))) := by
  show Option.bind (intsOf ((a :: l).map D.int)) _ = _
  rw [intsOf_map]
  show (if l.length < sizeLine then _ else none) = _
  rw [if_pos h]
theorem maxI_le {b : Int} : ∀ (l : List Int) (a : Int), a ≤ b → (∀ x ∈ l, x ≤ b) → maxI a l ≤ b
  | [], a, h, _ => h
  | x :: l, a, h, hl => by
    have := maxI_le l (max a x) (Int.max_le.mpr ⟨h, hl x List.mem_cons_self⟩) fun y hy => hl y (List.mem_cons_of_mem _ hy)
    exact this
end DL
/-! PL7: data of numbers, texts, tuples, lists: equal just if the same. -/
namespace DL
open PySem PySem.Spec PyProof.Rows L2
mutual
def D.sp : D → Bool
  | .int _ => true
  | .str _ => true
  | .tup xs => D.sps xs
  | .lst xs => D.sps xs
  | _ => false
def D.sps : List D → Bool
  | [] => true
  | d :: ds => D.sp d && D.sps ds
end
mutual
theorem D.sp_pl : ∀ d : D, d.sp = true → d.pl = true
  | .int _, _ => rfl
  | .str _, _ => rfl
  | .tup xs, h => by rw [D.pl]; rw [D.sp] at h; exact D.sps_pls xs h
  | .lst xs, h => by rw [D.pl]; rw [D.sp] at h; exact D.sps_pls xs h
  | .non, h => by simp [D.sp] at h
  | .bl _, h => by simp [D.sp] at h
  | .dct _ _, h => by simp [D.sp] at h
  | .ins _ _, h => by simp [D.sp] at h
theorem D.sps_pls : ∀ ds : List D, D.sps ds = true → D.pls ds = true
  | [], _ => by rw [D.pls]
  | d :: ds, h => by
    rw [D.sps, Bool.and_eq_true] at h
    rw [D.pls, D.sp_pl d h.1, D.sps_pls ds h.2]
    rfl
end
mutual
theorem eqv_sp : ∀ a b : D, a.sp = true → b.sp = true → (PyData.eqv a.py b.py = true ↔ a = b)
  | .int i, .int j, _, _ => by rw [D.py, D.py, eqv_int]; simp
  | .str x, .str y, _, _ => by rw [D.py, D.py]; simp [PyData.eqv]
  | .tup xs, .tup ys, h1, h2 => by
    rw [D.sp] at h1 h2
    rw [D.py, D.py, PyData.eqv, eqv_sps xs ys h1 h2]
    simp
  | .lst xs, .lst ys, h1, h2 => by
    rw [D.sp] at h1 h2
    rw [D.py, D.py, PyData.eqv, eqv_sps xs ys h1 h2]
    simp
  | .int _, .str _, _, _ => by simp [D.py, PyData.eqv]
  | .int _, .tup _, _, _ => by simp [D.py, PyData.eqv]
  | .int _, .lst _, _, _ => by simp [D.py, PyData.eqv]
  | .str _, .int _, _, _ => by simp [D.py, PyData.eqv]
  | .str _, .tup _, _, _ => by simp [D.py, PyData.eqv]
  | .str _, .lst _, _, _ => by simp [D.py, PyData.eqv]
  | .tup _, .int _, _, _ => by simp [D.py, PyData.eqv]
  | .tup _, .str _, _, _ => by simp [D.py, PyData.eqv]
  | .tup _, .lst _, _, _ => by simp [D.py, PyData.eqv]
  | .lst _, .int _, _, _ => by simp [D.py, PyData.eqv]
  | .lst _, .str _, _, _ => by simp [D.py, PyData.eqv]
  | .lst _, .tup _, _, _ => by simp [D.py, PyData.eqv]
  | .non, _, h, _ => by simp [D.sp] at h
  | .bl _, _, h, _ => by simp [D.sp] at h
  | .dct _ _, _, h, _ => by simp [D.sp] at h
  | .ins _ _, _, h, _ => by simp [D.sp] at h
  | .int _, .non, _, h => by simp [D.sp] at h
  | .int _, .bl _, _, h => by simp [D.sp] at h
  | .int _, .dct _ _, _, h => by simp [D.sp] at h
  | .int _, .ins _ _, _, h => by simp [D.sp] at h
  | .str _, .non, _, h => by simp [D.sp] at h
  | .str _, .bl _, _, h => by simp [D.sp] at h
  | .str _, .dct _ _, _, h => by simp [D.sp] at h
  | .str _, .ins _ _, _, h => by simp [D.sp] at h
  | .tup _, .non, _, h => by simp [D.sp] at h
  | .tup _, .bl _, _, h => by simp [D.sp] at h
  | .tup _, .dct _ _, _, h => by simp [D.sp] at h
  | .tup _, .ins _ _, _, h => by simp [D.sp] at h
  | .lst _, .non, _, h => by simp [D.sp] at h
  | .lst _, .bl _, _, h => by simp [D.sp] at h
  | .lst _, .dct _ _, _, h => by simp [D.sp] at h
  | .lst _, .ins _ _, _, h => by simp [D.sp] at h
theorem eqv_sps : ∀ a b : List D, D.sps a = true → D.sps b = true → (PyData.eqvAll (D.pys a) (D.pys b) = true ↔ a = b)
  | [], [], _, _ => by simp [D.pys, PyData.eqvAll]
  | [], _ :: _, _, _ => by simp [D.pys, PyData.eqvAll]
  | _ :: _, [], _, _ => by simp [D.pys, PyData.eqvAll]
  | x :: xs, y :: ys, h1, h2 => by
    rw [D.sps, Bool.and_eq_true] at h1 h2
    rw [D.pys, D.pys, PyData.eqvAll, Bool.and_eq_true, eqv_sp x y h1.1 h2.1, eqv_sps xs ys h1.2 h2.2]
    simp
end
/-- such data, of some depth -/
def Sp (n : Nat) (d : D) : Prop := d.sp = true ∧ d.py.depth ≤ n
theorem Sp.mono {n m : Nat} {d : D} (h : Sp n d) (k : n ≤ m) : Sp m d := ⟨h.1, Nat.le_trans h.2 k⟩
theorem Sp.int (i : Int) : Sp 1 (.int i) := ⟨rfl, by rw [D.py]; simp [PyData.depth]⟩
theorem Sp.str (i : Str) : Sp 1 (.str i) := ⟨rfl, by rw [D.py]; simp [PyData.depth]⟩
theorem Sp.all {n : Nat} : ∀ {xs : List D}, (∀ x ∈ xs, Sp n x) → D.sps xs = true ∧ PyData.depthAll (D.pys xs) ≤ n
  | [], _ => ⟨by rw [D.sps], by rw [D.pys]; simp [PyData.depthAll]⟩
  | x :: xs, h => by
    obtain ⟨a, b⟩ := Sp.all fun y hy => h y (List.mem_cons_of_mem _ hy)
    obtain ⟨c, d⟩ := h x List.mem_cons_self
    refine ⟨by rw [D.sps, a, c]; rfl, ?_⟩
    rw [D.pys]
    simp [PyData.depthAll]
    omega
theorem Sp.tup {n : Nat} {xs : List D} (h : ∀ x ∈ xs, Sp n x) : Sp (n + 1) (.tup xs) := by
  obtain ⟨a, b⟩ := Sp.all h
  refine ⟨by rw [D.sp]; exact a, ?_⟩
  rw [D.py]
  simp [PyData.depth]
  omega
theorem Sp.lst {n : Nat} {xs : List D} (h : ∀ x ∈ xs, Sp n x) : Sp (n + 1) (.lst xs) := by
  obtain ⟨a, b⟩ := Sp.all h
  refine ⟨by rw [D.sp]; exact a, ?_⟩
  rw [D.py]
  simp [PyData.depth]
  omega
theorem Sp.tupI (l : List Int) : Sp 2 (tupI l) := Sp.tup (n := 1) fun x hx => by
  obtain ⟨i, _, rfl⟩ := List.mem_map.mp hx
  exact Sp.int i
theorem Sp.ok {n : Nat} {d : D} (h : Sp n d) (hn : n ≤ 60) : okPy d = true := by
  unfold okPy
  rw [D.sp_pl d h.1]
  have := h.2
  simp
  omega
theorem gEq_sp {n : Nat} {a b : D} (ha : Sp n a) (hb : Sp n b) (hn : n ≤ 60) {c : Bool} (h : c = true ↔ a = b) : gEqD a b = some (.fz (.bl c)) := by
  unfold gEqD gCmpD okBoth
  rw [ha.ok hn, hb.ok hn, if_pos (by rfl)]
  dsimp only
  rw [show PyData.eqv a.py b.py = c from Bool.eq_iff_iff.mpr ((eqv_sp a b ha.1 hb.1).trans h.symm)]
theorem gNe_sp {n : Nat} {a b : D} (ha : Sp n a) (hb : Sp n b) (hn : n ≤ 60) {c : Bool} (h : c = true ↔ a = b) : gNeD a b = some (.fz (.bl (!c))) := by
  unfold gNeD gCmpD okBoth
  rw [ha.ok hn, hb.ok hn, if_pos (by rfl)]
  dsimp only
  rw [show PyData.eqv a.py b.py = c from Bool.eq_iff_iff.mpr ((eqv_sp a b ha.1 hb.1).trans h.symm)]
theorem gNe_same {n : Nat} {a : D} (ha : Sp n a) (hn : n ≤ 60) : gNeD a a = some (.fz (.bl false)) := gNe_sp ha ha hn (c := true) (by simp)
theorem gEq_same {n : Nat} {a : D} (ha : Sp n a) (hn : n ≤ 60) : gEqD a a = some (.fz (.bl true)) := gEq_sp ha ha hn (c := true) (by simp)
@[simp] theorem gEqD_str (a b : Str) : gEqD (.str a) (.str b) = some (.fz (.bl (decide (a = b)))) := gEq_sp (Sp.str a) (Sp.str b) (by decide) (by simp)
@[simp] theorem gNeD_str (a b : Str) : gNeD (.str a) (.str b) = some (.fz (.bl (!decide (a = b)))) := gNe_sp (Sp.str a) (Sp.str b) (by decide) (by simp)
theorem inD_sp {n : Nat} {a : D} (ha : Sp n a) : ∀ {l : List D}, (∀ x ∈ l, Sp n x) → (inD a l = true ↔ a ∈ l)
  | [], _ => by unfold inD; rw [D.pys]; simp
  | x :: l, h => by
    have ih := inD_sp ha (l := l) fun y hy => h y (List.mem_cons_of_mem _ hy)
    unfold inD at ih ⊢
    rw [D.pys, List.any_cons, Bool.or_eq_true, ih, eqv_sp x a (h x List.mem_cons_self).1 ha.1, List.mem_cons, eq_comm]
/-- in, not in: a list or a tuple of such data -/
theorem gIn_sp {n : Nat} {a : D} {l : List D} (ha : Sp n a) (hl : ∀ x ∈ l, Sp n x) (hn : n ≤ 59) {c : Bool} (h : c = true ↔ a ∈ l) : gInT a (.lst l) = some (.fz (.bl c)) ∧ gNotInT a (.lst l) = some (.fz (.bl (!c))) := by
  have e : inD a l = c := Bool.eq_iff_iff.mpr ((inD_sp ha hl).trans h.symm)
  have k := (Sp.lst hl).ok (by omega)
  constructor
  · show (if okPy a = true ∧ okPy (.lst l) = true then some (R.fz (.bl (inD a l))) else none) = _
    rw [if_pos ⟨ha.ok (by omega), k⟩, e]
  · show (if okPy a = true ∧ okPy (.lst l) = true then some (R.fz (.bl (!inD a l))) else none) = _
    rw [if_pos ⟨ha.ok (by omega), k⟩, e]
end DL
/-! PL8: dicts whose keys are tuples. -/
namespace DL
open PySem PySem.Spec PyProof.Rows L2
mutual
theorem nk_inj : ∀ {a b : D} {k : NestedKey}, a.sp = true → b.sp = true → nk a = some k → nk b = some k → a = b
  | .int i, b, k, _, hb, ea, eb => by
    cases ea
    cases b with
    | int j => cases eb; rfl
    | str x => cases eb
    | tup xs => obtain ⟨l, _, e⟩ := Option.bind_eq_some_iff.mp eb; cases e
    | lst xs => cases eb
    | _ => simp [D.sp] at hb
  | .str i, b, k, _, hb, ea, eb => by
    cases ea
    cases b with
    | int j => cases eb
    | str x => cases eb; rfl
    | tup xs => obtain ⟨l, _, e⟩ := Option.bind_eq_some_iff.mp eb; cases e
    | lst xs => cases eb
    | _ => simp [D.sp] at hb
  | .tup xs, b, k, ha, hb, ea, eb => by
    obtain ⟨l, el, e⟩ := Option.bind_eq_some_iff.mp ea
    cases e
    cases b with
    | int j => cases eb
    | str x => cases eb
    | tup ys =>
      obtain ⟨l', el', e⟩ := Option.bind_eq_some_iff.mp eb
      cases e
      rw [D.sp] at ha hb
      rw [nks_inj ha hb el el']
    | lst xs => cases eb
    | _ => simp [D.sp] at hb
  | .lst xs, _, _, _, _, ea, _ => by cases ea
  | .non, _, _, ha, _, _, _ => by simp [D.sp] at ha
  | .bl _, _, _, ha, _, _, _ => by simp [D.sp] at ha
  | .dct _ _, _, _, ha, _, _, _ => by simp [D.sp] at ha
  | .ins _ _, _, _, ha, _, _, _ => by simp [D.sp] at ha
theorem nks_inj : ∀ {a b : List D} {k : List NestedKey}, D.sps a = true → D.sps b = true → nks a = some k → nks b = some k → a = b
  | [], [], _, _, _, _, _ => rfl
  | [], y :: ys, k, _, _, ea, eb => by
    cases ea
    obtain ⟨k, _, e⟩ := Option.bind_eq_some_iff.mp eb
    obtain ⟨l, _, e⟩ := Option.bind_eq_some_iff.mp e
    cases e
  | x :: xs, [], k, _, _, ea, eb => by
    cases eb
    obtain ⟨k, _, e⟩ := Option.bind_eq_some_iff.mp ea
    obtain ⟨l, _, e⟩ := Option.bind_eq_some_iff.mp e
    cases e
  | x :: xs, y :: ys, k, ha, hb, ea, eb => by
    rw [D.sps, Bool.and_eq_true] at ha hb
    obtain ⟨k1, e1, e⟩ := Option.bind_eq_some_iff.mp ea
    obtain ⟨l1, e2, e⟩ := Option.bind_eq_some_iff.mp e
    cases e
    obtain ⟨k2, f1, f⟩ := Option.bind_eq_some_iff.mp eb
    obtain ⟨l2, f2, f⟩ := Option.bind_eq_some_iff.mp f
    cases f
    rw [nk_inj ha.1 hb.1 e1 f1, nks_inj ha.2 hb.2 e2 f2]
end
/-- what may be a key -/
structure Kt (d : D) : Prop where
  sp : d.sp = true
  k8 : ∃ k, nk8 d = some k
theorem Kt.nk {d : D} (h : Kt d) : ∃ k, nk8 d = some k ∧ DL.nk d = some k := by
  obtain ⟨k, e⟩ := h.k8
  exact ⟨k, e, (nk8_eq e).2.1⟩
theorem Kt.same {a b : D} (ha : Kt a) (hb : Kt b) {k : NestedKey} (h : nk8 a = some k) : (DL.nk b = some k ↔ b = a) := by
  refine ⟨fun e => nk_inj hb.sp ha.sp e (nk8_eq h).2.1, fun e => ?_⟩
  subst e
  exact (nk8_eq h).2.1
theorem getTD_kt {es : List (D × D)} {d : D} {k : NestedKey} (hd : Kt d) (h : nk8 d = some k) (he : ∀ e ∈ es, Kt e.1) : (getTD es k).isSome = true ↔ d ∈ es.map (·.1) := by
  unfold getTD
  rw [Option.isSome_map, List.find?_isSome]
  constructor
  · rintro ⟨e, he', q⟩
    rw [decide_eq_true_eq] at q
    exact List.mem_map.mpr ⟨e, he', (hd.same (he e he') h).mp q⟩
  · intro q
    obtain ⟨e, he', q⟩ := List.mem_map.mp q
    exact ⟨e, he', decide_eq_true ((hd.same (he e he') h).mpr q)⟩
theorem gNotIn_kt {es : List (D × D)} {d : D} (hd : Kt d) (he : ∀ e ∈ es, Kt e.1) {c : Bool} (h : c = true ↔ d ∈ es.map (·.1)) : gNotInT d (.dct .t es) = some (.fz (.bl (!c))) ∧ gInT d (.dct .t es) = some (.fz (.bl c)) := by
  obtain ⟨k, e⟩ := hd.k8
  have q : (getTD es k).isSome = c := Bool.eq_iff_iff.mpr ((getTD_kt hd e he).trans h.symm)
  constructor
  · show Option.bind (nk8 d) _ = _
    rw [e]
    show some (R.fz (.bl (!(getTD es k).isSome))) = _
    rw [q]
  · show Option.bind (nk8 d) _ = _
    rw [e]
    show some (R.fz (.bl (getTD es k).isSome)) = _
    rw [q]
theorem putAtT_kt {es : List (D × D)} {d v : D} (hd : Kt d) (he : ∀ e ∈ es, Kt e.1) (hz : es.length < sizeLine) (h : d ∉ es.map (·.1)) : putAtT (.dct .t es) d v = some (.dct .t (es ++ [(d, v)])) := by
  obtain ⟨k, e⟩ := hd.k8
  show (if es.length < sizeLine then Option.bind (nk8 d) _ else none) = _
  rw [if_pos hz, e]
  show some (Ob.dct .t (putTD es d k v)) = _
  unfold putTD
  rw [if_neg fun z => h ((getTD_kt hd e he).mp z)]
theorem getTD_at {d v : D} {k : NestedKey} (hd : Kt d) (h : nk8 d = some k) : ∀ {es : List (D × D)}, (∀ e ∈ es, Kt e.1) → (es.map (·.1)).Nodup → (d, v) ∈ es → getTD es k = some v
  | [], _, _, m => by cases m
  | e :: es, he, nd, m => by
    rw [List.map_cons, List.nodup_cons] at nd
    unfold getTD
    rw [List.find?_cons]
    by_cases c : e.1 = d
    · rw [show decide (DL.nk e.1 = some k) = true from decide_eq_true ((hd.same (he e List.mem_cons_self) h).mpr c)]
      rcases List.mem_cons.mp m with q | q
      · subst q; rfl
      · exact absurd (List.mem_map.mpr ⟨_, q, rfl⟩) (c ▸ nd.1)
    · rw [show decide (DL.nk e.1 = some k) = false from decide_eq_false fun z => c ((hd.same (he e List.mem_cons_self) h).mp z)]
      exact getTD_at hd h (fun e' m' => he e' (List.mem_cons_of_mem _ m')) nd.2 ((List.mem_cons.mp m).resolve_left fun q => c (by rw [← q]))
theorem gAtT_kt {es : List (D × D)} {d v : D} (hd : Kt d) (he : ∀ e ∈ es, Kt e.1) (nd : (es.map (·.1)).Nodup) (m : (d, v) ∈ es) : gAtT (.dct .t es) d = some (.fz v) := by
  obtain ⟨k, e⟩ := hd.k8
  show Option.bind (nk8 d) _ = _
  rw [e]
  show Option.map R.fz (getTD es k) = _
  rw [getTD_at hd e he nd m]
  rfl
theorem nks_ints : ∀ l : List Int, nks (l.map D.int) = some (l.map NestedKey.num)
  | [] => rfl
  | i :: l => by
    rw [List.map_cons, nks, nks_ints l]
    rfl
theorem nkd_ints : ∀ l : List Int, NestedKey.depthAll (l.map NestedKey.num) ≤ 1
  | [] => by simp [NestedKey.depthAll]
  | i :: l => by
    have := nkd_ints l
    simp [NestedKey.depthAll, NestedKey.depth]
    omega
theorem nk_tupI (l : List Int) : nk (tupI l) = some (.tup (l.map NestedKey.num)) := by
  show Option.bind (nks (l.map D.int)) _ = _
  rw [nks_ints]
  rfl
theorem nkd_tupI (l : List Int) : (NestedKey.tup (l.map NestedKey.num)).depth ≤ 3 := by
  have := nkd_ints l
  simp [NestedKey.depth]
  omega
theorem Kt.tupI (l : List Int) : Kt (tupI l) where
  sp := (Sp.tupI l).1
  k8 := ⟨_, by
    show Option.bind (DL.nk (DL.tupI l)) _ = _
    rw [nk_tupI]
    show (if _ then _ else _) = _
    rw [if_pos (Nat.le_trans (nkd_tupI l) (by decide))]⟩
theorem Kt.pair (a b : List Int) : Kt (.tup [DL.tupI a, DL.tupI b]) where
  sp := (Sp.tup (n := 2) fun x hx => by
    simp only [List.mem_cons, List.not_mem_nil, or_false] at hx
    rcases hx with rfl | rfl <;> exact Sp.tupI _).1
  k8 := ⟨_, by
    show Option.bind (Option.bind (nks [DL.tupI a, DL.tupI b]) _) _ = _
    rw [nks, nks, nks, nk_tupI, nk_tupI]
    show (if _ then _ else _) = _
    rw [if_pos (by
      have h1 := nkd_tupI a
      have h2 := nkd_tupI b
      simp [NestedKey.depth, NestedKey.depthAll] at h1 h2 ⊢
      omega)]⟩
end DL
/-! PL9: comprehensions, loops: a body told at once. -/
namespace DL
open PySem PySem.Spec PyProof.Rows L2
/-- one turn of a comprehension -/
def lcB (g : DGt) (t : DB) (f : DX) (vs : List Nat) (d : D) (ds : DS) : Option (Option D × DS) :=
  Option.bind (g d ds) fun d1 => Option.bind (t d1) fun p => if p.1 = true then Option.bind (f p.2) fun q => Option.bind (frR q.1 q.2) fun z => some (some z.1, wipeD z.2 vs) else some (none, wipeD p.2 vs)
theorem lcL_B {α : Type} {enc : α → D} {g : DGt} {t : DB} {f : DX} {vs : List Nat} (F : α → Option D) {w : DS} : ∀ (l : List α) (acc : List D), acc.length + l.length ≤ sizeLine →
    (∀ a ∈ l, lcB g t f vs (enc a) w = some (F a, w)) → lcL g t f vs (l.map enc) acc w = some (acc ++ l.filterMap F, w)
  | [], acc, _, _ => by rw [List.map_nil, List.filterMap_nil, List.append_nil]; rfl
  | a :: l, acc, hz, k => by
    have h := k a List.mem_cons_self
    rw [List.length_cons] at hz
    unfold lcB at h
    obtain ⟨d1, e1, h⟩ := Option.bind_eq_some_iff.mp h
    obtain ⟨⟨b, d2⟩, e2, h⟩ := Option.bind_eq_some_iff.mp h
    rw [List.map_cons]
    unfold lcL
    rw [e1]
    show Option.bind (t d1) _ = _
    rw [e2]
    dsimp only at h
    by_cases c : b = true
    · subst c
      rw [if_pos rfl] at h
      obtain ⟨q, e3, h⟩ := Option.bind_eq_some_iff.mp h
      obtain ⟨z, e4, h⟩ := Option.bind_eq_some_iff.mp h
      have h := Option.some.inj h
      rw [Prod.mk.injEq] at h
      have ih := lcL_B F l (acc ++ [z.1]) (by rw [List.length_append, List.length_singleton]; omega) fun a' m => k a' (List.mem_cons_of_mem _ m)
      show Option.bind (f d2) _ = _
      rw [e3]
      show Option.bind (frR q.1 q.2) _ = _
      rw [e4]
      show (if acc.length < sizeLine then lcL g t f vs (l.map enc) (acc ++ [z.1]) (wipeD z.2 vs) else none) = _
      rw [if_pos (by omega), h.2, ih, List.append_assoc, List.filterMap_cons_some h.1.symm]
      rfl
    · rw [if_neg c] at h
      have h := Option.some.inj h
      rw [Prod.mk.injEq] at h
      have ih := lcL_B F l acc (by omega) fun a' m => k a' (List.mem_cons_of_mem _ m)
      have c : b = false := by simpa using c
      subst c
      show lcL g t f vs (l.map enc) acc (wipeD d2 vs) = _
      rw [h.2, ih, List.filterMap_cons_none h.1.symm]
theorem eLC_B {α : Type} {enc : α → D} {fi : DIt} {g : DGt} {t : DB} {f : DX} {vs : List Nat} (F : α → Option D) {ds ds1 : DS} {l : List α} (h1 : fi ds = some (l.map enc, ds1)) (hn : noOwn vs ds1 = true) (hz : l.length ≤ sizeLine)
    (h : ∀ a ∈ l, lcB g t f vs (enc a) (wipeD ds1 vs) = some (F a, wipeD ds1 vs)) : eLC fi g t f vs ds = some (.own (.lst (l.filterMap F)), restoreD ds1 (wipeD ds1 vs) vs) := by
  unfold eLC
  rw [h1]
  show (if noOwn vs ds1 = true then _ else none) = _
  rw [if_pos hn]
  show Option.bind (lcL g t f vs (l.map enc) [] (wipeD ds1 vs)) _ = _
  rw [lcL_B F l [] (by rw [List.length_nil]; omega) h]
  rfl
/-- .. with no test -/
theorem eLC_M {α : Type} {enc : α → D} {fi : DIt} {g : DGt} {t : DB} {f : DX} {vs : List Nat} (F : α → D) {ds ds1 : DS} {l : List α} (h1 : fi ds = some (l.map enc, ds1)) (hn : noOwn vs ds1 = true) (hz : l.length ≤ sizeLine)
    (h : ∀ a ∈ l, lcB g t f vs (enc a) (wipeD ds1 vs) = some (some (F a), wipeD ds1 vs)) : eLC fi g t f vs ds = some (.own (.lst (l.map F)), restoreD ds1 (wipeD ds1 vs) vs) := by
  have := eLC_B (F := fun a => some (F a)) h1 hn hz h
  rw [this]
  congr 4
  exact List.filterMap_eq_map' ▸ rfl
/-- one turn of a loop -/
def foB (g : DGt) (b : DSm) (d : D) (ds : DS) : Option (Fl × DS) := Option.bind (g d ds) b
/-- a loop whose turns all go on -/
theorem forL_B {α σ : Type} {enc : α → D} {g : DGt} {b : DSm} (St : σ → DS → Prop) (step : σ → α → σ) {l : List α} (h : ∀ a ∈ l, ∀ s ds, St s ds → ∃ ds', foB g b (enc a) ds = some (.nx, ds') ∧ St (step s a) ds') : ∀ {s : σ} {ds : DS}, St s ds → ∃ ds', forL g b (l.map enc) ds = some (.nx, ds') ∧ St (l.foldl step s) ds' := by
  intro s ds hs
  refine forL_rel St step l s ds hs fun a ha s ds hs => ?_
  obtain ⟨ds', e, h'⟩ := h a ha s ds hs
  obtain ⟨d1, e1, e2⟩ := Option.bind_eq_some_iff.mp e
  exact ⟨d1, ds', e1, e2, h'⟩
/-- .. that draws: the states follow a relation -/
theorem forL_X {α : Type} {enc : α → D} {g : DGt} {b : DSm} (St : Nat → DS → Prop) : ∀ {l : List α} {n : Nat} {ds : DS}, (∀ a ∈ l, ∀ n ds, St n ds → ∃ ds', foB g b (enc a) ds = some (.nx, ds') ∧ St (n + 1) ds') → St n ds → ∃ ds', forL g b (l.map enc) ds = some (.nx, ds') ∧ St (n + l.length) ds'
  | [], n, ds, _, hs => ⟨ds, rfl, hs⟩
  | a :: l, n, ds, h, hs => by
    obtain ⟨d2, e, h'⟩ := h a List.mem_cons_self n ds hs
    obtain ⟨d1, e1, e2⟩ := Option.bind_eq_some_iff.mp e
    obtain ⟨ds', e3, h3⟩ := forL_X (l := l) St (fun a m => h a (List.mem_cons_of_mem _ m)) h'
    refine ⟨ds', ?_, by rw [List.length_cons, show n + (l.length + 1) = n + 1 + l.length by omega]; exact h3⟩
    rw [List.map_cons]
    unfold forL
    rw [e1]
    show Option.bind (b d1) _ = _
    rw [e2]
    exact e3
end DL
/-! PL10: a work list over any kind of things. -/
namespace DL
open PySem PySem.Spec PyProof.Rows L2
section
variable {α : Type} [DecidableEq α]
def vis (kw : List α × List α) (x : α) : List α × List α := if x ∈ kw.1 then kw else (kw.1 ++ [x], kw.2 ++ [x])
/-- the work list led to its end: all that was come to, in order -/
def work (succ : α → List α) : Nat → List α → List α → Option (List α)
  | 0, _, _ => none
  | n + 1, k, w => match w.getLast? with
    | none => some k
    | some x => work succ n ((succ x).foldl vis (k, w.dropLast)).1 ((succ x).foldl vis (k, w.dropLast)).2
structure WInv (U k w : List α) : Prop where
  nd : k.Nodup
  sub : ∀ x ∈ k, x ∈ U
  wk : ∀ x ∈ w, x ∈ U
theorem vis_inv {U k w : List α} {y : α} (h : WInv U k w) (hy : y ∈ U) : WInv U (vis (k, w) y).1 (vis (k, w) y).2 := by
  unfold vis
  by_cases c : y ∈ k
  · rw [if_pos c]; exact h
  · rw [if_neg c]
    refine ⟨?_, fun z hz => ?_, fun z hz => ?_⟩
    · rw [List.nodup_append]
      exact ⟨h.nd, by simp, fun a ha b hb => by rw [List.mem_singleton.mp hb]; exact fun e => c (e ▸ ha)⟩
    · rcases List.mem_append.mp hz with hz | hz
      · exact h.sub z hz
      · rw [List.mem_singleton.mp hz]; exact hy
    · rcases List.mem_append.mp hz with hz | hz
      · exact h.wk z hz
      · rw [List.mem_singleton.mp hz]; exact hy
theorem viss_inv {U : List α} : ∀ {l k w : List α}, (∀ y ∈ l, y ∈ U) → WInv U k w → WInv U (l.foldl vis (k, w)).1 (l.foldl vis (k, w)).2
  | [], _, _, _, h => h
  | y :: l, k, w, hl, h => viss_inv (l := l) (fun z m => hl z (List.mem_cons_of_mem _ m)) (vis_inv h (hl y List.mem_cons_self))
theorem viss_len : ∀ (l k w : List α), (l.foldl vis (k, w)).2.length + k.length = (l.foldl vis (k, w)).1.length + w.length
  | [], k, w => Nat.add_comm _ _
  | y :: l, k, w => by
    rw [List.foldl_cons]
    by_cases c : y ∈ k
    · rw [show vis (k, w) y = (k, w) from if_pos c]; exact viss_len l k w
    · rw [show vis (k, w) y = (k ++ [y], w ++ [y]) from if_neg c]
      have := viss_len l (k ++ [y]) (w ++ [y])
      simp only [List.length_append, List.length_singleton] at this
      omega
theorem nodup_sub {l u : List α} (hn : l.Nodup) (hs : ∀ x ∈ l, x ∈ u) : l.length ≤ u.length := by
  induction l generalizing u with
  | nil => exact Nat.zero_le _
  | cons x l ih =>
    obtain ⟨h1, h2⟩ := List.nodup_cons.mp hn
    have hx := hs x List.mem_cons_self
    have := ih (u := u.erase x) h2 fun y hy => (List.mem_erase_of_ne (fun e : y = x => h1 (by rw [← e]; exact hy))).mpr (hs y (List.mem_cons_of_mem _ hy))
    rw [List.length_erase_of_mem hx] at this
    have : 0 < u.length := List.length_pos_of_mem hx
    rw [List.length_cons]
    omega
theorem last_split {w : List α} {x : α} (h : w.getLast? = some x) : w = w.dropLast ++ [x] := by
  have hne : w ≠ [] := fun e => by rw [e] at h; cases h
  rw [List.getLast?_eq_some_getLast hne] at h
  cases h
  exact (List.dropLast_concat_getLast hne).symm
/-- it ends, and its end is among U -/
theorem work_ends {succ : α → List α} {U : List α} (hU : ∀ x ∈ U, ∀ y ∈ succ x, y ∈ U) : ∀ (n : Nat) (k w : List α), WInv U k w → U.length + w.length < n + k.length → ∃ K, work succ n k w = some K ∧ K.Nodup ∧ ∀ x ∈ K, x ∈ U
  | 0, k, w, h, hn => by
    have := nodup_sub h.nd h.sub
    omega
  | n + 1, k, w, h, hn => by
    unfold work
    cases e : w.getLast? with
    | none => exact ⟨k, rfl, h.nd, h.sub⟩
    | some x =>
      have hw := last_split e
      have hx : x ∈ U := h.wk x (by rw [hw]; exact List.mem_append_right _ (List.mem_singleton.mpr rfl))
      have h1 : WInv U k w.dropLast := ⟨h.nd, h.sub, fun z hz => h.wk z (List.dropLast_subset _ hz)⟩
      have hl := viss_len (succ x) k w.dropLast
      have hlen : w.length = w.dropLast.length + 1 := by rw [hw, List.length_append]; simp
      exact work_ends hU n _ _ (viss_inv (fun y hy => hU x hx y hy) h1) (by omega)
/-- a loop that does the same -/
theorem wh_work {succ : α → List α} {U : List α} {t : DB} {f : DSm} (St : List α → List α → DS → Prop) (hU : ∀ x ∈ U, ∀ y ∈ succ x, y ∈ U)
    (ht : ∀ k w ds, St k w ds → ∃ ds', t ds = some (decide (w ≠ []), ds') ∧ St k w ds')
    (hf : ∀ k w x ds, WInv U k w → x ∈ U → St k (w ++ [x]) ds → ∃ ds', f ds = some (.nx, ds') ∧ St ((succ x).foldl vis (k, w)).1 ((succ x).foldl vis (k, w)).2 ds') :
    ∀ (n : Nat) (k w : List α) (ds : DS) (K : List α), WInv U k w → St k w ds → work succ n k w = some K → ∃ ds', wh t f n ds = some (.nx, ds') ∧ St K [] ds'
  | 0, _, _, _, _, _, _, e => by cases e
  | n + 1, k, w, ds, K, h, hs, e => by
    unfold work at e
    obtain ⟨ds1, e1, s1⟩ := ht k w ds hs
    unfold wh
    rw [e1]
    cases q : w.getLast? with
    | none =>
      rw [q] at e
      cases e
      have hw : w = [] := List.getLast?_eq_none_iff.mp q
      subst hw
      exact ⟨ds1, rfl, s1⟩
    | some x =>
      rw [q] at e
      have hw := last_split q
      have hx : x ∈ U := h.wk x (by rw [hw]; exact List.mem_append_right _ (List.mem_singleton.mpr rfl))
      have h1 : WInv U k w.dropLast := ⟨h.nd, h.sub, fun z hz => h.wk z (List.dropLast_subset _ hz)⟩
      rw [hw] at s1
      obtain ⟨ds2, e2, s2⟩ := hf k w.dropLast x ds1 h1 hx s1
      obtain ⟨ds', e3, s3⟩ := wh_work St hU ht hf n _ _ ds2 K (viss_inv (fun y hy => hU x hx y hy) h1) s2 e
      refine ⟨ds', ?_, s3⟩
      have hne : w ≠ [] := fun z => by rw [z] at q; cases q
      show (if decide (w ≠ []) = true then Option.bind (f ds1) _ else _) = _
      rw [if_pos (decide_eq_true hne), e2]
      exact e3
theorem sWhile_work {succ : α → List α} {U : List α} {t : DB} {f : DSm} (St : List α → List α → DS → Prop) (hU : ∀ x ∈ U, ∀ y ∈ succ x, y ∈ U)
    (ht : ∀ k w ds, St k w ds → ∃ ds', t ds = some (decide (w ≠ []), ds') ∧ St k w ds')
    (hf : ∀ k w x ds, WInv U k w → x ∈ U → St k (w ++ [x]) ds → ∃ ds', f ds = some (.nx, ds') ∧ St ((succ x).foldl vis (k, w)).1 ((succ x).foldl vis (k, w)).2 ds')
    (n : Nat) (k w : List α) (ds : DS) (K : List α) (h : WInv U k w) (hs : St k w ds) (e : work succ n k w = some K) : ∃ ds', sWhile n t f ds = some (.nx, ds') ∧ St K [] ds' := wh_work St hU ht hf n k w ds K h hs e
end
/-! ### a dict of tuples, each with True -/
def kdT (ks : List (List Int)) : List (D × D) := ks.map fun x => (tupI x, .bl true)
theorem kdT_keys (ks : List (List Int)) : (kdT ks).map (·.1) = ks.map tupI := by
  unfold kdT
  rw [List.map_map]
  rfl
theorem kdT_kt (ks : List (List Int)) : ∀ e ∈ kdT ks, Kt e.1 := fun e h => by
  obtain ⟨x, _, rfl⟩ := List.mem_map.mp h
  exact Kt.tupI x
theorem tupI_inj {a b : List Int} (h : tupI a = tupI b) : a = b := by
  have h := D.tup.inj h
  exact (List.map_inj_right fun _ _ e => D.int.inj e).mp h
theorem mem_tupI {a : List Int} {l : List (List Int)} : tupI a ∈ l.map tupI ↔ a ∈ l := by
  rw [List.mem_map]
  exact ⟨fun ⟨b, h, e⟩ => tupI_inj e ▸ h, fun h => ⟨a, h, rfl⟩⟩
theorem gNotIn_kdT (ks : List (List Int)) (x : List Int) : gNotInT (tupI x) (.dct .t (kdT ks)) = some (.fz (.bl (!decide (x ∈ ks)))) :=
  (gNotIn_kt (Kt.tupI x) (kdT_kt ks) (c := decide (x ∈ ks)) (by rw [decide_eq_true_eq, kdT_keys, mem_tupI])).1
theorem put_kdT {ks : List (List Int)} {x : List Int} (h : x ∉ ks) (hz : ks.length < sizeLine) : putAtT (.dct .t (kdT ks)) (tupI x) (.bl true) = some (.dct .t (kdT (ks ++ [x]))) := by
  rw [putAtT_kt (Kt.tupI x) (kdT_kt ks) (by unfold kdT; rw [List.length_map]; exact hz) (by rw [kdT_keys, mem_tupI]; exact h)]
  unfold kdT
  rw [List.map_append]
  rfl
theorem okSortX_tupI {l : List (List Int)} (hn : (∀ a ∈ l, a ≠ []) ∨ l.length ≤ 1) (hz : l.length ≤ sizeLine) : okSortX (l.map tupI) = true := by
  unfold okSortX alikeB srtB
  simp only [Bool.and_eq_true, Bool.or_eq_true, List.all_eq_true, decide_eq_true_eq, List.length_map]
  refine ⟨fun a ha b hb => ?_, ?_, fun a ha => ?_, hz⟩
  · obtain ⟨x, _, rfl⟩ := List.mem_map.mp ha
    obtain ⟨y, _, rfl⟩ := List.mem_map.mp hb
    exact alike_tupI x y
  · rcases hn with hn | hn
    · refine .inl (.inl fun a ha => ?_)
      obtain ⟨x, hx, rfl⟩ := List.mem_map.mp ha
      cases x with
      | nil => exact absurd rfl (hn _ hx)
      | cons i x => rfl
    · refine .inr ⟨hn, fun a ha => ?_⟩
      obtain ⟨x, hx, rfl⟩ := List.mem_map.mp ha
      rfl
  · obtain ⟨x, _, rfl⟩ := List.mem_map.mp ha
    exact okPy_tupI x
theorem sortI_tupI (l : List (List Int)) : sortI (l.map tupI) = (sortT l).map tupI := by rw [sortI_eq, sortD_tupI]
end DL
/-! D1: the hand's draws. -/
namespace DL.Law
open PySem PySem.Spec PyProof.Rows L2 DL
theorem pow18 : gPow (.int 10) (.int 18) = some (.fz (.int 1000000000000000000)) := by rfl
theorem sm_lt {i n : Int} (h0 : 0 ≤ i) (h1 : i < n) (hn : n < 2 ^ 60) : small64b i = true := by
  unfold small64b
  rw [Bool.and_eq_true, decide_eq_true_eq, decide_eq_true_eq]
  omega
theorem gMulX_int {i j : Int} (h : small64b i = true ∨ small64b j = true) : gMulX (.int i) (.int j) = some (.fz (.int (i * j))) := by
  unfold gMulX cMul
  dsimp only
  rw [if_pos (by rw [Bool.or_eq_true]; exact h)]
def mx1 (c d : Int) : Int := Int.fmod ((c + 7919 * d) * 48271) 2147483647
def mx2 (m : Int) : Int := Int.fmod (m * (Int.fdiv m 1009 + 69621)) 2147483647
def mx3 (m : Int) : Int := Int.fmod (m * (Int.fdiv m 2003 + 40692)) 2147483399
def dRest : DSm := (sSeq (sIf (tOf (eBin gGtD (eBin gAtT (eVar 0) (eC (.int 2))) (eC (.int 0)))) (sSeq (sSet 3 (eBin gMod (eCB gInt (aCons (eBin gAtT (eVar 0) (eC (.int 2))) (aNil))) (eVar 1))) (sSeq (sPutT (eVar 0) (eC (.int 2)) (eBin gFdiv (eBin gAtT (eVar 0) (eC (.int 2))) (eVar 1))) (sSeq (sRet (eVar 3)) sNil))) (sNil)) (sSeq (sPutT (eVar 0) (eC (.int 4)) (eBin gAdd (eBin gAtT (eVar 0) (eC (.int 4))) (eC (.int 1)))) (sSeq (sSet 4 (eBin gMod (eCB gInt (aCons (eBin gMulX (eCB gInt (aCons (eBin gAdd (eBin gAtT (eVar 0) (eC (.int 3))) (eBin gMulX (eC (.int 7919)) (eBin gAtT (eVar 0) (eC (.int 4))))) (aNil))) (eC (.int 48271))) (aNil))) (eC (.int 2147483647)))) (sSeq (sSet 4 (eBin gMod (eCB gInt (aCons (eBin gMulX (eVar 4) (eBin gAdd (eBin gFdiv (eVar 4) (eC (.int 1009))) (eC (.int 69621)))) (aNil))) (eC (.int 2147483647)))) (sSeq (sSet 4 (eBin gMod (eCB gInt (aCons (eBin gMulX (eVar 4) (eBin gAdd (eBin gFdiv (eVar 4) (eC (.int 2003))) (eC (.int 40692)))) (aNil))) (eC (.int 2147483399)))) (sSeq (sRet (eBin gMod (eCB gInt (aCons (eBin gFdiv (eVar 4) (eC (.int 16))) (aNil))) (eVar 1))) sNil))))))
theorem g_split : g__law_draw = sSeq (sIf (bAnd (tOf (eBin gEqD (eBin gAtT (eVar 0) (eC (.int 2))) (eC (.int 0)))) (tOf (eBin gLtD (eBin gAtT (eVar 0) (eC (.int 1))) (eCB gLenX (aCons (eBin gAtT (eVar 0) (eC (.int 0))) (aNil)))))) (sSeq (sSet 2 (eBin gAtT (eBin gAtT (eVar 0) (eC (.int 0))) (eBin gAtT (eVar 0) (eC (.int 1))))) (sSeq (sPutT (eVar 0) (eC (.int 1)) (eBin gAdd (eBin gAtT (eVar 0) (eC (.int 1))) (eC (.int 1)))) (sSeq (sPutT (eVar 0) (eC (.int 3)) (eBin gMod (eCB gInt (aCons (eBin gAdd (eBin gAdd (eBin gMulX (eBin gAtT (eVar 0) (eC (.int 3))) (eC (.int 69621))) (eVar 2)) (eC (.int 11))) (aNil))) (eC (.int 2147483629)))) (sSeq (sIf (tOf (eBin gGeD (eVar 2) (eBin gPow (eC (.int 10)) (eC (.int 18))))) (sSeq (sPutT (eVar 0) (eC (.int 2)) (eVar 2)) sNil) (sNil)) sNil)))) (sNil)) dRest := rfl
theorem draw {ob : Ob} (h : Tape ob) {n : Int} (h0 : 0 < n) (h1 : n < 1073741824) : ∃ r ob', 0 ≤ r ∧ r < n ∧ Tape ob' ∧ m__law_draw ob [.int n] = some (.fz (.int r), .own ob') := by
  obtain ⟨cells, a, b, c, d, ha, rfl⟩ := h
  have hn : n ≠ 0 := by omega
  have r0 : ∀ i : Int, 0 ≤ Int.fmod i n := fun i => Int.fmod_nonneg_of_pos i h0
  have r1 : ∀ i : Int, Int.fmod i n < n := fun i => Int.fmod_lt_of_pos i h0
  have m1 : ∀ i : Int, gMod (.int i) (.int 2147483629) = some (.fz (.int (Int.fmod i 2147483629))) := fun i => gMod_int (by omega)
  have m2 : ∀ i : Int, gMod (.int i) (.int 2147483647) = some (.fz (.int (Int.fmod i 2147483647))) := fun i => gMod_int (by omega)
  have m3 : ∀ i : Int, gMod (.int i) (.int 2147483399) = some (.fz (.int (Int.fmod i 2147483399))) := fun i => gMod_int (by omega)
  have q1 : ∀ i : Int, gFdiv (.int i) (.int 1009) = some (.fz (.int (Int.fdiv i 1009))) := fun i => gFdiv_int (by omega) (by omega)
  have q2 : ∀ i : Int, gFdiv (.int i) (.int 16) = some (.fz (.int (Int.fdiv i 16))) := fun i => gFdiv_int (by omega) (by omega)
  have q3 : ∀ i : Int, gFdiv (.int i) (.int 2003) = some (.fz (.int (Int.fdiv i 2003))) := fun i => gFdiv_int (by omega) (by omega)
  have x1 : ∀ i : Int, gMulX (.int i) (.int 48271) = some (.fz (.int (i * 48271))) := fun i => gMulX_int (.inr (by rfl))
  have x2 : ∀ i : Int, gMulX (.int i) (.int 69621) = some (.fz (.int (i * 69621))) := fun i => gMulX_int (.inr (by rfl))
  have x4 : ∀ i : Int, gMulX (.int 7919) (.int i) = some (.fz (.int (7919 * i))) := fun i => gMulX_int (.inl (by rfl))
  have x3 : ∀ i j : Int, gMulX (.int (Int.fmod i 2147483647)) (.int j) = some (.fz (.int (Int.fmod i 2147483647 * j))) := fun i j => gMulX_int (.inl (sm_lt (Int.fmod_nonneg_of_pos i (by omega)) (Int.fmod_lt_of_pos i (by omega)) (by omega)))
  have key : ∀ (a b c d : Int) (x : Option SV), 0 ≤ a → ∃ r ob', 0 ≤ r ∧ r < n ∧ Tape ob' ∧ Option.bind (dRest [some (.own (tp cells a b c d)), some (.fz (.int n)), x, none, none]) finIo = some (.fz (.int r), .own ob') := by
    intro a b c d x ha
    by_cases hb : 0 < b
    · refine ⟨Int.fmod b n, tp cells a (Int.fdiv b n) c d, r0 b, r1 b, ⟨cells, a, _, c, d, ha, rfl⟩, ?_⟩
      unfold tp dRest
      simp [hb, atI, ixN, gMod_int hn, gFdiv_int h0 h1, finIo, fin]
    · refine ⟨Int.fmod (Int.fdiv (mx3 (mx2 (mx1 c (d + 1)))) 16) n, tp cells a b c (d + 1), r0 _, r1 _, ⟨cells, a, b, c, d + 1, ha, rfl⟩, ?_⟩
      unfold tp dRest mx3 mx2 mx1
      simp [hb, atI, ixN, m1, m2, m3, q1, q2, q3, x1, x2, x3, x4, gMod_int hn, gFdiv_int h0 h1, finIo, fin]
  by_cases hl : b = 0 ∧ a < cells.length
  · obtain ⟨rfl, hl⟩ := hl
    obtain ⟨v, hv⟩ : ∃ v, cells[a.toNat]'(by omega) = v := ⟨_, rfl⟩
    have hg : (cells.map D.int)[a.toNat]? = some (.int v) := by
      rw [List.getElem?_map, List.getElem?_eq_getElem (by omega), hv]
      rfl
    by_cases hc : (1000000000000000000 : Int) ≤ v
    · obtain ⟨r, ob', k1, k2, k3, k4⟩ := key (a + 1) v (Int.fmod (c * 69621 + v + 11) 2147483629) d (some (.fz (.int v))) (by omega)
      refine ⟨r, ob', k1, k2, k3, ?_⟩
      unfold m__law_draw dfnIo
      show Option.bind (g__law_draw [some (.own (tp cells a 0 c d)), some (.fz (.int n)), none, none, none]) finIo = _
      rw [g_split, sSeq_nx (ds1 := [some (.own (tp cells (a + 1) v (Int.fmod (c * 69621 + v + 11) 2147483629) d)), some (.fz (.int n)), some (.fz (.int v)), none, none]) (by
        unfold tp
        simp [hc, atI, ixN, hl, ha, hg, hv, pow18, m1, x2, gLenX, gLen_lst])]
      exact k4
    · obtain ⟨r, ob', k1, k2, k3, k4⟩ := key (a + 1) 0 (Int.fmod (c * 69621 + v + 11) 2147483629) d (some (.fz (.int v))) (by omega)
      refine ⟨r, ob', k1, k2, k3, ?_⟩
      unfold m__law_draw dfnIo
      show Option.bind (g__law_draw [some (.own (tp cells a 0 c d)), some (.fz (.int n)), none, none, none]) finIo = _
      rw [g_split, sSeq_nx (ds1 := [some (.own (tp cells (a + 1) 0 (Int.fmod (c * 69621 + v + 11) 2147483629) d)), some (.fz (.int n)), some (.fz (.int v)), none, none]) (by
        unfold tp
        simp [hc, atI, ixN, hl, ha, hg, hv, pow18, m1, x2, gLenX, gLen_lst])]
      exact k4
  · obtain ⟨r, ob', k1, k2, k3, k4⟩ := key a b c d none ha
    refine ⟨r, ob', k1, k2, k3, ?_⟩
    unfold m__law_draw dfnIo
    show Option.bind (g__law_draw [some (.own (tp cells a b c d)), some (.fz (.int n)), none, none, none]) finIo = _
    rw [g_split, sSeq_nx (ds1 := [some (.own (tp cells a b c d)), some (.fz (.int n)), none, none, none]) (by
      unfold tp
      by_cases hb : b = 0
      · have hl' : ¬ a < cells.length := fun z => hl ⟨hb, z⟩
        simp [hb, hl', atI, ixN, ha, gLenX, gLen_lst]
      · simp [hb, atI, ixN, ha, gLenX, gLen_lst])]
    exact k4
theorem drawN {ob : Ob} (h : Tape ob) {n : Nat} (h0 : 0 < n) (h1 : n < 1073741824) : ∃ (r : Nat) (ob' : Ob), r < n ∧ Tape ob' ∧ m__law_draw ob [.int (n : Int)] = some (.fz (.int (r : Int)), .own ob') := by
  obtain ⟨r, ob', a, b, c, d⟩ := draw h (n := (n : Int)) (by omega) (by omega)
  refine ⟨r.toNat, ob', by omega, c, ?_⟩
  rw [d, Int.toNat_of_nonneg a]
theorem hand_of (ns : List Int) (hn : ns.length ≤ 63) : ∃ ob, Tape ob ∧ m__law_hand [.lst (ns.map D.int)] = some (.own ob) := by
  refine ⟨tp (ns.map fun i => if i < 0 then -i else i) 0 0 (1 + (ns.length : Nat)) 0, ⟨_, 0, 0, _, 0, by decide, rfl⟩, ?_⟩
  unfold m__law_hand dfn
  show Option.bind (g__law_hand [some (.fz (.lst (ns.map D.int))), none, none]) fin = _
  unfold g__law_hand
  have hc : cutL (ns.map D.int) none (some 63) = ns.map D.int := cutL_all _ _ _ rfl (by
    unfold HT.sIx
    simp
    omega)
  have e := eLC_M (fi := iOfX (eSl (eVar 0) (oNone) (oSome (eC (.int 63))))) (g := gN 2) (t := bYes) (f := eCB gAbs (aCons (eCB gInt (aCons (eVar 2) (aNil))) (aNil))) (vs := [2]) (enc := D.int) (l := ns) (fun i => D.int (if i < 0 then -i else i))
    (ds := [some (.fz (.lst (ns.map D.int))), none, none]) (ds1 := [some (.fz (.lst (ns.map D.int))), none, none]) (by simp [hc]; rfl) rfl (Nat.le_trans hn (by decide)) fun i _ => by simp [lcB]
  have hm : ns.map (fun i => D.int (if i < 0 then -i else i)) = (ns.map fun i => if i < 0 then -i else i).map D.int := by rw [List.map_map]; rfl
  rw [hm] at e
  rw [sSeq_nx (sSet_own e)]
  simp [gLenX, gLen_lst, sizeLine]
  unfold tp
  rw [List.map_map]
  rfl
end DL.Law
/-! PL11: a loop whose turns are counted. -/
namespace DL
open PySem PySem.Spec PyProof.Rows L2
theorem forL_N {g : DGt} {b : DSm} (N : Nat) (St : Nat → DS → Prop) : ∀ {l : List D} {n : Nat} {ds : DS}, (∀ a ∈ l, ∀ n ds, n < N → St n ds → ∃ ds', foB g b a ds = some (.nx, ds') ∧ St (n + 1) ds') → St n ds → n + l.length ≤ N → ∃ ds', forL g b l ds = some (.nx, ds') ∧ St (n + l.length) ds'
  | [], n, ds, _, hs, _ => ⟨ds, rfl, hs⟩
  | a :: l, n, ds, h, hs, hN => by
    rw [List.length_cons] at hN
    obtain ⟨d2, e, h'⟩ := h a List.mem_cons_self n ds (by omega) hs
    obtain ⟨d1, e1, e2⟩ := Option.bind_eq_some_iff.mp e
    obtain ⟨ds', e3, h3⟩ := forL_N (l := l) N St (fun a m => h a (List.mem_cons_of_mem _ m)) h' (by omega)
    refine ⟨ds', ?_, by rw [List.length_cons, show n + (l.length + 1) = n + 1 + l.length by omega]; exact h3⟩
    unfold forL
    rw [e1]
    show Option.bind (b d1) _ = _
    rw [e2]
    exact e3
/-- item for item -/
inductive A2 {α β : Type} (P : α → β → Prop) : List α → List β → Prop
  | nil : A2 P [] []
  | cons {a : α} {b : β} {l : List α} {m : List β} : P a b → A2 P l m → A2 P (a :: l) (b :: m)
theorem A2.len {α β : Type} {P : α → β → Prop} {l : List α} {m : List β} (h : A2 P l m) : m.length = l.length := by
  induction h with
  | nil => rfl
  | cons _ _ ih => rw [List.length_cons, List.length_cons, ih]
theorem A2.right {α β : Type} {P : α → β → Prop} {l : List α} {m : List β} (h : A2 P l m) : ∀ b ∈ m, ∃ a ∈ l, P a b := by
  induction h with
  | nil => intro b hb; cases hb
  | cons p _ ih =>
    intro b hb
    rcases List.mem_cons.mp hb with rfl | hb
    · exact ⟨_, List.mem_cons_self, p⟩
    · obtain ⟨a, ha, q⟩ := ih b hb
      exact ⟨a, List.mem_cons_of_mem _ ha, q⟩
/-- a comprehension that draws: the items come out as P says -/
theorem lcL_N {g : DGt} {t : DB} {f : DX} {vs : List Nat} (St : DS → Prop) (P : D → D → Prop) : ∀ {l : List D} {acc : List D} {ds : DS}, (∀ a ∈ l, ∀ ds, St ds → ∃ d ds', lcB g t f vs a ds = some (some d, ds') ∧ P a d ∧ St ds') → St ds → acc.length + l.length ≤ sizeLine →
    ∃ out ds', lcL g t f vs l acc ds = some (acc ++ out, ds') ∧ St ds' ∧ A2 P l out
  | [], acc, ds, _, hs, _ => ⟨[], ds, by rw [List.append_nil]; rfl, hs, .nil⟩
  | a :: l, acc, ds, h, hs, hz => by
    rw [List.length_cons] at hz
    obtain ⟨d, ds2, e, hd, hs2⟩ := h a List.mem_cons_self ds hs
    obtain ⟨out, ds', e2, r1, r2⟩ := lcL_N (l := l) (acc := acc ++ [d]) St P (fun a m => h a (List.mem_cons_of_mem _ m)) hs2 (by rw [List.length_append, List.length_singleton]; omega)
    refine ⟨d :: out, ds', ?_, r1, .cons hd r2⟩
    unfold lcB at e
    obtain ⟨d1, e1, e⟩ := Option.bind_eq_some_iff.mp e
    obtain ⟨⟨b, d2⟩, e3, e⟩ := Option.bind_eq_some_iff.mp e
    dsimp only at e
    by_cases c : b = true
    · subst c
      rw [if_pos rfl] at e
      obtain ⟨q, e4, e⟩ := Option.bind_eq_some_iff.mp e
      obtain ⟨z, e5, e⟩ := Option.bind_eq_some_iff.mp e
      have e := Option.some.inj e
      rw [Prod.mk.injEq] at e
      unfold lcL
      rw [e1]
      show Option.bind (t d1) _ = _
      rw [e3]
      show Option.bind (f d2) _ = _
      rw [e4]
      show Option.bind (frR q.1 q.2) _ = _
      rw [e5]
      show (if acc.length < sizeLine then lcL g t f vs l (acc ++ [z.1]) (wipeD z.2 vs) else none) = _
      rw [if_pos (by omega), e.2, Option.some.inj e.1, e2, List.append_assoc]
      rfl
    · rw [if_neg c] at e
      have e := Option.some.inj e
      rw [Prod.mk.injEq] at e
      cases e.1
theorem eLC_N {fi : DIt} {g : DGt} {t : DB} {f : DX} {vs : List Nat} (St : DS → Prop) (P : D → D → Prop) {ds ds1 : DS} {l : List D} (h1 : fi ds = some (l, ds1)) (hn : noOwn vs ds1 = true) (hz : l.length ≤ sizeLine) (hs : St (wipeD ds1 vs))
    (h : ∀ a ∈ l, ∀ ds, St ds → ∃ d ds', lcB g t f vs a ds = some (some d, ds') ∧ P a d ∧ St ds') : ∃ out ds', eLC fi g t f vs ds = some (.own (.lst out), restoreD ds1 ds' vs) ∧ St ds' ∧ A2 P l out := by
  obtain ⟨out, ds', e, r1, r2⟩ := lcL_N (l := l) (acc := []) St P h hs (by rw [List.length_nil]; omega)
  refine ⟨out, ds', ?_, r1, r2⟩
  unfold eLC
  rw [h1]
  show (if noOwn vs ds1 = true then _ else none) = _
  rw [if_pos hn]
  show Option.bind (lcL g t f vs l [] (wipeD ds1 vs)) _ = _
  rw [e]
  rfl
theorem A2.ints {P : D → Int → Prop} {l : List D} {out : List D} (h : A2 (fun a d => ∃ i, d = .int i ∧ P a i) l out) : ∃ is, out = is.map D.int ∧ A2 P l is := by
  induction h with
  | nil => exact ⟨[], rfl, .nil⟩
  | cons p _ ih =>
    obtain ⟨i, rfl, hi⟩ := p
    obtain ⟨is, rfl, h2⟩ := ih
    exact ⟨i :: is, rfl, .cons hi h2⟩
theorem rng0_len (n : Nat) : (rng 0 n).length = n := by unfold rng; rw [List.length_map, List.length_range]
end DL
/-! C1: statements, a run of them: the program's and the law's. -/
namespace DL.Law
open PySem PySem.Spec PyProof.Rows L2 DL
/-- a statement: flag 0 clears, 1 sets, else turns -/
inductive Sm where
  | flag (w : Nat) (l v : List Int)
  | skip (n : Int) (l v : List Int)
  | deed (s : Str)
def wD : Nat → Str
  | 0 => "clear"
  | 1 => "set"
  | _ => "turn"
def Sm.d : Sm → D
  | .flag w l v => .tup [.str (wD w), .tup [tupI l, tupI v]]
  | .skip n l v => .tup [.str "skip", .int n, .tup [tupI l, tupI v]]
  | .deed s => .tup [.str "deed", .str s]
/-- what the pins of a lot show -/
def at_ (x l : List Int) : List Int := l.map fun p => x.getD p.toNat 0
/-- all its pins are there -/
def InL (n : Nat) (l : List Int) : Prop := (∀ p ∈ l, 0 ≤ p ∧ p < (n : Int)) ∧ l.length ≤ 3
def Sm.In (n : Nat) : Sm → Prop
  | .flag _ l _ => InL n l
  | .skip _ l _ => InL n l
  | .deed _ => True
structure Rn where
  flag : Bool
  left : Int
  names : List Str
def chg (w : Nat) (b : Bool) : Bool := match w with
  | 0 => false
  | 1 => true
  | _ => !b
def Rn.step (x : List Int) (r : Rn) (s : Sm) : Rn :=
  if 0 < r.left then { r with left := r.left - 1 } else match s with
  | .deed s => if r.flag = true then { r with names := r.names ++ [s] } else r
  | .skip n l v => if at_ x l = v then { r with left := n } else r
  | .flag w l v => if at_ x l = v then { r with flag := chg w r.flag } else r
def r0 : Rn := ⟨false, 0, []⟩
def runP (x : List Int) (p : List Sm) : Rn := p.foldl (Rn.step x) r0
/-! ### the joint of a lot -/
theorem joint_get {x : List Int} {p : Int} (h : 0 ≤ p ∧ p < (x.length : Int)) : gAtT (tupI x) (.int p) = some (.fz (.int (x.getD p.toNat 0))) := by
  show Option.map R.fz (atI (x.map D.int) p) = _
  rw [atI_int h.1 (by rw [List.length_map]; exact h.2), List.getElem?_map, List.getElem?_eq_getElem (by omega)]
  rw [List.getD_eq_getElem?_getD, List.getElem?_eq_getElem (by omega)]
  rfl
theorem joint_lc {x l : List Int} (h : InL x.length l) : eLC (iOfX (eVar 0)) (gN 2) (bYes) (eBin gAtT (eVar 1) (eVar 2)) [2] [some (.fz (tupI l)), some (.fz (tupI x)), none] = some (.own (.lst ((at_ x l).map D.int)), [some (.fz (tupI l)), some (.fz (tupI x)), none]) := by
  have e := eLC_M (fi := iOfX (eVar 0)) (g := gN 2) (t := bYes) (f := eBin gAtT (eVar 1) (eVar 2)) (vs := [2]) (enc := D.int) (fun p => D.int (x.getD p.toNat 0)) (ds := [some (.fz (tupI l)), some (.fz (tupI x)), none]) (ds1 := [some (.fz (tupI l)), some (.fz (tupI x)), none]) (l := l) rfl rfl (Nat.le_trans h.2 (by decide)) fun p hp => by
    simp [lcB, joint_get (h.1 p hp)]
  rw [e]
  unfold at_
  rw [List.map_map]
  rfl
theorem joint_of {x l : List Int} (h : InL x.length l) : m_joint_of [tupI l, tupI x] = some (.fz (tupI (at_ x l))) ∧ m__law_joint [tupI l, tupI x] = some (.fz (tupI (at_ x l))) := by
  have e := joint_lc h
  constructor
  · unfold m_joint_of dfn
    show Option.bind (g_joint_of [some (.fz (tupI l)), some (.fz (tupI x)), none]) fin = _
    unfold g_joint_of
    simp [e]
    rfl
  · unfold m__law_joint dfn
    show Option.bind (g__law_joint [some (.fz (tupI l)), some (.fz (tupI x)), none]) fin = _
    unfold g__law_joint
    simp [e]
    rfl
/-! ### the program's run -/
def runF (x : List Int) (r : Rn) : List (Str × SF) := [("content", .fz (tupI x)), ("flag", .fz (.bl r.flag)), ("left", .fz (.int r.left)), ("names", .lst (r.names.map D.str))]
def runO (x : List Int) (r : Rn) : Ob := .insO "Run" (runF x r)
theorem runF_c (x : List Int) (r : Rn) : (runF x r).lookup ("content" : Str) = some (.fz (tupI x)) := by kernel_rfl
theorem runF_f (x : List Int) (r : Rn) : (runF x r).lookup ("flag" : Str) = some (.fz (.bl r.flag)) := by kernel_rfl
theorem runF_l (x : List Int) (r : Rn) : (runF x r).lookup ("left" : Str) = some (.fz (.int r.left)) := by kernel_rfl
theorem runF_n (x : List Int) (r : Rn) : (runF x r).lookup ("names" : Str) = some (.lst (r.names.map D.str)) := by kernel_rfl
theorem runF_len (x : List Int) (r : Rn) : (runF x r).length = 4 := rfl
theorem runF_pf (x : List Int) (r : Rn) (b : Bool) : putSF "flag" (.fz (.bl b)) (runF x r) = runF x { r with flag := b } := by kernel_rfl
theorem runF_pl (x : List Int) (r : Rn) (i : Int) : putSF "left" (.fz (.int i)) (runF x r) = runF x { r with left := i } := by kernel_rfl
theorem runF_pn (x : List Int) (r : Rn) (s : Str) : putSF "names" (.lst (r.names.map D.str ++ [.str s])) (runF x r) = runF x { r with names := r.names ++ [s] } := by
  unfold runF
  rw [List.map_append]
  kernel_rfl
theorem sk_de : (("skip" : Str) = "deed") = False := eq_false (by decide)
theorem w_de (w : Nat) : (wD w = "deed") = False := eq_false (match w with | 0 => by decide | 1 => by decide | n + 2 => by show ¬ (("turn" : Str) = _); decide)
theorem w_sk (w : Nat) : (wD w = "skip") = False := eq_false (match w with | 0 => by decide | 1 => by decide | n + 2 => by show ¬ (("turn" : Str) = _); decide)
theorem shows_of {x l v : List Int} (h : InL x.length l) : m_shows [tupI x, .tup [tupI l, tupI v]] = some (.fz (.bl (decide (at_ x l = v)))) := by
  unfold m_shows dfn
  show Option.bind (g_shows [some (.fz (tupI x)), some (.fz (.tup [tupI l, tupI v]))]) fin = _
  unfold g_shows
  simp [(joint_of h).1, atI, ixN]
  rfl
theorem changed_of (b : Bool) (w : Nat) : m_changed [.bl b, .str (wD w)] = some (.fz (.bl (chg w b))) := by
  match w, b with
  | 0, true => kernel_rfl
  | 0, false => kernel_rfl
  | 1, true => kernel_rfl
  | 1, false => kernel_rfl
  | w + 2, true => kernel_rfl
  | w + 2, false => kernel_rfl
theorem run_step {x : List Int} {s : Sm} (h : s.In x.length) (r : Rn) (hz : r.names.length < sizeLine) : ∃ b, m_Run_step (runO x r) [s.d] = some (.fz (.bl b), .own (runO x (r.step x s))) := by
  unfold m_Run_step dfnIo
  show ∃ b, Option.bind (g_Run_step [some (.own (runO x r)), some (.fz s.d), none]) finIo = _
  unfold g_Run_step runO Rn.step
  by_cases c : 0 < r.left
  · refine ⟨true, ?_⟩
    simp [c, gI, runF_c, runF_f, runF_l, runF_len, runF_pl]
    rfl
  · refine ⟨false, ?_⟩
    cases s with
    | deed s =>
      have hz' : (r.names.map D.str).length < sizeLine := by rw [List.length_map]; exact hz
      by_cases f : r.flag = true
      · simp [c, f, Sm.d, atI, ixN, runF_c, runF_f, runF_l, runF_n, runF_len, runF_pn, gAppend_ok _ hz']
        rfl
      · simp [c, f, Sm.d, atI, ixN, runF_c, runF_f, runF_l, runF_len, runF_pl]
        rfl
    | skip n l v =>
      by_cases f : at_ x l = v
      · simp [c, f, Sm.d, atI, ixN, runF_c, runF_f, runF_l, runF_len, runF_pl, sk_de, shows_of (show InL x.length l from h)]
        rfl
      · simp [c, f, Sm.d, atI, ixN, runF_c, runF_f, runF_l, runF_len, runF_pl, sk_de, shows_of (show InL x.length l from h)]
        rfl
    | flag w l v =>
      by_cases f : at_ x l = v
      · simp [c, f, Sm.d, atI, ixN, runF_c, runF_f, runF_l, runF_len, runF_pf, w_de, w_sk, shows_of (show InL x.length l from h), changed_of]
        rfl
      · simp [c, f, Sm.d, atI, ixN, runF_c, runF_f, runF_l, runF_len, runF_pl, w_de, w_sk, shows_of (show InL x.length l from h)]
        rfl
end DL.Law
/-! C2: a run through a program: the program's and the law's. -/
namespace DL.Law
open PySem PySem.Spec PyProof.Rows L2 DL
def pD (S : List Int) (p : List Sm) : D := .ins "Program" [("sizes", tupI S), ("statements", .tup (p.map Sm.d))]
theorem pD_s (S : List Int) (p : List Sm) : [(("sizes" : Str), tupI S), ("statements", .tup (p.map Sm.d))].lookup ("statements" : Str) = some (.tup (p.map Sm.d)) := by kernel_rfl
theorem pD_z (S : List Int) (p : List Sm) : [(("sizes" : Str), tupI S), ("statements", .tup (p.map Sm.d))].lookup ("sizes" : Str) = some (tupI S) := by kernel_rfl
theorem step_names (x : List Int) (r : Rn) (s : Sm) : (r.step x s).names.length ≤ r.names.length + 1 := by
  unfold Rn.step
  by_cases c : 0 < r.left
  · simp [c]
  · rw [if_neg c]
    cases s with
    | deed s =>
      by_cases f : r.flag = true
      · simp [f]
      · simp [f]
    | skip n l v =>
      by_cases f : at_ x l = v
      · simp [f]
      · simp [f]
    | flag w l v =>
      by_cases f : at_ x l = v
      · simp [f]
      · simp [f]
theorem run_names (x : List Int) : ∀ (p : List Sm) (r : Rn), (p.foldl (Rn.step x) r).names.length ≤ r.names.length + p.length
  | [], r => Nat.le_refl _
  | s :: p, r => by
    have h1 := run_names x p (r.step x s)
    have h2 := step_names x r s
    rw [List.foldl_cons, List.length_cons]
    omega
theorem foB_cons {g : DGt} {b : DSm} {d : D} {l : List D} {ds ds1 : DS} (h : foB g b d ds = some (.nx, ds1)) : forL g b (d :: l) ds = forL g b l ds1 := by
  obtain ⟨d1, e1, e2⟩ := Option.bind_eq_some_iff.mp h
  rw [forL, e1]
  show Option.bind (b d1) _ = _
  rw [e2]
  rfl
theorem run_forL {A : D} {x : List Int} : ∀ (p : List Sm) (r : Rn) (l : Option SV), (∀ s ∈ p, s.In x.length) → r.names.length + p.length ≤ sizeLine →
    ∃ l', forL (gN 3) (sSeq (sExpr (eMethO "Run" "step" m_Run_step (eVar 2) (aCons (eVar 3) (aNil)))) sNil) (p.map Sm.d) [some (.fz A), some (.fz (tupI x)), some (.own (runO x r)), l] = some (.nx, [some (.fz A), some (.fz (tupI x)), some (.own (runO x (p.foldl (Rn.step x) r))), l'])
  | [], r, l, _, _ => ⟨l, rfl⟩
  | s :: p, r, l, h, hz => by
    rw [List.length_cons] at hz
    obtain ⟨b, e⟩ := run_step (h s List.mem_cons_self) r (by omega)
    have h2 := step_names x r s
    obtain ⟨l', e'⟩ := run_forL (A := A) p (r.step x s) (some (.fz s.d)) (fun s' m => h s' (List.mem_cons_of_mem _ m)) (by omega)
    refine ⟨l', ?_⟩
    rw [List.map_cons, foB_cons (ds1 := [some (.fz A), some (.fz (tupI x)), some (.own (runO x (r.step x s))), some (.fz s.d)]), e']
    · rfl
    · have hl : ((runF x r).lookup ("step" : Str)).isSome = false := by kernel_rfl
      have e : m_Run_step (.insO "Run" (runF x r)) [s.d] = some (.fz (.bl b), .own (runO x (r.step x s))) := e
      simp [foB, runO, hl, e]
theorem init_run (x : List Int) : m_Run_init (.insO "Run" []) [tupI x] = some (.fz .non, .own (runO x r0)) := by kernel_rfl
theorem run_of {x : List Int} {S : List Int} {p : List Sm} (h : ∀ s ∈ p, s.In x.length) (hz : p.length ≤ sizeLine) : m_run_of [pD S p, tupI x] = some (.own (runO x (runP x p))) := by
  unfold m_run_of dfn
  show Option.bind (g_run_of [some (.fz (pD S p)), some (.fz (tupI x)), none, none]) fin = _
  unfold g_run_of
  obtain ⟨l', e⟩ := run_forL (A := pD S p) p r0 none h (by show 0 + _ ≤ _; omega)
  have hp : List.lookup (Str.ofString "statements") [(Str.ofString "sizes", tupI S), (Str.ofString "statements", D.tup (List.map Sm.d p))] = some (.tup (p.map Sm.d)) := by kernel_rfl
  have ei : m_Run_init (.insO "Run" []) [tupI x] = some (.fz .non, .own (runO x r0)) := init_run x
  rw [sSeq_nx (ds1 := [some (.fz (pD S p)), some (.fz (tupI x)), some (.own (runO x r0)), none]) (by simp [ei])]
  rw [sSeq_nx (ds1 := [some (.fz (pD S p)), some (.fz (tupI x)), some (.own (runO x (runP x p))), l'])]
  · simp
    rfl
  · have ef : iOfX (eFld "Program" "statements" (eVar 0)) [some (.fz (pD S p)), some (.fz (tupI x)), some (.own (runO x r0)), none] = some (p.map Sm.d, [some (.fz (pD S p)), some (.fz (tupI x)), some (.own (runO x r0)), none]) := by kernel_rfl
    rw [sFor_ap, ef]
    exact e
end DL.Law
/-! C3: the law's run through a program. -/
namespace DL.Law
open PySem PySem.Spec PyProof.Rows L2 DL
def bI (b : Bool) : Int := if b = true then 1 else 0
def runD (r : Rn) : D := .tup [.int (bI r.flag), .lst (r.names.map D.str)]
def lwS (A : D) (x : List Int) (r : Rn) (l : Option SV) : DS := [some (.fz A), some (.fz (tupI x)), some (.fz (.int (bI r.flag))), some (.fz (.int r.left)), some (.own (.lst (r.names.map D.str))), l]
def lwQ : DSm := sSet 2 (eBin gAtT (eDispX (pCons (eC (.str "set")) (eC (.int 1)) (pCons (eC (.str "clear")) (eC (.int 0)) (pCons (eC (.str "turn")) (eBin gSub (eC (.int 1)) (eVar 2)) (pNil))))) (eBin gAtT (eVar 5) (eC (.int 0))))
abbrev lwB : DSm := (sSeq (sIf (tOf (eBin gGtD (eVar 3) (eC (.int 0)))) (sSeq (sSet 3 (eBin gSub (eVar 3) (eC (.int 1)))) sNil) (sSeq (sIf (tOf (eBin gEqD (eBin gAtT (eVar 5) (eC (.int 0))) (eC (.str "deed")))) (sSeq (sIf (tOf (eBin gEqD (eVar 2) (eC (.int 1)))) (sSeq (sExpr (eLM gAppend (eVar 4) (aCons (eBin gAtT (eVar 5) (eC (.int 1))) (aNil)))) sNil) (sNil)) sNil) (sSeq (sIf (tOf (eBin gEqD (eCall m__law_joint (aCons (eBin gAtT (eBin gAtT (eVar 5) (eNeg (eC (.int 1)))) (eC (.int 0))) (aCons (eVar 1) (aNil)))) (eBin gAtT (eBin gAtT (eVar 5) (eNeg (eC (.int 1)))) (eC (.int 1))))) (sSeq (sIf (tOf (eBin gEqD (eBin gAtT (eVar 5) (eC (.int 0))) (eC (.str "skip")))) (sSeq (sSet 3 (eBin gAtT (eVar 5) (eC (.int 1)))) sNil) (sSeq lwQ sNil)) sNil) (sNil)) sNil)) sNil)) sNil)
theorem lw_set (A : D) (x : List Int) (r : Rn) (w : Nat) (l v : List Int) : eBin gAtT (eDispX (pCons (eC (.str "set")) (eC (.int 1)) (pCons (eC (.str "clear")) (eC (.int 0)) (pCons (eC (.str "turn")) (eBin gSub (eC (.int 1)) (eVar 2)) (pNil))))) (eBin gAtT (eVar 5) (eC (.int 0))) (lwS A x r (some (.fz (Sm.flag w l v).d)))
    = some (.fz (.int (bI (chg w r.flag))), lwS A x r (some (.fz (Sm.flag w l v).d))) := by
  match w, r with
  | 0, ⟨true, _, _⟩ => kernel_rfl
  | 0, ⟨false, _, _⟩ => kernel_rfl
  | 1, ⟨true, _, _⟩ => kernel_rfl
  | 1, ⟨false, _, _⟩ => kernel_rfl
  | w + 2, ⟨true, _, _⟩ => kernel_rfl
  | w + 2, ⟨false, _, _⟩ => kernel_rfl
theorem lw_step {A : D} {x : List Int} {s : Sm} (h : s.In x.length) (r : Rn) (hz : r.names.length < sizeLine) (l : Option SV) : foB (gN 5) lwB s.d (lwS A x r l) = some (.nx, lwS A x (r.step x s) (some (.fz s.d))) := by
  unfold foB
  show Option.bind (some (lwS A x r (some (.fz s.d)))) lwB = _
  rw [bind_some']
  unfold Rn.step
  by_cases c : 0 < r.left
  · unfold lwS
    simp [c]
  · cases s with
    | deed s =>
      have hz' : (r.names.map D.str).length < sizeLine := by rw [List.length_map]; exact hz
      by_cases f : r.flag = true
      · unfold lwS
        simp [c, f, Sm.d, atI, ixN, gAppend_ok _ hz', bI]
      · unfold lwS
        simp [c, f, Sm.d, atI, ixN, bI]
    | skip n l v =>
      have hj := (joint_of (show InL x.length l from h)).2
      by_cases f : at_ x l = v
      · unfold lwS
        simp [c, f, Sm.d, atI, ixN, sk_de, hj]
      · unfold lwS
        simp [c, f, Sm.d, atI, ixN, sk_de, hj]
    | flag w l v =>
      have hj := (joint_of (show InL x.length l from h)).2
      have hs := lw_set A x r w l v
      by_cases f : at_ x l = v
      · have e : lwQ (lwS A x r (some (.fz (Sm.flag w l v).d))) = some (.nx, lwS A x { r with flag := chg w r.flag } (some (.fz (Sm.flag w l v).d))) := by
          unfold lwQ
          rw [sSet_fz hs]
          rfl
        rw [if_neg c]
        dsimp only
        rw [if_pos f]
        unfold lwS at e ⊢
        simp only [Sm.d] at e
        simp [c, f, Sm.d, atI, ixN, w_de, w_sk, hj, e]
      · unfold lwS
        simp [c, f, Sm.d, atI, ixN, w_de, w_sk, hj]
theorem lw_forL {A : D} {x : List Int} : ∀ (p : List Sm) (r : Rn) (l : Option SV), (∀ s ∈ p, s.In x.length) → r.names.length + p.length ≤ sizeLine →
    ∃ l', forL (gN 5) lwB (p.map Sm.d) (lwS A x r l) = some (.nx, lwS A x (p.foldl (Rn.step x) r) l')
  | [], r, l, _, _ => ⟨l, rfl⟩
  | s :: p, r, l, h, hz => by
    rw [List.length_cons] at hz
    have e := lw_step (A := A) (h s List.mem_cons_self) r (by omega) l
    have h2 := step_names x r s
    obtain ⟨l', e'⟩ := lw_forL (A := A) p (r.step x s) (some (.fz s.d)) (fun s' m => h s' (List.mem_cons_of_mem _ m)) (by omega)
    exact ⟨l', by rw [List.map_cons, foB_cons e, e']; rfl⟩
theorem law_run_of {x : List Int} {p : List Sm} (h : ∀ s ∈ p, s.In x.length) (hz : p.length ≤ sizeLine) : m__law_run [.tup (p.map Sm.d), tupI x] = some (.fz (runD (runP x p))) := by
  unfold m__law_run dfn
  show Option.bind (g__law_run [some (.fz (.tup (p.map Sm.d))), some (.fz (tupI x)), none, none, none, none]) fin = _
  unfold g__law_run
  obtain ⟨l', e⟩ := lw_forL (A := .tup (p.map Sm.d)) p r0 none h (by show 0 + _ ≤ _; omega)
  rw [sSeq_nx (ds1 := lwS (.tup (p.map Sm.d)) x r0 none) (by kernel_rfl)]
  rw [sSeq_nx (ds1 := lwS (.tup (p.map Sm.d)) x (runP x p) l')]
  · unfold lwS
    simp
    rfl
  · rw [sFor_ap, show iOfX (eVar 0) (lwS (.tup (p.map Sm.d)) x r0 none) = some (p.map Sm.d, lwS (.tup (p.map Sm.d)) x r0 none) by kernel_rfl]
    exact e
end DL.Law
/-! C4: a scan: the program's and the law's. -/
namespace DL.Law
open PySem PySem.Spec PyProof.Rows L2 DL
def cellS (k : Nat) : Str := cutS "abcdef" none (some (k : Int))
def lets (k : Nat) : List Str := (cellS k).cps.toList.map fun c => ⟨#[c]⟩
theorem gInS_lst (x : D) (l : List D) : gInS x (.lst l) = gInT x (.lst l) := by cases x <;> rfl
theorem gNotInS_lst (x : D) (l : List D) : gNotInS x (.lst l) = gNotInT x (.lst l) := by cases x <;> rfl
theorem mem_strs (n : Str) (xs : List Str) : decide (n ∈ xs) = true ↔ D.str n ∈ xs.map D.str := by
  rw [decide_eq_true_eq, List.mem_map]
  exact ⟨fun h => ⟨n, h, rfl⟩, fun ⟨m, h, e⟩ => by cases e; exact h⟩
theorem sp_strs (xs : List Str) : ∀ x ∈ xs.map D.str, Sp 1 x := fun x h => by
  obtain ⟨n, _, rfl⟩ := List.mem_map.mp h
  exact Sp.str n
theorem gInS_strs (n : Str) (xs : List Str) : gInS (.str n) (.lst (xs.map D.str)) = some (.fz (.bl (decide (n ∈ xs)))) := by
  rw [gInS_lst]
  exact (gIn_sp (Sp.str n) (sp_strs xs) (by decide) (mem_strs n xs)).1
theorem gNotInS_strs (n : Str) (xs : List Str) : gNotInS (.str n) (.lst (xs.map D.str)) = some (.fz (.bl (!decide (n ∈ xs)))) := by
  rw [gNotInS_lst]
  exact (gIn_sp (Sp.str n) (sp_strs xs) (by decide) (mem_strs n xs)).2
theorem one_sign {n : Str} (h : n.length = 1) : ∃ c, n = ⟨#[c]⟩ := by
  obtain ⟨⟨l⟩⟩ := n
  match l, h with
  | [c], _ => exact ⟨c, rfl⟩
  | [], h => simp [Str.length] at h
  | _ :: _ :: _, h => simp [Str.length] at h
theorem lets_one {k : Nat} {n : Str} (h : n ∈ lets k) : n.length = 1 := by
  obtain ⟨c, _, rfl⟩ := List.mem_map.mp h
  rfl
theorem gInS_sign {n : Str} (h : n.length = 1) (k : Nat) : gInS (.str n) (.str (cellS k)) = some (.fz (.bl (decide (n ∈ lets k)))) := by
  obtain ⟨c, rfl⟩ := one_sign h
  show some (R.fz (.bl (decide (c ∈ (cellS k).cps.toList)))) = _
  congr 4
  unfold lets
  simp
/-- what a scan leaves: the cells' state, the outputs -/
def stateOf (k : Nat) (nm : List Str) : List Int := (lets k).map fun c => if c ∈ nm then 1 else 0
def outsOf (k : Nat) (nm : List Str) : List Str := nm.filter fun n => !decide (n ∈ lets k)
def namesOf (p : List Sm) (s x : List Int) : List Str := (runP (x ++ s) p).names
def nextOf (k : Nat) (p : List Sm) (s x : List Int) : List Int := stateOf k (namesOf p s x)
def outOf (k : Nat) (p : List Sm) (s x : List Int) : List Str := outsOf k (namesOf p s x)
def scanD (k : Nat) (p : List Sm) (s x : List Int) : D := .tup [tupI (nextOf k p s x), .lst ((outOf k p s x).map D.str)]
def cD (sz : List Int) (k : Nat) (S : List Int) (p : List Sm) : D := .ins "Controller" [("sizes", tupI sz), ("cells", .int k), ("program", pD S p)]
/-- names that a program does -/
def Sm.Nm : Sm → Prop
  | .deed s => s.length ≤ 1000
  | _ => True
theorem names_step {x : List Int} {r : Rn} {s : Sm} (P : Str → Prop) (hs : ∀ n, s = .deed n → P n) (hr : ∀ n ∈ r.names, P n) : ∀ n ∈ (r.step x s).names, P n := by
  unfold Rn.step
  by_cases c : 0 < r.left
  · rw [if_pos c]; exact hr
  · rw [if_neg c]
    cases s with
    | deed s =>
      by_cases f : r.flag = true
      · dsimp only
        rw [if_pos f]
        intro n hn
        rcases List.mem_append.mp hn with q | q
        · exact hr n q
        · rw [List.mem_singleton.mp q]; exact hs s rfl
      · dsimp only; rw [if_neg f]; exact hr
    | skip n l v =>
      dsimp only
      by_cases f : at_ x l = v
      · rw [if_pos f]; exact hr
      · rw [if_neg f]; exact hr
    | flag w l v =>
      dsimp only
      by_cases f : at_ x l = v
      · rw [if_pos f]; exact hr
      · rw [if_neg f]; exact hr
theorem names_run {x : List Int} (P : Str → Prop) : ∀ (p : List Sm) (r : Rn), (∀ n, Sm.deed n ∈ p → P n) → (∀ n ∈ r.names, P n) → ∀ n ∈ (p.foldl (Rn.step x) r).names, P n
  | [], r, _, hr => hr
  | s :: p, r, hp, hr => names_run P p (r.step x s) (fun n h => hp n (List.mem_cons_of_mem _ h)) (names_step P (fun n e => hp n (e ▸ List.mem_cons_self)) hr)
/-- a program for n pins -/
structure Pg (n : Nat) (p : List Sm) : Prop where
  inl : ∀ s ∈ p, s.In n
  nm : ∀ s, Sm.deed s ∈ p → s.length ≤ 1000
  le : p.length ≤ 5000
theorem Pg.len {n : Nat} {p : List Sm} (h : Pg n p) {x : List Int} : (runP x p).names.length ≤ 5000 := by
  have := run_names x p r0
  have := h.le
  have : (runP x p).names.length ≤ r0.names.length + p.length := run_names x p r0
  have : r0.names.length = 0 := rfl
  omega
theorem Pg.nms {n : Nat} {p : List Sm} (h : Pg n p) {x : List Int} : ∀ s ∈ (runP x p).names, s.length ≤ 1000 := names_run (fun s => s.length ≤ 1000) p r0 h.nm (by intro n h; cases h)
theorem sz5 {n : Nat} (h : n ≤ 5000) : n ≤ sizeLine := Nat.le_trans h (by decide)
theorem gAdd_tupI {x s : List Int} (h : x.length + s.length ≤ sizeLine) : gAdd (tupI x) (tupI s) = some (.fz (tupI (x ++ s))) := by
  show (if (x.map D.int).length + (s.map D.int).length ≤ sizeLine then some (R.fz (.tup (x.map D.int ++ s.map D.int))) else none) = _
  rw [List.length_map, List.length_map, if_pos h, ← List.map_append]
  rfl
theorem k5 {P : Nat → Prop} (h0 : P 0) (h1 : P 1) (h2 : P 2) (h3 : P 3) (h4 : P 4) (h5 : P 5) {k : Nat} (h : k ≤ 5) : P k := by
  match k, h with
  | 0, _ => exact h0
  | 1, _ => exact h1
  | 2, _ => exact h2
  | 3, _ => exact h3
  | 4, _ => exact h4
  | 5, _ => exact h5
  | k + 6, h => omega
theorem lets_len {k : Nat} (h : k ≤ 5) : (lets k).length = k := k5 (P := fun k => (lets k).length = k) (by decide) (by decide) (by decide) (by decide) (by decide) (by decide) h
/-! ### the program's scan -/
theorem cells_str (k : Nat) (A B : D) (x : SV) (sz S : List Int) (p : List Sm) : sSet 4 (eSl (eC (.str "abcdef")) (oNone) (oSome (eFld "Controller" "cells" (eVar 0)))) [some (.fz (cD sz k S p)), some (.fz A), some (.fz B), some x, none, none, none, none]
    = some (.nx, [some (.fz (cD sz k S p)), some (.fz A), some (.fz B), some x, some (.fz (.str (cellS k))), none, none, none]) := by kernel_rfl
theorem gTuple_ints (l : List Int) : gTuple [.lst (l.map D.int)] = some (.fz (tupI l)) := rfl
theorem scan_of {sz : List Int} {k : Nat} {S : List Int} {p : List Sm} {s x : List Int} (hk : k ≤ 5) (hp : Pg (x.length + s.length) p) (hz : x.length + s.length ≤ 1000) :
    m_scan_of [cD sz k S p, tupI s, tupI x] = some (.fz (scanD k p s x)) := by
  unfold m_scan_of dfn
  show Option.bind (g_scan_of [some (.fz (cD sz k S p)), some (.fz (tupI s)), some (.fz (tupI x)), none, none, none, none, none]) fin = _
  unfold g_scan_of
  have hxl : (x ++ s).length = x.length + s.length := List.length_append
  have er := run_of (x := x ++ s) (S := S) (p := p) (by rw [hxl]; exact hp.inl) (sz5 hp.le)
  have ea := gAdd_tupI (x := x) (s := s) (Nat.le_trans hz (by decide))
  have hn5 := hp.len (x := x ++ s)
  have hnm := hp.nms (x := x ++ s)
  rw [sSeq_nx (ds1 := [some (.fz (cD sz k S p)), some (.fz (tupI s)), some (.fz (tupI x)), some (.fz (.lst ((namesOf p s x).map D.str))), none, none, none, none])]
  rotate_left
  · have e1 : eFld "Controller" "program" (eVar 0) [some (.fz (cD sz k S p)), some (.fz (tupI s)), some (.fz (tupI x)), none, none, none, none, none] = some (.fz (pD S p), [some (.fz (cD sz k S p)), some (.fz (tupI s)), some (.fz (tupI x)), none, none, none, none, none]) := by kernel_rfl
    have e2 : eFldF "Run" "names" (eCall m_run_of (aCons (eFld "Controller" "program" (eVar 0)) (aCons (eBin gAdd (eVar 2) (eVar 1)) (aNil)))) [some (.fz (cD sz k S p)), some (.fz (tupI s)), some (.fz (tupI x)), none, none, none, none, none] = some (.fz (.lst ((namesOf p s x).map D.str)), [some (.fz (cD sz k S p)), some (.fz (tupI s)), some (.fz (tupI x)), none, none, none, none, none]) := by
      have e3 : eCall m_run_of (aCons (eFld "Controller" "program" (eVar 0)) (aCons (eBin gAdd (eVar 2) (eVar 1)) (aNil))) [some (.fz (cD sz k S p)), some (.fz (tupI s)), some (.fz (tupI x)), none, none, none, none, none] = some (.own (runO (x ++ s) (runP (x ++ s) p)), [some (.fz (cD sz k S p)), some (.fz (tupI s)), some (.fz (tupI x)), none, none, none, none, none]) := by
        rw [eCall_ap, aCons_ap, e1, bind_some', aCons_ap]
        simp [ea, er]
      rw [eFldF_ap, e3]
      kernel_rfl
    rw [sSet_fz e2]
    rfl
  rw [sSeq_nx (cells_str k _ _ _ sz S p)]
  rw [sSeq_nx (ds1 := [some (.fz (cD sz k S p)), some (.fz (tupI s)), some (.fz (tupI x)), some (.fz (.lst ((namesOf p s x).map D.str))), some (.fz (.str (cellS k))), some (.fz (tupI (nextOf k p s x))), none, none])]
  rotate_left
  · have e := eLC_M (fi := iOfX (eVar 4)) (g := gN 6) (t := bYes) (f := eCB gInt (aCons (eBin gInS (eVar 6) (eVar 3)) (aNil))) (vs := [6]) (enc := D.str) (l := lets k) (fun c => D.int (if c ∈ namesOf p s x then 1 else 0))
      (ds := [some (.fz (cD sz k S p)), some (.fz (tupI s)), some (.fz (tupI x)), some (.fz (.lst ((namesOf p s x).map D.str))), some (.fz (.str (cellS k))), none, none, none])
      (ds1 := [some (.fz (cD sz k S p)), some (.fz (tupI s)), some (.fz (tupI x)), some (.fz (.lst ((namesOf p s x).map D.str))), some (.fz (.str (cellS k))), none, none, none])
      (by unfold lets; rw [List.map_map]; rfl) rfl (by rw [lets_len hk]; exact Nat.le_trans hk (by decide)) fun c _ => by
        simp [lcB, gInS_strs, gInt]
    simp [e]
    unfold nextOf stateOf tupI
    rw [List.map_map]
    rfl
  · have e := eLC_B (fi := iOfX (eVar 3)) (g := gN 7) (t := (bNot (bAnd (tOf (eBin gEqD (eCB gLenX (aCons (eVar 7) (aNil))) (eC (.int 1)))) (tOf (eBin gInS (eVar 7) (eVar 4)))))) (f := eVar 7) (vs := [7]) (enc := D.str) (l := namesOf p s x) (fun c => if c ∈ lets k then none else some (D.str c))
      (ds := [some (.fz (cD sz k S p)), some (.fz (tupI s)), some (.fz (tupI x)), some (.fz (.lst ((namesOf p s x).map D.str))), some (.fz (.str (cellS k))), some (.fz (tupI (nextOf k p s x))), none, none])
      (ds1 := [some (.fz (cD sz k S p)), some (.fz (tupI s)), some (.fz (tupI x)), some (.fz (.lst ((namesOf p s x).map D.str))), some (.fz (.str (cellS k))), some (.fz (tupI (nextOf k p s x))), none, none])
      rfl rfl (sz5 hn5) fun c hc => by
        have hl : c.length ≤ sizeLine := Nat.le_trans (hnm c hc) (by decide)
        have hlen : gLenX [.str c] = some (.fz (.int (c.length : Int))) := by
          show (if c.length ≤ sizeLine then _ else none) = _
          rw [if_pos hl]
        by_cases h1 : c.length = 1
        · by_cases h2 : c ∈ lets k
          · simp [lcB, hlen, h1, gInS_sign h1 k, h2]
          · simp [lcB, hlen, h1, gInS_sign h1 k, h2]
        · have h2 : c ∉ lets k := fun h => h1 (lets_one h)
          have h3 : ¬ (c.length : Int) = 1 := by omega
          simp [lcB, hlen, h1, h2, h3]
    have hf : (namesOf p s x).filterMap (fun c => if c ∈ lets k then none else some (D.str c)) = (outOf k p s x).map D.str := by
      unfold outOf outsOf
      generalize namesOf p s x = l
      induction l with
      | nil => rfl
      | cons a l ih =>
        rw [List.filterMap_cons, List.filter_cons]
        by_cases h : a ∈ lets k
        · simp only [h, if_true, decide_true, Bool.not_true, Bool.false_eq_true, if_false]
          exact ih
        · simp only [h, if_false, decide_false, Bool.not_false, if_true, List.map_cons]
          rw [ih]
    rw [hf] at e
    simp [e]
    rfl
end DL.Law
/-! C5: the law's scan. -/
namespace DL.Law
open PySem PySem.Spec PyProof.Rows L2 DL
def cT (sz : List Int) (k : Nat) (p : List Sm) : D := .tup [tupI sz, .int k, .tup (p.map Sm.d)]
theorem law_cells (a b c e f g h : Option SV) {k : Nat} (hk : k ≤ 5) : sSet 7 (eSl (eLst (aCons (eC (.str "a")) (aCons (eC (.str "b")) (aCons (eC (.str "c")) (aCons (eC (.str "d")) (aCons (eC (.str "e")) (aNil))))))) (oNone) (oSome (eVar 4))) [a, b, c, e, some (.fz (.int (k : Nat))), f, g, none, none, none]
    = some (.nx, [a, b, c, e, some (.fz (.int (k : Nat))), f, g, some (.own (.lst ((lets k).map D.str))), none, none]) := by
  refine k5 (P := fun k => sSet 7 (eSl (eLst (aCons (eC (.str "a")) (aCons (eC (.str "b")) (aCons (eC (.str "c")) (aCons (eC (.str "d")) (aCons (eC (.str "e")) (aNil))))))) (oNone) (oSome (eVar 4))) [a, b, c, e, some (.fz (.int (k : Nat))), f, g, none, none, none]
    = some (.nx, [a, b, c, e, some (.fz (.int (k : Nat))), f, g, some (.own (.lst ((lets k).map D.str))), none, none])) ?_ ?_ ?_ ?_ ?_ ?_ hk
  · kernel_rfl
  · kernel_rfl
  · kernel_rfl
  · kernel_rfl
  · kernel_rfl
  · kernel_rfl
theorem law_scan_of {sz : List Int} {k : Nat} {p : List Sm} {s x : List Int} (hk : k ≤ 5) (hp : Pg (x.length + s.length) p) (hz : x.length + s.length ≤ 1000) :
    m__law_scan [cT sz k p, tupI s, tupI x] = some (.fz (scanD k p s x)) := by
  unfold m__law_scan dfn
  show Option.bind (g__law_scan [some (.fz (cT sz k p)), some (.fz (tupI s)), some (.fz (tupI x)), none, none, none, none, none, none, none]) fin = _
  unfold g__law_scan
  have hxl : (x ++ s).length = x.length + s.length := List.length_append
  have er := law_run_of (x := x ++ s) (p := p) (by rw [hxl]; exact hp.inl) (sz5 hp.le)
  have ea := gAdd_tupI (x := x) (s := s) (Nat.le_trans hz (by decide))
  have hn5 := hp.len (x := x ++ s)
  rw [sSeq_nx (ds1 := [some (.fz (cT sz k p)), some (.fz (tupI s)), some (.fz (tupI x)), some (.fz (tupI sz)), some (.fz (.int k)), some (.fz (.tup (p.map Sm.d))), none, none, none, none]) (by kernel_rfl)]
  rw [sSeq_nx (ds1 := [some (.fz (cT sz k p)), some (.fz (tupI s)), some (.fz (tupI x)), some (.fz (tupI sz)), some (.fz (.int k)), some (.fz (.tup (p.map Sm.d))), some (.fz (.lst ((namesOf p s x).map D.str))), none, none, none]) (by
    simp [ea, er, runD, atI, ixN]
    rfl)]
  rw [sSeq_nx (law_cells _ _ _ _ _ _ none hk)]
  have e1 := eLC_M (fi := iOfX (eVar 7)) (g := gN 8) (t := bYes) (f := eCB gInt (aCons (eBin gInS (eVar 8) (eVar 6)) (aNil))) (vs := [8]) (enc := D.str) (l := lets k) (fun c => D.int (if c ∈ namesOf p s x then 1 else 0))
      (ds := [some (.fz (cT sz k p)), some (.fz (tupI s)), some (.fz (tupI x)), some (.fz (tupI sz)), some (.fz (.int k)), some (.fz (.tup (p.map Sm.d))), some (.fz (.lst ((namesOf p s x).map D.str))), some (.own (.lst ((lets k).map D.str))), none, none])
      (ds1 := [some (.fz (cT sz k p)), some (.fz (tupI s)), some (.fz (tupI x)), some (.fz (tupI sz)), some (.fz (.int k)), some (.fz (.tup (p.map Sm.d))), some (.fz (.lst ((namesOf p s x).map D.str))), some (.fz (.lst ((lets k).map D.str))), none, none])
      rfl rfl (by rw [lets_len hk]; exact Nat.le_trans hk (by decide)) fun c _ => by
        simp [lcB, gInS_strs, gInt]
  have e2 := eLC_B (fi := iOfX (eVar 6)) (g := gN 9) (t := (tOf (eBin gNotInS (eVar 9) (eVar 7)))) (f := eVar 9) (vs := [9]) (enc := D.str) (l := namesOf p s x) (fun c => if c ∈ lets k then none else some (D.str c))
      (ds := [some (.fz (cT sz k p)), some (.fz (tupI s)), some (.fz (tupI x)), some (.fz (tupI sz)), some (.fz (.int k)), some (.fz (.tup (p.map Sm.d))), some (.fz (.lst ((namesOf p s x).map D.str))), some (.fz (.lst ((lets k).map D.str))), none, none])
      (ds1 := [some (.fz (cT sz k p)), some (.fz (tupI s)), some (.fz (tupI x)), some (.fz (tupI sz)), some (.fz (.int k)), some (.fz (.tup (p.map Sm.d))), some (.fz (.lst ((namesOf p s x).map D.str))), some (.fz (.lst ((lets k).map D.str))), none, none])
      rfl rfl (sz5 hn5) fun c hc => by
        by_cases h2 : c ∈ lets k
        · simp [lcB, gNotInS_strs, h2]
        · simp [lcB, gNotInS_strs, h2]
  have hf : (namesOf p s x).filterMap (fun c => if c ∈ lets k then none else some (D.str c)) = (outOf k p s x).map D.str := by
    unfold outOf outsOf
    generalize namesOf p s x = l
    induction l with
    | nil => rfl
    | cons a l ih =>
      rw [List.filterMap_cons, List.filter_cons]
      by_cases h : a ∈ lets k
      · simp only [h, if_true, decide_true, Bool.not_true, Bool.false_eq_true, if_false]
        exact ih
      · simp only [h, if_false, decide_false, Bool.not_false, if_true, List.map_cons]
        rw [ih]
  have hm : (lets k).map (fun c => D.int (if c ∈ namesOf p s x then 1 else 0)) = (nextOf k p s x).map D.int := by
    unfold nextOf stateOf
    rw [List.map_map]
    rfl
  rw [hf] at e2
  rw [hm] at e1
  simp [e1, e2]
  rfl
end DL.Law
/-! C6: all contents. -/
namespace DL.Law
open PySem PySem.Spec PyProof.Rows L2 DL
def exT (n : Int) (h : List Int) : List (List Int) := (List.range n.toNat).map fun (v : Nat) => h ++ [(v : Int)]
def prodS (acc : List (List Int)) (n : Int) : List (List Int) := acc.flatMap (exT n)
def prodL (sz : List Int) : List (List Int) := sz.foldl prodS [[]]
structure Szs (sz : List Int) : Prop where
  rng : ∀ n ∈ sz, 2 ≤ n ∧ n ≤ 4
  le : sz.length ≤ 6
theorem exT_len (n : Int) (h : List Int) : (exT n h).length = n.toNat := by unfold exT; rw [List.length_map, List.length_range]
theorem prodS_len (n : Int) : ∀ acc : List (List Int), (prodS acc n).length = acc.length * n.toNat
  | [] => by unfold prodS; simp
  | h :: acc => by
    have := prodS_len n acc
    unfold prodS at this ⊢
    rw [List.flatMap_cons, List.length_append, exT_len, this, List.length_cons, Nat.add_mul, Nat.one_mul, Nat.add_comm]
theorem prod_len : ∀ (sz : List Int) (acc : List (List Int)), (∀ n ∈ sz, 2 ≤ n ∧ n ≤ 4) → (sz.foldl prodS acc).length ≤ acc.length * 4 ^ sz.length
  | [], acc, _ => by simp
  | n :: sz, acc, h => by
    have h1 := prod_len sz (prodS acc n) fun m hm => h m (List.mem_cons_of_mem _ hm)
    have h2 := h n List.mem_cons_self
    rw [prodS_len] at h1
    rw [List.foldl_cons, List.length_cons, Nat.pow_succ]
    refine Nat.le_trans h1 ?_
    rw [Nat.mul_assoc]
    refine Nat.mul_le_mul_left _ ?_
    rw [Nat.mul_comm]
    exact Nat.mul_le_mul_left _ (by omega)
theorem sz4 {n : Nat} (h : n ≤ 4096) : n ≤ sizeLine := Nat.le_trans h (by decide)
theorem gExtend_ok {l m : List D} (h : l.length + m.length ≤ sizeLine) : gExtend l [.lst m] = some (.non, l ++ m) := by
  unfold gExtend
  dsimp only
  first | rw [if_pos h] | rw [if_pos (by omega)]
theorem rng_map (n : Int) : rng 0 n.toNat = (List.range n.toNat).map fun (i : Nat) => D.int (i : Int) := rng0 _
theorem ex_lc (A : D) (b : Option SV) (n : Int) (hn : 2 ≤ n ∧ n ≤ 4) (h : List Int) (hh : h.length ≤ 100) (c : Option SV) : eLC (iR1 (aCons (eVar 2) (aNil))) (gN 5) (bYes) (eBin gAdd (eVar 4) (eTup (aCons (eVar 5) (aNil)))) [5] [some (.fz A), b, some (.fz (.int n)), c, some (.fz (tupI h)), none]
    = some (.own (.lst ((exT n h).map tupI)), [some (.fz A), b, some (.fz (.int n)), c, some (.fz (tupI h)), none]) := by
  have hs : small n = true := by
    unfold small
    rw [Bool.and_eq_true, decide_eq_true_eq, decide_eq_true_eq]
    omega
  have e := eLC_M (fi := iR1 (aCons (eVar 2) (aNil))) (g := gN 5) (t := bYes) (f := eBin gAdd (eVar 4) (eTup (aCons (eVar 5) (aNil)))) (vs := [5]) (enc := fun (i : Nat) => D.int (i : Int)) (l := List.range n.toNat) (fun i => tupI (h ++ [(i : Int)]))
    (ds := [some (.fz A), b, some (.fz (.int n)), c, some (.fz (tupI h)), none]) (ds1 := [some (.fz A), b, some (.fz (.int n)), c, some (.fz (tupI h)), none]) (by simp [hs, rng0]) rfl (by rw [List.length_range]; exact sz4 (by omega)) fun i _ => by
      have ha := gAdd_tupI (x := h) (s := [(i : Int)]) (sz4 (by simp; omega))
      have ht : tupI [(i : Int)] = .tup [.int (i : Int)] := rfl
      rw [ht] at ha
      simp [lcB, ha, sizeLine]
  rw [e]
  unfold exT
  rw [List.map_map]
  rfl
theorem ext_turn (A : D) (b : Option SV) (n : Int) (hn : 2 ≤ n ∧ n ≤ 4) (h : List Int) (hh : h.length ≤ 100) (acc : List (List Int)) (ha : acc.length + 4 ≤ sizeLine) (l : Option SV) :
    foB (gN 4) (sSeq (sExpr (eLM gExtend (eVar 3) (aCons (eLC (iR1 (aCons (eVar 2) (aNil))) (gN 5) (bYes) (eBin gAdd (eVar 4) (eTup (aCons (eVar 5) (aNil)))) [5]) (aNil)))) sNil) (tupI h) [some (.fz A), b, some (.fz (.int n)), some (.own (.lst (acc.map tupI))), l, none]
      = some (.nx, [some (.fz A), b, some (.fz (.int n)), some (.own (.lst ((acc ++ exT n h).map tupI))), some (.fz (tupI h)), none]) := by
  have e := ex_lc A b n hn h hh (some (.own (.lst (acc.map tupI))))
  have ex : gExtend (acc.map tupI) [.lst ((exT n h).map tupI)] = some (.non, (acc ++ exT n h).map tupI) := by
    rw [List.map_append]
    exact gExtend_ok (by rw [List.length_map, List.length_map, exT_len]; omega)
  simp [foB, e, ex]
theorem ext_loop (A : D) (b : Option SV) (n : Int) (hn : 2 ≤ n ∧ n ≤ 4) : ∀ (rows acc : List (List Int)) (l : Option SV), (∀ h ∈ rows, h.length ≤ 100) → acc.length + rows.length * 4 ≤ sizeLine →
    ∃ l', forL (gN 4) (sSeq (sExpr (eLM gExtend (eVar 3) (aCons (eLC (iR1 (aCons (eVar 2) (aNil))) (gN 5) (bYes) (eBin gAdd (eVar 4) (eTup (aCons (eVar 5) (aNil)))) [5]) (aNil)))) sNil) (rows.map tupI) [some (.fz A), b, some (.fz (.int n)), some (.own (.lst (acc.map tupI))), l, none]
      = some (.nx, [some (.fz A), b, some (.fz (.int n)), some (.own (.lst ((acc ++ prodS rows n).map tupI))), l', none])
  | [], acc, l, _, _ => ⟨l, by unfold prodS; rw [List.flatMap_nil, List.append_nil]; rfl⟩
  | h :: rows, acc, l, hh, hz => by
    rw [List.length_cons] at hz
    obtain ⟨l', e⟩ := ext_loop A b n hn rows (acc ++ exT n h) (some (.fz (tupI h))) (fun x m => hh x (List.mem_cons_of_mem _ m)) (by rw [List.length_append, exT_len]; omega)
    refine ⟨l', ?_⟩
    rw [List.map_cons, foB_cons (ext_turn A b n hn h (hh h List.mem_cons_self) acc (by omega) l), e]
    unfold prodS
    rw [List.flatMap_cons, List.append_assoc]
/-- a slot that shows this -/
def Sh (d : D) (s : Option SV) : Prop := s = some (.fz d) ∨ ∃ o, s = some (.own o) ∧ o.d = d
theorem prodS_mem {n : Int} {rows : List (List Int)} {h : List Int} (m : h ∈ prodS rows n) : ∃ g ∈ rows, ∃ v : Nat, v < n.toNat ∧ h = g ++ [(v : Int)] := by
  obtain ⟨g, hg, m⟩ := List.mem_flatMap.mp m
  obtain ⟨v, hv, e⟩ := List.mem_map.mp m
  exact ⟨g, hg, v, List.mem_range.mp hv, e.symm⟩
theorem contents_turn (A : D) (n : Int) (hn : 2 ≤ n ∧ n ≤ 4) (rows : List (List Int)) (hr : ∀ h ∈ rows, h.length ≤ 100) (hz : rows.length ≤ 4096) {s1 : Option SV} (h1 : Sh (.lst (rows.map tupI)) s1) (x2 x3 x4 : Option SV) :
    ∃ y2 y3 y4, foB (gN 2) (sSeq (sSet 3 (eLst (aNil))) (sSeq (sFor (iOfX (eVar 1)) (gN 4) (sSeq (sExpr (eLM gExtend (eVar 3) (aCons (eLC (iR1 (aCons (eVar 2) (aNil))) (gN 5) (bYes) (eBin gAdd (eVar 4) (eTup (aCons (eVar 5) (aNil)))) [5]) (aNil)))) sNil)) (sSeq (sSet 1 (eVar 3)) sNil))) (.int n) [some (.fz A), s1, x2, x3, x4, none]
      = some (.nx, [some (.fz A), some (.fz (.lst ((prodS rows n).map tupI))), y2, y3, y4, none]) := by
  obtain ⟨l', e⟩ := ext_loop A (some (.fz (.lst (rows.map tupI)))) n hn rows [] x4 hr (by
    have : rows.length * 4 ≤ 16384 := by omega
    show 0 + _ ≤ _
    rw [Nat.zero_add]
    exact Nat.le_trans this (by decide))
  refine ⟨some (.fz (.int n)), some (.fz (.lst ((prodS rows n).map tupI))), l', ?_⟩
  unfold foB
  show Option.bind (some [some (.fz A), s1, some (.fz (.int n)), x3, x4, none]) _ = _
  rw [bind_some', sSeq_nx (ds1 := [some (.fz A), s1, some (.fz (.int n)), some (.own (.lst [])), x4, none]) (by simp)]
  rw [sSeq_nx (ds1 := [some (.fz A), some (.fz (.lst (rows.map tupI))), some (.fz (.int n)), some (.own (.lst ((prodS rows n).map tupI))), l', none])]
  · simp
  · have ei : iOfX (eVar 1) [some (.fz A), s1, some (.fz (.int n)), some (.own (.lst [])), x4, none] = some (rows.map tupI, [some (.fz A), some (.fz (.lst (rows.map tupI))), some (.fz (.int n)), some (.own (.lst [])), x4, none]) := by
      rcases h1 with rfl | ⟨o, rfl, ho⟩
      · simp; rfl
      · simp [ho]; rfl
    rw [sFor_ap, ei]
    exact e
theorem contents_loop (A : D) : ∀ (sz : List Int) (rows : List (List Int)) (k : Nat) {s1 : Option SV}, (∀ n ∈ sz, 2 ≤ n ∧ n ≤ 4) → (∀ h ∈ rows, h.length ≤ k) → k + sz.length ≤ 100 → rows.length * 4 ^ sz.length ≤ 4096 → Sh (.lst (rows.map tupI)) s1 → ∀ (x2 x3 x4 : Option SV),
    ∃ s' y2 y3 y4, Sh (.lst ((sz.foldl prodS rows).map tupI)) s' ∧ forL (gN 2) (sSeq (sSet 3 (eLst (aNil))) (sSeq (sFor (iOfX (eVar 1)) (gN 4) (sSeq (sExpr (eLM gExtend (eVar 3) (aCons (eLC (iR1 (aCons (eVar 2) (aNil))) (gN 5) (bYes) (eBin gAdd (eVar 4) (eTup (aCons (eVar 5) (aNil)))) [5]) (aNil)))) sNil)) (sSeq (sSet 1 (eVar 3)) sNil))) (sz.map D.int) [some (.fz A), s1, x2, x3, x4, none]
      = some (.nx, [some (.fz A), s', y2, y3, y4, none])
  | [], rows, k, s1, _, _, _, _, h1, x2, x3, x4 => ⟨s1, x2, x3, x4, h1, rfl⟩
  | n :: sz, rows, k, s1, hs, hr, hk, hz, h1, x2, x3, x4 => by
    rw [List.length_cons] at hk hz
    have hn := hs n List.mem_cons_self
    have hp : 1 ≤ 4 ^ sz.length := Nat.one_le_pow _ _ (by decide)
    obtain ⟨y2, y3, y4, e⟩ := contents_turn A n hn rows (fun h m => by have := hr h m; omega) (by
      have : rows.length * 1 ≤ rows.length * 4 ^ (sz.length + 1) := Nat.mul_le_mul_left _ (Nat.one_le_pow _ _ (by decide))
      omega) h1 x2 x3 x4
    obtain ⟨s', z2, z3, z4, h2, e2⟩ := contents_loop A sz (prodS rows n) (k + 1) (fun m hm => hs m (List.mem_cons_of_mem _ hm)) (fun h m => by
      obtain ⟨g, hg, v, _, rfl⟩ := prodS_mem m
      have := hr g hg
      rw [List.length_append, List.length_singleton]
      omega) (by omega) (by
        rw [prodS_len]
        refine Nat.le_trans ?_ hz
        rw [Nat.pow_succ, Nat.mul_assoc, Nat.mul_comm (4 ^ sz.length) 4]
        exact Nat.mul_le_mul_left _ (Nat.mul_le_mul_right _ (by omega))) (.inl rfl) y2 y3 y4
    exact ⟨s', z2, z3, z4, h2, by rw [List.map_cons, foB_cons e, e2]⟩
theorem pow4 {n : Nat} (h : n ≤ 6) : 4 ^ n ≤ 4096 := by
  have := Nat.pow_le_pow_right (n := 4) (by decide) h
  exact this
theorem law_contents_of {sz : List Int} (h : Szs sz) : ∃ o : Ob, m__law_contents [tupI sz] = some (.fz (.lst ((prodL sz).map tupI))) ∨ m__law_contents [tupI sz] = some (.own (.lst ((prodL sz).map tupI))) := by
  unfold m__law_contents dfn
  show ∃ o : Ob, Option.bind (g__law_contents [some (.fz (tupI sz)), none, none, none, none, none]) fin = _ ∨ Option.bind (g__law_contents [some (.fz (tupI sz)), none, none, none, none, none]) fin = _
  unfold g__law_contents
  rw [sSeq_nx (ds1 := [some (.fz (tupI sz)), some (.own (.lst [tupI []])), none, none, none, none]) (by kernel_rfl)]
  obtain ⟨s', y2, y3, y4, h2, e⟩ := contents_loop (tupI sz) sz [[]] 0 (s1 := some (.own (.lst [tupI []]))) h.rng (by simp) (by have := h.le; omega) (by
    have := pow4 h.le
    show 1 * _ ≤ _
    omega) (.inr ⟨_, rfl, rfl⟩) none none none
  rw [sSeq_nx (ds1 := [some (.fz (tupI sz)), s', y2, y3, y4, none]) (by
    rw [sFor_ap, show iOfX (eVar 0) [some (.fz (tupI sz)), some (.own (.lst [tupI []])), none, none, none, none] = some (sz.map D.int, [some (.fz (tupI sz)), some (.own (.lst [tupI []])), none, none, none, none]) by kernel_rfl]
    exact e)]
  rcases h2 with rfl | ⟨o, rfl, ho⟩
  · refine ⟨.lst [], .inl ?_⟩
    simp
    rfl
  · refine ⟨.lst [], .inr ?_⟩
    cases o with
    | lst l => 
      cases ho
      simp
      rfl
    | _ => cases ho
end DL.Law
/-! C7: all contents, the program's. -/
namespace DL.Law
open PySem PySem.Spec PyProof.Rows L2 DL
theorem ex2_loop (A B : D) (n : Int) (hn : 2 ≤ n ∧ n ≤ 4) : ∀ (rows acc : List (List Int)), (∀ h ∈ rows, h.length ≤ 100) → acc.length + rows.length * 4 ≤ sizeLine →
    lc2L (gN 3) (bYes) (iR1 (aCons (eVar 2) (aNil))) (gN 4) (bYes) (eBin gAdd (eVar 3) (eTup (aCons (eVar 4) (aNil)))) [3, 4] [4] (rows.map tupI) (acc.map tupI) [some (.fz A), some (.fz B), some (.fz (.int n)), none, none]
      = some ((acc ++ prodS rows n).map tupI, [some (.fz A), some (.fz B), some (.fz (.int n)), none, none])
  | [], acc, _, _ => by unfold prodS; rw [List.flatMap_nil, List.append_nil]; rfl
  | h :: rows, acc, hh, hz => by
    rw [List.length_cons] at hz
    have hs : small n = true := by
      unfold small
      rw [Bool.and_eq_true, decide_eq_true_eq, decide_eq_true_eq]
      omega
    have ih := ex2_loop A B n hn rows (acc ++ exT n h) (fun x m => hh x (List.mem_cons_of_mem _ m)) (by rw [List.length_append, exT_len]; omega)
    have e := lcL_B (g := gN 4) (t := bYes) (f := eBin gAdd (eVar 3) (eTup (aCons (eVar 4) (aNil)))) (vs := [4]) (enc := fun (i : Nat) => D.int (i : Int)) (fun i => some (tupI (h ++ [(i : Int)]))) (w := [some (.fz A), some (.fz B), some (.fz (.int n)), some (.fz (tupI h)), none]) (List.range n.toNat) (acc.map tupI)
      (by rw [List.length_map, List.length_range]; omega) fun i _ => by
        have ha := gAdd_tupI (x := h) (s := [(i : Int)]) (sz4 (by have := hh h List.mem_cons_self; simp; omega))
        have ht : tupI [(i : Int)] = .tup [.int (i : Int)] := rfl
        rw [ht] at ha
        simp [lcB, ha, sizeLine]
    rw [List.filterMap_eq_map', ← rng0] at e
    rw [List.map_cons, lc2L]
    show Option.bind (some _) _ = _
    rw [bind_some']
    show Option.bind (some (true, _)) _ = _
    rw [bind_some']
    show Option.bind (iR1 (aCons (eVar 2) (aNil)) [some (.fz A), some (.fz B), some (.fz (.int n)), some (.fz (tupI h)), none]) _ = _
    rw [show iR1 (aCons (eVar 2) (aNil)) [some (.fz A), some (.fz B), some (.fz (.int n)), some (.fz (tupI h)), none] = some (rng 0 n.toNat, [some (.fz A), some (.fz B), some (.fz (.int n)), some (.fz (tupI h)), none]) by simp [hs], bind_some']
    show Option.bind (lcL (gN 4) bYes (eBin gAdd (eVar 3) (eTup (aCons (eVar 4) (aNil)))) [4] (rng 0 n.toNat) (acc.map tupI) [some (.fz A), some (.fz B), some (.fz (.int n)), some (.fz (tupI h)), none]) _ = _
    rw [e, bind_some']
    show lc2L _ _ _ _ _ _ _ _ _ _ [some (.fz A), some (.fz B), some (.fz (.int n)), none, none] = _
    have hm : acc.map tupI ++ (List.range n.toNat).map (fun (i : Nat) => tupI (h ++ [(i : Int)])) = (acc ++ exT n h).map tupI := by
      unfold exT
      rw [List.map_append, List.map_map]
      rfl
    dsimp only
    rw [hm, ih]
    unfold prodS
    rw [List.flatMap_cons, List.append_assoc]
theorem tuples_turn (A : D) (n : Int) (hn : 2 ≤ n ∧ n ≤ 4) (rows : List (List Int)) (hr : ∀ h ∈ rows, h.length ≤ 100) (hz : rows.length ≤ 4096) (x2 : Option SV) :
    foB (gN 2) (sSeq (sSet 1 (eLC2 (iOfX (eVar 1)) (gN 3) (bYes) (iR1 (aCons (eVar 2) (aNil))) (gN 4) (bYes) (eBin gAdd (eVar 3) (eTup (aCons (eVar 4) (aNil)))) [3, 4] [4])) sNil) (.int n) [some (.fz A), some (.own (.lst (rows.map tupI))), x2, none, none]
      = some (.nx, [some (.fz A), some (.own (.lst ((prodS rows n).map tupI))), some (.fz (.int n)), none, none]) := by
  have e := ex2_loop A (.lst (rows.map tupI)) n hn rows [] hr (by
    have : rows.length * 4 ≤ 16384 := by omega
    show 0 + _ ≤ _
    rw [Nat.zero_add]
    exact Nat.le_trans this (by decide))
  have e2 : eLC2 (iOfX (eVar 1)) (gN 3) (bYes) (iR1 (aCons (eVar 2) (aNil))) (gN 4) (bYes) (eBin gAdd (eVar 3) (eTup (aCons (eVar 4) (aNil)))) [3, 4] [4] [some (.fz A), some (.own (.lst (rows.map tupI))), some (.fz (.int n)), none, none]
      = some (.own (.lst ((prodS rows n).map tupI)), [some (.fz A), some (.fz (.lst (rows.map tupI))), some (.fz (.int n)), none, none]) := by
    unfold eLC2
    rw [show iOfX (eVar 1) [some (.fz A), some (.own (.lst (rows.map tupI))), some (.fz (.int n)), none, none] = some (rows.map tupI, [some (.fz A), some (.fz (.lst (rows.map tupI))), some (.fz (.int n)), none, none]) by simp; rfl, bind_some']
    show Option.bind (lc2L _ _ _ _ _ _ _ _ _ [] [some (.fz A), some (.fz (.lst (rows.map tupI))), some (.fz (.int n)), none, none]) _ = _
    rw [show ([] : List D) = ([] : List (List Int)).map tupI from rfl, e, bind_some']
    rfl
  unfold foB
  show Option.bind (some ([some (.fz A), some (.own (.lst (rows.map tupI))), some (.fz (.int n)), none, none] : DS)) _ = _
  rw [bind_some', sSeq_nx (sSet_own e2)]
  rfl
theorem tuples_loop (A : D) : ∀ (sz : List Int) (rows : List (List Int)) (k : Nat), (∀ n ∈ sz, 2 ≤ n ∧ n ≤ 4) → (∀ h ∈ rows, h.length ≤ k) → k + sz.length ≤ 100 → rows.length * 4 ^ sz.length ≤ 4096 → ∀ (x2 : Option SV),
    ∃ y2, forL (gN 2) (sSeq (sSet 1 (eLC2 (iOfX (eVar 1)) (gN 3) (bYes) (iR1 (aCons (eVar 2) (aNil))) (gN 4) (bYes) (eBin gAdd (eVar 3) (eTup (aCons (eVar 4) (aNil)))) [3, 4] [4])) sNil) (sz.map D.int) [some (.fz A), some (.own (.lst (rows.map tupI))), x2, none, none]
      = some (.nx, [some (.fz A), some (.own (.lst ((sz.foldl prodS rows).map tupI))), y2, none, none])
  | [], rows, k, _, _, _, _, x2 => ⟨x2, rfl⟩
  | n :: sz, rows, k, hs, hr, hk, hz, x2 => by
    rw [List.length_cons] at hk hz
    have hn := hs n List.mem_cons_self
    have e := tuples_turn A n hn rows (fun h m => by have := hr h m; omega) (by
      have : rows.length * 1 ≤ rows.length * 4 ^ (sz.length + 1) := Nat.mul_le_mul_left _ (Nat.one_le_pow _ _ (by decide))
      omega) x2
    obtain ⟨y2, e2⟩ := tuples_loop A sz (prodS rows n) (k + 1) (fun m hm => hs m (List.mem_cons_of_mem _ hm)) (fun h m => by
      obtain ⟨g, hg, v, _, rfl⟩ := prodS_mem m
      have := hr g hg
      rw [List.length_append, List.length_singleton]
      omega) (by omega) (by
        rw [prodS_len]
        refine Nat.le_trans ?_ hz
        rw [Nat.pow_succ, Nat.mul_assoc, Nat.mul_comm (4 ^ sz.length) 4]
        exact Nat.mul_le_mul_left _ (Nat.mul_le_mul_right _ (by omega))) (some (.fz (.int n)))
    exact ⟨y2, by rw [List.map_cons, foB_cons e, e2]; rfl⟩
theorem tuples_of {sz : List Int} (h : Szs sz) : m_tuples_of [tupI sz] = some (.own (.lst ((prodL sz).map tupI))) := by
  unfold m_tuples_of dfn
  show Option.bind (g_tuples_of [some (.fz (tupI sz)), none, none, none, none]) fin = _
  unfold g_tuples_of
  rw [sSeq_nx (ds1 := [some (.fz (tupI sz)), some (.own (.lst [tupI []])), none, none, none]) (by kernel_rfl)]
  obtain ⟨y2, e⟩ := tuples_loop (tupI sz) sz [[]] 0 h.rng (by simp) (by have := h.le; omega) (by
    have := pow4 h.le
    show 1 * _ ≤ _
    omega) none
  rw [sSeq_nx (ds1 := [some (.fz (tupI sz)), some (.own (.lst ((prodL sz).map tupI))), y2, none, none]) (by
    rw [sFor_ap, show iOfX (eVar 0) [some (.fz (tupI sz)), some (.own (.lst [tupI []])), none, none, none] = some (sz.map D.int, [some (.fz (tupI sz)), some (.own (.lst [tupI []])), none, none, none]) by kernel_rfl]
    exact e)]
  simp
  rfl
end DL.Law
/-! C8: contents, states: those that are let. -/
namespace DL.Law
open PySem PySem.Spec PyProof.Rows L2 DL
inductive InC : List Int → List Int → Prop
  | nil : InC [] []
  | cons {n v : Int} {sz x : List Int} : 0 ≤ v → v < n → InC sz x → InC (n :: sz) (v :: x)
theorem InC.len {sz x : List Int} (h : InC sz x) : x.length = sz.length := by
  induction h with
  | nil => rfl
  | cons _ _ _ ih => rw [List.length_cons, List.length_cons, ih]
theorem InC.snoc {sz x : List Int} {n v : Int} (h : InC sz x) (h0 : 0 ≤ v) (h1 : v < n) : InC (sz ++ [n]) (x ++ [v]) := by
  induction h with
  | nil => exact .cons h0 h1 .nil
  | cons a b _ ih => exact .cons a b ih
theorem InC.app {sz x sz' x' : List Int} (h : InC sz x) (h' : InC sz' x') : InC (sz ++ sz') (x ++ x') := by
  induction h with
  | nil => exact h'
  | cons a b _ ih => exact .cons a b ih
theorem prod_inC' : ∀ (sz ps : List Int) (rows : List (List Int)), (∀ h ∈ rows, InC ps h) → ∀ x ∈ sz.foldl prodS rows, InC (ps ++ sz) x
  | [], ps, rows, h, x, hx => by rw [List.append_nil]; exact h x hx
  | n :: sz, ps, rows, h, x, hx => by
    have := prod_inC' sz (ps ++ [n]) (prodS rows n) (fun y hy => by
      obtain ⟨g, hg, v, hv, rfl⟩ := prodS_mem hy
      exact (h g hg).snoc (by omega) (by omega)) x hx
    rw [List.append_assoc] at this
    exact this
theorem prod_inC {sz x : List Int} (h : x ∈ prodL sz) : InC sz x := by
  have := prod_inC' sz [] [[]] (fun h m => by rw [List.mem_singleton.mp m]; exact .nil) x h
  exact this
theorem within_of (i a b : Int) : m_is_within [.int i, .int a, .int b] = some (.fz (.bl (decide (a ≤ i) && decide (i ≤ b)))) := by
  unfold m_is_within dfn
  show Option.bind (g_is_within [some (.fz (.int i)), some (.fz (.int a)), some (.fz (.int b))]) fin = _
  have h1 : m_is_integer [.int i] = some (.fz (.bl true)) := by kernel_rfl
  unfold g_is_within
  simp [h1]
  by_cases c : a ≤ i
  · by_cases d : i ≤ b
    · simp [c, d]; rfl
    · simp [c, d]; rfl
  · simp [c]; rfl
theorem zipD_ints : ∀ (l m : List Int), zipD (l.map D.int) (m.map D.int) = (l.zip m).map fun p => .tup [.int p.1, .int p.2]
  | [], _ => rfl
  | _ :: _, [] => rfl
  | a :: l, b :: m => by
    have := zipD_ints l m
    rw [List.map_cons, List.map_cons, List.zip_cons_cons, List.map_cons, ← this]
    rfl
theorem InC.zip {sz x : List Int} (h : InC sz x) : ∀ p ∈ sz.zip x, 0 ≤ p.2 ∧ p.2 ≤ p.1 - 1 := by
  induction h with
  | nil => intro p hp; cases hp
  | cons a b _ ih =>
    intro p hp
    rw [List.zip_cons_cons] at hp
    rcases List.mem_cons.mp hp with rfl | hp
    · exact ⟨a, by show _ ≤ _ - 1; omega⟩
    · exact ih p hp
theorem gLenX_tupI (l : List Int) : gLenX [tupI l] = some (.fz (.int (l.length : Nat))) := by
  show some (R.fz (.int ((l.map D.int).length : Nat))) = _
  rw [List.length_map]
theorem content_of {sz x : List Int} (h : InC sz x) (hz : sz.length ≤ 1000) : m_is_content [tupI sz, tupI x] = some (.fz (.bl true)) := by
  unfold m_is_content dfn
  show Option.bind (g_is_content [some (.fz (tupI sz)), some (.fz (tupI x)), none, none]) fin = _
  unfold g_is_content
  have hl := h.len
  have hi : isiT "tuple" (tupI x) = some true := by kernel_rfl
  rw [sSeq_nx (ds1 := [some (.fz (tupI sz)), some (.fz (tupI x)), none, none]) (by
    simp [hi, gLenX_tupI, hl, gNeD_int])]
  have e := eLC_M (fi := iZipD (aCons (eVar 0) (aCons (eVar 1) (aNil)))) (g := gTp (gCons' (gN 2) (gCons' (gN 3) (gNil')))) (t := bYes) (f := eCall m_is_within (aCons (eVar 3) (aCons (eC (.int 0)) (aCons (eBin gSub (eVar 2) (eC (.int 1))) (aNil))))) (vs := [2, 3])
    (enc := fun p : Int × Int => D.tup [.int p.1, .int p.2]) (l := sz.zip x) (fun _ => D.bl true)
    (ds := [some (.fz (tupI sz)), some (.fz (tupI x)), none, none]) (ds1 := [some (.fz (tupI sz)), some (.fz (tupI x)), none, none]) (by
      simp
      show some (zipD (sz.map D.int) (x.map D.int), _) = _
      rw [zipD_ints]) rfl (by rw [List.length_zip]; exact Nat.le_trans (Nat.le_trans (Nat.min_le_left _ _) hz) (by decide)) fun p hp => by
      obtain ⟨a, b⟩ := h.zip p hp
      simp [lcB, within_of, a, b]
  have ea := gAll_map (fun _ : Int × Int => true) (sz.zip x)
  rw [show ((sz.zip x).all fun _ => true) = true from List.all_eq_true.mpr fun _ _ => rfl] at ea
  simp [e, ea]
  rfl
theorem check_content_of {sz x : List Int} (h : InC sz x) (hz : sz.length ≤ 1000) : m_check_content [tupI sz, tupI x] = some (.fz .non) := by
  unfold m_check_content dfn
  show Option.bind (g_check_content [some (.fz (tupI sz)), some (.fz (tupI x))]) fin = _
  unfold g_check_content
  simp [content_of h hz]
  rfl
/-- a state of k cells -/
abbrev twos (k : Nat) : List Int := List.replicate k 2
theorem gMul_twos {k : Nat} (h : k ≤ 1000) : gMulX (.tup [.int 2]) (.int (k : Nat)) = some (.fz (tupI (twos k))) := by
  unfold gMulX
  dsimp only
  rw [if_pos (by unfold okRep; simp; omega), Int.toNat_natCast]
  congr 3
  show (List.replicate k [D.int 2]).flatten = _
  induction k with
  | zero => rfl
  | succ k ih =>
    rw [List.replicate_succ, List.flatten_cons, ih (by omega)]
    rfl
theorem check_state_of {sz : List Int} {k : Nat} {S : List Int} {p : List Sm} {s : List Int} (h : InC (twos k) s) (hk : k ≤ 5) : m_check_state [cD sz k S p, tupI s] = some (.fz .non) := by
  unfold m_check_state dfn
  show Option.bind (g_check_state [some (.fz (cD sz k S p)), some (.fz (tupI s))]) fin = _
  unfold g_check_state
  have e1 : eFld "Controller" "cells" (eVar 0) [some (.fz (cD sz k S p)), some (.fz (tupI s))] = some (.fz (.int (k : Nat)), [some (.fz (cD sz k S p)), some (.fz (tupI s))]) := by kernel_rfl
  have e2 : eBin gMulX (eTup (aCons (eC (.int 2)) (aNil))) (eFld "Controller" "cells" (eVar 0)) [some (.fz (cD sz k S p)), some (.fz (tupI s))] = some (.fz (tupI (twos k)), [some (.fz (cD sz k S p)), some (.fz (tupI s))]) := by
    rw [eBin_ap, show eTup (aCons (eC (.int 2)) (aNil)) [some (.fz (cD sz k S p)), some (.fz (tupI s))] = some (.fz (.tup [.int 2]), [some (.fz (cD sz k S p)), some (.fz (tupI s))]) by kernel_rfl, bind_some', e1]
    simp [gMul_twos (show k ≤ 1000 by omega)]
  have e3 : eCall m_is_content (aCons (eBin gMulX (eTup (aCons (eC (.int 2)) (aNil))) (eFld "Controller" "cells" (eVar 0))) (aCons (eVar 1) (aNil))) [some (.fz (cD sz k S p)), some (.fz (tupI s))] = some (.fz (.bl true), [some (.fz (cD sz k S p)), some (.fz (tupI s))]) := by
    rw [eCall_ap, aCons_ap, e2, bind_some']
    simp [content_of h (by rw [List.length_replicate]; omega)]
  rw [sSeq_nx (ds1 := [some (.fz (cD sz k S p)), some (.fz (tupI s))]) (by
    rw [sIf_ap, bNot_ap, tOf_ap, e3]
    simp)]
  rfl
/-- what a scan leaves is a state -/
theorem state_in (k : Nat) (nm : List Str) (h : k ≤ 5) : InC (twos k) (stateOf k nm) := by
  unfold stateOf
  have hl := lets_len h
  generalize lets k = l at hl
  subst hl
  clear h
  induction l with
  | nil => exact .nil
  | cons a l ih =>
    rw [List.map_cons, List.length_cons, twos, List.replicate_succ]
    refine .cons ?_ ?_ ih
    · by_cases c : a ∈ nm
      · rw [if_pos c]; decide
      · rw [if_neg c]; decide
    · by_cases c : a ∈ nm
      · rw [if_pos c]; decide
      · rw [if_neg c]; decide
end DL.Law
/-! C9: rows of contents. -/
namespace DL.Law
open PySem PySem.Spec PyProof.Rows L2 DL
def rowOf (k : Nat) (p : List Sm) : List Int → List (List Int) → List D
  | _, [] => []
  | s, x :: r => scanD k p s x :: rowOf k p (nextOf k p s x) r
def lastOf (k : Nat) (p : List Sm) (s : List Int) (xs : List (List Int)) : List Int := xs.foldl (nextOf k p) s
theorem rowOf_len (k : Nat) (p : List Sm) : ∀ (s : List Int) (xs : List (List Int)), (rowOf k p s xs).length = xs.length
  | _, [] => rfl
  | s, x :: r => by rw [rowOf, List.length_cons, List.length_cons, rowOf_len k p _ r]
theorem enum_in {l : List (List Int)} {d : D} (h : d ∈ enumD (l.map tupI)) : ∃ i x, x ∈ l ∧ d = .tup [.int i, tupI x] := by
  obtain ⟨n, hn, e⟩ := List.mem_iff_getElem.mp h
  have e' : (enumD (l.map tupI))[n]? = some d := by rw [List.getElem?_eq_getElem hn, e]
  obtain ⟨x, h1, rfl⟩ := enumD_get e'
  rw [List.getElem?_map] at h1
  obtain ⟨y, h2, rfl⟩ := Option.map_eq_some_iff.mp h1
  exact ⟨_, y, List.mem_of_getElem? h2, rfl⟩
theorem lt_sel {d : D} {l : List (List Int)} (h : d = .lst (l.map tupI) ∨ d = .tup (l.map tupI)) : selLT d = some (l.map tupI) ∧ (isiT "list" d = some true ∧ isiT "tuple" d = some false ∨ isiT "list" d = some false ∧ isiT "tuple" d = some true) := by
  rcases h with rfl | rfl
  · exact ⟨rfl, .inl ⟨by kernel_rfl, by kernel_rfl⟩⟩
  · exact ⟨rfl, .inr ⟨by kernel_rfl, by kernel_rfl⟩⟩
theorem bad_of {sz : List Int} {k : Nat} {S : List Int} {p : List Sm} {d : D} {l : List (List Int)} (hd : d = .lst (l.map tupI) ∨ d = .tup (l.map tupI)) (h : ∀ x ∈ l, InC sz x) (hz : sz.length ≤ 1000) : m_first_bad [cD sz k S p, d] = some (.fz .non) := by
  unfold m_first_bad dfn
  show Option.bind (g_first_bad [some (.fz (cD sz k S p)), some (.fz d), none, none]) fin = _
  unfold g_first_bad
  obtain ⟨h1, h2⟩ := lt_sel hd
  rw [sSeq_nx (ds1 := [some (.fz (cD sz k S p)), some (.fz d), none, none]) (by
    rcases h2 with ⟨a, b⟩ | ⟨a, b⟩ <;> simp [a, b])]
  obtain ⟨ds', e, x2, x3, rfl⟩ := forL_X (enc := id) (g := gTp (gCons' (gN 2) (gCons' (gN 3) (gNil')))) (b := (sSeq (sIf (bNot (tOf (eCall m_is_content (aCons (eFld "Controller" "sizes" (eVar 0)) (aCons (eVar 3) (aNil)))))) (sSeq (sRet (eVar 2)) sNil) (sNil)) sNil))
    (fun _ ds => ∃ x2 x3, ds = [some (.fz (cD sz k S p)), some (.fz d), x2, x3]) (l := enumD (l.map tupI)) (n := 0) (ds := [some (.fz (cD sz k S p)), some (.fz d), none, none]) (fun a ha n ds hds => by
      obtain ⟨x2, x3, rfl⟩ := hds
      obtain ⟨i, x, hx, rfl⟩ := enum_in ha
      refine ⟨[some (.fz (cD sz k S p)), some (.fz d), some (.fz (.int i)), some (.fz (tupI x))], ?_, _, _, rfl⟩
      have e1 : eFld "Controller" "sizes" (eVar 0) [some (.fz (cD sz k S p)), some (.fz d), some (.fz (.int i)), some (.fz (tupI x))] = some (.fz (tupI sz), [some (.fz (cD sz k S p)), some (.fz d), some (.fz (.int i)), some (.fz (tupI x))]) := by kernel_rfl
      have e2 : eCall m_is_content (aCons (eFld "Controller" "sizes" (eVar 0)) (aCons (eVar 3) (aNil))) [some (.fz (cD sz k S p)), some (.fz d), some (.fz (.int i)), some (.fz (tupI x))] = some (.fz (.bl true), [some (.fz (cD sz k S p)), some (.fz d), some (.fz (.int i)), some (.fz (tupI x))]) := by
        rw [eCall_ap, aCons_ap, e1, bind_some']
        simp [content_of (h x hx) hz]
      show Option.bind (some ([some (.fz (cD sz k S p)), some (.fz d), some (.fz (.int i)), some (.fz (tupI x))] : DS)) _ = _
      rw [bind_some', sSeq_nx (ds1 := [some (.fz (cD sz k S p)), some (.fz d), some (.fz (.int i)), some (.fz (tupI x))]) (by
        rw [sIf_ap, bNot_ap, tOf_ap, e2]
        simp)]
      rfl) ⟨none, none, rfl⟩
  rw [List.map_id] at e
  rw [sSeq_nx (ds1 := [some (.fz (cD sz k S p)), some (.fz d), x2, x3]) (by
    rw [sFor_ap, show iEnumD (aCons (eVar 1) (aNil)) [some (.fz (cD sz k S p)), some (.fz d), none, none] = some (enumD (l.map tupI), [some (.fz (cD sz k S p)), some (.fz d), none, none]) by simp [h1]]
    exact e)]
  rfl
theorem iOf_lt {d : D} {l : List (List Int)} (h : d = .lst (l.map tupI) ∨ d = .tup (l.map tupI)) (a b c e f g : Option SV) : iOfX (eVar 2) [a, b, some (.fz d), c, e, f, g] = some (l.map tupI, [a, b, some (.fz d), c, e, f, g]) := by
  rcases h with rfl | rfl
  · kernel_rfl
  · kernel_rfl
theorem atL_neg {α : Type} (l : List α) (a : α) : atI (l ++ [a]) (-1) = some a := by
  unfold atI ixN
  rw [if_neg (by omega), List.length_append, List.length_singleton, if_pos (by omega)]
  show (l ++ [a])[_]? = _
  rw [show ((-1 : Int) + ↑(l.length + 1)).toNat = l.length by omega, List.getElem?_append_right (Nat.le_refl _), Nat.sub_self]
  rfl
abbrev scB : DSm := (sSeq (sExpr (eLM gAppend (eVar 4) (aCons (eCall m_scan_of (aCons (eVar 0) (aCons (eVar 5) (aCons (eVar 6) (aNil))))) (aNil)))) (sSeq (sSet 5 (eBin gAtT (eBin gAtT (eVar 4) (eNeg (eC (.int 1)))) (eC (.int 0)))) sNil))
theorem sc_turn {C A B E : SV} {cd : D} {k : Nat} {p : List Sm} {s x : List Int} {acc : List D} (hC : C = .fz cd) (h : m_scan_of [cd, tupI s, tupI x] = some (.fz (scanD k p s x))) (hz : acc.length < sizeLine) (l : Option SV) :
    foB (gN 6) scB (tupI x) [some C, some A, some B, some E, some (.own (.lst acc)), some (.fz (tupI s)), l] = some (.nx, [some C, some A, some B, some E, some (.own (.lst (acc ++ [scanD k p s x]))), some (.fz (tupI (nextOf k p s x))), some (.fz (tupI x))]) := by
  subst hC
  have hn := atL_neg acc (scanD k p s x)
  have e2 : gAtT (scanD k p s x) (.int 0) = some (.fz (tupI (nextOf k p s x))) := by kernel_rfl
  simp [foB, h, gAppend_ok _ hz, hn, e2]
theorem sc_loop {C A B E : SV} {cd : D} {sz : List Int} {k : Nat} {p : List Sm} (hC : C = .fz cd) (h : ∀ s x, InC (twos k) s → InC sz x → m_scan_of [cd, tupI s, tupI x] = some (.fz (scanD k p s x))) (hk : k ≤ 5) :
    ∀ (xs : List (List Int)) (s : List Int) (acc : List D) (l : Option SV), (∀ x ∈ xs, InC sz x) → InC (twos k) s → acc.length + xs.length ≤ sizeLine →
    ∃ l', forL (gN 6) scB (xs.map tupI) [some C, some A, some B, some E, some (.own (.lst acc)), some (.fz (tupI s)), l] = some (.nx, [some C, some A, some B, some E, some (.own (.lst (acc ++ rowOf k p s xs))), some (.fz (tupI (lastOf k p s xs))), l'])
  | [], s, acc, l, _, _, _ => ⟨l, by rw [rowOf, List.append_nil]; rfl⟩
  | x :: xs, s, acc, l, hx, hs, hz => by
    rw [List.length_cons] at hz
    have e := sc_turn (A := A) (B := B) (E := E) (acc := acc) hC (h s x hs (hx x List.mem_cons_self)) (by omega) l
    obtain ⟨l', e'⟩ := sc_loop (A := A) (B := B) (E := E) hC h hk xs (nextOf k p s x) (acc ++ [scanD k p s x]) (some (.fz (tupI x))) (fun y m => hx y (List.mem_cons_of_mem _ m)) (state_in _ _ hk) (by rw [List.length_append, List.length_singleton]; omega)
    refine ⟨l', ?_⟩
    rw [List.map_cons, foB_cons e, e', rowOf, List.append_assoc]
    rfl
/-- a controller -/
structure Ct (sz : List Int) (k : Nat) (p : List Sm) : Prop where
  szs : Szs sz
  pos : 1 ≤ sz.length
  cells : sz.length + k ≤ 6
  pg : Pg (sz.length + k) p
theorem Ct.k5 {sz : List Int} {k : Nat} {p : List Sm} (c : Ct sz k p) : k ≤ 5 := by
  have := c.cells
  have := c.pos
  omega
theorem Ct.scan {sz : List Int} {k : Nat} {S : List Int} {p : List Sm} (c : Ct sz k p) {s x : List Int} (hs : InC (twos k) s) (hx : InC sz x) : m_scan_of [cD sz k S p, tupI s, tupI x] = some (.fz (scanD k p s x)) := by
  have h1 := hs.len
  have h2 := hx.len
  rw [List.length_replicate] at h1
  have h3 := c.cells
  exact scan_of c.k5 (by rw [h1, h2]; exact c.pg) (by omega)
theorem Ct.lscan {sz : List Int} {k : Nat} {p : List Sm} (c : Ct sz k p) {s x : List Int} (hs : InC (twos k) s) (hx : InC sz x) : m__law_scan [cT sz k p, tupI s, tupI x] = some (.fz (scanD k p s x)) := by
  have h1 := hs.len
  have h2 := hx.len
  rw [List.length_replicate] at h1
  have h3 := c.cells
  exact law_scan_of c.k5 (by rw [h1, h2]; exact c.pg) (by omega)
theorem Ct.z {sz : List Int} {k : Nat} {p : List Sm} (c : Ct sz k p) : sz.length ≤ 1000 := by
  have := c.szs.le
  omega
theorem scanned_of {sz : List Int} {k : Nat} {S : List Int} {p : List Sm} (c : Ct sz k p) {s : List Int} (hs : InC (twos k) s) {d : D} {l : List (List Int)} (hd : d = .lst (l.map tupI) ∨ d = .tup (l.map tupI)) (h : ∀ x ∈ l, InC sz x) (hl : l.length ≤ 5000) :
    m_scanned [cD sz k S p, tupI s, d] = some (.own (.lst (rowOf k p s l))) := by
  unfold m_scanned dfn
  show Option.bind (g_scanned [some (.fz (cD sz k S p)), some (.fz (tupI s)), some (.fz d), none, none, none, none]) fin = _
  unfold g_scanned
  rw [sSeq_nx (ds1 := [some (.fz (cD sz k S p)), some (.fz (tupI s)), some (.fz d), none, none, none, none]) (by simp [check_state_of hs c.k5])]
  rw [sSeq_nx (ds1 := [some (.fz (cD sz k S p)), some (.fz (tupI s)), some (.fz d), some (.fz .non), none, none, none]) (by simp [bad_of hd h c.z])]
  rw [sSeq_nx (ds1 := [some (.fz (cD sz k S p)), some (.fz (tupI s)), some (.fz d), some (.fz .non), none, none, none]) (by kernel_rfl)]
  rw [sSeq_nx (ds1 := [some (.fz (cD sz k S p)), some (.fz (tupI s)), some (.fz d), some (.fz .non), some (.own (.lst [])), none, none]) (by kernel_rfl)]
  rw [sSeq_nx (ds1 := [some (.fz (cD sz k S p)), some (.fz (tupI s)), some (.fz d), some (.fz .non), some (.own (.lst [])), some (.fz (tupI s)), none]) (by kernel_rfl)]
  obtain ⟨l', e⟩ := sc_loop (C := .fz (cD sz k S p)) (A := .fz (tupI s)) (B := .fz d) (E := .fz .non) rfl (fun s x hs hx => c.scan (S := S) hs hx) c.k5 l s [] none h hs (by show 0 + _ ≤ _; rw [Nat.zero_add]; exact sz5 hl)
  rw [sSeq_nx (ds1 := [some (.fz (cD sz k S p)), some (.fz (tupI s)), some (.fz d), some (.fz .non), some (.own (.lst (rowOf k p s l))), some (.fz (tupI (lastOf k p s l))), l']) (by
    rw [sFor_ap, iOf_lt hd]
    exact e)]
  rfl
theorem scan_ok {sz : List Int} {k : Nat} {S : List Int} {p : List Sm} (c : Ct sz k p) {s x : List Int} (hs : InC (twos k) s) (hx : InC sz x) : m_scan [cD sz k S p, tupI s, tupI x] = some (.fz (scanD k p s x)) := by
  unfold m_scan dfn
  show Option.bind (g_scan [some (.fz (cD sz k S p)), some (.fz (tupI s)), some (.fz (tupI x))]) fin = _
  unfold g_scan
  have e1 : eFld "Controller" "sizes" (eVar 0) [some (.fz (cD sz k S p)), some (.fz (tupI s)), some (.fz (tupI x))] = some (.fz (tupI sz), [some (.fz (cD sz k S p)), some (.fz (tupI s)), some (.fz (tupI x))]) := by kernel_rfl
  rw [sSeq_nx (ds1 := [some (.fz (cD sz k S p)), some (.fz (tupI s)), some (.fz (tupI x))]) (by simp [check_state_of hs c.k5])]
  rw [sSeq_nx (ds1 := [some (.fz (cD sz k S p)), some (.fz (tupI s)), some (.fz (tupI x))]) (by
    rw [sExpr_ap, eCall_ap, aCons_ap, e1, bind_some']
    simp [check_content_of hx c.z])]
  simp [c.scan (S := S) hs hx]
  rfl
end DL.Law
/-! D2: drawn sizes, names, tests. -/
namespace DL.Law
open PySem PySem.Spec PyProof.Rows L2 DL
theorem draw6 {ob : Ob} (h : Tape ob) : ∃ (r : Nat) (ob' : Ob), r < 6 ∧ Tape ob' ∧ m__law_draw ob [.int 6] = some (.fz (.int (r : Int)), .own ob') := drawN h (n := 6) (by decide) (by decide)
theorem pick_get {l : List D} {r : Nat} (h : r < l.length) : gAtT (.lst l) (.int (r : Int)) = some (.fz l[r]) := by
  show Option.map DL.R.fz (atI l r) = _
  rw [atI_int (by omega) (by omega), Int.toNat_natCast, List.getElem?_eq_getElem h]
  rfl
theorem pick_tup {l : List D} {r : Nat} (h : r < l.length) : gAtT (.tup l) (.int (r : Int)) = some (.fz l[r]) := by
  show Option.map DL.R.fz (atI l r) = _
  rw [atI_int (by omega) (by omega), Int.toNat_natCast, List.getElem?_eq_getElem h]
  rfl
theorem size_at {r : Nat} (h : r < 6) : ∃ n : Int, 2 ≤ n ∧ n ≤ 4 ∧ gAtT (.lst [.int 2, .int 2, .int 2, .int 3, .int 3, .int 4]) (.int (r : Int)) = some (.fz (.int n)) := by
  match r, h with
  | 0, _ => exact ⟨2, by decide, by decide, rfl⟩
  | 1, _ => exact ⟨2, by decide, by decide, rfl⟩
  | 2, _ => exact ⟨2, by decide, by decide, rfl⟩
  | 3, _ => exact ⟨3, by decide, by decide, rfl⟩
  | 4, _ => exact ⟨3, by decide, by decide, rfl⟩
  | 5, _ => exact ⟨4, by decide, by decide, rfl⟩
abbrev szB : DSm := (sSeq (sSet 5 (eBin gAtT (eLst (aCons (eC (.int 2)) (aCons (eC (.int 2)) (aCons (eC (.int 2)) (aCons (eC (.int 3)) (aCons (eC (.int 3)) (aCons (eC (.int 4)) (aNil)))))))) (eCallIo m__law_draw (aCons (eVar 0) (aCons (eC (.int 6)) (aNil)))))) (sSeq (sIf (tOf (eBin gLeD (eBin gMulX (eVar 3) (eVar 5)) (eVar 1))) (sSeq (sExpr (eLM gAppend (eVar 2) (aCons (eVar 5) (aNil)))) (sSeq (sSet 3 (eBin gMulX (eVar 3) (eVar 5))) sNil)) (sNil)) sNil))
theorem sz_turn (m : Int) {ob : Ob} (ht : Tape ob) (sz : List Int) (pr : Int) (hl : sz.length < 1000) (a : D) (x4 x5 : Option SV) : ∃ ob' n pr' y4 y5, Tape ob' ∧ (2 ≤ n ∧ n ≤ 4) ∧ (foB (gN 4) szB a [some (.own ob), some (.fz (.int m)), some (.own (.lst (sz.map D.int))), some (.fz (.int pr)), x4, x5] = some (.nx, [some (.own ob'), some (.fz (.int m)), some (.own (.lst (sz.map D.int))), some (.fz (.int pr')), y4, y5])
    ∨ foB (gN 4) szB a [some (.own ob), some (.fz (.int m)), some (.own (.lst (sz.map D.int))), some (.fz (.int pr)), x4, x5] = some (.nx, [some (.own ob'), some (.fz (.int m)), some (.own (.lst ((sz ++ [n]).map D.int))), some (.fz (.int pr')), y4, y5])) := by
  obtain ⟨r, ob', hr, t', e⟩ := draw6 ht
  obtain ⟨n, n1, n2, en⟩ := size_at hr
  have em : gMulX (.int pr) (.int n) = some (.fz (.int (pr * n))) := gMulX_int (.inr (sm_lt (by omega) (show n < 5 by omega) (by decide)))
  have ea := gAppend_ok (l := sz.map D.int) (.int n) (by rw [List.length_map]; exact Nat.lt_trans hl (by decide))
  by_cases c : pr * n ≤ m
  · refine ⟨ob', n, pr * n, some (.fz a), some (.fz (.int n)), t', ⟨n1, n2⟩, .inr ?_⟩
    simp [foB, e, en, em, ea, c, sizeLine]
  · refine ⟨ob', n, pr, some (.fz a), some (.fz (.int n)), t', ⟨n1, n2⟩, .inl ?_⟩
    simp [foB, e, en, em, ea, c, sizeLine]
theorem sizes_of {ob : Ob} (h : Tape ob) (m : Int) : ∃ sz ob', Szs sz ∧ 1 ≤ sz.length ∧ Tape ob' ∧ m__law_sizes ob [.int m] = some (.fz (tupI sz), .own ob') := by
  obtain ⟨r, ob1, hr, t1, e1⟩ := draw6 h
  have hs : small (1 + (r : Int)) = true := by
    unfold small
    rw [Bool.and_eq_true, decide_eq_true_eq, decide_eq_true_eq]
    omega
  obtain ⟨ds', ef, ob2, sz, pr, x4, x5, t2, hz, hl, rfl⟩ := forL_N (g := gN 4) (b := szB) 100
    (fun n ds => ∃ ob sz pr x4 x5, Tape ob ∧ (∀ z ∈ sz, (2 : Int) ≤ z ∧ z ≤ 4) ∧ sz.length ≤ n ∧ ds = [some (.own ob), some (.fz (.int m)), some (.own (.lst (sz.map D.int))), some (.fz (.int pr)), x4, x5])
    (l := rng 0 (1 + r)) (n := 0) (ds := [some (.own ob1), some (.fz (.int m)), some (.own (.lst (([] : List Int).map D.int))), some (.fz (.int 1)), none, none]) (fun a ha n ds hN hds => by
      obtain ⟨ob, sz, pr, x4, x5, t, hz, hl, rfl⟩ := hds
      obtain ⟨ob', z, pr', y4, y5, t', hz', e | e⟩ := sz_turn m t sz pr (by omega) a x4 x5
      · exact ⟨_, e, ob', sz, pr', y4, y5, t', hz, by omega, rfl⟩
      · exact ⟨_, e, ob', sz ++ [z], pr', y4, y5, t', fun w hw => by
          rcases List.mem_append.mp hw with q | q
          · exact hz w q
          · rw [List.mem_singleton.mp q]; exact hz', by rw [List.length_append, List.length_singleton]; omega, rfl⟩) ⟨ob1, [], 1, none, none, t1, by simp, Nat.le_refl _, rfl⟩ (by rw [rng0_len]; omega)
  rw [rng0_len] at hl
  have hle : sz.length ≤ 6 := by omega
  refine ⟨if 0 < sz.length then sz else [2], ob2, ?_, ?_, t2, ?_⟩
  · by_cases c : 0 < sz.length
    · rw [if_pos c]; exact ⟨hz, hle⟩
    · rw [if_neg c]; exact ⟨by simp, by simp⟩
  · by_cases c : 0 < sz.length
    · rw [if_pos c]; exact c
    · rw [if_neg c]; exact Nat.le_refl _
  · unfold m__law_sizes dfnIo
    show Option.bind (g__law_sizes [some (.own ob), some (.fz (.int m)), none, none, none, none]) finIo = _
    unfold g__law_sizes
    rw [sSeq_nx (ds1 := [some (.own ob), some (.fz (.int m)), some (.own (.lst (([] : List Int).map D.int))), none, none, none]) (by kernel_rfl)]
    rw [sSeq_nx (ds1 := [some (.own ob), some (.fz (.int m)), some (.own (.lst (([] : List Int).map D.int))), some (.fz (.int 1)), none, none]) (by kernel_rfl)]
    have ei : iR1 (aCons (eBin gAdd (eC (.int 1)) (eCallIo m__law_draw (aCons (eVar 0) (aCons (eC (.int 6)) (aNil))))) (aNil)) [some (.own ob), some (.fz (.int m)), some (.own (.lst (([] : List Int).map D.int))), some (.fz (.int 1)), none, none]
        = some (rng 0 (1 + r), [some (.own ob1), some (.fz (.int m)), some (.own (.lst (([] : List Int).map D.int))), some (.fz (.int 1)), none, none]) := by
      simp -implicitDefEqProofs [e1, hs, show (1 + (r : Int)).toNat = 1 + r by omega]
    rw [sSeq_nx (ds1 := [some (.own ob2), some (.fz (.int m)), some (.own (.lst (sz.map D.int))), some (.fz (.int pr)), x4, x5]) (by
      rw [sFor_ap, ei]
      exact ef)]
    by_cases c : 0 < sz.length
    · simp -implicitDefEqProofs [gLenX, c, finIo, fin, tupI]
    · have : sz = [] := List.length_eq_zero_iff.mp (by omega)
      subst this
      kernel_rfl
end DL.Law
/-! D3: drawn tests. -/
namespace DL.Law
open PySem PySem.Spec PyProof.Rows L2 DL
/-- a test that may stand over these sizes -/
structure OkT (S l v : List Int) : Prop where
  asc : l.Pairwise (· < ·)
  rng : ∀ p ∈ l, 0 ≤ p ∧ p < (S.length : Int)
  le : l.length ≤ 3
  val : InC (at_ S l) v
theorem insI_len (x : Int) : ∀ l : List Int, (insI x l).length ≤ l.length + 1
  | [] => Nat.le_refl _
  | y :: r => by
    unfold insI
    split
    · exact Nat.le_refl _
    · split
      · exact Nat.le_succ _
      · have := insI_len x r
        rw [List.length_cons, List.length_cons]
        omega
theorem ascI_len : ∀ l : List Int, (ascI l).length ≤ l.length
  | [] => Nat.le_refl _
  | x :: l => by
    have h1 := ascI_len l
    have h2 := insI_len x (ascI l)
    show (insI x (ascI l)).length ≤ _
    rw [List.length_cons]
    omega
theorem val_inC {S : List Int} {l : List Int} {v : List Int} (h : A2 (fun (p : Int) (i : Int) => 0 ≤ i ∧ i < S.getD p.toNat 0) l v) : InC (at_ S l) v := by
  induction h with
  | nil => exact .nil
  | cons p _ ih => exact .cons p.1 p.2 ih
theorem A2.mapl {α β γ : Type} {P : β → γ → Prop} {f : α → β} : ∀ {l : List α} {m : List γ}, A2 P (l.map f) m → A2 (fun a c => P (f a) c) l m
  | [], _, h => by cases h; exact .nil
  | a :: l, _, h => by cases h with | cons p q => exact .cons p (A2.mapl q)
theorem test_of {ob : Ob} (h : Tape ob) {S : List Int} (hS : Szs S) (h1 : 1 ≤ S.length) : ∃ l v ob', OkT S l v ∧ Tape ob' ∧ m__law_test ob [tupI S] = some (.fz (.tup [tupI l, tupI v]), .own ob') := by
  have hle := hS.le
  obtain ⟨r, ob1, hr, t1, e1⟩ := drawN h (n := 4) (by decide) (by decide)
  have e1 : m__law_draw ob [.int 4] = some (.fz (.int (r : Int)), .own ob1) := e1
  have hs : small (r : Int) = true := iR1_int (by omega)
  obtain ⟨out, ds', e2, ⟨ob2, t2, rfl⟩, a2⟩ := eLC_N (fi := iR1 (aCons (eCallIo m__law_draw (aCons (eVar 0) (aCons (eC (.int 4)) (aNil)))) (aNil))) (g := gN 3) (t := bYes) (f := eCallIo m__law_draw (aCons (eVar 0) (aCons (eCB gLenX (aCons (eVar 1) (aNil))) (aNil)))) (vs := [3])
    (fun ds => ∃ ob, Tape ob ∧ ds = [some (.own ob), some (.fz (tupI S)), none, none]) (fun _ d => ∃ i, d = .int i ∧ 0 ≤ i ∧ i < (S.length : Int)) (ds := [some (.own ob), some (.fz (tupI S)), none, none]) (ds1 := [some (.own ob1), some (.fz (tupI S)), none, none]) (l := rng 0 r)
    (by simp -implicitDefEqProofs [e1, hs]) rfl (by rw [rng0_len]; exact sz4 (by omega)) ⟨ob1, t1, rfl⟩ fun a _ ds hds => by
      obtain ⟨ob, t, rfl⟩ := hds
      obtain ⟨i, ob', hi, t', e⟩ := drawN t (n := S.length) (by omega) (by omega)
      refine ⟨.int (i : Int), [some (.own ob'), some (.fz (tupI S)), none, none], ?_, ⟨_, rfl, by omega, by omega⟩, ob', t', rfl⟩
      simp -implicitDefEqProofs [lcB, gLenX_tupI, e]
  obtain ⟨is, rfl, b2⟩ := A2.ints (P := fun _ i => 0 ≤ i ∧ i < (S.length : Int)) a2
  have il : is.length = r := by rw [b2.len, rng0_len]
  have hrng : ∀ p ∈ ascI is, 0 ≤ p ∧ p < (S.length : Int) := fun p hp => by
    obtain ⟨_, _, q⟩ := b2.right p ((ascI_mem is p).mp hp)
    exact q
  have hlen : (ascI is).length ≤ 3 := by
    have := ascI_len is
    omega
  obtain ⟨out, ds', e3, ⟨ob3, t3, rfl⟩, a3⟩ := eLC_N (fi := iOfX (eVar 2)) (g := gN 3) (t := bYes) (f := eCallIo m__law_draw (aCons (eVar 0) (aCons (eBin gAtT (eVar 1) (eVar 3)) (aNil)))) (vs := [3])
    (fun ds => ∃ ob, Tape ob ∧ ds = [some (.own ob), some (.fz (tupI S)), some (.fz (tupI (ascI is))), none]) (fun a d => ∃ i, d = .int i ∧ ∀ p, a = .int p → 0 ≤ i ∧ i < S.getD p.toNat 0) (ds := [some (.own ob2), some (.fz (tupI S)), some (.fz (tupI (ascI is))), none]) (ds1 := [some (.own ob2), some (.fz (tupI S)), some (.fz (tupI (ascI is))), none]) (l := (ascI is).map D.int)
    rfl rfl (by rw [List.length_map]; exact sz4 (by omega)) ⟨ob2, t2, rfl⟩ fun a ha ds hds => by
      obtain ⟨ob, t, rfl⟩ := hds
      obtain ⟨p, hp, rfl⟩ := List.mem_map.mp ha
      have hq := hrng p hp
      have hm : S.getD p.toNat 0 ∈ S := by
        rw [List.getD_eq_getElem?_getD, List.getElem?_eq_getElem (by omega)]
        exact List.getElem_mem _
      have hv := hS.rng _ hm
      obtain ⟨i, ob', h0, hi, t', e⟩ := draw t (n := S.getD p.toNat 0) (by omega) (by omega)
      refine ⟨.int i, [some (.own ob'), some (.fz (tupI S)), some (.fz (tupI (ascI is))), none], ?_, ⟨_, rfl, fun p' e => by cases e; exact ⟨h0, hi⟩⟩, ob', t', rfl⟩
      have ej := joint_get (x := S) hq
      simp -implicitDefEqProofs [lcB, ej, e, -List.getD_eq_getElem?_getD]
  obtain ⟨vs, rfl, b3⟩ := A2.ints (P := fun a i => ∀ p, a = .int p → 0 ≤ i ∧ i < S.getD p.toNat 0) a3
  have a4 := A2.mapl b3
  have hval : InC (at_ S (ascI is)) vs := val_inC (by
    clear e3 e2 hrng hlen il a3 b3
    generalize ascI is = L at a4
    induction a4 with
    | nil => exact .nil
    | cons p _ ih => exact .cons (p _ rfl) ih)
  refine ⟨ascI is, vs, ob3, ⟨ascI_asc is, hrng, hlen, hval⟩, t3, ?_⟩
  unfold m__law_test dfnIo
  show Option.bind (g__law_test [some (.own ob), some (.fz (tupI S)), none, none]) finIo = _
  unfold g__law_test
  have hg : gSortSet [.lst (is.map D.int)] = some (.own (.lst ((ascI is).map D.int))) := by
    show Option.bind (intsOf _) _ = _
    rw [intsOf_map]
    show (if is.length < 64 then _ else none) = _
    rw [if_pos (by omega)]
  rw [sSeq_nx (ds1 := [some (.own ob2), some (.fz (tupI S)), some (.fz (tupI (ascI is))), none]) (by
    simp -implicitDefEqProofs [e2, hg]
    rfl)]
  simp -implicitDefEqProofs [e3, finIo, fin, sizeLine]
  rfl
end DL.Law
/-! D4: drawn statements. -/
namespace DL.Law
open PySem PySem.Spec PyProof.Rows L2 DL
/-- a statement that may stand -/
def Sm.Ok (S : List Int) (nms : List Str) : Sm → Prop
  | .flag _ l v => OkT S l v
  | .skip n l v => (n = 1 ∨ n = 2) ∧ OkT S l v
  | .deed s => s ∈ nms
theorem name_of {ob : Ob} (h : Tape ob) {nms : List Str} (h0 : 0 < nms.length) (h1 : nms.length < 1000) : ∃ s ob', s ∈ nms ∧ Tape ob' ∧ m__law_name ob [.lst (nms.map D.str)] = some (.fz (.str s), .own ob') := by
  obtain ⟨r, ob', hr, t, e⟩ := drawN h h0 (by omega)
  refine ⟨nms[r], ob', List.getElem_mem hr, t, ?_⟩
  unfold m__law_name dfnIo
  show Option.bind (g__law_name [some (.own ob), some (.fz (.lst (nms.map D.str)))]) finIo = _
  unfold g__law_name
  have e2 := pick_get (l := nms.map D.str) (r := r) (by rw [List.length_map]; exact hr)
  rw [List.getElem_map] at e2
  simp -implicitDefEqProofs [gLenX, gLen_lst, e, e2, finIo, fin]
def wds8 : List D := [.str "set", .str "set", .str "clear", .str "turn", .str "turn", .str "skip", .str "deed", .str "deed"]
theorem word_at {r : Nat} (h : r < 8) : gAtT (.lst wds8) (.int (r : Int)) = some (.fz (.str "deed")) ∨ gAtT (.lst wds8) (.int (r : Int)) = some (.fz (.str "skip")) ∨ ∃ w, gAtT (.lst wds8) (.int (r : Int)) = some (.fz (.str (wD w))) := by
  match r, h with
  | 0, _ => exact .inr (.inr ⟨1, rfl⟩)
  | 1, _ => exact .inr (.inr ⟨1, rfl⟩)
  | 2, _ => exact .inr (.inr ⟨0, rfl⟩)
  | 3, _ => exact .inr (.inr ⟨2, rfl⟩)
  | 4, _ => exact .inr (.inr ⟨2, rfl⟩)
  | 5, _ => exact .inr (.inl rfl)
  | 6, _ => exact .inl rfl
  | 7, _ => exact .inl rfl
def sW : DSm := (sSet 6 (eBin gAtT (eLst (aCons (eC (.str "set")) (aCons (eC (.str "set")) (aCons (eC (.str "clear")) (aCons (eC (.str "turn")) (aCons (eC (.str "turn")) (aCons (eC (.str "skip")) (aCons (eC (.str "deed")) (aCons (eC (.str "deed")) (aNil)))))))))) (eCallIo m__law_draw (aCons (eVar 0) (aCons (eC (.int 8)) (aNil))))))
theorem sW_of {ob ob' : Ob} {r : Nat} (e : m__law_draw ob [.int 8] = some (.fz (.int (r : Int)), .own ob')) {w : Str} (ew : gAtT (.lst wds8) (.int (r : Int)) = some (.fz (.str w))) (a b c d x : Option SV) (y : Option SV) : sW [some (.own ob), a, b, c, d, x, y] = some (.nx, [some (.own ob'), a, b, c, d, x, some (.fz (.str w))]) := by
  unfold sW
  unfold wds8 at ew
  simp -implicitDefEqProofs [e, ew, sizeLine]
abbrev stB : DSm := (sSeq sW (sSeq (sIf (tOf (eBin gEqD (eVar 6) (eC (.str "deed")))) (sSeq (sExpr (eLM gAppend (eVar 4) (aCons (eTup (aCons (eVar 6) (aCons (eCallIo m__law_name (aCons (eVar 0) (aCons (eVar 2) (aNil)))) (aNil)))) (aNil)))) sNil) (sSeq (sIf (tOf (eBin gEqD (eVar 6) (eC (.str "skip")))) (sSeq (sExpr (eLM gAppend (eVar 4) (aCons (eTup (aCons (eVar 6) (aCons (eBin gAdd (eC (.int 1)) (eCallIo m__law_draw (aCons (eVar 0) (aCons (eC (.int 2)) (aNil))))) (aCons (eCallIo m__law_test (aCons (eVar 0) (aCons (eVar 1) (aNil)))) (aNil))))) (aNil)))) sNil) (sSeq (sExpr (eLM gAppend (eVar 4) (aCons (eTup (aCons (eVar 6) (aCons (eCallIo m__law_test (aCons (eVar 0) (aCons (eVar 1) (aNil)))) (aNil)))) (aNil)))) sNil)) sNil)) sNil))
theorem st_turn {ob : Ob} (h : Tape ob) {S : List Int} (hS : Szs S) (h1 : 1 ≤ S.length) {nms : List Str} (n0 : 0 < nms.length) (n1 : nms.length < 1000) (m : D) (p : List Sm) (hp : p.length < 1000) (a : D) (x5 x6 : Option SV) :
    ∃ (s : Sm) (ob' : Ob) (y5 y6 : Option SV), Sm.Ok S nms s ∧ Tape ob' ∧ foB (gN 5) stB a [some (.own ob), some (.fz (tupI S)), some (.fz (.lst (nms.map D.str))), some (.fz m), some (.own (.lst (p.map Sm.d))), x5, x6]
      = some (.nx, [some (.own ob'), some (.fz (tupI S)), some (.fz (.lst (nms.map D.str))), some (.fz m), some (.own (.lst ((p ++ [s]).map Sm.d))), y5, y6]) := by
  obtain ⟨r, ob1, hr, t1, e1⟩ := drawN h (n := 8) (by decide) (by decide)
  have e1 : m__law_draw ob [.int 8] = some (.fz (.int (r : Int)), .own ob1) := e1
  have ha : ∀ d, gAppend (p.map Sm.d) [d] = some (.non, p.map Sm.d ++ [d]) := fun d => gAppend_ok d (by rw [List.length_map]; exact Nat.lt_trans hp (by decide))
  rcases word_at hr with ew | ew | ⟨w, ew⟩
  · obtain ⟨s, ob2, hs, t2, e2⟩ := name_of t1 n0 n1
    refine ⟨.deed s, ob2, some (.fz a), some (.fz (.str "deed")), hs, t2, ?_⟩
    unfold foB
    show Option.bind (some ([some (.own ob), some (.fz (tupI S)), some (.fz (.lst (nms.map D.str))), some (.fz m), some (.own (.lst (p.map Sm.d))), some (.fz a), x6] : DS)) _ = _
    unfold stB
    rw [bind_some', sSeq_nx (sW_of e1 ew _ _ _ _ _ _)]
    simp -implicitDefEqProofs [e2, ha, sizeLine, Sm.d]
  · obtain ⟨q, ob2, hq, t2, e2⟩ := drawN t1 (n := 2) (by decide) (by decide)
    have e2 : m__law_draw ob1 [.int 2] = some (.fz (.int (q : Int)), .own ob2) := e2
    obtain ⟨l, v, ob3, ok, t3, e3⟩ := test_of t2 hS h1
    refine ⟨.skip (1 + (q : Int)) l v, ob3, some (.fz a), some (.fz (.str "skip")), ⟨by omega, ok⟩, t3, ?_⟩
    unfold foB
    show Option.bind (some ([some (.own ob), some (.fz (tupI S)), some (.fz (.lst (nms.map D.str))), some (.fz m), some (.own (.lst (p.map Sm.d))), some (.fz a), x6] : DS)) _ = _
    unfold stB
    rw [bind_some', sSeq_nx (sW_of e1 ew _ _ _ _ _ _)]
    simp -implicitDefEqProofs [e2, e3, ha, sizeLine, Sm.d, sk_de]
  · obtain ⟨l, v, ob3, ok, t3, e3⟩ := test_of t1 hS h1
    refine ⟨.flag w l v, ob3, some (.fz a), some (.fz (.str (wD w))), ok, t3, ?_⟩
    unfold foB
    show Option.bind (some ([some (.own ob), some (.fz (tupI S)), some (.fz (.lst (nms.map D.str))), some (.fz m), some (.own (.lst (p.map Sm.d))), some (.fz a), x6] : DS)) _ = _
    unfold stB
    rw [bind_some', sSeq_nx (sW_of e1 ew _ _ _ _ _ _)]
    simp -implicitDefEqProofs [e3, ha, sizeLine, Sm.d, w_de, w_sk]
theorem statements_of {ob : Ob} (h : Tape ob) {S : List Int} (hS : Szs S) (h1 : 1 ≤ S.length) {nms : List Str} (n0 : 0 < nms.length) (n1 : nms.length < 1000) {m : Nat} (hm : m ≤ 900) :
    ∃ (p : List Sm) (ob' : Ob), (∀ s ∈ p, Sm.Ok S nms s) ∧ p.length ≤ m ∧ Tape ob' ∧ m__law_statements ob [tupI S, .lst (nms.map D.str), .int (m : Nat)] = some (.fz (.tup (p.map Sm.d)), .own ob') := by
  obtain ⟨r, ob1, hr, t1, e1⟩ := drawN h (n := m + 1) (by omega) (by omega)
  have e1 : m__law_draw ob [.int ((m : Int) + 1)] = some (.fz (.int (r : Int)), .own ob1) := e1
  have hs : small (r : Int) = true := iR1_int (by omega)
  obtain ⟨ds', ef, ob2, p, x5, x6, t2, hp, hl, rfl⟩ := forL_N (g := gN 5) (b := stB) 1000
    (fun n ds => ∃ (ob : Ob) (p : List Sm) (x5 x6 : Option SV), Tape ob ∧ (∀ s ∈ p, Sm.Ok S nms s) ∧ p.length = n ∧ ds = [some (.own ob), some (.fz (tupI S)), some (.fz (.lst (nms.map D.str))), some (.fz (.int (m : Nat))), some (.own (.lst (p.map Sm.d))), x5, x6])
    (l := rng 0 r) (n := 0) (ds := [some (.own ob1), some (.fz (tupI S)), some (.fz (.lst (nms.map D.str))), some (.fz (.int (m : Nat))), some (.own (.lst (([] : List Sm).map Sm.d))), none, none]) (fun a ha n ds hN hds => by
      obtain ⟨ob, p, x5, x6, t, hp, hl, rfl⟩ := hds
      obtain ⟨s, ob', y5, y6, hs, t', e⟩ := st_turn t hS h1 n0 n1 (.int (m : Nat)) p (by omega) a x5 x6
      exact ⟨_, e, ob', p ++ [s], y5, y6, t', fun w hw => by
          rcases List.mem_append.mp hw with q | q
          · exact hp w q
          · rw [List.mem_singleton.mp q]; exact hs, by rw [List.length_append, List.length_singleton]; omega, rfl⟩) ⟨ob1, [], none, none, t1, by simp, rfl, rfl⟩ (by rw [rng0_len]; omega)
  rw [rng0_len] at hl
  refine ⟨p, ob2, hp, by omega, t2, ?_⟩
  unfold m__law_statements dfnIo
  show Option.bind (g__law_statements [some (.own ob), some (.fz (tupI S)), some (.fz (.lst (nms.map D.str))), some (.fz (.int (m : Nat))), none, none, none]) finIo = _
  unfold g__law_statements
  rw [sSeq_nx (ds1 := [some (.own ob), some (.fz (tupI S)), some (.fz (.lst (nms.map D.str))), some (.fz (.int (m : Nat))), some (.own (.lst (([] : List Sm).map Sm.d))), none, none]) (by kernel_rfl)]
  have ei : iR1 (aCons (eCallIo m__law_draw (aCons (eVar 0) (aCons (eBin gAdd (eVar 3) (eC (.int 1))) (aNil)))) (aNil)) [some (.own ob), some (.fz (tupI S)), some (.fz (.lst (nms.map D.str))), some (.fz (.int (m : Nat))), some (.own (.lst (([] : List Sm).map Sm.d))), none, none]
      = some (rng 0 r, [some (.own ob1), some (.fz (tupI S)), some (.fz (.lst (nms.map D.str))), some (.fz (.int (m : Nat))), some (.own (.lst (([] : List Sm).map Sm.d))), none, none]) := by
    simp -implicitDefEqProofs [e1, hs]
  rw [sSeq_nx (ds1 := [some (.own ob2), some (.fz (tupI S)), some (.fz (.lst (nms.map D.str))), some (.fz (.int (m : Nat))), some (.own (.lst (p.map Sm.d))), x5, x6]) (by
    rw [sFor_ap, ei]
    exact ef)]
  simp -implicitDefEqProofs [finIo, fin]
end DL.Law
/-! D5: drawn pieces. -/
namespace DL.Law
open PySem PySem.Spec PyProof.Rows L2 DL
theorem map_eraseIdx {α β : Type} (f : α → β) : ∀ (l : List α) (i : Nat), (l.map f).eraseIdx i = (l.eraseIdx i).map f
  | [], _ => rfl
  | _ :: _, 0 => rfl
  | x :: l, i + 1 => by
    rw [List.map_cons, List.eraseIdx_cons_succ, map_eraseIdx f l i]
    rfl
theorem seqIx {r n : Nat} (h : r < n) : seqIndex? (r : Int) n = some r := by
  unfold seqIndex?
  simp [h]
  omega
theorem gPop_at {α : Type} (enc : α → D) {left : List α} {r : Nat} (hr : r < left.length) (hz : left.length < 1000) : gPop (left.map enc) [.int (r : Int)] = some (enc left[r], (left.eraseIdx r).map enc) := by
  have hb : (-(2 ^ 63) : Int) ≤ (r : Int) ∧ (r : Int) < 2 ^ 63 := by omega
  have hg : (left.map enc)[r]? = some (enc left[r]) := by rw [List.getElem?_map, List.getElem?_eq_getElem hr]; rfl
  unfold gPop
  dsimp only
  rw [if_pos hb, List.length_map, seqIx hr]
  show Option.bind (left.map enc)[r]? _ = _
  rw [hg, map_eraseIdx]
  rfl
def PS (ob : Ob) (S : List Int) (B : D) (left : List Str) (p : List Sm) (x5 x6 x7 x9 : Option SV) : DS := [some (.own ob), some (.fz (tupI S)), some (.fz B), some (.own (.lst (left.map D.str))), some (.own (.lst (p.map Sm.d))), x5, x6, x7, none, x9]
def pcL : DSm := sSet 7 (eCB gTuple (aCons (eCB gSortSet (aCons (eLC (iR1 (aCons (eBin gAdd (eC (.int 1)) (eCallIo m__law_draw (aCons (eVar 0) (aCons (eC (.int 2)) (aNil))))) (aNil))) (gN 8) (bYes) (eCallIo m__law_draw (aCons (eVar 0) (aCons (eCB gLenX (aCons (eVar 1) (aNil))) (aNil)))) [8]) (aNil))) (aNil)))
def pcV : DX := eCB gTuple (aCons (eLC (iOfX (eVar 7)) (gN 8) (bYes) (eCallIo m__law_draw (aCons (eVar 0) (aCons (eBin gAtT (eVar 1) (eVar 8)) (aNil)))) [8]) (aNil))
theorem pc_lot {ob : Ob} (h : Tape ob) {S : List Int} (hS : Szs S) (h1 : 1 ≤ S.length) (B : D) (left : List Str) (p : List Sm) (x5 x6 x7 x9 : Option SV) : ∃ (l : List Int) (ob' : Ob), Tape ob' ∧ l.Pairwise (· < ·) ∧ (∀ q ∈ l, 0 ≤ q ∧ q < (S.length : Int)) ∧ l.length ≤ 3 ∧
    pcL (PS ob S B left p x5 x6 x7 x9)
      = some (.nx, PS ob' S B left p x5 x6 (some (.fz (tupI l))) x9) := by
  have hle := hS.le
  obtain ⟨r, ob1, hr, t1, e1⟩ := drawN h (n := 2) (by decide) (by decide)
  have e1 : m__law_draw ob [.int 2] = some (.fz (.int (r : Int)), .own ob1) := e1
  have hs : small (1 + (r : Int)) = true := by
    unfold small
    rw [Bool.and_eq_true, decide_eq_true_eq, decide_eq_true_eq]
    omega
  obtain ⟨out, ds', e2, ⟨ob2, t2, rfl⟩, a2⟩ := eLC_N (fi := iR1 (aCons (eBin gAdd (eC (.int 1)) (eCallIo m__law_draw (aCons (eVar 0) (aCons (eC (.int 2)) (aNil))))) (aNil))) (g := gN 8) (t := bYes) (f := eCallIo m__law_draw (aCons (eVar 0) (aCons (eCB gLenX (aCons (eVar 1) (aNil))) (aNil)))) (vs := [8])
    (fun ds => ∃ ob, Tape ob ∧ ds = PS ob S B left p x5 x6 x7 x9) (fun _ d => ∃ i, d = .int i ∧ 0 ≤ i ∧ i < (S.length : Int)) (ds := PS ob S B left p x5 x6 x7 x9) (ds1 := PS ob1 S B left p x5 x6 x7 x9) (l := rng 0 (1 + r))
    (by unfold PS; simp -implicitDefEqProofs [e1, hs, show (1 + (r : Int)).toNat = 1 + r by omega]) rfl (by rw [rng0_len]; exact sz4 (by omega)) ⟨ob1, t1, rfl⟩ fun a _ ds hds => by
      obtain ⟨ob, t, rfl⟩ := hds
      obtain ⟨i, ob', hi, t', e⟩ := drawN t (n := S.length) (by omega) (by omega)
      refine ⟨.int (i : Int), PS ob' S B left p x5 x6 x7 x9, ?_, ⟨_, rfl, by omega, by omega⟩, ob', t', rfl⟩
      unfold PS
      simp -implicitDefEqProofs [lcB, gLenX_tupI, e]
  obtain ⟨is, rfl, b2⟩ := A2.ints (P := fun _ i => 0 ≤ i ∧ i < (S.length : Int)) a2
  have il : is.length = 1 + r := by rw [b2.len, rng0_len]
  have hlen := ascI_len is
  refine ⟨ascI is, ob2, t2, ascI_asc is, fun q hq => ?_, by omega, ?_⟩
  · obtain ⟨_, _, q⟩ := b2.right q ((ascI_mem is q).mp hq)
    exact q
  · have hg : gSortSet [.lst (is.map D.int)] = some (.own (.lst ((ascI is).map D.int))) := by
      show Option.bind (intsOf _) _ = _
      rw [intsOf_map]
      show (if is.length < 64 then _ else none) = _
      rw [if_pos (by omega)]
    unfold PS at e2 ⊢
    unfold pcL
    simp -implicitDefEqProofs [e2, hg]
    rfl
theorem pc_val {ob : Ob} (h : Tape ob) {S : List Int} (hS : Szs S) {l : List Int} (h1 : l.Pairwise (· < ·)) (h2 : ∀ q ∈ l, 0 ≤ q ∧ q < (S.length : Int)) (h3 : l.length ≤ 3) (B : D) (left : List Str) (p : List Sm) (x5 x6 x9 : Option SV) : ∃ (v : List Int) (ob' : Ob), Tape ob' ∧ OkT S l v ∧
    pcV (PS ob S B left p x5 x6 (some (.fz (tupI l))) x9) = some (.fz (tupI v), PS ob' S B left p x5 x6 (some (.fz (tupI l))) x9) := by
  obtain ⟨out, ds', e3, ⟨ob3, t3, rfl⟩, a3⟩ := eLC_N (fi := iOfX (eVar 7)) (g := gN 8) (t := bYes) (f := eCallIo m__law_draw (aCons (eVar 0) (aCons (eBin gAtT (eVar 1) (eVar 8)) (aNil)))) (vs := [8])
    (fun ds => ∃ ob, Tape ob ∧ ds = PS ob S B left p x5 x6 (some (.fz (tupI l))) x9) (fun a d => ∃ i, d = .int i ∧ ∀ p, a = .int p → 0 ≤ i ∧ i < S.getD p.toNat 0) (ds := PS ob S B left p x5 x6 (some (.fz (tupI l))) x9) (ds1 := PS ob S B left p x5 x6 (some (.fz (tupI l))) x9) (l := l.map D.int)
    rfl rfl (by rw [List.length_map]; exact sz4 (by omega)) ⟨ob, h, rfl⟩ fun a ha ds hds => by
      obtain ⟨ob, t, rfl⟩ := hds
      obtain ⟨q, hp, rfl⟩ := List.mem_map.mp ha
      have hq := h2 q hp
      have hm : S.getD q.toNat 0 ∈ S := by
        rw [List.getD_eq_getElem?_getD, List.getElem?_eq_getElem (by omega)]
        exact List.getElem_mem _
      have hv := hS.rng _ hm
      obtain ⟨i, ob', h0, hi, t', e⟩ := draw t (n := S.getD q.toNat 0) (by omega) (by omega)
      refine ⟨.int i, PS ob' S B left p x5 x6 (some (.fz (tupI l))) x9, ?_, ⟨_, rfl, fun p' e => by cases e; exact ⟨h0, hi⟩⟩, ob', t', rfl⟩
      have ej := joint_get (x := S) hq
      unfold PS
      simp -implicitDefEqProofs [lcB, ej, e, -List.getD_eq_getElem?_getD]
  obtain ⟨vs, rfl, b3⟩ := A2.ints (P := fun a i => ∀ p, a = .int p → 0 ≤ i ∧ i < S.getD p.toNat 0) a3
  have a4 := A2.mapl b3
  have hval : InC (at_ S l) vs := val_inC (by
    clear e3 h1 h2 h3 a3 b3
    induction a4 with
    | nil => exact .nil
    | cons p _ ih => exact .cons (p _ rfl) ih)
  refine ⟨vs, ob3, t3, ⟨h1, h2, h3, hval⟩, ?_⟩
  unfold PS at e3 ⊢
  unfold pcV
  simp -implicitDefEqProofs [e3]
  rfl
def pcW : DSm := (sSet 9 (eBin gAtT (eLst (aCons (eC (.str "set")) (aCons (eC (.str "clear")) (aCons (eC (.str "turn")) (aCons (eC (.str "turn")) (aNil)))))) (eCallIo m__law_draw (aCons (eVar 0) (aCons (eC (.int 4)) (aNil))))))
theorem pc_word {ob : Ob} (h : Tape ob) (S : List Int) (B : D) (left : List Str) (p : List Sm) (x5 x6 x7 x9 : Option SV) : ∃ (w : Nat) (ob' : Ob), Tape ob' ∧ pcW (PS ob S B left p x5 x6 x7 x9) = some (.nx, PS ob' S B left p x5 x6 x7 (some (.fz (.str (wD w))))) := by
  obtain ⟨r, ob1, hr, t1, e1⟩ := drawN h (n := 4) (by decide) (by decide)
  have e1 : m__law_draw ob [.int 4] = some (.fz (.int (r : Int)), .own ob1) := e1
  have hw : ∃ w, gAtT (.lst [.str "set", .str "clear", .str "turn", .str "turn"]) (.int (r : Int)) = some (.fz (.str (wD w))) := by
    match r, hr with
    | 0, _ => exact ⟨1, rfl⟩
    | 1, _ => exact ⟨0, rfl⟩
    | 2, _ => exact ⟨2, rfl⟩
    | 3, _ => exact ⟨2, rfl⟩
  obtain ⟨w, ew⟩ := hw
  refine ⟨w, ob1, t1, ?_⟩
  unfold pcW PS
  simp -implicitDefEqProofs [e1, ew, sizeLine]
end DL.Law
/-! D6: drawn pieces, all. -/
namespace DL.Law
open PySem PySem.Spec PyProof.Rows L2 DL
abbrev pcB : DSm := (sSeq pcL (sSeq pcW (sSeq (sExpr (eLM gAppend (eVar 4) (aCons (eTup (aCons (eVar 9) (aCons (eTup (aCons (eVar 7) (aCons pcV (aNil)))) (aNil)))) (aNil)))) sNil)))
theorem pc_turn {ob : Ob} (h : Tape ob) {S : List Int} (hS : Szs S) (h1 : 1 ≤ S.length) (B : D) (left : List Str) (p : List Sm) (hp : p.length < 1000) (a : D) (x5 x6 x7 x9 : Option SV) :
    ∃ (s : Sm) (ob' : Ob) (y7 y9 : Option SV), Sm.Ok S [] s ∧ Tape ob' ∧ foB (gN 6) pcB a (PS ob S B left p x5 x6 x7 x9) = some (.nx, PS ob' S B left (p ++ [s]) x5 (some (.fz a)) y7 y9) := by
  obtain ⟨l, ob1, t1, l1, l2, l3, e1⟩ := pc_lot h hS h1 B left p x5 (some (.fz a)) x7 x9
  obtain ⟨w, ob2, t2, e2⟩ := pc_word t1 S B left p x5 (some (.fz a)) (some (.fz (tupI l))) x9
  obtain ⟨v, ob3, t3, ok, e3⟩ := pc_val t2 hS l1 l2 l3 B left p x5 (some (.fz a)) (some (.fz (.str (wD w))))
  refine ⟨.flag w l v, ob3, some (.fz (tupI l)), some (.fz (.str (wD w))), ok, t3, ?_⟩
  unfold foB
  show Option.bind (some (PS ob S B left p x5 (some (.fz a)) x7 x9)) _ = _
  unfold pcB
  rw [bind_some', sSeq_nx e1, sSeq_nx e2]
  have ha : ∀ d, gAppend (p.map Sm.d) [d] = some (.non, p.map Sm.d ++ [d]) := fun d => gAppend_ok d (by rw [List.length_map]; exact Nat.lt_trans hp (by decide))
  unfold PS at e3 ⊢
  simp -implicitDefEqProofs [e3, ha, sizeLine, Sm.d]
theorem Sm.Ok.mono {S : List Int} {a b : List Str} {s : Sm} (h : Sm.Ok S a s) (k : ∀ x ∈ a, x ∈ b) : Sm.Ok S b s := by
  cases s with
  | flag w l v => exact h
  | skip n l v => exact h
  | deed s => exact k s h
def pcC : DSm := (sIf (tOf (eBin gGtD (eCallIo m__law_draw (aCons (eVar 0) (aCons (eC (.int 3)) (aNil)))) (eC (.int 0)))) (sSeq (sExpr (eLM gAppend (eVar 4) (aCons (eTup (aCons (eBin gAtT (eLst (aCons (eC (.str "clear")) (aCons (eC (.str "set")) (aNil)))) (eCallIo m__law_draw (aCons (eVar 0) (aCons (eC (.int 2)) (aNil))))) (aCons (eTup (aCons (eTup (aNil)) (aCons (eTup (aNil)) (aNil)))) (aNil)))) (aNil)))) sNil) (sNil))
theorem pc_clear {ob : Ob} (h : Tape ob) (S : List Int) (B : D) (left : List Str) (p : List Sm) (hp : p.length < 1000) (x5 x6 x7 x9 : Option SV) :
    ∃ (q : List Sm) (ob' : Ob), q.length ≤ 1 ∧ (∀ s ∈ q, Sm.Ok S [] s) ∧ Tape ob' ∧ pcC (PS ob S B left p x5 x6 x7 x9) = some (.nx, PS ob' S B left (p ++ q) x5 x6 x7 x9) := by
  obtain ⟨r, ob1, hr, t1, e1⟩ := drawN h (n := 3) (by decide) (by decide)
  have e1 : m__law_draw ob [.int 3] = some (.fz (.int (r : Int)), .own ob1) := e1
  by_cases c : 0 < r
  · obtain ⟨q, ob2, hq, t2, e2⟩ := drawN t1 (n := 2) (by decide) (by decide)
    have e2 : m__law_draw ob1 [.int 2] = some (.fz (.int (q : Int)), .own ob2) := e2
    have hw : ∃ w, gAtT (.lst [.str "clear", .str "set"]) (.int (q : Int)) = some (.fz (.str (wD w))) := by
      match q, hq with
      | 0, _ => exact ⟨0, rfl⟩
      | 1, _ => exact ⟨1, rfl⟩
    obtain ⟨w, ew⟩ := hw
    refine ⟨[.flag w [] []], ob2, Nat.le_refl _, fun s hs => ?_, t2, ?_⟩
    · rw [List.mem_singleton.mp hs]
      exact ⟨.nil, by simp, by decide, .nil⟩
    · have ha : ∀ d, gAppend (p.map Sm.d) [d] = some (.non, p.map Sm.d ++ [d]) := fun d => gAppend_ok d (by rw [List.length_map]; exact Nat.lt_trans hp (by decide))
      unfold pcC PS
      simp -implicitDefEqProofs [e1, e2, c, ew, ha, sizeLine, Sm.d]
      rfl
  · refine ⟨[], ob1, by simp, by simp, t1, ?_⟩
    have : r = 0 := by omega
    subst this
    unfold pcC PS
    simp -implicitDefEqProofs [e1]
abbrev pcI : DSm := (sFor (iR1 (aCons (eBin gAdd (eC (.int 1)) (eCallIo m__law_draw (aCons (eVar 0) (aCons (eC (.int 3)) (aNil))))) (aNil))) (gN 6) pcB)
theorem pc_inner {ob : Ob} (h : Tape ob) {S : List Int} (hS : Szs S) (h1 : 1 ≤ S.length) (B : D) (left : List Str) (p : List Sm) (hp : p.length < 900) (x5 x6 x7 x9 : Option SV) :
    ∃ (q : List Sm) (ob' : Ob) (y6 y7 y9 : Option SV), q.length ≤ 3 ∧ (∀ s ∈ q, Sm.Ok S [] s) ∧ Tape ob' ∧ pcI (PS ob S B left p x5 x6 x7 x9) = some (.nx, PS ob' S B left (p ++ q) x5 y6 y7 y9) := by
  obtain ⟨r, ob1, hr, t1, e1⟩ := drawN h (n := 3) (by decide) (by decide)
  have e1 : m__law_draw ob [.int 3] = some (.fz (.int (r : Int)), .own ob1) := e1
  have hs : small (1 + (r : Int)) = true := by
    unfold small
    rw [Bool.and_eq_true, decide_eq_true_eq, decide_eq_true_eq]
    omega
  obtain ⟨ds', ef, ob2, q, y6, y7, y9, t2, hq, hl, rfl⟩ := forL_N (g := gN 6) (b := pcB) 3
    (fun n ds => ∃ (ob : Ob) (q : List Sm) (x6 x7 x9 : Option SV), Tape ob ∧ (∀ s ∈ q, Sm.Ok S [] s) ∧ q.length = n ∧ ds = PS ob S B left (p ++ q) x5 x6 x7 x9)
    (l := rng 0 (1 + r)) (n := 0) (ds := PS ob1 S B left p x5 x6 x7 x9) (fun a ha n ds hN hds => by
      obtain ⟨ob, q, x6, x7, x9, t, hq, hl, rfl⟩ := hds
      obtain ⟨s, ob', y7, y9, hs, t', e⟩ := pc_turn t hS h1 B left (p ++ q) (by rw [List.length_append]; omega) a x5 x6 x7 x9
      exact ⟨_, e, ob', q ++ [s], some (.fz a), y7, y9, t', fun w hw => by
          rcases List.mem_append.mp hw with z | z
          · exact hq w z
          · rw [List.mem_singleton.mp z]; exact hs, by rw [List.length_append, List.length_singleton]; omega, by rw [List.append_assoc]⟩) ⟨ob1, [], x6, x7, x9, t1, by simp, rfl, by rw [List.append_nil]⟩ (by rw [rng0_len]; omega)
  rw [rng0_len] at hl
  refine ⟨q, ob2, y6, y7, y9, by omega, hq, t2, ?_⟩
  have ei : iR1 (aCons (eBin gAdd (eC (.int 1)) (eCallIo m__law_draw (aCons (eVar 0) (aCons (eC (.int 3)) (aNil))))) (aNil)) (PS ob S B left p x5 x6 x7 x9) = some (rng 0 (1 + r), PS ob1 S B left p x5 x6 x7 x9) := by
    unfold PS
    simp -implicitDefEqProofs [e1, hs, show (1 + (r : Int)).toNat = 1 + r by omega]
  unfold pcI
  rw [sFor_ap, ei]
  exact ef
abbrev pcA : DSm := sSeq (sSet 5 (eLM gPop (eVar 3) (aCons (eCallIo m__law_draw (aCons (eVar 0) (aCons (eCB gLenX (aCons (eVar 3) (aNil))) (aNil)))) (aNil)))) (sSeq pcC (sSeq pcI (sSeq (sExpr (eLM gAppend (eVar 4) (aCons (eTup (aCons (eC (.str "deed")) (aCons (eVar 5) (aNil)))) (aNil)))) sNil)))
theorem pc_round {ob : Ob} (h : Tape ob) {S : List Int} (hS : Szs S) (h1 : 1 ≤ S.length) (B : D) (left : List Str) (hl : 0 < left.length) (hz : left.length < 1000) (p : List Sm) (hp : p.length < 800) (x5 x6 x7 x9 : Option SV) :
    ∃ (q : List Sm) (ob' : Ob) (i : Nat) (y5 y6 y7 y9 : Option SV), q.length ≤ 5 ∧ i < left.length ∧ (∀ s ∈ q, Sm.Ok S left s) ∧ Tape ob' ∧ pcA (PS ob S B left p x5 x6 x7 x9) = some (.nx, PS ob' S B (left.eraseIdx i) (p ++ q) y5 y6 y7 y9) := by
  obtain ⟨r, ob1, hr, t1, e1⟩ := drawN h (n := left.length) hl (by omega)
  have ep := gPop_at D.str hr hz
  obtain ⟨q1, ob2, n2, k2, t2, e2⟩ := pc_clear t1 S B (left.eraseIdx r) p (by omega) (some (.fz (.str left[r]))) x6 x7 x9
  obtain ⟨q3, ob3, y6, y7, y9, n3, k3, t3, e3⟩ := pc_inner t2 hS h1 B (left.eraseIdx r) (p ++ q1) (by rw [List.length_append]; omega) (some (.fz (.str left[r]))) x6 x7 x9
  refine ⟨q1 ++ q3 ++ [.deed left[r]], ob3, r, some (.fz (.str left[r])), y6, y7, y9, by simp only [List.length_append, List.length_singleton]; omega, hr, fun s hs => ?_, t3, ?_⟩
  · rcases List.mem_append.mp hs with z | z
    · rcases List.mem_append.mp z with z | z
      · exact (k2 s z).mono (by simp)
      · exact (k3 s z).mono (by simp)
    · rw [List.mem_singleton.mp z]
      exact List.getElem_mem hr
  · unfold pcA
    rw [sSeq_nx (ds1 := PS ob1 S B (left.eraseIdx r) p (some (.fz (.str left[r]))) x6 x7 x9) (by
      unfold PS
      simp -implicitDefEqProofs [gLenX, gLen_lst, e1, ep]), sSeq_nx e2, sSeq_nx e3]
    have ha : ∀ d, gAppend ((p ++ q1 ++ q3).map Sm.d) [d] = some (.non, (p ++ q1 ++ q3).map Sm.d ++ [d]) := fun d => gAppend_ok d (by rw [List.length_map, List.length_append, List.length_append]; exact Nat.lt_trans (show _ < 1000 by omega) (by decide))
    have hm : (p ++ (q1 ++ q3 ++ [Sm.deed left[r]])).map Sm.d = (p ++ q1 ++ q3).map Sm.d ++ [.tup [.str "deed", .str left[r]]] := by
      rw [← List.append_assoc, ← List.append_assoc, List.map_append]
      rfl
    unfold PS
    rw [hm]
    generalize (p ++ q1 ++ q3).map Sm.d = PP at ha
    simp -implicitDefEqProofs [ha, sizeLine]
theorem pc_wh {S : List Int} (hS : Szs S) (h1 : 1 ≤ S.length) (B : D) : ∀ (n : Nat) (left : List Str) (ob : Ob) (p : List Sm) (x5 x6 x7 x9 : Option SV), Tape ob → left.length < n → left.length ≤ 100 → p.length + left.length * 5 ≤ 700 →
    ∃ (q : List Sm) (ob' : Ob) (y5 y6 y7 y9 : Option SV), q.length ≤ left.length * 5 ∧ (∀ s ∈ q, Sm.Ok S left s) ∧ Tape ob' ∧ sWhile n (tOf (eBin gGtD (eCB gLenX (aCons (eVar 3) (aNil))) (eC (.int 0)))) pcA (PS ob S B left p x5 x6 x7 x9) = some (.nx, PS ob' S B [] (p ++ q) y5 y6 y7 y9)
  | 0, left, _, _, _, _, _, _, _, hn, _, _ => absurd hn (by omega)
  | n + 1, left, ob, p, x5, x6, x7, x9, t, hn, hl, hp => by
    have et : tOf (eBin gGtD (eCB gLenX (aCons (eVar 3) (aNil))) (eC (.int 0))) (PS ob S B left p x5 x6 x7 x9) = some (decide (0 < left.length), PS ob S B left p x5 x6 x7 x9) := by
      unfold PS
      simp -implicitDefEqProofs [gLenX, gLen_lst]
    by_cases c : 0 < left.length
    · obtain ⟨q, ob1, i, y5, y6, y7, y9, n1, hi, k1, t1, e1⟩ := pc_round t hS h1 B left c (by omega) p (by omega) x5 x6 x7 x9
      have hle : (left.eraseIdx i).length = left.length - 1 := by rw [List.length_eraseIdx, if_pos hi]
      obtain ⟨q2, ob2, z5, z6, z7, z9, n2, k2, t2, e2⟩ := pc_wh hS h1 B n (left.eraseIdx i) ob1 (p ++ q) y5 y6 y7 y9 t1 (by omega) (by omega) (by rw [List.length_append, hle]; omega)
      refine ⟨q ++ q2, ob2, z5, z6, z7, z9, by rw [List.length_append]; omega, fun s hs => ?_, t2, ?_⟩
      · rcases List.mem_append.mp hs with z | z
        · exact k1 s z
        · exact (k2 s z).mono fun x hx => (List.eraseIdx_subset) hx
      · unfold sWhile wh
        rw [et]
        show (if decide (0 < left.length) = true then Option.bind (pcA _) _ else _) = _
        rw [if_pos (decide_eq_true c), e1, ← List.append_assoc]
        exact e2
    · have : left = [] := List.length_eq_zero_iff.mp (by omega)
      subst this
      refine ⟨[], ob, x5, x6, x7, x9, by simp, by simp, t, ?_⟩
      unfold sWhile wh
      rw [et, List.append_nil]
      rfl
theorem pieces_of {ob : Ob} (h : Tape ob) {S : List Int} (hS : Szs S) (h1 : 1 ≤ S.length) {nms : List Str} (hn : nms.length ≤ 20) :
    ∃ (p : List Sm) (ob' : Ob), (∀ s ∈ p, Sm.Ok S nms s) ∧ p.length ≤ 100 ∧ Tape ob' ∧ m__law_pieces ob [tupI S, .lst (nms.map D.str)] = some (.fz (.tup (p.map Sm.d)), .own ob') := by
  obtain ⟨q, ob', y5, y6, y7, y9, n1, k1, t1, e⟩ := pc_wh hS h1 (.lst (nms.map D.str)) fuel nms ob [] none none none none h (by unfold fuel; omega) (by omega) (by rw [List.length_nil]; omega)
  refine ⟨q, ob', k1, by omega, t1, ?_⟩
  unfold m__law_pieces dfnIo
  show Option.bind (g__law_pieces [some (.own ob), some (.fz (tupI S)), some (.fz (.lst (nms.map D.str))), none, none, none, none, none, none, none]) finIo = _
  have hg : g__law_pieces = sSeq (sPar 3 4 (aCons (eCB gListY (aCons (eVar 2) (aNil))) (aCons (eLst (aNil)) (aNil)))) (sSeq (sWhile fuel (tOf (eBin gGtD (eCB gLenX (aCons (eVar 3) (aNil))) (eC (.int 0)))) pcA) (sSeq (sRet (eCB gTuple (aCons (eVar 4) (aNil)))) sNil)) := rfl
  rw [hg, sSeq_nx (ds1 := PS ob S (.lst (nms.map D.str)) nms [] none none none none) (by kernel_rfl), sSeq_nx e]
  unfold PS
  simp -implicitDefEqProofs [finIo, fin]
end DL.Law
/-! D7: drawn controllers. -/
namespace DL.Law
open PySem PySem.Spec PyProof.Rows L2 DL
def NM : List Str := ["lamp", "bell", "go", "a", "b", "c"]
theorem twos_app {sz : List Int} {k : Nat} (h : Szs sz) (hk : sz.length + k ≤ 6) : Szs (sz ++ twos k) := ⟨fun n hn => by
  rcases List.mem_append.mp hn with q | q
  · exact h.rng n q
  · rw [List.eq_of_mem_replicate q]; omega, by rw [List.length_append, List.length_replicate]; exact hk⟩
theorem ctl_sz {ob : Ob} (h : Tape ob) : ∃ (sz : List Int) (ob' : Ob), Szs sz ∧ 1 ≤ sz.length ∧ sz.length ≤ 4 ∧ Tape ob' ∧
    sSet 2 (eSl (eCallIo m__law_sizes (aCons (eVar 0) (aCons (eBin gFdiv (eVar 1) (eC (.int 4))) (aNil)))) (oNone) (oSome (eC (.int 4)))) [some (.own ob), some (.fz (.int 96)), none, none, none] = some (.nx, [some (.own ob'), some (.fz (.int 96)), some (.fz (tupI sz)), none, none]) := by
  obtain ⟨sz, ob', h1, h2, t, e⟩ := sizes_of h 24
  have hl : (sz.take 4).length = min 4 sz.length := List.length_take
  refine ⟨sz.take 4, ob', ⟨fun n hn => h1.rng n (List.mem_of_mem_take hn), by have := h1.le; omega⟩, by omega, by omega, t, ?_⟩
  have q1 : gFdiv (.int 96) (.int 4) = some (.fz (.int 24)) := by kernel_rfl
  have hc : cutL (sz.map D.int) none (some 4) = (sz.take 4).map D.int := by
    unfold cutL HT.sIx
    simp
  have hv : R.val [some (.own ob'), some (.fz (.int 96)), none, none, none] (.fz (tupI sz)) = some (.tup (sz.map D.int)) := rfl
  simp -implicitDefEqProofs [q1, e, tupI, hc, -List.map_take]
theorem ctl_cells {ob : Ob} (h : Tape ob) {sz : List Int} (h4 : sz.length ≤ 4) : ∃ (k : Nat) (ob' : Ob), k ≤ 3 ∧ sz.length + k ≤ 6 ∧ Tape ob' ∧ ∀ g : DSm,
    sSeq (sSet 3 (eBin gAtT (eLst (aCons (eC (.int 0)) (aCons (eC (.int 1)) (aCons (eC (.int 1)) (aCons (eC (.int 2)) (aCons (eC (.int 2)) (aCons (eC (.int 3)) (aNil)))))))) (eCallIo m__law_draw (aCons (eVar 0) (aCons (eC (.int 6)) (aNil)))))) (sSeq (sSet 3 (eCB gMin2 (aCons (eVar 3) (aCons (eBin gSub (eC (.int 6)) (eCB gLenX (aCons (eVar 2) (aNil)))) (aNil))))) g) [some (.own ob), some (.fz (.int 96)), some (.fz (tupI sz)), none, none]
      = g [some (.own ob'), some (.fz (.int 96)), some (.fz (tupI sz)), some (.fz (.int (k : Nat))), none] := by
  obtain ⟨r, ob1, hr, t1, e1⟩ := draw6 h
  have hc : ∃ c : Nat, c ≤ 3 ∧ gAtT (.lst [.int 0, .int 1, .int 1, .int 2, .int 2, .int 3]) (.int (r : Int)) = some (.fz (.int (c : Nat))) := by
    match r, hr with
    | 0, _ => exact ⟨0, by decide, rfl⟩
    | 1, _ => exact ⟨1, by decide, rfl⟩
    | 2, _ => exact ⟨1, by decide, rfl⟩
    | 3, _ => exact ⟨2, by decide, rfl⟩
    | 4, _ => exact ⟨2, by decide, rfl⟩
    | 5, _ => exact ⟨3, by decide, rfl⟩
  obtain ⟨c, c3, ec⟩ := hc
  have hm : gMin2 [.int (c : Nat), .int (6 - (sz.length : Nat))] = some (.fz (.int ((min c (6 - sz.length) : Nat)))) := by
    show some (DL.R.fz (.int (if (6 - (sz.length : Nat) : Int) < (c : Nat) then (6 - (sz.length : Nat) : Int) else (c : Nat)))) = _
    congr 3
    by_cases q : (6 - (sz.length : Nat) : Int) < (c : Nat)
    · rw [if_pos q]; omega
    · rw [if_neg q]; omega
  refine ⟨min c (6 - sz.length), ob1, by omega, by omega, t1, fun g => ?_⟩
  rw [sSeq_nx (ds1 := [some (.own ob1), some (.fz (.int 96)), some (.fz (tupI sz)), some (.fz (.int (c : Nat))), none]) (by
    simp -implicitDefEqProofs [e1, ec, sizeLine])]
  rw [sSeq_nx (ds1 := [some (.own ob1), some (.fz (.int 96)), some (.fz (tupI sz)), some (.fz (.int ((min c (6 - sz.length) : Nat)))), none]) (by
    have hg : gSub (.int 6) (.int (sz.length : Nat)) = some (.fz (.int (6 - (sz.length : Nat)))) := rfl
    simp -implicitDefEqProofs [gLenX_tupI, hg, hm])]
def nmsL : Nat → List Str
  | 0 => ["lamp", "bell", "go"]
  | 1 => ["lamp", "bell", "go", "a", "a"]
  | 2 => ["lamp", "bell", "go", "a", "a", "b", "b"]
  | _ => ["lamp", "bell", "go", "a", "a", "b", "b", "c"]
def nmsD : Nat → List Str
  | 0 => ["lamp", "bell"]
  | 1 => ["a", "lamp", "bell"]
  | 2 => ["a", "b", "lamp", "bell"]
  | _ => ["a", "b", "c", "lamp", "bell"]
theorem k3 {P : Nat → Prop} (h0 : P 0) (h1 : P 1) (h2 : P 2) (h3 : P 3) {k : Nat} (h : k ≤ 3) : P k := by
  match k, h with
  | 0, _ => exact h0
  | 1, _ => exact h1
  | 2, _ => exact h2
  | 3, _ => exact h3
  | k + 4, h => omega
theorem nmsL_ok {k : Nat} (h : k ≤ 3) : (∀ s ∈ nmsL k, s ∈ NM) ∧ 0 < (nmsL k).length ∧ (nmsL k).length < 1000 := k3 (P := fun k => (∀ s ∈ nmsL k, s ∈ NM) ∧ 0 < (nmsL k).length ∧ (nmsL k).length < 1000) (by decide) (by decide) (by decide) (by decide) h
theorem nmsD_ok {k : Nat} (h : k ≤ 3) : (∀ s ∈ nmsD k, s ∈ NM) ∧ (nmsD k).length ≤ 20 := k3 (P := fun k => (∀ s ∈ nmsD k, s ∈ NM) ∧ (nmsD k).length ≤ 20) (by decide) (by decide) (by decide) (by decide) h
theorem ctl_names (a b c : Option SV) {k : Nat} (h : k ≤ 3) : sSet 4 (eBin gAdd (eLst (aCons (eC (.str "lamp")) (aCons (eC (.str "bell")) (aCons (eC (.str "go")) (aNil))))) (eSl (eLst (aCons (eC (.str "a")) (aCons (eC (.str "a")) (aCons (eC (.str "b")) (aCons (eC (.str "b")) (aCons (eC (.str "c")) (aNil))))))) (oNone) (oSome (eBin gAtT (eLst (aCons (eC (.int 0)) (aCons (eC (.int 2)) (aCons (eC (.int 4)) (aCons (eC (.int 5)) (aNil)))))) (eVar 3))))) [a, b, c, some (.fz (.int (k : Nat))), none]
    = some (.nx, [a, b, c, some (.fz (.int (k : Nat))), some (.own (.lst ((nmsL k).map D.str)))]) := by
  refine k3 (P := fun k => sSet 4 (eBin gAdd (eLst (aCons (eC (.str "lamp")) (aCons (eC (.str "bell")) (aCons (eC (.str "go")) (aNil))))) (eSl (eLst (aCons (eC (.str "a")) (aCons (eC (.str "a")) (aCons (eC (.str "b")) (aCons (eC (.str "b")) (aCons (eC (.str "c")) (aNil))))))) (oNone) (oSome (eBin gAtT (eLst (aCons (eC (.int 0)) (aCons (eC (.int 2)) (aCons (eC (.int 4)) (aCons (eC (.int 5)) (aNil)))))) (eVar 3))))) [a, b, c, some (.fz (.int (k : Nat))), none]
    = some (.nx, [a, b, c, some (.fz (.int (k : Nat))), some (.own (.lst ((nmsL k).map D.str)))])) ?_ ?_ ?_ ?_ h
  · kernel_rfl
  · kernel_rfl
  · kernel_rfl
  · kernel_rfl
def ctD : DX := (eBin gAdd (eSl (eLst (aCons (eC (.str "a")) (aCons (eC (.str "b")) (aCons (eC (.str "c")) (aNil))))) (oNone) (oSome (eVar 3))) (eLst (aCons (eC (.str "lamp")) (aCons (eC (.str "bell")) (aNil)))))
theorem ctD_of (a b c d : Option SV) {k : Nat} (h : k ≤ 3) : ctD [a, b, c, some (.fz (.int (k : Nat))), d] = some (.own (.lst ((nmsD k).map D.str)), [a, b, c, some (.fz (.int (k : Nat))), d]) := by
  refine k3 (P := fun k => ctD [a, b, c, some (.fz (.int (k : Nat))), d] = some (.own (.lst ((nmsD k).map D.str)), [a, b, c, some (.fz (.int (k : Nat))), d])) ?_ ?_ ?_ ?_ h
  · kernel_rfl
  · kernel_rfl
  · kernel_rfl
  · kernel_rfl
def ctM : DX := (eBin gAtT (eLst (aCons (eC (.int 8)) (aCons (eC (.int 14)) (aCons (eC (.int 22)) (aNil))))) (eCallIo m__law_draw (aCons (eVar 0) (aCons (eC (.int 3)) (aNil)))))
theorem ctM_of {ob : Ob} (h : Tape ob) (a b c d : Option SV) : ∃ (m : Nat) (ob' : Ob), m ≤ 900 ∧ Tape ob' ∧ ctM [some (.own ob), a, b, c, d] = some (.fz (.int (m : Nat)), [some (.own ob'), a, b, c, d]) := by
  obtain ⟨r, ob1, hr, t1, e1⟩ := drawN h (n := 3) (by decide) (by decide)
  have e1 : m__law_draw ob [.int 3] = some (.fz (.int (r : Int)), .own ob1) := e1
  have hw : ∃ m : Nat, m ≤ 900 ∧ gAtT (.lst [.int 8, .int 14, .int 22]) (.int (r : Int)) = some (.fz (.int (m : Nat))) := by
    match r, hr with
    | 0, _ => exact ⟨8, by decide, rfl⟩
    | 1, _ => exact ⟨14, by decide, rfl⟩
    | 2, _ => exact ⟨22, by decide, rfl⟩
  obtain ⟨m, hm, em⟩ := hw
  refine ⟨m, ob1, hm, t1, ?_⟩
  unfold ctM
  simp -implicitDefEqProofs [e1, em, sizeLine]
/-- sizes + (2,) * cells -/
def ctS : DX := (eBin gAdd (eVar 2) (eBin gMulX (eTup (aCons (eC (.int 2)) (aNil))) (eVar 3)))
theorem ctS_of (a b d : Option SV) {sz : List Int} {k : Nat} (h : sz.length + k ≤ 6) : ctS [a, b, some (.fz (tupI sz)), some (.fz (.int (k : Nat))), d] = some (.fz (tupI (sz ++ twos k)), [a, b, some (.fz (tupI sz)), some (.fz (.int (k : Nat))), d]) := by
  have e1 := gMul_twos (k := k) (by omega)
  have e2 := gAdd_tupI (x := sz) (s := twos k) (by rw [List.length_replicate]; exact Nat.le_trans h (by decide))
  unfold ctS
  simp -implicitDefEqProofs [e1, e2, sizeLine]
theorem ctl_split : g__law_controller = sSeq (sSet 2 (eSl (eCallIo m__law_sizes (aCons (eVar 0) (aCons (eBin gFdiv (eVar 1) (eC (.int 4))) (aNil)))) (oNone) (oSome (eC (.int 4))))) (sSeq (sSet 3 (eBin gAtT (eLst (aCons (eC (.int 0)) (aCons (eC (.int 1)) (aCons (eC (.int 1)) (aCons (eC (.int 2)) (aCons (eC (.int 2)) (aCons (eC (.int 3)) (aNil)))))))) (eCallIo m__law_draw (aCons (eVar 0) (aCons (eC (.int 6)) (aNil)))))) (sSeq (sSet 3 (eCB gMin2 (aCons (eVar 3) (aCons (eBin gSub (eC (.int 6)) (eCB gLenX (aCons (eVar 2) (aNil)))) (aNil))))) (sSeq (sSet 4 (eBin gAdd (eLst (aCons (eC (.str "lamp")) (aCons (eC (.str "bell")) (aCons (eC (.str "go")) (aNil))))) (eSl (eLst (aCons (eC (.str "a")) (aCons (eC (.str "a")) (aCons (eC (.str "b")) (aCons (eC (.str "b")) (aCons (eC (.str "c")) (aNil))))))) (oNone) (oSome (eBin gAtT (eLst (aCons (eC (.int 0)) (aCons (eC (.int 2)) (aCons (eC (.int 4)) (aCons (eC (.int 5)) (aNil)))))) (eVar 3))))))
    (sSeq (sIf (tOf (eBin gGtD (eCallIo m__law_draw (aCons (eVar 0) (aCons (eC (.int 4)) (aNil)))) (eC (.int 0)))) (sSeq (sRet (eTup (aCons (eVar 2) (aCons (eVar 3) (aCons (eCallIo m__law_pieces (aCons (eVar 0) (aCons ctS (aCons ctD (aNil))))) (aNil)))))) sNil) (sNil)) (sSeq (sRet (eTup (aCons (eVar 2) (aCons (eVar 3) (aCons (eCallIo m__law_statements (aCons (eVar 0) (aCons ctS (aCons (eVar 4) (aCons ctM (aNil)))))) (aNil)))))) sNil))))) := rfl
/-- a drawn controller -/
structure Drawn (sz : List Int) (k : Nat) (p : List Sm) : Prop where
  szs : Szs sz
  pos : 1 ≤ sz.length
  le4 : sz.length ≤ 4
  k3 : k ≤ 3
  cells : sz.length + k ≤ 6
  ok : ∀ s ∈ p, Sm.Ok (sz ++ twos k) NM s
  le : p.length ≤ 1000
theorem controller_of {ob : Ob} (h : Tape ob) : ∃ (sz : List Int) (k : Nat) (p : List Sm) (ob' : Ob), Drawn sz k p ∧ Tape ob' ∧ m__law_controller ob [.int 96] = some (.fz (cT sz k p), .own ob') := by
  obtain ⟨sz, ob1, h1, h2, h3, t1, e1⟩ := ctl_sz h
  obtain ⟨k, ob2, k1, k2, t2, e2⟩ := ctl_cells t1 h3
  have hS := twos_app h1 k2
  have hp : 1 ≤ (sz ++ twos k).length := by rw [List.length_append]; omega
  obtain ⟨r, ob3, hr, t3, e3⟩ := drawN t2 (n := 4) (by decide) (by decide)
  have e3 : m__law_draw ob2 [.int 4] = some (.fz (.int (r : Int)), .own ob3) := e3
  obtain ⟨d1, d2⟩ := nmsD_ok k1
  obtain ⟨l1, l2, l3⟩ := nmsL_ok k1
  have start : m__law_controller ob [.int 96] = Option.bind ((sSeq (sIf (tOf (eBin gGtD (eCallIo m__law_draw (aCons (eVar 0) (aCons (eC (.int 4)) (aNil)))) (eC (.int 0)))) (sSeq (sRet (eTup (aCons (eVar 2) (aCons (eVar 3) (aCons (eCallIo m__law_pieces (aCons (eVar 0) (aCons ctS (aCons ctD (aNil))))) (aNil)))))) sNil) (sNil)) (sSeq (sRet (eTup (aCons (eVar 2) (aCons (eVar 3) (aCons (eCallIo m__law_statements (aCons (eVar 0) (aCons ctS (aCons (eVar 4) (aCons ctM (aNil)))))) (aNil)))))) sNil)) [some (.own ob2), some (.fz (.int 96)), some (.fz (tupI sz)), some (.fz (.int (k : Nat))), some (.own (.lst ((nmsL k).map D.str)))]) finIo := by
    unfold m__law_controller dfnIo
    show Option.bind (g__law_controller [some (.own ob), some (.fz (.int 96)), none, none, none]) finIo = _
    rw [ctl_split, sSeq_nx e1, e2, sSeq_nx (ctl_names _ _ _ k1)]
  by_cases c : 0 < r
  · obtain ⟨p, ob4, p1, p2, t4, e4⟩ := pieces_of t3 hS hp d2
    refine ⟨sz, k, p, ob4, ⟨h1, h2, h3, k1, k2, fun s hs => (p1 s hs).mono d1, by omega⟩, t4, ?_⟩
    rw [start]
    have s1 := ctS_of (some (.own ob3)) (some (.fz (.int 96))) (some (.own (.lst ((nmsL k).map D.str)))) k2
    have s2 := ctD_of (some (.own ob3)) (some (.fz (.int 96))) (some (.fz (tupI sz))) (some (.own (.lst ((nmsL k).map D.str)))) k1
    simp -implicitDefEqProofs [e3, c, s1, s2, e4, sizeLine, finIo, fin, cT]
  · have hr0 : r = 0 := by omega
    subst hr0
    have s1 := ctS_of (some (.own ob3)) (some (.fz (.int 96))) (some (.own (.lst ((nmsL k).map D.str)))) k2
    obtain ⟨m, ob5, m1, t5, s2⟩ := ctM_of t3 (some (.fz (.int 96))) (some (.fz (tupI sz))) (some (.fz (.int (k : Nat)))) (some (.own (.lst ((nmsL k).map D.str))))
    obtain ⟨p, ob4, p1, p2, t4, e4⟩ := statements_of t5 hS hp l2 l3 m1
    refine ⟨sz, k, p, ob4, ⟨h1, h2, h3, k1, k2, fun s hs => (p1 s hs).mono l1, by omega⟩, t4, ?_⟩
    rw [start]
    simp -implicitDefEqProofs [e3, s1, s2, e4, sizeLine, finIo, fin, cT]
end DL.Law
/-! D8: drawn controllers are let. -/
namespace DL.Law
open PySem PySem.Spec PyProof.Rows L2 DL
theorem all_within {S : List Int} (h : Szs S) (a : Option SV) : ∀ w, w = [some (.fz (tupI S)), a] → eCB gAll (aCons (eLC (iOfX (eVar 0)) (gN 1) (bYes) (eCall m_is_within (aCons (eVar 1) (aCons (eC (.int 2)) (aCons (eC (.int 4)) (aNil))))) [1]) (aNil)) [some (.fz (tupI S)), none] = some (.fz (.bl true), [some (.fz (tupI S)), none]) := by
  intro w _
  have e := eLC_M (fi := iOfX (eVar 0)) (g := gN 1) (t := bYes) (f := eCall m_is_within (aCons (eVar 1) (aCons (eC (.int 2)) (aCons (eC (.int 4)) (aNil))))) (vs := [1]) (enc := D.int) (l := S) (fun _ => D.bl true)
    (ds := [some (.fz (tupI S)), none]) (ds1 := [some (.fz (tupI S)), none]) rfl rfl (Nat.le_trans h.le (by decide)) fun n hn => by
      obtain ⟨a, b⟩ := h.rng n hn
      simp -implicitDefEqProofs [lcB, within_of, a, b]
  have ea := gAll_map (fun _ : Int => true) S
  rw [show (S.all fun _ => true) = true from List.all_eq_true.mpr fun _ _ => rfl] at ea
  simp -implicitDefEqProofs [e, ea]
theorem tup_is (l : List D) : isiT "tuple" (.tup l) = some true := by kernel_rfl
theorem tupI_is (l : List Int) : isiT "tuple" (tupI l) = some true := tup_is _
theorem check_sizes_of {S : List Int} (h : Szs S) (h1 : 1 ≤ S.length) : m_check_sizes [tupI S] = some (.fz .non) := by
  unfold m_check_sizes dfn
  show Option.bind (g_check_sizes [some (.fz (tupI S)), none]) fin = _
  unfold g_check_sizes
  have hle := h.le
  have e := all_within h none _ rfl
  rw [sSeq_nx (ds1 := [some (.fz (tupI S)), none]) (by
    have a1 : (1 : Int) ≤ (S.length : Nat) := by omega
    have a2 : ((S.length : Nat) : Int) ≤ 6 := by omega
    simp -implicitDefEqProofs [tupI_is, gLenX_tupI, a1, a2])]
  rw [sSeq_nx (ds1 := [some (.fz (tupI S)), none]) (by
    rw [sIf_ap, bNot_ap, tOf_ap, e]
    simp)]
  rfl
theorem are_inputs_of {S : List Int} (h : Szs S) (h1 : 1 ≤ S.length) : m_are_inputs [tupI S] = some (.fz (.bl true)) := by
  unfold m_are_inputs dfn
  show Option.bind (g_are_inputs [some (.fz (tupI S)), none]) fin = _
  unfold g_are_inputs
  have hle := h.le
  have e := all_within h none _ rfl
  rw [sSeq_nx (ds1 := [some (.fz (tupI S)), none]) (by
    have a1 : (1 : Int) ≤ (S.length : Nat) := by omega
    have a2 : ((S.length : Nat) : Int) ≤ 6 := by omega
    simp -implicitDefEqProofs [tupI_is, gLenX_tupI, a1, a2])]
  rw [sSeq_ret (sRet_of e)]
  rfl
theorem is_pair_of (a b : D) : m_is_pair [.tup [a, b]] = some (.fz (.bl true)) := by
  unfold m_is_pair dfn
  show Option.bind (g_is_pair [some (.fz (.tup [a, b]))]) fin = _
  unfold g_is_pair
  have e : gLenX [.tup [a, b]] = some (.fz (.int 2)) := rfl
  simp -implicitDefEqProofs [tup_is, e]
  rfl
abbrev lotB : DSm := (sSeq (sIf (bNot (tOf (eCall m_is_within (aCons (eVar 3) (aCons (eBin gAdd (eVar 2) (eC (.int 1))) (aCons (eBin gSub (eVar 1) (eC (.int 1))) (aNil))))))) (sSeq (sRet (eC (.bl false))) sNil) (sNil)) (sSeq (sSet 2 (eVar 3)) sNil))
theorem lot_loop (A : D) (n : Int) : ∀ (l : List Int) (b : Int) (x : Option SV), l.Pairwise (· < ·) → (∀ p ∈ l, b < p ∧ p < n) → ∃ y z, forL (gN 3) lotB (l.map D.int) [some (.fz A), some (.fz (.int n)), some (.fz (.int b)), x] = some (.nx, [some (.fz A), some (.fz (.int n)), y, z])
  | [], b, x, _, _ => ⟨_, _, rfl⟩
  | p :: l, b, x, hp, h => by
    obtain ⟨h1, h2⟩ := List.pairwise_cons.mp hp
    obtain ⟨a1, a2⟩ := h p List.mem_cons_self
    obtain ⟨y, z, e⟩ := lot_loop A n l p (some (.fz (.int p))) h2 fun q hq => ⟨h1 q hq, (h q (List.mem_cons_of_mem _ hq)).2⟩
    refine ⟨y, z, ?_⟩
    rw [List.map_cons, foB_cons (ds1 := [some (.fz A), some (.fz (.int n)), some (.fz (.int p)), some (.fz (.int p))]), e]
    have b1 : b + 1 ≤ p := by omega
    have b2 : p ≤ n - 1 := by omega
    have g1 : gSub (.int n) (.int 1) = some (.fz (.int (n - 1))) := rfl
    have g2 : gAdd (.int b) (.int 1) = some (.fz (.int (b + 1))) := rfl
    simp -implicitDefEqProofs [foB, g1, g2, within_of, b1, b2]
theorem is_lot_of {S l v : List Int} (h : OkT S l v) : m_is_lot [tupI l, .int (S.length : Nat)] = some (.fz (.bl true)) := by
  unfold m_is_lot dfn
  show Option.bind (g_is_lot [some (.fz (tupI l)), some (.fz (.int (S.length : Nat))), none, none]) fin = _
  unfold g_is_lot
  obtain ⟨y, z, e⟩ := lot_loop (tupI l) (S.length : Nat) l (-1) none h.asc fun p hp => by have := h.rng p hp; omega
  rw [sSeq_nx (ds1 := [some (.fz (tupI l)), some (.fz (.int (S.length : Nat))), none, none]) (by simp -implicitDefEqProofs [tupI_is])]
  rw [sSeq_nx (ds1 := [some (.fz (tupI l)), some (.fz (.int (S.length : Nat))), some (.fz (.int (-1))), none]) (by simp -implicitDefEqProofs)]
  rw [sSeq_nx (ds1 := [some (.fz (tupI l)), some (.fz (.int (S.length : Nat))), y, z]) (by
    rw [sFor_ap, show iOfX (eVar 0) [some (.fz (tupI l)), some (.fz (.int (S.length : Nat))), some (.fz (.int (-1))), none] = some (l.map D.int, [some (.fz (tupI l)), some (.fz (.int (S.length : Nat))), some (.fz (.int (-1))), none]) by kernel_rfl]
    exact e)]
  rfl
theorem sizes_at_of {x l : List Int} (h : InL x.length l) : m_sizes_at [tupI x, tupI l] = some (.fz (tupI (at_ x l))) := by
  have e := eLC_M (fi := iOfX (eVar 1)) (g := gN 2) (t := bYes) (f := eBin gAtT (eVar 0) (eVar 2)) (vs := [2]) (enc := D.int) (fun p => D.int (x.getD p.toNat 0)) (ds := [some (.fz (tupI x)), some (.fz (tupI l)), none]) (ds1 := [some (.fz (tupI x)), some (.fz (tupI l)), none]) (l := l) rfl rfl (Nat.le_trans h.2 (by decide)) fun p hp => by
    simp -implicitDefEqProofs [lcB, joint_get (h.1 p hp)]
  unfold m_sizes_at dfn
  show Option.bind (g_sizes_at [some (.fz (tupI x)), some (.fz (tupI l)), none]) fin = _
  unfold g_sizes_at
  have hm : l.map (fun p => D.int (x.getD p.toNat 0)) = (at_ x l).map D.int := by
    unfold at_
    rw [List.map_map]
    rfl
  rw [hm] at e
  simp -implicitDefEqProofs [e]
  rfl
theorem OkT.inl {S l v : List Int} (h : OkT S l v) : InL S.length l := ⟨h.rng, h.le⟩
theorem is_test_of {S l v : List Int} (h : OkT S l v) : m_is_test [tupI S, .tup [tupI l, tupI v]] = some (.fz (.bl true)) := by
  unfold m_is_test dfn
  show Option.bind (g_is_test [some (.fz (tupI S)), some (.fz (.tup [tupI l, tupI v]))]) fin = _
  unfold g_is_test
  have hl := h.le
  rw [sSeq_nx (ds1 := [some (.fz (tupI S)), some (.fz (.tup [tupI l, tupI v]))]) (by
    have a1 : ¬ (3 : Int) < (l.length : Nat) := by omega
    simp -implicitDefEqProofs [is_pair_of, gLenX_tupI, is_lot_of h, a1, atI, ixN])]
  have hc := content_of h.val (by unfold at_; rw [List.length_map]; omega)
  simp -implicitDefEqProofs [sizes_at_of h.inl, hc, atI, ixN]
  rfl
theorem is_name_of {s : Str} (h : s ∈ NM) : m_is_name [.str s] = some (.fz (.bl true)) := by
  unfold NM at h
  simp only [List.mem_cons, List.not_mem_nil, or_false] at h
  rcases h with rfl | rfl | rfl | rfl | rfl | rfl
  · kernel_rfl
  · kernel_rfl
  · kernel_rfl
  · kernel_rfl
  · kernel_rfl
  · kernel_rfl
theorem str_is (s : Str) : isiT "str" (.str s) = some true := by kernel_rfl
theorem in_words (w : Nat) : gInS (.str (wD w)) (.tup [.str "set", .str "clear", .str "turn"]) = some (.fz (.bl true)) := by
  match w with
  | 0 => kernel_rfl
  | 1 => kernel_rfl
  | w + 2 => kernel_rfl
theorem is_statement_of {S : List Int} {s : Sm} (h : Sm.Ok S NM s) : m_is_statement [tupI S, s.d] = some (.fz (.bl true)) := by
  unfold m_is_statement dfn
  show Option.bind (g_is_statement [some (.fz (tupI S)), some (.fz s.d)]) fin = _
  unfold g_is_statement
  cases s with
  | flag w l v =>
    have e := is_test_of (show OkT S l v from h)
    have e2 : gLenX [.tup [.str (wD w), .tup [tupI l, tupI v]]] = some (.fz (.int 2)) := rfl
    unfold Sm.d
    simp -implicitDefEqProofs [tup_is, e2, str_is, w_de, w_sk, in_words, e, atI, ixN]
    rfl
  | skip n l v =>
    have e := is_test_of (show OkT S l v from h.2)
    have e2 : gLenX [.tup [.str "skip", .int n, .tup [tupI l, tupI v]]] = some (.fz (.int 3)) := rfl
    have b1 : 1 ≤ n := by rcases h.1 with q | q <;> omega
    have b2 : n ≤ 2 := by rcases h.1 with q | q <;> omega
    unfold Sm.d
    simp -implicitDefEqProofs [tup_is, e2, str_is, within_of, b1, b2, e, atI, ixN]
    rfl
  | deed s =>
    have e := is_name_of (show s ∈ NM from h)
    have e2 : gLenX [.tup [.str "deed", .str s]] = some (.fz (.int 2)) := rfl
    have e3 : (("deed" : Str) = "skip") = False := eq_false (by decide)
    unfold Sm.d
    simp -implicitDefEqProofs [tup_is, e2, e3, str_is, e, atI, ixN]
    rfl
end DL.Law
/-! D9: drawn controllers are made. -/
namespace DL.Law
open PySem PySem.Spec PyProof.Rows L2 DL
def ctE : DX := (eBin gAdd (eVar 1) (eBin gMulX (eTup (aCons (eC (.int 2)) (aNil))) (eVar 2)))
theorem ctE_of (a d : Option SV) {sz : List Int} {k : Nat} (h : sz.length + k ≤ 6) : ctE [a, some (.fz (tupI sz)), some (.fz (.int (k : Nat))), d] = some (.fz (tupI (sz ++ twos k)), [a, some (.fz (tupI sz)), some (.fz (.int (k : Nat))), d]) := by
  have e1 := gMul_twos (k := k) (by omega)
  have e2 := gAdd_tupI (x := sz) (s := twos k) (by rw [List.length_replicate]; exact Nat.le_trans h (by decide))
  unfold ctE
  simp -implicitDefEqProofs [e1, e2, sizeLine]
theorem enum_sm {p : List Sm} {d : D} (h : d ∈ enumD (p.map Sm.d)) : ∃ i s, s ∈ p ∧ d = .tup [.int i, s.d] := by
  obtain ⟨n, hn, e⟩ := List.mem_iff_getElem.mp h
  have e' : (enumD (p.map Sm.d))[n]? = some d := by rw [List.getElem?_eq_getElem hn, e]
  obtain ⟨x, h1, rfl⟩ := enumD_get e'
  rw [List.getElem?_map] at h1
  obtain ⟨y, h2, rfl⟩ := Option.map_eq_some_iff.mp h1
  exact ⟨_, y, List.mem_of_getElem? h2, rfl⟩
abbrev prB : DSm := (sSeq (sIf (bNot (tOf (eCall m_is_statement (aCons (eVar 1) (aCons (eVar 4) (aNil)))))) (sNo) (sNil)) sNil)
theorem program_init {S : List Int} (hS : Szs S) (h1 : 1 ≤ S.length) {p : List Sm} (h : ∀ s ∈ p, Sm.Ok S NM s) (hl : p.length ≤ 5000) : m_Program_init (.ins "Program" []) [tupI S, .tup (p.map Sm.d)] = some (.fz .non, .own (.ins "Program" [("sizes", tupI S), ("statements", .tup (p.map Sm.d))])) := by
  unfold m_Program_init dfnIo
  show Option.bind (g_Program_init [some (.own (.ins "Program" [])), some (.fz (tupI S)), some (.fz (.tup (p.map Sm.d))), none, none]) finIo = _
  unfold g_Program_init
  rw [sSeq_nx (ds1 := [some (.own (.ins "Program" [])), some (.fz (tupI S)), some (.fz (.tup (p.map Sm.d))), none, none]) (by simp -implicitDefEqProofs [check_sizes_of hS h1])]
  rw [sSeq_nx (ds1 := [some (.own (.ins "Program" [])), some (.fz (tupI S)), some (.fz (.tup (p.map Sm.d))), none, none]) (by
    have e : gLenX [.tup (p.map Sm.d)] = some (.fz (.int (p.length : Nat))) := by
      show some (DL.R.fz (.int ((p.map Sm.d).length : Nat))) = _
      rw [List.length_map]
    have a1 : ¬ (5000 : Int) < (p.length : Nat) := by omega
    simp -implicitDefEqProofs [tup_is, e, a1])]
  obtain ⟨ds', ef, x3, x4, rfl⟩ := forL_N (g := gTp (gCons' (gN 3) (gCons' (gN 4) (gNil')))) (b := prB) (enumD (p.map Sm.d)).length
    (fun _ ds => ∃ x3 x4, ds = [some (.own (.ins "Program" [])), some (.fz (tupI S)), some (.fz (.tup (p.map Sm.d))), x3, x4]) (l := enumD (p.map Sm.d)) (n := 0) (ds := [some (.own (.ins "Program" [])), some (.fz (tupI S)), some (.fz (.tup (p.map Sm.d))), none, none])
    (fun a ha n ds _ hds => by
      obtain ⟨x3, x4, rfl⟩ := hds
      obtain ⟨i, s, hs, rfl⟩ := enum_sm ha
      refine ⟨[some (.own (.ins "Program" [])), some (.fz (tupI S)), some (.fz (.tup (p.map Sm.d))), some (.fz (.int i)), some (.fz s.d)], ?_, _, _, rfl⟩
      simp -implicitDefEqProofs [foB, is_statement_of (h s hs)]) ⟨none, none, rfl⟩ (by omega)
  rw [sSeq_nx (ds1 := [some (.own (.ins "Program" [])), some (.fz (tupI S)), some (.fz (.tup (p.map Sm.d))), x3, x4]) (by
    rw [sFor_ap, show iEnumD (aCons (eVar 2) (aNil)) [some (.own (.ins "Program" [])), some (.fz (tupI S)), some (.fz (.tup (p.map Sm.d))), none, none] = some (enumD (p.map Sm.d), [some (.own (.ins "Program" [])), some (.fz (tupI S)), some (.fz (.tup (p.map Sm.d))), none, none]) by kernel_rfl]
    exact ef)]
  kernel_rfl
theorem bOr_ff {f g : DB} {ds d1 d2 : DS} (h1 : f ds = some (false, d1)) (h2 : g d1 = some (false, d2)) : bOr f g ds = some (false, d2) := by
  unfold bOr
  rw [h1]
  exact h2
theorem sIf_ff {t : DB} {f g : DSm} {ds d1 : DS} {r : Option (Fl × DS)} (h : t ds = some (false, d1)) (h2 : g d1 = r) : sIf t f g ds = r := by
  unfold sIf
  rw [h]
  exact h2
theorem sIf_tt {t : DB} {f g : DSm} {ds d1 : DS} {r : Option (Fl × DS)} (h : t ds = some (true, d1)) (h2 : f d1 = r) : sIf t f g ds = r := by
  unfold sIf
  rw [h]
  exact h2
theorem controller_init {sz : List Int} {k : Nat} {p : List Sm} (h : Drawn sz k p) : m_Controller_init (.ins "Controller" []) [tupI sz, .int (k : Nat), pD (sz ++ twos k) p] = some (.fz .non, .own (.ins "Controller" [("sizes", tupI sz), ("cells", .int (k : Nat)), ("program", pD (sz ++ twos k) p)])) := by
  unfold m_Controller_init dfnIo
  show Option.bind (g_Controller_init [some (.own (.ins "Controller" [])), some (.fz (tupI sz)), some (.fz (.int (k : Nat))), some (.fz (pD (sz ++ twos k) p))]) finIo = _
  unfold g_Controller_init
  have hc := h.cells
  have e0 : (.fz (pD (sz ++ twos k) p) : SV) = .fz (pD (sz ++ twos k) p) := rfl
  generalize hP : some (SV.fz (pD (sz ++ twos k) p)) = P
  rw [sSeq_nx (ds1 := [some (.own (.ins "Controller" [])), some (.fz (tupI sz)), some (.fz (.int (k : Nat))), P]) (by simp -implicitDefEqProofs [are_inputs_of h.szs h.pos])]
  rw [sSeq_nx (ds1 := [some (.own (.ins "Controller" [])), some (.fz (tupI sz)), some (.fz (.int (k : Nat))), P]) (by
    have a1 : (0 : Int) ≤ (k : Nat) := by omega
    have a2 : ((k : Nat) : Int) ≤ 6 - (sz.length : Nat) := by omega
    have g1 : gSub (.int 6) (.int (sz.length : Nat)) = some (.fz (.int (6 - (sz.length : Nat)))) := rfl
    simp -implicitDefEqProofs [gLenX_tupI, g1, within_of, a1, a2])]
  subst hP
  rw [sSeq_nx (ds1 := [some (.own (.ins "Controller" [])), some (.fz (tupI sz)), some (.fz (.int (k : Nat))), some (.fz (pD (sz ++ twos k) p))]) (by
    have e1 := ctE_of (some (.own (.ins "Controller" []))) (some (.fz (pD (sz ++ twos k) p))) hc
    have e2 : eFld "Program" "sizes" (eVar 3) [some (.own (.ins "Controller" [])), some (.fz (tupI sz)), some (.fz (.int (k : Nat))), some (.fz (pD (sz ++ twos k) p))] = some (.fz (tupI (sz ++ twos k)), [some (.own (.ins "Controller" [])), some (.fz (tupI sz)), some (.fz (.int (k : Nat))), some (.fz (pD (sz ++ twos k) p))]) := by kernel_rfl
    have e3 : eIsO "Program" (eVar 3) [some (.own (.ins "Controller" [])), some (.fz (tupI sz)), some (.fz (.int (k : Nat))), some (.fz (pD (sz ++ twos k) p))] = some (.fz (.bl true), [some (.own (.ins "Controller" [])), some (.fz (tupI sz)), some (.fz (.int (k : Nat))), some (.fz (pD (sz ++ twos k) p))]) := by kernel_rfl
    have e4 : eBin gNeD (eFld "Program" "sizes" (eVar 3)) ctE [some (.own (.ins "Controller" [])), some (.fz (tupI sz)), some (.fz (.int (k : Nat))), some (.fz (pD (sz ++ twos k) p))] = some (.fz (.bl false), [some (.own (.ins "Controller" [])), some (.fz (tupI sz)), some (.fz (.int (k : Nat))), some (.fz (pD (sz ++ twos k) p))]) := by
      rw [eBin_ap, e2, bind_some', e1]
      simp -implicitDefEqProofs [gNe_same (Sp.tupI (sz ++ twos k)) (by decide)]
    have b1 : bNot (tOf (eIsO "Program" (eVar 3))) [some (.own (.ins "Controller" [])), some (.fz (tupI sz)), some (.fz (.int (k : Nat))), some (.fz (pD (sz ++ twos k) p))] = some (false, [some (.own (.ins "Controller" [])), some (.fz (tupI sz)), some (.fz (.int (k : Nat))), some (.fz (pD (sz ++ twos k) p))]) := by
      rw [bNot_ap, tOf_ap, e3]
      rfl
    have b2 : tOf (eBin gNeD (eFld "Program" "sizes" (eVar 3)) ctE) [some (.own (.ins "Controller" [])), some (.fz (tupI sz)), some (.fz (.int (k : Nat))), some (.fz (pD (sz ++ twos k) p))] = some (false, [some (.own (.ins "Controller" [])), some (.fz (tupI sz)), some (.fz (.int (k : Nat))), some (.fz (pD (sz ++ twos k) p))]) := by
      rw [tOf_ap, e4]
      rfl
    exact sIf_ff (bOr_ff b1 b2) rfl)]
  kernel_rfl
def mkP : DX := (eMake "Program" m_Program_init (aCons (eBin gAdd (eVar 1) (eBin gMulX (eTup (aCons (eC (.int 2)) (aNil))) (eVar 2))) (aCons (eVar 3) (aNil))))
theorem mkP_of (a : Option SV) {sz : List Int} {k : Nat} {p : List Sm} (h : Drawn sz k p) : mkP [a, some (.fz (tupI sz)), some (.fz (.int (k : Nat))), some (.fz (.tup (p.map Sm.d)))] = some (.own (.ins "Program" [("sizes", tupI (sz ++ twos k)), ("statements", .tup (p.map Sm.d))]), [a, some (.fz (tupI sz)), some (.fz (.int (k : Nat))), some (.fz (.tup (p.map Sm.d)))]) := by
  have e1 := ctE_of a (some (.fz (.tup (p.map Sm.d)))) h.cells
  have hS := twos_app h.szs h.cells
  have hp : 1 ≤ (sz ++ twos k).length := by have := h.pos; rw [List.length_append]; omega
  have e2 := program_init hS hp h.ok (Nat.le_trans h.le (by decide))
  have e3 : aCons (eBin gAdd (eVar 1) (eBin gMulX (eTup (aCons (eC (.int 2)) (aNil))) (eVar 2))) (aCons (eVar 3) (aNil)) [a, some (.fz (tupI sz)), some (.fz (.int (k : Nat))), some (.fz (.tup (p.map Sm.d)))] = some ([.fz (tupI (sz ++ twos k)), .fz (.tup (p.map Sm.d))], [a, some (.fz (tupI sz)), some (.fz (.int (k : Nat))), some (.fz (.tup (p.map Sm.d)))]) := by
    show aCons ctE (aCons (eVar 3) (aNil)) _ = _
    rw [aCons_ap, e1]
    rfl
  unfold mkP
  rw [eMake_ap, e3, bind_some']
  show Option.bind (some _) _ = _
  rw [bind_some', e2]
  rfl
theorem made_of {sz : List Int} {k : Nat} {p : List Sm} (h : Drawn sz k p) : m__law_made [cT sz k p] = some (.own (.ins "Controller" [("sizes", tupI sz), ("cells", .int (k : Nat)), ("program", pD (sz ++ twos k) p)])) := by
  unfold m__law_made dfn
  show Option.bind (g__law_made [some (.fz (cT sz k p)), none, none, none]) fin = _
  have hg : g__law_made = sSeq (sAsg (eVar 0) (gTp (gCons' (gN 1) (gCons' (gN 2) (gCons' (gN 3) (gNil')))))) (sSeq (sRet (eMake "Controller" m_Controller_init (aCons (eVar 1) (aCons (eVar 2) (aCons mkP (aNil)))))) sNil) := rfl
  rw [hg, sSeq_nx (ds1 := [some (.fz (cT sz k p)), some (.fz (tupI sz)), some (.fz (.int (k : Nat))), some (.fz (.tup (p.map Sm.d)))]) (by kernel_rfl)]
  have e1 := mkP_of (some (.fz (cT sz k p))) h
  have e2 := controller_init h
  have e3 : aCons (eVar 1) (aCons (eVar 2) (aCons mkP (aNil))) [some (.fz (cT sz k p)), some (.fz (tupI sz)), some (.fz (.int (k : Nat))), some (.fz (.tup (p.map Sm.d)))] = some ([.fz (tupI sz), .fz (.int (k : Nat)), .own (.ins "Program" [("sizes", tupI (sz ++ twos k)), ("statements", .tup (p.map Sm.d))])], [some (.fz (cT sz k p)), some (.fz (tupI sz)), some (.fz (.int (k : Nat))), some (.fz (.tup (p.map Sm.d)))]) := by
    rw [aCons_ap, show eVar 1 [some (.fz (cT sz k p)), some (.fz (tupI sz)), some (.fz (.int (k : Nat))), some (.fz (.tup (p.map Sm.d)))] = some (.fz (tupI sz), [some (.fz (cT sz k p)), some (.fz (tupI sz)), some (.fz (.int (k : Nat))), some (.fz (.tup (p.map Sm.d)))]) from rfl, bind_some', aCons_ap]
    rw [show eVar 2 [some (.fz (cT sz k p)), some (.fz (tupI sz)), some (.fz (.int (k : Nat))), some (.fz (.tup (p.map Sm.d)))] = some (.fz (.int (k : Nat)), [some (.fz (cT sz k p)), some (.fz (tupI sz)), some (.fz (.int (k : Nat))), some (.fz (.tup (p.map Sm.d)))]) from rfl, bind_some', aCons_ap, e1]
    rfl
  have e4 : eMake "Controller" m_Controller_init (aCons (eVar 1) (aCons (eVar 2) (aCons mkP (aNil)))) [some (.fz (cT sz k p)), some (.fz (tupI sz)), some (.fz (.int (k : Nat))), some (.fz (.tup (p.map Sm.d)))] = some (.own (.ins "Controller" [("sizes", tupI sz), ("cells", .int (k : Nat)), ("program", pD (sz ++ twos k) p)]), [some (.fz (cT sz k p)), some (.fz (tupI sz)), some (.fz (.int (k : Nat))), some (.fz (.tup (p.map Sm.d)))]) := by
    rw [eMake_ap, e3, bind_some']
    show Option.bind (some ([tupI sz, D.int (k : Nat), pD (sz ++ twos k) p], _)) _ = _
    rw [bind_some', e2]
    rfl
  rw [sSeq_ret (sRet_of e4)]
  rfl
theorem Drawn.ct {sz : List Int} {k : Nat} {p : List Sm} (h : Drawn sz k p) : Ct sz k p where
  szs := h.szs
  pos := h.pos
  cells := h.cells
  pg := by
    have hl : (sz ++ twos k).length = sz.length + k := by rw [List.length_append, List.length_replicate]
    refine ⟨fun s hs => ?_, fun s hs => ?_, Nat.le_trans h.le (by decide)⟩
    · have := h.ok s hs
      cases s with
      | flag w l v => rw [← hl]; exact OkT.inl (show OkT _ l v from this)
      | skip n l v => rw [← hl]; exact OkT.inl (show OkT _ l v from this.2)
      | deed s => exact trivial
    · have : s ∈ NM := h.ok _ hs
      unfold NM at this
      simp only [List.mem_cons, List.not_mem_nil, or_false] at this
      rcases this with rfl | rfl | rfl | rfl | rfl | rfl <;> decide
end DL.Law
/-! C10: the states that come about. -/
namespace DL.Law
open PySem PySem.Spec PyProof.Rows L2 DL
abbrev zeros (k : Nat) : List Int := List.replicate k 0
theorem gMul_zeros {k : Nat} (h : k ≤ 1000) : gMulX (.tup [.int 0]) (.int (k : Nat)) = some (.fz (tupI (zeros k))) := by
  unfold gMulX
  dsimp only
  rw [if_pos (by unfold okRep; simp; omega), Int.toNat_natCast]
  congr 3
  show (List.replicate k [D.int 0]).flatten = _
  induction k with
  | zero => rfl
  | succ k ih =>
    rw [List.replicate_succ, List.flatten_cons, ih (by omega)]
    rfl
theorem zeros_in : ∀ k : Nat, InC (twos k) (zeros k)
  | 0 => .nil
  | k + 1 => by
    rw [twos, zeros, List.replicate_succ, List.replicate_succ]
    exact .cons (by decide) (by decide) (zeros_in k)
/-- all states -/
theorem inC_prod' : ∀ {sz x : List Int}, InC sz x → ∀ (rows : List (List Int)) (h : List Int), h ∈ rows → h ++ x ∈ sz.foldl prodS rows := by
  intro sz x hx
  induction hx with
  | nil => intro rows h m; rw [List.append_nil]; exact m
  | @cons n v sz x a b _ ih =>
    intro rows h m
    rw [List.foldl_cons, show h ++ v :: x = (h ++ [v]) ++ x by rw [List.append_assoc]; rfl]
    refine ih _ _ (List.mem_flatMap.mpr ⟨h, m, List.mem_map.mpr ⟨v.toNat, List.mem_range.mpr (by omega), ?_⟩⟩)
    rw [Int.toNat_of_nonneg a]
theorem inC_prod {sz x : List Int} (h : InC sz x) : x ∈ prodL sz := inC_prod' h [[]] [] (List.mem_singleton.mpr rfl)
theorem prodL_len {sz : List Int} (h : Szs sz) : (prodL sz).length ≤ 4096 := by
  have h1 := prod_len sz [[]] h.rng
  have h2 := pow4 h.le
  have h3 : ([[]] : List (List Int)).length = 1 := rfl
  rw [h3] at h1
  unfold prodL
  omega
theorem twos_len {k : Nat} (h : k ≤ 5) : (prodL (twos k)).length ≤ 32 := k5 (P := fun k => (prodL (twos k)).length ≤ 32) (by decide) (by decide) (by decide) (by decide) (by decide) (by decide +kernel) h
def succOf (sz : List Int) (k : Nat) (p : List Sm) (s : List Int) : List (List Int) := (prodL sz).map (nextOf k p s)
def statesL (sz : List Int) (k : Nat) (p : List Sm) : List (List Int) := (work (succOf sz k p) fuel [zeros k] [zeros k]).getD []
theorem succ_in {sz : List Int} {k : Nat} {p : List Sm} (h : k ≤ 5) (x : List Int) : ∀ y ∈ succOf sz k p x, y ∈ prodL (twos k) := fun y hy => by
  obtain ⟨c, _, rfl⟩ := List.mem_map.mp hy
  exact inC_prod (state_in _ _ h)
theorem init_inv (k : Nat) : WInv (prodL (twos k)) [zeros k] [zeros k] :=
  ⟨List.nodup_cons.mpr ⟨by simp, List.nodup_nil⟩, fun x hx => by rw [List.mem_singleton.mp hx]; exact inC_prod (zeros_in k), fun x hx => by rw [List.mem_singleton.mp hx]; exact inC_prod (zeros_in k)⟩
theorem states_work (sz : List Int) {k : Nat} (p : List Sm) (h : k ≤ 5) : work (succOf sz k p) fuel [zeros k] [zeros k] = some (statesL sz k p) ∧ (statesL sz k p).Nodup ∧ ∀ x ∈ statesL sz k p, InC (twos k) x := by
  obtain ⟨K, e, nd, hs⟩ := work_ends (succ := succOf sz k p) (U := prodL (twos k)) (fun x _ => succ_in h x) fuel [zeros k] [zeros k] (init_inv k) (by
    have := twos_len h
    simp only [List.length_singleton]
    unfold fuel
    omega)
  unfold statesL
  rw [e]
  exact ⟨rfl, nd, fun x hx => prod_inC (hs x hx)⟩
/-! ### the program's -/
theorem first_of {sz : List Int} {k : Nat} {S : List Int} {p : List Sm} (h : k ≤ 5) : m_first_state [cD sz k S p] = some (.fz (tupI (zeros k))) := by
  unfold m_first_state dfn
  show Option.bind (g_first_state [some (.fz (cD sz k S p))]) fin = _
  unfold g_first_state
  have e1 : eFld "Controller" "cells" (eVar 0) [some (.fz (cD sz k S p))] = some (.fz (.int (k : Nat)), [some (.fz (cD sz k S p))]) := by kernel_rfl
  have e2 : eBin gMulX (eTup (aCons (eC (.int 0)) (aNil))) (eFld "Controller" "cells" (eVar 0)) [some (.fz (cD sz k S p))] = some (.fz (tupI (zeros k)), [some (.fz (cD sz k S p))]) := by
    rw [eBin_ap, show eTup (aCons (eC (.int 0)) (aNil)) [some (.fz (cD sz k S p))] = some (.fz (.tup [.int 0]), [some (.fz (cD sz k S p))]) by kernel_rfl, bind_some', e1]
    simp [gMul_zeros (show k ≤ 1000 by omega)]
  rw [sSeq_ret (sRet_of e2)]
  rfl
def stS (C : D) (k w : List (List Int)) (a b c : Option SV) : DS := [some (.fz C), some (.own (.lst (w.map tupI))), some (.own (.dct .t (kdT k))), a, b, c]
theorem vis_turn {C : D} {kk : Nat} {p : List Sm} {s x : List Int} (h : m_scan_of [C, tupI s, tupI x] = some (.fz (scanD kk p s x))) {k w : List (List Int)} (hk : k.length < 5000) (hw : w.length < 5000) (b c : Option SV) :
    foB (gN 4) (sSeq (sSet 5 (eBin gAtT (eCall m_scan_of (aCons (eVar 0) (aCons (eVar 3) (aCons (eVar 4) (aNil))))) (eC (.int 0)))) (sSeq (sIf (tOf (eBin gNotInS (eVar 5) (eVar 2))) (sSeq (sPutT (eVar 2) (eVar 5) (eC (.bl true))) (sSeq (sExpr (eLM gAppend (eVar 1) (aCons (eVar 5) (aNil)))) sNil)) (sNil)) sNil)) (tupI x) (stS C k w (some (.fz (tupI s))) b c)
      = some (.nx, stS C (vis (k, w) (nextOf kk p s x)).1 (vis (k, w) (nextOf kk p s x)).2 (some (.fz (tupI s))) (some (.fz (tupI x))) (some (.fz (tupI (nextOf kk p s x))))) := by
  have e2 : gAtT (scanD kk p s x) (.int 0) = some (.fz (tupI (nextOf kk p s x))) := by kernel_rfl
  have e3 : gNotInS (tupI (nextOf kk p s x)) (.dct .t (kdT k)) = some (.fz (.bl (!decide (nextOf kk p s x ∈ k)))) := gNotIn_kdT k _
  unfold stS vis
  by_cases c : nextOf kk p s x ∈ k
  · simp [foB, h, e2, e3, c]
  · have e4 := put_kdT c (Nat.lt_of_lt_of_le hk (by decide))
    have e5 := gAppend_ok (l := w.map tupI) (tupI (nextOf kk p s x)) (by rw [List.length_map]; exact Nat.lt_of_lt_of_le hw (by decide))
    simp [foB, h, e2, e3, e4, e5, c]
theorem vis_le {k w : List (List Int)} (y : List Int) : (vis (k, w) y).1.length ≤ k.length + 1 ∧ (vis (k, w) y).2.length ≤ w.length + 1 := by
  unfold vis
  by_cases c : y ∈ k
  · rw [if_pos c]; exact ⟨Nat.le_succ _, Nat.le_succ _⟩
  · rw [if_neg c]; simp
theorem vis_loop {C : D} {sz : List Int} {kk : Nat} {p : List Sm} {s : List Int} (h : ∀ x, InC sz x → m_scan_of [C, tupI s, tupI x] = some (.fz (scanD kk p s x))) : ∀ (xs : List (List Int)) (k w : List (List Int)) (b c : Option SV), (∀ x ∈ xs, InC sz x) → k.length + xs.length ≤ 5000 → w.length + xs.length ≤ 5000 →
    ∃ b' c', forL (gN 4) (sSeq (sSet 5 (eBin gAtT (eCall m_scan_of (aCons (eVar 0) (aCons (eVar 3) (aCons (eVar 4) (aNil))))) (eC (.int 0)))) (sSeq (sIf (tOf (eBin gNotInS (eVar 5) (eVar 2))) (sSeq (sPutT (eVar 2) (eVar 5) (eC (.bl true))) (sSeq (sExpr (eLM gAppend (eVar 1) (aCons (eVar 5) (aNil)))) sNil)) (sNil)) sNil)) (xs.map tupI) (stS C k w (some (.fz (tupI s))) b c)
      = some (.nx, stS C ((xs.map (nextOf kk p s)).foldl vis (k, w)).1 ((xs.map (nextOf kk p s)).foldl vis (k, w)).2 (some (.fz (tupI s))) b' c')
  | [], k, w, b, c, _, _, _ => ⟨b, c, rfl⟩
  | x :: xs, k, w, b, c, hx, hk, hw => by
    rw [List.length_cons] at hk hw
    have hv := vis_le (k := k) (w := w) (nextOf kk p s x)
    have e := vis_turn (k := k) (w := w) (h x (hx x List.mem_cons_self)) (by omega) (by omega) b c
    obtain ⟨b', c', e'⟩ := vis_loop h xs (vis (k, w) (nextOf kk p s x)).1 (vis (k, w) (nextOf kk p s x)).2 (some (.fz (tupI x))) (some (.fz (tupI (nextOf kk p s x)))) (fun y m => hx y (List.mem_cons_of_mem _ m)) (by omega) (by omega)
    exact ⟨b', c', by rw [List.map_cons, foB_cons e, e']; rfl⟩
theorem wait_t {C : D} (k w : List (List Int)) (a b c : Option SV) : tOf (eBin gGtD (eCB gLenX (aCons (eVar 1) (aNil))) (eC (.int 0))) (stS C k w a b c) = some (decide (w ≠ []), stS C k w a b c) := by
  have e : gLenX [.lst (w.map tupI)] = some (.fz (.int (w.length : Nat))) := by
    show some (R.fz (.int ((w.map tupI).length : Nat))) = _
    rw [List.length_map]
  unfold stS
  simp [e]
  cases w with
  | nil => rfl
  | cons x w => simp
theorem states_of_ok {sz : List Int} {k : Nat} {S : List Int} {p : List Sm} (c : Ct sz k p) : m_states_of [cD sz k S p] = some (.own (.lst ((sortT (statesL sz k p)).map tupI))) := by
  unfold m_states_of dfn
  show Option.bind (g_states_of [some (.fz (cD sz k S p)), none, none, none, none, none]) fin = _
  unfold g_states_of
  obtain ⟨we, wn, wi⟩ := states_work sz p c.k5
  rw [sSeq_nx (ds1 := [some (.fz (cD sz k S p)), some (.own (.lst [tupI (zeros k)])), none, none, none, none]) (by simp [first_of c.k5, sizeLine])]
  rw [sSeq_nx (ds1 := stS (cD sz k S p) [zeros k] [zeros k] none none none) (by
    have ek : keyKs [(tupI (zeros k), D.bl true)] = none := by kernel_rfl
    have et : ∃ l, keyTs [(tupI (zeros k), D.bl true)] = some l ∧ l.length = 1 ∧ mergeTD [] l = [(tupI (zeros k), .bl true)] := by
      obtain ⟨kk, e⟩ := (Kt.tupI (zeros k)).k8
      refine ⟨[(kk, tupI (zeros k), .bl true)], ?_, rfl, rfl⟩
      show Option.bind (nk8 _) _ = _
      rw [e]
      rfl
    obtain ⟨l, et, el, em⟩ := et
    simp [atI, ixN, ek, et, el, em]
    rfl)]
  obtain ⟨ds', e, hds⟩ := sWhile_work (succ := succOf sz k p) (U := prodL (twos k)) (t := tOf (eBin gGtD (eCB gLenX (aCons (eVar 1) (aNil))) (eC (.int 0))))
    (f := (sSeq (sSet 3 (eLM gPop (eVar 1) aNil)) (sSeq (sFor (iOfX (eCall m_tuples_of (aCons (eFld "Controller" "sizes" (eVar 0)) (aNil)))) (gN 4) (sSeq (sSet 5 (eBin gAtT (eCall m_scan_of (aCons (eVar 0) (aCons (eVar 3) (aCons (eVar 4) (aNil))))) (eC (.int 0)))) (sSeq (sIf (tOf (eBin gNotInS (eVar 5) (eVar 2))) (sSeq (sPutT (eVar 2) (eVar 5) (eC (.bl true))) (sSeq (sExpr (eLM gAppend (eVar 1) (aCons (eVar 5) (aNil)))) sNil)) (sNil)) sNil))) sNil)))
    (fun kn w ds => w.length ≤ kn.length ∧ ∃ a b c', ds = stS (cD sz k S p) kn w a b c') (fun x _ => succ_in c.k5 x)
    (fun kn w ds hs => by
      obtain ⟨hl, a, b, c', rfl⟩ := hs
      exact ⟨_, wait_t kn w a b c', hl, a, b, c', rfl⟩)
    (fun kn w x ds hi hx hs => by
      obtain ⟨hl, a, b, c', rfl⟩ := hs
      have hkn : kn.length ≤ 32 := Nat.le_trans (nodup_sub hi.nd hi.sub) (twos_len c.k5)
      have hpl := prodL_len c.szs
      rw [List.length_append, List.length_singleton] at hl
      obtain ⟨b', c'', e⟩ := vis_loop (C := cD sz k S p) (sz := sz) (kk := k) (p := p) (s := x) (fun y hy => c.scan (S := S) (prod_inC hx) hy) (prodL sz) kn w b c' (fun y hy => prod_inC hy) (by omega) (by omega)
      have hlen := viss_len (succOf sz k p x) kn w
      refine ⟨stS (cD sz k S p) ((succOf sz k p x).foldl vis (kn, w)).1 ((succOf sz k p x).foldl vis (kn, w)).2 (some (.fz (tupI x))) b' c'', ?_, by omega, some (.fz (tupI x)), b', c'', rfl⟩
      rw [sSeq_nx (ds1 := stS (cD sz k S p) kn w (some (.fz (tupI x))) b c') (by
        unfold stS
        have ep := gPop_last (l := w.map tupI) (tupI x)
        simp [ep])]
      rw [sSeq_nx (ds1 := stS (cD sz k S p) ((succOf sz k p x).foldl vis (kn, w)).1 ((succOf sz k p x).foldl vis (kn, w)).2 (some (.fz (tupI x))) b' c'') (by
        have e1 : eFld "Controller" "sizes" (eVar 0) (stS (cD sz k S p) kn w (some (.fz (tupI x))) b c') = some (.fz (tupI sz), stS (cD sz k S p) kn w (some (.fz (tupI x))) b c') := by kernel_rfl
        have e2 : eCall m_tuples_of (aCons (eFld "Controller" "sizes" (eVar 0)) (aNil)) (stS (cD sz k S p) kn w (some (.fz (tupI x))) b c') = some (.own (.lst ((prodL sz).map tupI)), stS (cD sz k S p) kn w (some (.fz (tupI x))) b c') := by
          rw [eCall_ap, aCons_ap, e1, bind_some']
          simp [tuples_of c.szs]
        have e3 : iOfX (eCall m_tuples_of (aCons (eFld "Controller" "sizes" (eVar 0)) (aNil))) (stS (cD sz k S p) kn w (some (.fz (tupI x))) b c') = some ((prodL sz).map tupI, stS (cD sz k S p) kn w (some (.fz (tupI x))) b c') := by
          rw [iOfX_ap, iOf_ap, e2]
          rfl
        rw [sFor_ap, e3]
        exact e)]
      rfl)
    fuel [zeros k] [zeros k] (stS (cD sz k S p) [zeros k] [zeros k] none none none) (statesL sz k p) (init_inv k) ⟨Nat.le_refl _, none, none, none, rfl⟩ we
  obtain ⟨_, a, b, c', rfl⟩ := hds
  rw [sSeq_nx (ds1 := stS (cD sz k S p) (statesL sz k p) [] a b c') e]
  have hlen : (statesL sz k p).length ≤ 32 := Nat.le_trans (nodup_sub wn fun x hx => inC_prod (wi x hx)) (twos_len c.k5)
  have ho : okSortX ((statesL sz k p).map tupI) = true := okSortX_tupI (by
    match k, c, wi, wn with
    | 0, c, wi, wn =>
      refine .inr ?_
      have := nodup_sub (u := [[]]) wn fun x hx => by
        cases wi x hx
        exact List.mem_singleton.mpr rfl
      exact this
    | k + 1, c, wi, wn =>
      refine .inl fun a ha e => ?_
      subst e
      cases wi _ ha) (sz4 (by omega))
  have hg : gSortedX [.dct .t (kdT (statesL sz k p))] = some (.own (.lst ((sortT (statesL sz k p)).map tupI))) := by
    show (if okSortX ((kdT (statesL sz k p)).map (·.1)) = true then some (R.own (.lst (sortI ((kdT (statesL sz k p)).map (·.1))))) else none) = _
    rw [kdT_keys, if_pos ho, sortI_tupI]
  unfold stS
  simp [hg]
  rfl
end DL.Law
set_option maxHeartbeats 4000000
/-! printed by gen2.py: the meanings of the law's own defs -/
namespace DL.Law
open PySem PySem.Spec PyProof.Rows L2 DL
def g__law_reached : DSm := sSeq (sSet 1 (eBin gMulX (eTup (aCons (eC (.int 0)) (aNil))) (eBin gAtT (eVar 0) (eC (.int 1))))) (sSeq (sSet 2 (eDispX (pCons (eVar 1) (eC (.bl true)) (pNil)))) (sSeq (sSet 3 (eLst (aCons (eVar 1) (aNil)))) (sSeq (sWhile fuel (tOf (eBin gGtD (eCB gLenX (aCons (eVar 3) (aNil))) (eC (.int 0)))) (sSeq (sSet 4 (eLM gPop (eVar 3) aNil)) (sSeq (sFor (iOfX (eCall m__law_contents (aCons (eBin gAtT (eVar 0) (eC (.int 0))) (aNil)))) (gN 5) (sSeq (sSet 6 (eBin gAtT (eCall m__law_scan (aCons (eVar 0) (aCons (eVar 4) (aCons (eVar 5) (aNil))))) (eC (.int 0)))) (sSeq (sIf (tOf (eBin gNotInS (eVar 6) (eVar 2))) (sSeq (sPutT (eVar 2) (eVar 6) (eC (.bl true))) (sSeq (sExpr (eLM gAppend (eVar 3) (aCons (eVar 6) (aNil)))) sNil)) (sNil)) sNil))) sNil))) (sSeq (sRet (eCB gSortedX (aCons (eCB gListY (aCons (eVar 2) (aNil))) (aNil)))) sNil))))
def m__law_reached : List D → Option SV := dfn 1 7 g__law_reached
def g__law_settled : DSm := sSeq (sSet 3 (eLst (aNil))) (sSeq (sWhile fuel (tOf (eBin gNotInS (eVar 1) (eVar 3))) (sSeq (sExpr (eLM gAppend (eVar 3) (aCons (eVar 1) (aNil)))) (sSeq (sSet 1 (eBin gAtT (eCall m__law_scan (aCons (eVar 0) (aCons (eVar 1) (aCons (eVar 2) (aNil))))) (eC (.int 0)))) sNil))) (sSeq (sRet (eTup (aCons (eRM gIndex (eVar 3) (aCons (eVar 1) (aNil))) (aCons (eBin gSub (eCB gLenX (aCons (eVar 3) (aNil))) (eRM gIndex (eVar 3) (aCons (eVar 1) (aNil)))) (aNil))))) sNil))
def m__law_settled : List D → Option SV := dfn 3 4 g__law_settled
def g_law : DSm := sSeq (sSet 1 (eCall m__law_hand (aCons (eVar 0) (aNil)))) (sSeq (sFor (iR1 (aCons (eC (.int 3)) (aNil))) (gN 2) (sSeq (sSet 3 (eCallIo m__law_controller (aCons (eVar 1) (aCons (eC (.int 96)) (aNil))))) (sSeq (sAsg (eVar 3) (gTp (gCons' (gN 4) (gCons' (gN 5) (gCons' (gN 6) (gNil')))))) (sSeq (sSet 7 (eCall m__law_made (aCons (eVar 3) (aNil)))) (sSeq (sAsg (eTup (aCons (eCall m__law_contents (aCons (eVar 4) (aNil))) (aCons (eCall m__law_contents (aCons (eBin gMulX (eTup (aCons (eC (.int 2)) (aNil))) (eVar 5)) (aNil))) (aNil)))) (gTp (gCons' (gN 8) (gCons' (gN 9) (gNil'))))) (sSeq (sSet 10 (eBin gAtT (eVar 9) (eCallIo m__law_draw (aCons (eVar 1) (aCons (eCB gLenX (aCons (eVar 9) (aNil))) (aNil)))))) (sSeq (sSet 11 (eLC (iR1 (aCons (eCallIo m__law_draw (aCons (eVar 1) (aCons (eC (.int 61)) (aNil)))) (aNil))) (gN 12) (bYes) (eBin gAtT (eVar 8) (eCallIo m__law_draw (aCons (eVar 1) (aCons (eCB gLenX (aCons (eVar 8) (aNil))) (aNil))))) [12])) (sSeq (sSet 13 (eLst (aNil))) (sSeq (sSet 14 (eVar 10)) (sSeq (sFor (iOfX (eVar 11)) (gN 15) (sSeq (sExpr (eLM gAppend (eVar 13) (aCons (eCall m__law_scan (aCons (eVar 3) (aCons (eVar 14) (aCons (eVar 15) (aNil))))) (aNil)))) (sSeq (sSet 14 (eBin gAtT (eBin gAtT (eVar 13) (eNeg (eC (.int 1)))) (eC (.int 0)))) sNil))) (sSeq (sIf (bOr (tOf (eBin gNeD (eCall m_scanned (aCons (eVar 7) (aCons (eVar 10) (aCons (eVar 11) (aNil))))) (eVar 13))) (tOf (eBin gNeD (eCall m_scanned (aCons (eVar 7) (aCons (eVar 10) (aCons (eCB gTuple (aCons (eVar 11) (aNil))) (aNil))))) (eVar 13)))) (sSeq (sRet (eC (.bl false))) sNil) (sNil)) (sSeq (sSet 16 (eBin gFdiv (eCB gLenX (aCons (eVar 11) (aNil))) (eC (.int 2)))) (sSeq (sIf (bAnd (tOf (eBin gGtD (eVar 16) (eC (.int 0)))) (tOf (eBin gNeD (eCall m_scanned (aCons (eVar 7) (aCons (eBin gAtT (eBin gAtT (eVar 13) (eBin gSub (eVar 16) (eC (.int 1)))) (eC (.int 0))) (aCons (eSl (eVar 11) (oSome (eVar 16)) (oNone)) (aNil))))) (eSl (eVar 13) (oSome (eVar 16)) (oNone))))) (sSeq (sRet (eC (.bl false))) sNil) (sNil)) (sSeq (sSet 15 (eBin gAtT (eVar 8) (eCallIo m__law_draw (aCons (eVar 1) (aCons (eCB gLenX (aCons (eVar 8) (aNil))) (aNil)))))) (sSeq (sIf (tOf (eBin gNeD (eCall m_scan (aCons (eVar 7) (aCons (eVar 10) (aCons (eVar 15) (aNil))))) (eCall m__law_scan (aCons (eVar 3) (aCons (eVar 10) (aCons (eVar 15) (aNil))))))) (sSeq (sRet (eC (.bl false))) sNil) (sNil)) (sSeq (sIf (tOf (eBin gNeD (eCall m_states (aCons (eVar 7) (aNil))) (eCall m__law_reached (aCons (eVar 3) (aNil))))) (sSeq (sRet (eC (.bl false))) sNil) (sNil)) (sSeq (sIf (tOf (eBin gNeD (eCall m_settled (aCons (eVar 7) (aCons (eVar 10) (aCons (eVar 15) (aNil))))) (eCall m__law_settled (aCons (eVar 3) (aCons (eVar 10) (aCons (eVar 15) (aNil))))))) (sSeq (sRet (eC (.bl false))) sNil) (sNil)) (sSeq (sIf (tOf (eBin gNeD (eCall m_steady (aCons (eVar 7) (aCons (eVar 15) (aNil)))) (eLC (iOfX (eVar 9)) (gN 17) (tOf (eBin gEqD (eBin gAtT (eCall m__law_scan (aCons (eVar 3) (aCons (eVar 17) (aCons (eVar 15) (aNil))))) (eC (.int 0))) (eVar 17))) (eVar 17) [17]))) (sSeq (sRet (eC (.bl false))) sNil) (sNil)) (sSeq (sIf (tOf (eBin gNeD (eTup (aCons (eFld "Controller" "sizes" (eVar 7)) (aCons (eFld "Controller" "cells" (eVar 7)) (aCons (eFld "Program" "statements" (eFld "Controller" "program" (eVar 7))) (aNil))))) (eVar 3))) (sSeq (sRet (eC (.bl false))) sNil) (sNil)) sNil))))))))))))))))))) (sSeq (sRet (eC (.bl true))) sNil))
def m_law : List D → Option SV := dfn 1 18 g_law
end DL.Law
/-! C11: the states that come about, the law's. -/
namespace DL.Law
open PySem PySem.Spec PyProof.Rows L2 DL
def rcS (T Z : D) (k w : List (List Int)) (a b c : Option SV) : DS := [some (.fz T), some (.fz Z), some (.own (.dct .t (kdT k))), some (.own (.lst (w.map tupI))), a, b, c]
abbrev rcI : DSm := (sSeq (sSet 6 (eBin gAtT (eCall m__law_scan (aCons (eVar 0) (aCons (eVar 4) (aCons (eVar 5) (aNil))))) (eC (.int 0)))) (sSeq (sIf (tOf (eBin gNotInS (eVar 6) (eVar 2))) (sSeq (sPutT (eVar 2) (eVar 6) (eC (.bl true))) (sSeq (sExpr (eLM gAppend (eVar 3) (aCons (eVar 6) (aNil)))) sNil)) (sNil)) sNil))
theorem rc_turn {T Z : D} {kk : Nat} {p : List Sm} {s x : List Int} (h : m__law_scan [T, tupI s, tupI x] = some (.fz (scanD kk p s x))) {k w : List (List Int)} (hk : k.length < 5000) (hw : w.length < 5000) (b c : Option SV) :
    foB (gN 5) rcI (tupI x) (rcS T Z k w (some (.fz (tupI s))) b c)
      = some (.nx, rcS T Z (vis (k, w) (nextOf kk p s x)).1 (vis (k, w) (nextOf kk p s x)).2 (some (.fz (tupI s))) (some (.fz (tupI x))) (some (.fz (tupI (nextOf kk p s x))))) := by
  have e2 : gAtT (scanD kk p s x) (.int 0) = some (.fz (tupI (nextOf kk p s x))) := by kernel_rfl
  have e3 : gNotInS (tupI (nextOf kk p s x)) (.dct .t (kdT k)) = some (.fz (.bl (!decide (nextOf kk p s x ∈ k)))) := gNotIn_kdT k _
  unfold rcS vis
  by_cases c : nextOf kk p s x ∈ k
  · simp [foB, h, e2, e3, c]
  · have e4 := put_kdT c (Nat.lt_of_lt_of_le hk (by decide))
    have e5 := gAppend_ok (l := w.map tupI) (tupI (nextOf kk p s x)) (by rw [List.length_map]; exact Nat.lt_of_lt_of_le hw (by decide))
    simp [foB, h, e2, e3, e4, e5, c]
theorem rc_loop {T Z : D} {sz : List Int} {kk : Nat} {p : List Sm} {s : List Int} (h : ∀ x, InC sz x → m__law_scan [T, tupI s, tupI x] = some (.fz (scanD kk p s x))) : ∀ (xs : List (List Int)) (k w : List (List Int)) (b c : Option SV), (∀ x ∈ xs, InC sz x) → k.length + xs.length ≤ 5000 → w.length + xs.length ≤ 5000 →
    ∃ b' c', forL (gN 5) rcI (xs.map tupI) (rcS T Z k w (some (.fz (tupI s))) b c)
      = some (.nx, rcS T Z ((xs.map (nextOf kk p s)).foldl vis (k, w)).1 ((xs.map (nextOf kk p s)).foldl vis (k, w)).2 (some (.fz (tupI s))) b' c')
  | [], k, w, b, c, _, _, _ => ⟨b, c, rfl⟩
  | x :: xs, k, w, b, c, hx, hk, hw => by
    rw [List.length_cons] at hk hw
    have hv := vis_le (k := k) (w := w) (nextOf kk p s x)
    have e := rc_turn (Z := Z) (k := k) (w := w) (h x (hx x List.mem_cons_self)) (by omega) (by omega) b c
    obtain ⟨b', c', e'⟩ := rc_loop (Z := Z) h xs (vis (k, w) (nextOf kk p s x)).1 (vis (k, w) (nextOf kk p s x)).2 (some (.fz (tupI x))) (some (.fz (tupI (nextOf kk p s x)))) (fun y m => hx y (List.mem_cons_of_mem _ m)) (by omega) (by omega)
    exact ⟨b', c', by rw [List.map_cons, foB_cons e, e']; rfl⟩
theorem rc_t {T Z : D} (k w : List (List Int)) (a b c : Option SV) : tOf (eBin gGtD (eCB gLenX (aCons (eVar 3) (aNil))) (eC (.int 0))) (rcS T Z k w a b c) = some (decide (w ≠ []), rcS T Z k w a b c) := by
  have e : gLenX [.lst (w.map tupI)] = some (.fz (.int (w.length : Nat))) := by
    show some (R.fz (.int ((w.map tupI).length : Nat))) = _
    rw [List.length_map]
  unfold rcS
  simp [e]
  cases w with
  | nil => rfl
  | cons x w => simp
/-- a loop over the law's contents -/
theorem it_contents {sz : List Int} (h : Szs sz) {f : DX} {ds : DS} (hf : f ds = some (.fz (tupI sz), ds)) : iOfX (eCall m__law_contents (aCons f (aNil))) ds = some ((prodL sz).map tupI, ds) := by
  obtain ⟨o, e | e⟩ := law_contents_of h
  · have e2 : eCall m__law_contents (aCons f (aNil)) ds = some (.fz (.lst ((prodL sz).map tupI)), ds) := by
      rw [eCall_ap, aCons_ap, hf, bind_some']
      simp [e]
    rw [iOfX_ap, iOf_ap, e2]
    rfl
  · have e2 : eCall m__law_contents (aCons f (aNil)) ds = some (.own (.lst ((prodL sz).map tupI)), ds) := by
      rw [eCall_ap, aCons_ap, hf, bind_some']
      simp [e]
    rw [iOfX_ap, iOf_ap, e2]
    rfl
theorem states_len {sz : List Int} {k : Nat} {p : List Sm} (c : Ct sz k p) : (statesL sz k p).length ≤ 32 ∧ okSortX ((statesL sz k p).map tupI) = true := by
  obtain ⟨_, wn, wi⟩ := states_work sz p c.k5
  have hlen : (statesL sz k p).length ≤ 32 := Nat.le_trans (nodup_sub wn fun x hx => inC_prod (wi x hx)) (twos_len c.k5)
  refine ⟨hlen, okSortX_tupI ?_ (sz4 (by omega))⟩
  match k, c, wi, wn with
  | 0, c, wi, wn =>
    refine .inr ?_
    have := nodup_sub (u := [[]]) wn fun x hx => by
      cases wi x hx
      exact List.mem_singleton.mpr rfl
    exact this
  | k + 1, c, wi, wn =>
    refine .inl fun a ha e => ?_
    subst e
    cases wi _ ha
theorem disp_one (z : List Int) : keyKs [(tupI z, D.bl true)] = none ∧ ∃ l, keyTs [(tupI z, D.bl true)] = some l ∧ l.length = 1 ∧ mergeTD [] l = [(tupI z, .bl true)] := by
  refine ⟨by kernel_rfl, ?_⟩
  obtain ⟨kk, e⟩ := (Kt.tupI z).k8
  refine ⟨[(kk, tupI z, .bl true)], ?_, rfl, rfl⟩
  show Option.bind (nk8 _) _ = _
  rw [e]
  rfl
theorem reached_of {sz : List Int} {k : Nat} {p : List Sm} (c : Ct sz k p) : m__law_reached [cT sz k p] = some (.own (.lst ((sortT (statesL sz k p)).map tupI))) := by
  unfold m__law_reached dfn
  show Option.bind (g__law_reached [some (.fz (cT sz k p)), none, none, none, none, none, none]) fin = _
  unfold g__law_reached
  obtain ⟨we, wn, wi⟩ := states_work sz p c.k5
  rw [sSeq_nx (ds1 := [some (.fz (cT sz k p)), some (.fz (tupI (zeros k))), none, none, none, none, none]) (by
    have e1 : gAtT (cT sz k p) (.int 1) = some (.fz (.int (k : Nat))) := by kernel_rfl
    have := gMul_zeros (show k ≤ 1000 by have := c.k5; omega)
    simp [e1, this, sizeLine])]
  rw [sSeq_nx (ds1 := [some (.fz (cT sz k p)), some (.fz (tupI (zeros k))), some (.own (.dct .t [(tupI (zeros k), .bl true)])), none, none, none, none]) (by
    obtain ⟨ek, l, et, el, em⟩ := disp_one (zeros k)
    simp [ek, et, el, em])]
  rw [sSeq_nx (ds1 := rcS (cT sz k p) (tupI (zeros k)) [zeros k] [zeros k] none none none) (by
    simp [sizeLine]
    rfl)]
  obtain ⟨ds', e, hds⟩ := sWhile_work (succ := succOf sz k p) (U := prodL (twos k)) (t := tOf (eBin gGtD (eCB gLenX (aCons (eVar 3) (aNil))) (eC (.int 0))))
    (f := (sSeq (sSet 4 (eLM gPop (eVar 3) aNil)) (sSeq (sFor (iOfX (eCall m__law_contents (aCons (eBin gAtT (eVar 0) (eC (.int 0))) (aNil)))) (gN 5) rcI) sNil)))
    (fun kn w ds => w.length ≤ kn.length ∧ ∃ a b c', ds = rcS (cT sz k p) (tupI (zeros k)) kn w a b c') (fun x _ => succ_in c.k5 x)
    (fun kn w ds hs => by
      obtain ⟨hl, a, b, c', rfl⟩ := hs
      exact ⟨_, rc_t kn w a b c', hl, a, b, c', rfl⟩)
    (fun kn w x ds hi hx hs => by
      obtain ⟨hl, a, b, c', rfl⟩ := hs
      have hkn : kn.length ≤ 32 := Nat.le_trans (nodup_sub hi.nd hi.sub) (twos_len c.k5)
      have hpl := prodL_len c.szs
      rw [List.length_append, List.length_singleton] at hl
      obtain ⟨b', c'', e⟩ := rc_loop (T := cT sz k p) (Z := tupI (zeros k)) (sz := sz) (kk := k) (p := p) (s := x) (fun y hy => c.lscan (prod_inC hx) hy) (prodL sz) kn w b c' (fun y hy => prod_inC hy) (by omega) (by omega)
      have hlen := viss_len (succOf sz k p x) kn w
      refine ⟨rcS (cT sz k p) (tupI (zeros k)) ((succOf sz k p x).foldl vis (kn, w)).1 ((succOf sz k p x).foldl vis (kn, w)).2 (some (.fz (tupI x))) b' c'', ?_, by omega, some (.fz (tupI x)), b', c'', rfl⟩
      rw [sSeq_nx (ds1 := rcS (cT sz k p) (tupI (zeros k)) kn w (some (.fz (tupI x))) b c') (by
        unfold rcS
        have ep := gPop_last (l := w.map tupI) (tupI x)
        simp [ep])]
      rw [sSeq_nx (ds1 := rcS (cT sz k p) (tupI (zeros k)) ((succOf sz k p x).foldl vis (kn, w)).1 ((succOf sz k p x).foldl vis (kn, w)).2 (some (.fz (tupI x))) b' c'') (by
        have e1 : eBin gAtT (eVar 0) (eC (.int 0)) (rcS (cT sz k p) (tupI (zeros k)) kn w (some (.fz (tupI x))) b c') = some (.fz (tupI sz), rcS (cT sz k p) (tupI (zeros k)) kn w (some (.fz (tupI x))) b c') := by kernel_rfl
        rw [sFor_ap, it_contents c.szs e1]
        exact e)]
      rfl)
    fuel [zeros k] [zeros k] (rcS (cT sz k p) (tupI (zeros k)) [zeros k] [zeros k] none none none) (statesL sz k p) (init_inv k) ⟨Nat.le_refl _, none, none, none, rfl⟩ we
  obtain ⟨_, a, b, c', rfl⟩ := hds
  rw [sSeq_nx (ds1 := rcS (cT sz k p) (tupI (zeros k)) (statesL sz k p) [] a b c') e]
  obtain ⟨hlen, ho⟩ := states_len c
  have hg : gSortedX [.lst ((statesL sz k p).map tupI)] = some (.own (.lst ((sortT (statesL sz k p)).map tupI))) := by
    show (if okSortX ((statesL sz k p).map tupI) = true then some (R.own (.lst (sortI ((statesL sz k p).map tupI)))) else none) = _
    rw [if_pos ho, sortI_tupI]
  have hL : gListY [.dct .t (kdT (statesL sz k p))] = some (.own (.lst ((statesL sz k p).map tupI))) := by
    show some (R.own (.lst ((kdT (statesL sz k p)).map (·.1)))) = _
    rw [kdT_keys]
  unfold rcS
  simp [hg, hL]
  rfl
theorem states_ok {sz : List Int} {k : Nat} {S : List Int} {p : List Sm} (c : Ct sz k p) : m_states [cD sz k S p] = some (.own (.lst ((sortT (statesL sz k p)).map tupI))) := by
  unfold m_states dfn
  show Option.bind (g_states [some (.fz (cD sz k S p))]) fin = _
  unfold g_states
  simp [states_of_ok (S := S) c]
  rfl
end DL.Law
/-! C12: where it settles. -/
namespace DL.Law
open PySem PySem.Spec PyProof.Rows L2 DL
def stl (nx : List Int → List Int) : Nat → List (List Int) → List Int → Option (List (List Int) × List Int)
  | 0, _, _ => none
  | n + 1, row, s => if s ∈ row then some (row, s) else stl nx n (row ++ [s]) (nx s)
theorem stl_ends {nx : List Int → List Int} {U : List (List Int)} (hU : ∀ s ∈ U, nx s ∈ U) : ∀ (n : Nat) (row : List (List Int)) (s : List Int), row.Nodup → (∀ x ∈ row, x ∈ U) → s ∈ U → U.length < n + row.length → ∃ R t, stl nx n row s = some (R, t) ∧ t ∈ R ∧ R.Nodup ∧ ∀ x ∈ R, x ∈ U
  | 0, row, s, nd, hr, _, hn => by
    have := nodup_sub nd hr
    omega
  | n + 1, row, s, nd, hr, hs, hn => by
    unfold stl
    by_cases c : s ∈ row
    · rw [if_pos c]; exact ⟨row, s, rfl, c, nd, hr⟩
    · rw [if_neg c]
      refine stl_ends hU n _ _ ?_ ?_ (hU s hs) (by rw [List.length_append, List.length_singleton]; omega)
      · rw [List.nodup_append]
        exact ⟨nd, by simp, fun a ha b hb => by rw [List.mem_singleton.mp hb]; exact fun e => c (e ▸ ha)⟩
      · intro x hx
        rcases List.mem_append.mp hx with q | q
        · exact hr x q
        · rw [List.mem_singleton.mp q]; exact hs
theorem wh_stl {nx : List Int → List Int} {U : List (List Int)} {t : DB} {f : DSm} (St : List (List Int) → List Int → DS → Prop) (hU : ∀ s ∈ U, nx s ∈ U)
    (ht : ∀ row s ds, St row s ds → ∃ ds', t ds = some (!decide (s ∈ row), ds') ∧ St row s ds')
    (hf : ∀ row s ds, row.Nodup → (∀ x ∈ row, x ∈ U) → s ∈ U → s ∉ row → St row s ds → ∃ ds', f ds = some (.nx, ds') ∧ St (row ++ [s]) (nx s) ds') :
    ∀ (n : Nat) (row : List (List Int)) (s : List Int) (ds : DS) (R : List (List Int)) (t' : List Int), row.Nodup → (∀ x ∈ row, x ∈ U) → s ∈ U → St row s ds → stl nx n row s = some (R, t') → ∃ ds', sWhile n t f ds = some (.nx, ds') ∧ St R t' ds'
  | 0, _, _, _, _, _, _, _, _, _, e => by cases e
  | n + 1, row, s, ds, R, t', nd, hr, hs, h, e => by
    unfold stl at e
    obtain ⟨ds1, e1, s1⟩ := ht row s ds h
    by_cases c : s ∈ row
    · rw [if_pos c] at e
      cases e
      refine ⟨ds1, ?_, s1⟩
      unfold sWhile wh
      rw [e1]
      show (if (!decide (s ∈ row)) = true then _ else _) = _
      rw [decide_eq_true c]
      rfl
    · rw [if_neg c] at e
      obtain ⟨ds2, e2, s2⟩ := hf row s ds1 nd hr hs c s1
      obtain ⟨ds', e3, s3⟩ := wh_stl St hU ht hf n _ _ ds2 R t' (by
        rw [List.nodup_append]
        exact ⟨nd, by simp, fun a ha b hb => by rw [List.mem_singleton.mp hb]; exact fun e => c (e ▸ ha)⟩) (by
        intro x hx
        rcases List.mem_append.mp hx with q | q
        · exact hr x q
        · rw [List.mem_singleton.mp q]; exact hs) (hU s hs) s2 e
      refine ⟨ds', ?_, s3⟩
      unfold sWhile wh
      rw [e1]
      show (if (!decide (s ∈ row)) = true then Option.bind (f ds1) _ else _) = _
      rw [decide_eq_false c]
      show Option.bind (f ds1) _ = _
      rw [e2]
      exact e3
/-! ### a dict that tells each one's place -/
def kdN (row : List (List Int)) : List (D × D) := row.zipIdx.map fun e => (tupI e.1, .int (e.2 : Nat))
theorem kdN_keys (row : List (List Int)) : (kdN row).map (·.1) = row.map tupI := by
  unfold kdN
  rw [List.map_map]
  show row.zipIdx.map (fun e => tupI e.1) = _
  rw [show (fun e : List Int × Nat => tupI e.1) = tupI ∘ Prod.fst from rfl, ← List.map_map, List.zipIdx_map_fst]
theorem kdN_kt (row : List (List Int)) : ∀ e ∈ kdN row, Kt e.1 := fun e h => by
  obtain ⟨x, _, rfl⟩ := List.mem_map.mp h
  exact Kt.tupI _
theorem kdN_len (row : List (List Int)) : (kdN row).length = row.length := by unfold kdN; rw [List.length_map, List.length_zipIdx]
theorem kdN_snoc (row : List (List Int)) (s : List Int) : kdN (row ++ [s]) = kdN row ++ [(tupI s, .int (row.length : Nat))] := by
  unfold kdN
  rw [List.zipIdx_append, List.map_append]
  simp
theorem kdN_at {row : List (List Int)} {s : List Int} (nd : row.Nodup) (h : s ∈ row) : gAtT (.dct .t (kdN row)) (tupI s) = some (.fz (.int (row.idxOf s : Nat))) := by
  refine gAtT_kt (Kt.tupI s) (kdN_kt row) ?_ ?_
  · rw [kdN_keys, List.nodup_iff_pairwise_ne]
    rw [List.nodup_iff_pairwise_ne] at nd
    rw [List.pairwise_map]
    exact nd.imp fun hne e => hne (tupI_inj e)
  · unfold kdN
    refine List.mem_map.mpr ⟨(s, row.idxOf s), ?_, rfl⟩
    rw [List.mem_zipIdx_iff_getElem?]
    have hl := List.idxOf_lt_length_of_mem h
    rw [List.getElem?_eq_getElem hl, List.getElem_idxOf]
theorem kdN_notIn (row : List (List Int)) (s : List Int) : gNotInT (tupI s) (.dct .t (kdN row)) = some (.fz (.bl (!decide (s ∈ row)))) :=
  (gNotIn_kt (Kt.tupI s) (kdN_kt row) (c := decide (s ∈ row)) (by rw [decide_eq_true_eq, kdN_keys, mem_tupI])).1
theorem kdN_put {row : List (List Int)} {s : List Int} (h : s ∉ row) (hz : row.length < sizeLine) : putAtT (.dct .t (kdN row)) (tupI s) (.int (row.length : Nat)) = some (.dct .t (kdN (row ++ [s]))) := by
  rw [putAtT_kt (Kt.tupI s) (kdN_kt row) (by rw [kdN_len]; exact hz) (by rw [kdN_keys, mem_tupI]; exact h), kdN_snoc]
/-! ### the two -/
def settD (R : List (List Int)) (t : List Int) : D := .tup [.int (R.idxOf t : Nat), .int ((R.length : Nat) - (R.idxOf t : Nat))]
theorem next_in {sz : List Int} {k : Nat} {p : List Sm} (c : Ct sz k p) (x : List Int) : ∀ s ∈ prodL (twos k), nextOf k p s x ∈ prodL (twos k) := fun s _ => inC_prod (state_in _ _ c.k5)
theorem settles {sz : List Int} {k : Nat} {p : List Sm} (c : Ct sz k p) {s x : List Int} (hs : InC (twos k) s) : ∃ R t, stl (fun s => nextOf k p s x) fuel [] s = some (R, t) ∧ t ∈ R ∧ R.Nodup ∧ R.length ≤ 32 := by
  obtain ⟨R, t, e, h1, h2, h3⟩ := stl_ends (nx := fun s => nextOf k p s x) (U := prodL (twos k)) (next_in c x) fuel [] s List.nodup_nil (fun _ h => absurd h (by simp)) (inC_prod hs) (by
    have := twos_len c.k5
    show _ < fuel + 0
    unfold fuel
    omega)
  exact ⟨R, t, e, h1, h2, Nat.le_trans (nodup_sub h2 h3) (twos_len c.k5)⟩
theorem settled_of {sz : List Int} {k : Nat} {S : List Int} {p : List Sm} (c : Ct sz k p) {s x : List Int} (hs : InC (twos k) s) (hx : InC sz x) : ∃ R t, m_settled [cD sz k S p, tupI s, tupI x] = some (.fz (settD R t)) ∧ m__law_settled [cT sz k p, tupI s, tupI x] = some (.fz (settD R t)) := by
  obtain ⟨R, t, e, ht, nd, hlen⟩ := settles (x := x) c hs
  have h32 : ∀ row : List (List Int), row.Nodup → (∀ x ∈ row, x ∈ prodL (twos k)) → row.length < sizeLine := fun row n h => by
    have := nodup_sub n h
    have := twos_len c.k5
    exact Nat.lt_of_le_of_lt (show row.length ≤ 32 by omega) (by decide)
  refine ⟨R, t, ?_, ?_⟩
  · unfold m_settled dfn
    show Option.bind (g_settled [some (.fz (cD sz k S p)), some (.fz (tupI s)), some (.fz (tupI x)), none, none]) fin = _
    unfold g_settled
    have e1 : eFld "Controller" "sizes" (eVar 0) [some (.fz (cD sz k S p)), some (.fz (tupI s)), some (.fz (tupI x)), none, none] = some (.fz (tupI sz), [some (.fz (cD sz k S p)), some (.fz (tupI s)), some (.fz (tupI x)), none, none]) := by kernel_rfl
    rw [sSeq_nx (ds1 := [some (.fz (cD sz k S p)), some (.fz (tupI s)), some (.fz (tupI x)), none, none]) (by simp [check_state_of hs c.k5])]
    rw [sSeq_nx (ds1 := [some (.fz (cD sz k S p)), some (.fz (tupI s)), some (.fz (tupI x)), none, none]) (by
      rw [sExpr_ap, eCall_ap, aCons_ap, e1, bind_some']
      simp [check_content_of hx c.z])]
    rw [sSeq_nx (ds1 := [some (.fz (cD sz k S p)), some (.fz (tupI s)), some (.fz (tupI x)), some (.own (.dct .t (kdN []))), none]) (by kernel_rfl)]
    rw [sSeq_nx (ds1 := [some (.fz (cD sz k S p)), some (.fz (tupI s)), some (.fz (tupI x)), some (.own (.dct .t (kdN []))), some (.fz (tupI s))]) (by kernel_rfl)]
    obtain ⟨ds', ew, rfl⟩ := wh_stl (nx := fun s => nextOf k p s x) (U := prodL (twos k)) (t := (tOf (eBin gNotInS (eVar 4) (eVar 3)))) (f := (sSeq (sPutT (eVar 3) (eVar 4) (eCB gLenX (aCons (eVar 3) (aNil)))) (sSeq (sSet 4 (eBin gAtT (eCall m_scan_of (aCons (eVar 0) (aCons (eVar 4) (aCons (eVar 2) (aNil))))) (eC (.int 0)))) sNil)))
      (fun row u ds => ds = [some (.fz (cD sz k S p)), some (.fz (tupI s)), some (.fz (tupI x)), some (.own (.dct .t (kdN row))), some (.fz (tupI u))]) (next_in c x)
      (fun row u ds h => by
        subst h
        have e3 : gNotInS (tupI u) (.dct .t (kdN row)) = some (.fz (.bl (!decide (u ∈ row)))) := kdN_notIn row u
        refine ⟨_, ?_, rfl⟩
        simp [e3])
      (fun row u ds n hr hu hn h => by
        subst h
        refine ⟨_, ?_, rfl⟩
        have e4 : gLenX [.dct .t (kdN row)] = some (.fz (.int (row.length : Nat))) := by
          show some (DL.R.fz (.int ((kdN row).length : Nat))) = _
          rw [kdN_len]
        have e5 := kdN_put hn (h32 row n hr)
        have e6 := c.scan (S := S) (prod_inC hu) hx
        have e7 : gAtT (scanD k p u x) (.int 0) = some (.fz (tupI (nextOf k p u x))) := by kernel_rfl
        simp [e4, e5, e6, e7])
      fuel [] s _ R t List.nodup_nil (fun _ h => absurd h (by simp)) (inC_prod hs) rfl e
    rw [sSeq_nx ew]
    have e8 := kdN_at nd ht
    have e9 : gLenX [.dct .t (kdN R)] = some (.fz (.int (R.length : Nat))) := by
      show some (DL.R.fz (.int ((kdN R).length : Nat))) = _
      rw [kdN_len]
    simp [e8, e9, sizeLine]
    rfl
  · unfold m__law_settled dfn
    show Option.bind (g__law_settled [some (.fz (cT sz k p)), some (.fz (tupI s)), some (.fz (tupI x)), none]) fin = _
    unfold g__law_settled
    rw [sSeq_nx (ds1 := [some (.fz (cT sz k p)), some (.fz (tupI s)), some (.fz (tupI x)), some (.own (.lst (([] : List (List Int)).map tupI)))]) (by kernel_rfl)]
    obtain ⟨ds', ew, rfl⟩ := wh_stl (nx := fun s => nextOf k p s x) (U := prodL (twos k)) (t := (tOf (eBin gNotInS (eVar 1) (eVar 3)))) (f := (sSeq (sExpr (eLM gAppend (eVar 3) (aCons (eVar 1) (aNil)))) (sSeq (sSet 1 (eBin gAtT (eCall m__law_scan (aCons (eVar 0) (aCons (eVar 1) (aCons (eVar 2) (aNil))))) (eC (.int 0)))) sNil)))
      (fun row u ds => ds = [some (.fz (cT sz k p)), some (.fz (tupI u)), some (.fz (tupI x)), some (.own (.lst (row.map tupI)))]) (next_in c x)
      (fun row u ds h => by
        subst h
        have e3 : gNotInS (tupI u) (.lst (row.map tupI)) = some (.fz (.bl (!decide (u ∈ row)))) := by
          rw [gNotInS_lst]
          exact (gIn_sp (Sp.tupI u) (fun y hy => by
            obtain ⟨z, _, rfl⟩ := List.mem_map.mp hy
            exact Sp.tupI z) (by decide) (by rw [decide_eq_true_eq, mem_tupI])).2
        refine ⟨_, ?_, rfl⟩
        simp [e3])
      (fun row u ds n hr hu hn h => by
        subst h
        refine ⟨_, ?_, rfl⟩
        have e5 := gAppend_ok (l := row.map tupI) (tupI u) (by rw [List.length_map]; exact h32 row n hr)
        have e6 := c.lscan (prod_inC hu) hx
        have e7 : gAtT (scanD k p u x) (.int 0) = some (.fz (tupI (nextOf k p u x))) := by kernel_rfl
        simp [e5, e6, e7])
      fuel [] s _ R t List.nodup_nil (fun _ h => absurd h (by simp)) (inC_prod hs) rfl e
    rw [sSeq_nx ew]
    have e8 := gIndex_rows ht
    have e9 : gLenX [.lst (R.map tupI)] = some (.fz (.int (R.length : Nat))) := by
      show some (DL.R.fz (.int ((R.map tupI).length : Nat))) = _
      rw [List.length_map]
    simp [e8, e9, sizeLine]
    rfl
end DL.Law
/-! C13: what stays. -/
namespace DL.Law
open PySem PySem.Spec PyProof.Rows L2 DL
def stays (k : Nat) (p : List Sm) (x : List Int) : List (List Int) := (prodL (twos k)).filter fun s => decide (nextOf k p s x = s)
theorem twos_szs {k : Nat} (h : k ≤ 5) : Szs (twos k) := ⟨fun n hn => by rw [List.eq_of_mem_replicate hn]; omega, by rw [List.length_replicate]; omega⟩
theorem fm_filter {α : Type} (q : α → Bool) (F : α → D) : ∀ l : List α, l.filterMap (fun a => if q a = true then some (F a) else none) = (l.filter q).map F
  | [] => rfl
  | a :: l => by
    rw [List.filterMap_cons, List.filter_cons]
    by_cases h : q a = true
    · simp only [h, if_true, List.map_cons]
      rw [fm_filter q F l]
    · simp only [h, if_false]
      exact fm_filter q F l
theorem steady_of {sz : List Int} {k : Nat} {S : List Int} {p : List Sm} (c : Ct sz k p) {x : List Int} (hx : InC sz x) : m_steady [cD sz k S p, tupI x] = some (.own (.lst ((stays k p x).map tupI))) := by
  unfold m_steady dfn
  show Option.bind (g_steady [some (.fz (cD sz k S p)), some (.fz (tupI x)), none, none]) fin = _
  unfold g_steady
  have e1 : eFld "Controller" "sizes" (eVar 0) [some (.fz (cD sz k S p)), some (.fz (tupI x)), none, none] = some (.fz (tupI sz), [some (.fz (cD sz k S p)), some (.fz (tupI x)), none, none]) := by kernel_rfl
  have e2 : eFld "Controller" "cells" (eVar 0) [some (.fz (cD sz k S p)), some (.fz (tupI x)), none, none] = some (.fz (.int (k : Nat)), [some (.fz (cD sz k S p)), some (.fz (tupI x)), none, none]) := by kernel_rfl
  rw [sSeq_nx (ds1 := [some (.fz (cD sz k S p)), some (.fz (tupI x)), none, none]) (by
    rw [sExpr_ap, eCall_ap, aCons_ap, e1, bind_some']
    simp [check_content_of hx c.z])]
  rw [sSeq_nx (ds1 := [some (.fz (cD sz k S p)), some (.fz (tupI x)), some (.own (.lst ((prodL (twos k)).map tupI))), none]) (by
    have e3 : eBin gMulX (eTup (aCons (eC (.int 2)) (aNil))) (eFld "Controller" "cells" (eVar 0)) [some (.fz (cD sz k S p)), some (.fz (tupI x)), none, none] = some (.fz (tupI (twos k)), [some (.fz (cD sz k S p)), some (.fz (tupI x)), none, none]) := by
      rw [eBin_ap, show eTup (aCons (eC (.int 2)) (aNil)) [some (.fz (cD sz k S p)), some (.fz (tupI x)), none, none] = some (.fz (.tup [.int 2]), [some (.fz (cD sz k S p)), some (.fz (tupI x)), none, none]) by kernel_rfl, bind_some', e2]
      simp [gMul_twos (show k ≤ 1000 by have := c.k5; omega)]
    rw [sSet_ap, eCall_ap, aCons_ap, e3, bind_some']
    simp [tuples_of (twos_szs c.k5)])]
  have e := eLC_B (fi := iOfX (eVar 2)) (g := gN 3) (t := tOf (eBin gEqD (eBin gAtT (eCall m_scan_of (aCons (eVar 0) (aCons (eVar 3) (aCons (eVar 1) (aNil))))) (eC (.int 0))) (eVar 3))) (f := eVar 3) (vs := [3]) (enc := tupI) (l := prodL (twos k)) (fun s => if decide (nextOf k p s x = s) = true then some (tupI s) else none)
    (ds := [some (.fz (cD sz k S p)), some (.fz (tupI x)), some (.own (.lst ((prodL (twos k)).map tupI))), none]) (ds1 := [some (.fz (cD sz k S p)), some (.fz (tupI x)), some (.fz (.lst ((prodL (twos k)).map tupI))), none])
    (by simp; rfl) rfl (sz4 (Nat.le_trans (twos_len c.k5) (by decide))) fun s hs => by
      have e4 := c.scan (S := S) (prod_inC hs) hx
      have e5 : gAtT (scanD k p s x) (.int 0) = some (.fz (tupI (nextOf k p s x))) := by kernel_rfl
      by_cases h : nextOf k p s x = s
      · simp [lcB, e4, e5, h]
      · simp [lcB, e4, e5, h]
  rw [fm_filter] at e
  rw [sSeq_ret (sRet_of e)]
  rfl
end DL.Law
/-! E1: the law's turns (the statements printed by mk47.py). -/
namespace DL.Law
open PySem PySem.Spec PyProof.Rows L2 DL
def kb0 : DSm := sSet 3 (eCallIo m__law_controller (aCons (eVar 1) (aCons (eC (.int 96)) (aNil))))
def kb1 : DSm := sAsg (eVar 3) (gTp (gCons' (gN 4) (gCons' (gN 5) (gCons' (gN 6) (gNil')))))
def kb2 : DSm := sSet 7 (eCall m__law_made (aCons (eVar 3) (aNil)))
def kb3 : DSm := sAsg (eTup (aCons (eCall m__law_contents (aCons (eVar 4) (aNil))) (aCons (eCall m__law_contents (aCons (eBin gMulX (eTup (aCons (eC (.int 2)) (aNil))) (eVar 5)) (aNil))) (aNil)))) (gTp (gCons' (gN 8) (gCons' (gN 9) (gNil'))))
def kb4 : DSm := sSet 10 (eBin gAtT (eVar 9) (eCallIo m__law_draw (aCons (eVar 1) (aCons (eCB gLenX (aCons (eVar 9) (aNil))) (aNil)))))
def kb5 : DSm := sSet 11 (eLC (iR1 (aCons (eCallIo m__law_draw (aCons (eVar 1) (aCons (eC (.int 61)) (aNil)))) (aNil))) (gN 12) (bYes) (eBin gAtT (eVar 8) (eCallIo m__law_draw (aCons (eVar 1) (aCons (eCB gLenX (aCons (eVar 8) (aNil))) (aNil))))) [12])
def kb6 : DSm := sSet 13 (eLst (aNil))
def kb7 : DSm := sSet 14 (eVar 10)
def kb8 : DSm := sFor (iOfX (eVar 11)) (gN 15) (sSeq (sExpr (eLM gAppend (eVar 13) (aCons (eCall m__law_scan (aCons (eVar 3) (aCons (eVar 14) (aCons (eVar 15) (aNil))))) (aNil)))) (sSeq (sSet 14 (eBin gAtT (eBin gAtT (eVar 13) (eNeg (eC (.int 1)))) (eC (.int 0)))) sNil))
def kb9 : DSm := sIf (bOr (tOf (eBin gNeD (eCall m_scanned (aCons (eVar 7) (aCons (eVar 10) (aCons (eVar 11) (aNil))))) (eVar 13))) (tOf (eBin gNeD (eCall m_scanned (aCons (eVar 7) (aCons (eVar 10) (aCons (eCB gTuple (aCons (eVar 11) (aNil))) (aNil))))) (eVar 13)))) (sSeq (sRet (eC (.bl false))) sNil) (sNil)
def kb10 : DSm := sSet 16 (eBin gFdiv (eCB gLenX (aCons (eVar 11) (aNil))) (eC (.int 2)))
def kb11 : DSm := sIf (bAnd (tOf (eBin gGtD (eVar 16) (eC (.int 0)))) (tOf (eBin gNeD (eCall m_scanned (aCons (eVar 7) (aCons (eBin gAtT (eBin gAtT (eVar 13) (eBin gSub (eVar 16) (eC (.int 1)))) (eC (.int 0))) (aCons (eSl (eVar 11) (oSome (eVar 16)) (oNone)) (aNil))))) (eSl (eVar 13) (oSome (eVar 16)) (oNone))))) (sSeq (sRet (eC (.bl false))) sNil) (sNil)
def kb12 : DSm := sSet 15 (eBin gAtT (eVar 8) (eCallIo m__law_draw (aCons (eVar 1) (aCons (eCB gLenX (aCons (eVar 8) (aNil))) (aNil)))))
def kb13 : DSm := sIf (tOf (eBin gNeD (eCall m_scan (aCons (eVar 7) (aCons (eVar 10) (aCons (eVar 15) (aNil))))) (eCall m__law_scan (aCons (eVar 3) (aCons (eVar 10) (aCons (eVar 15) (aNil))))))) (sSeq (sRet (eC (.bl false))) sNil) (sNil)
def kb14 : DSm := sIf (tOf (eBin gNeD (eCall m_states (aCons (eVar 7) (aNil))) (eCall m__law_reached (aCons (eVar 3) (aNil))))) (sSeq (sRet (eC (.bl false))) sNil) (sNil)
def kb15 : DSm := sIf (tOf (eBin gNeD (eCall m_settled (aCons (eVar 7) (aCons (eVar 10) (aCons (eVar 15) (aNil))))) (eCall m__law_settled (aCons (eVar 3) (aCons (eVar 10) (aCons (eVar 15) (aNil))))))) (sSeq (sRet (eC (.bl false))) sNil) (sNil)
def kb16 : DSm := sIf (tOf (eBin gNeD (eCall m_steady (aCons (eVar 7) (aCons (eVar 15) (aNil)))) (eLC (iOfX (eVar 9)) (gN 17) (tOf (eBin gEqD (eBin gAtT (eCall m__law_scan (aCons (eVar 3) (aCons (eVar 17) (aCons (eVar 15) (aNil))))) (eC (.int 0))) (eVar 17))) (eVar 17) [17]))) (sSeq (sRet (eC (.bl false))) sNil) (sNil)
def kb17 : DSm := sIf (tOf (eBin gNeD (eTup (aCons (eFld "Controller" "sizes" (eVar 7)) (aCons (eFld "Controller" "cells" (eVar 7)) (aCons (eFld "Program" "statements" (eFld "Controller" "program" (eVar 7))) (aNil))))) (eVar 3))) (sSeq (sRet (eC (.bl false))) sNil) (sNil)
def kB : DSm := sSeq kb0 (sSeq kb1 (sSeq kb2 (sSeq kb3 (sSeq kb4 (sSeq kb5 (sSeq kb6 (sSeq kb7 (sSeq kb8 (sSeq kb9 (sSeq kb10 (sSeq kb11 (sSeq kb12 (sSeq kb13 (sSeq kb14 (sSeq kb15 (sSeq kb16 (sSeq kb17 sNil)))))))))))))))))
theorem law_split : g_law = sSeq (sSet 1 (eCall m__law_hand (aCons (eVar 0) (aNil)))) (sSeq (sFor (iR1 (aCons (eC (.int 3)) (aNil))) (gN 2) kB) (sSeq (sRet (eC (.bl true))) sNil)) := rfl
end DL.Law
/-! E2: one turn. -/
namespace DL.Law
open PySem PySem.Spec PyProof.Rows L2 DL
def W (A : D) (ob : Ob) (x2 x3 x4 x5 x6 x7 x8 x9 x10 x11 x13 x14 x15 x16 : Option SV) : DS := [some (.fz A), some (.own ob), x2, x3, x4, x5, x6, x7, x8, x9, x10, x11, none, x13, x14, x15, x16, none]
/-- two that are the same: nothing is done -/
theorem same_if {e1 e2 : DX} {ds ds1 ds2 : DS} {r1 r2 : DL.R} {d : D} {n : Nat} (h1 : e1 ds = some (r1, ds1)) (h2 : e2 ds1 = some (r2, ds2)) (v1 : r1.val ds2 = some d) (v2 : r2.val ds2 = some d) (hd : Sp n d) (hn : n ≤ 60) : tOf (eBin gNeD e1 e2) ds = some (false, ds2) := by
  rw [tOf_ap, eBin_ap, h1, bind_some', h2, bind_some', v1, bind_some', v2, bind_some', gNe_same hd hn]
  rfl
theorem sp_scan (k : Nat) (p : List Sm) (s x : List Int) : Sp 3 (scanD k p s x) := Sp.tup (n := 2) fun y hy => by
  simp only [List.mem_cons, List.not_mem_nil, or_false] at hy
  rcases hy with rfl | rfl
  · exact Sp.tupI _
  · exact Sp.lst (n := 1) (sp_strs _)
theorem sp_row (k : Nat) (p : List Sm) : ∀ (xs : List (List Int)) (s : List Int), ∀ y ∈ rowOf k p s xs, Sp 3 y
  | [], s, y, hy => by cases hy
  | x :: xs, s, y, hy => by
    rcases List.mem_cons.mp hy with rfl | hy
    · exact sp_scan _ _ _ _
    · exact sp_row k p xs _ y hy
theorem sp_rows (l : List (List Int)) : Sp 3 (.lst (l.map tupI)) := Sp.lst (n := 2) fun y hy => by
  obtain ⟨z, _, rfl⟩ := List.mem_map.mp hy
  exact Sp.tupI z
theorem sp_sm (s : Sm) : Sp 4 s.d := by
  have two : ∀ l v : List Int, Sp 3 (.tup [tupI l, tupI v]) := fun l v => Sp.tup (n := 2) fun y hy => by
    simp only [List.mem_cons, List.not_mem_nil, or_false] at hy
    rcases hy with rfl | rfl <;> exact Sp.tupI _
  cases s with
  | flag w l v =>
    refine Sp.tup (n := 3) fun y hy => ?_
    simp only [List.mem_cons, List.not_mem_nil, or_false] at hy
    rcases hy with rfl | rfl
    · exact (Sp.str _).mono (by decide)
    · exact two l v
  | skip n l v =>
    refine Sp.tup (n := 3) fun y hy => ?_
    simp only [List.mem_cons, List.not_mem_nil, or_false] at hy
    rcases hy with rfl | rfl | rfl
    · exact (Sp.str _).mono (by decide)
    · exact (Sp.int _).mono (by decide)
    · exact two l v
  | deed s =>
    refine (Sp.tup (n := 1) fun y hy => ?_).mono (by decide)
    simp only [List.mem_cons, List.not_mem_nil, or_false] at hy
    rcases hy with rfl | rfl <;> exact Sp.str _
theorem sp_cT (sz : List Int) (k : Nat) (p : List Sm) : Sp 6 (cT sz k p) := Sp.tup (n := 5) fun y hy => by
  simp only [List.mem_cons, List.not_mem_nil, or_false] at hy
  rcases hy with rfl | rfl | rfl
  · exact (Sp.tupI _).mono (by decide)
  · exact (Sp.int _).mono (by decide)
  · refine Sp.tup (n := 4) fun y hy => ?_
    obtain ⟨s, _, rfl⟩ := List.mem_map.mp hy
    exact sp_sm s
variable {A : D} {ob : Ob} {x2 x3 x4 x5 x6 x7 x8 x9 x10 x11 x13 x14 x15 x16 : Option SV}
theorem t0 (h : Tape ob) : ∃ (sz : List Int) (k : Nat) (p : List Sm) (ob' : Ob), Drawn sz k p ∧ Tape ob' ∧ kb0 (W A ob x2 x3 x4 x5 x6 x7 x8 x9 x10 x11 x13 x14 x15 x16) = some (.nx, W A ob' x2 (some (.fz (cT sz k p))) x4 x5 x6 x7 x8 x9 x10 x11 x13 x14 x15 x16) := by
  obtain ⟨sz, k, p, ob', d, t, e⟩ := controller_of h
  refine ⟨sz, k, p, ob', d, t, ?_⟩
  unfold kb0 W
  simp -implicitDefEqProofs [e]
theorem t1 (sz : List Int) (k : Nat) (p : List Sm) : kb1 (W A ob x2 (some (.fz (cT sz k p))) x4 x5 x6 x7 x8 x9 x10 x11 x13 x14 x15 x16) = some (.nx, W A ob x2 (some (.fz (cT sz k p))) (some (.fz (tupI sz))) (some (.fz (.int (k : Nat)))) (some (.fz (.tup (p.map Sm.d)))) x7 x8 x9 x10 x11 x13 x14 x15 x16) := by kernel_rfl
def cO (sz : List Int) (k : Nat) (p : List Sm) : Ob := .ins "Controller" [("sizes", tupI sz), ("cells", .int (k : Nat)), ("program", pD (sz ++ twos k) p)]
theorem t2 {sz : List Int} {k : Nat} {p : List Sm} (h : Drawn sz k p) : kb2 (W A ob x2 (some (.fz (cT sz k p))) x4 x5 x6 x7 x8 x9 x10 x11 x13 x14 x15 x16) = some (.nx, W A ob x2 (some (.fz (cT sz k p))) x4 x5 x6 (some (.own (cO sz k p))) x8 x9 x10 x11 x13 x14 x15 x16) := by
  have e := made_of h
  unfold kb2 W
  simp -implicitDefEqProofs [e]
  rfl
/-- a result that is a list, fresh or not -/
theorem contents_fr {sz : List Int} (h : Szs sz) {f : DX} {ds : DS} (hf : f ds = some (.fz (tupI sz), ds)) : ∃ r, eCall m__law_contents (aCons f (aNil)) ds = some (r, ds) ∧ ∀ ds', frR r ds' = some (.lst ((prodL sz).map tupI), ds') := by
  obtain ⟨o, e | e⟩ := law_contents_of h
  · refine ⟨.fz (.lst ((prodL sz).map tupI)), ?_, fun _ => rfl⟩
    rw [eCall_ap, aCons_ap, hf, bind_some']
    simp [e]
  · refine ⟨.own (.lst ((prodL sz).map tupI)), ?_, fun _ => rfl⟩
    rw [eCall_ap, aCons_ap, hf, bind_some']
    simp [e]
theorem t3 {sz : List Int} {k : Nat} {p : List Sm} (h : Drawn sz k p) : kb3 (W A ob x2 x3 (some (.fz (tupI sz))) (some (.fz (.int (k : Nat)))) x6 x7 x8 x9 x10 x11 x13 x14 x15 x16)
    = some (.nx, W A ob x2 x3 (some (.fz (tupI sz))) (some (.fz (.int (k : Nat)))) x6 x7 (some (.fz (.lst ((prodL sz).map tupI)))) (some (.fz (.lst ((prodL (twos k)).map tupI)))) x10 x11 x13 x14 x15 x16) := by
  obtain ⟨r1, e1, f1⟩ := contents_fr h.szs (f := eVar 4) (ds := W A ob x2 x3 (some (.fz (tupI sz))) (some (.fz (.int (k : Nat)))) x6 x7 x8 x9 x10 x11 x13 x14 x15 x16) rfl
  have em : eBin gMulX (eTup (aCons (eC (.int 2)) (aNil))) (eVar 5) (W A ob x2 x3 (some (.fz (tupI sz))) (some (.fz (.int (k : Nat)))) x6 x7 x8 x9 x10 x11 x13 x14 x15 x16) = some (.fz (tupI (twos k)), W A ob x2 x3 (some (.fz (tupI sz))) (some (.fz (.int (k : Nat)))) x6 x7 x8 x9 x10 x11 x13 x14 x15 x16) := by
    unfold W
    simp -implicitDefEqProofs [gMul_twos (show k ≤ 1000 by have := h.k3; omega), sizeLine]
  obtain ⟨r2, e2, f2⟩ := contents_fr (twos_szs (show k ≤ 5 by have := h.k3; omega)) em
  unfold kb3
  rw [sAsg_ap, eTup_ap, aCons_ap, e1, bind_some', aCons_ap, e2]
  generalize hw : W A ob x2 x3 (some (.fz (tupI sz))) (some (.fz (.int (k : Nat)))) x6 x7 x8 x9 x10 x11 x13 x14 x15 x16 = w at *
  simp -implicitDefEqProofs [f1, f2, sizeLine, -frR_fz, -frR_own]
  subst hw
  rfl
theorem t4 {k : Nat} (hk : k ≤ 5) (h : Tape ob) : ∃ (s : List Int) (ob' : Ob), InC (twos k) s ∧ Tape ob' ∧ kb4 (W A ob x2 x3 x4 x5 x6 x7 x8 (some (.fz (.lst ((prodL (twos k)).map tupI)))) x10 x11 x13 x14 x15 x16)
    = some (.nx, W A ob' x2 x3 x4 x5 x6 x7 x8 (some (.fz (.lst ((prodL (twos k)).map tupI)))) (some (.fz (tupI s))) x11 x13 x14 x15 x16) := by
  have h0 : 0 < (prodL (twos k)).length := List.length_pos_of_mem (inC_prod (zeros_in k))
  have h1 := twos_len hk
  obtain ⟨r, ob', hr, t, e⟩ := drawN h h0 (by omega)
  refine ⟨(prodL (twos k))[r], ob', prod_inC (List.getElem_mem hr), t, ?_⟩
  have e2 := pick_get (l := (prodL (twos k)).map tupI) (r := r) (by rw [List.length_map]; exact hr)
  rw [List.getElem_map] at e2
  unfold kb4 W
  simp -implicitDefEqProofs [gLenX, gLen_lst, e, e2]
end DL.Law
/-! E3: one turn, on. -/
namespace DL.Law
open PySem PySem.Spec PyProof.Rows L2 DL
variable {A : D} {ob : Ob} {x2 x3 x4 x5 x6 x7 x8 x9 x10 x11 x13 x14 x15 x16 : Option SV}
theorem pickC {sz : List Int} (h : Szs sz) (hp : 1 ≤ sz.length) : 0 < (prodL sz).length := by
  have hx : ∀ sz : List Int, (∀ n ∈ sz, 2 ≤ n ∧ n ≤ 4) → ∃ x, InC sz x := by
    intro sz
    induction sz with
    | nil => intro _; exact ⟨[], .nil⟩
    | cons n sz ih =>
      intro h
      obtain ⟨x, hx⟩ := ih fun m hm => h m (List.mem_cons_of_mem _ hm)
      have := h n List.mem_cons_self
      exact ⟨0 :: x, .cons (by decide) (by omega) hx⟩
  obtain ⟨x, hx⟩ := hx sz h.rng
  exact List.length_pos_of_mem (inC_prod hx)
theorem A2.rows {sz : List Int} {l out : List D} (h : A2 (fun _ d => ∃ x, d = tupI x ∧ InC sz x) l out) : ∃ (xs : List (List Int)), out = xs.map tupI ∧ (∀ x ∈ xs, InC sz x) ∧ xs.length = l.length := by
  induction h with
  | nil => exact ⟨[], rfl, by simp, rfl⟩
  | cons p _ ih =>
    obtain ⟨x, rfl, hx⟩ := p
    obtain ⟨xs, rfl, h2, h3⟩ := ih
    exact ⟨x :: xs, rfl, fun y hy => by
      rcases List.mem_cons.mp hy with rfl | hy
      · exact hx
      · exact h2 y hy, by rw [List.length_cons, List.length_cons, h3]⟩
theorem t5 {sz : List Int} (hS : Szs sz) (hp : 1 ≤ sz.length) (h : Tape ob) (hn : noOwn [12] (W A ob x2 x3 x4 x5 x6 x7 (some (.fz (.lst ((prodL sz).map tupI)))) x9 x10 x11 x13 x14 x15 x16) = true) : ∃ (xs : List (List Int)) (ob' : Ob), (∀ x ∈ xs, InC sz x) ∧ xs.length ≤ 60 ∧ Tape ob' ∧ kb5 (W A ob x2 x3 x4 x5 x6 x7 (some (.fz (.lst ((prodL sz).map tupI)))) x9 x10 x11 x13 x14 x15 x16)
    = some (.nx, W A ob' x2 x3 x4 x5 x6 x7 (some (.fz (.lst ((prodL sz).map tupI)))) x9 x10 (some (.own (.lst (xs.map tupI)))) x13 x14 x15 x16) := by
  have h0 := pickC hS hp
  have h1 := prodL_len hS
  obtain ⟨r, ob1, hr, t1, e1⟩ := drawN h (n := 61) (by decide) (by decide)
  have e1 : m__law_draw ob [.int 61] = some (.fz (.int (r : Int)), .own ob1) := e1
  have hs : small (r : Int) = true := iR1_int (by omega)
  obtain ⟨out, ds', e2, ⟨ob2, t2, rfl⟩, a2⟩ := eLC_N (fi := iR1 (aCons (eCallIo m__law_draw (aCons (eVar 1) (aCons (eC (.int 61)) (aNil)))) (aNil))) (g := gN 12) (t := bYes) (f := eBin gAtT (eVar 8) (eCallIo m__law_draw (aCons (eVar 1) (aCons (eCB gLenX (aCons (eVar 8) (aNil))) (aNil))))) (vs := [12])
    (fun ds => ∃ ob, Tape ob ∧ ds = W A ob x2 x3 x4 x5 x6 x7 (some (.fz (.lst ((prodL sz).map tupI)))) x9 x10 x11 x13 x14 x15 x16) (fun _ d => ∃ x, d = tupI x ∧ InC sz x) (ds := W A ob x2 x3 x4 x5 x6 x7 (some (.fz (.lst ((prodL sz).map tupI)))) x9 x10 x11 x13 x14 x15 x16) (ds1 := W A ob1 x2 x3 x4 x5 x6 x7 (some (.fz (.lst ((prodL sz).map tupI)))) x9 x10 x11 x13 x14 x15 x16) (l := rng 0 r)
    (by unfold W; simp -implicitDefEqProofs [e1, hs]) rfl (by rw [rng0_len]; exact sz4 (by omega)) ⟨ob1, t1, rfl⟩ fun a _ ds hds => by
      obtain ⟨ob, t, rfl⟩ := hds
      obtain ⟨i, ob', hi, t', e⟩ := drawN t h0 (by omega)
      have e3 := pick_get (l := (prodL sz).map tupI) (r := i) (by rw [List.length_map]; exact hi)
      rw [List.getElem_map] at e3
      refine ⟨tupI (prodL sz)[i], W A ob' x2 x3 x4 x5 x6 x7 (some (.fz (.lst ((prodL sz).map tupI)))) x9 x10 x11 x13 x14 x15 x16, ?_, ⟨_, rfl, prod_inC (List.getElem_mem hi)⟩, ob', t', rfl⟩
      unfold W
      simp -implicitDefEqProofs [lcB, gLenX, gLen_lst, e, e3]
  obtain ⟨xs, rfl, k1, k2⟩ := A2.rows a2
  rw [rng0_len] at k2
  refine ⟨xs, ob2, k1, by omega, t2, ?_⟩
  unfold kb5
  rw [sSet_own e2]
  rfl
theorem t6 : kb6 (W A ob x2 x3 x4 x5 x6 x7 x8 x9 x10 x11 x13 x14 x15 x16) = some (.nx, W A ob x2 x3 x4 x5 x6 x7 x8 x9 x10 x11 (some (.own (.lst []))) x14 x15 x16) := by kernel_rfl
theorem t7 (d : D) : kb7 (W A ob x2 x3 x4 x5 x6 x7 x8 x9 (some (.fz d)) x11 x13 x14 x15 x16) = some (.nx, W A ob x2 x3 x4 x5 x6 x7 x8 x9 (some (.fz d)) x11 x13 (some (.fz d)) x15 x16) := by kernel_rfl
abbrev trB : DSm := (sSeq (sExpr (eLM gAppend (eVar 13) (aCons (eCall m__law_scan (aCons (eVar 3) (aCons (eVar 14) (aCons (eVar 15) (aNil))))) (aNil)))) (sSeq (sSet 14 (eBin gAtT (eBin gAtT (eVar 13) (eNeg (eC (.int 1)))) (eC (.int 0)))) sNil))
theorem tr_turn {T : D} {k : Nat} {p : List Sm} {s x : List Int} {acc : List D} (h : m__law_scan [T, tupI s, tupI x] = some (.fz (scanD k p s x))) (hz : acc.length < sizeLine) :
    foB (gN 15) trB (tupI x) (W A ob x2 (some (.fz T)) x4 x5 x6 x7 x8 x9 x10 x11 (some (.own (.lst acc))) (some (.fz (tupI s))) x15 x16) = some (.nx, W A ob x2 (some (.fz T)) x4 x5 x6 x7 x8 x9 x10 x11 (some (.own (.lst (acc ++ [scanD k p s x])))) (some (.fz (tupI (nextOf k p s x)))) (some (.fz (tupI x))) x16) := by
  have hn := atL_neg acc (scanD k p s x)
  have e2 : gAtT (scanD k p s x) (.int 0) = some (.fz (tupI (nextOf k p s x))) := by kernel_rfl
  unfold W
  simp -implicitDefEqProofs [foB, h, gAppend_ok _ hz, hn, e2]
theorem tr_loop {T : D} {sz : List Int} {k : Nat} {p : List Sm} (h : ∀ s x, InC (twos k) s → InC sz x → m__law_scan [T, tupI s, tupI x] = some (.fz (scanD k p s x))) (hk : k ≤ 5) :
    ∀ (xs : List (List Int)) (s : List Int) (acc : List D) (x15 : Option SV), (∀ x ∈ xs, InC sz x) → InC (twos k) s → acc.length + xs.length ≤ sizeLine →
    ∃ y, forL (gN 15) trB (xs.map tupI) (W A ob x2 (some (.fz T)) x4 x5 x6 x7 x8 x9 x10 x11 (some (.own (.lst acc))) (some (.fz (tupI s))) x15 x16) = some (.nx, W A ob x2 (some (.fz T)) x4 x5 x6 x7 x8 x9 x10 x11 (some (.own (.lst (acc ++ rowOf k p s xs)))) (some (.fz (tupI (lastOf k p s xs)))) y x16)
  | [], s, acc, l, _, _, _ => ⟨l, by rw [rowOf, List.append_nil]; rfl⟩
  | x :: xs, s, acc, l, hx, hs, hz => by
    rw [List.length_cons] at hz
    have e := tr_turn (A := A) (ob := ob) (x2 := x2) (x4 := x4) (x5 := x5) (x6 := x6) (x7 := x7) (x8 := x8) (x9 := x9) (x10 := x10) (x11 := x11) (x15 := l) (x16 := x16) (acc := acc) (h s x hs (hx x List.mem_cons_self)) (by omega)
    obtain ⟨y, e'⟩ := tr_loop h hk xs (nextOf k p s x) (acc ++ [scanD k p s x]) (some (.fz (tupI x))) (fun y m => hx y (List.mem_cons_of_mem _ m)) (state_in _ _ hk) (by rw [List.length_append, List.length_singleton]; omega)
    refine ⟨y, ?_⟩
    rw [List.map_cons, foB_cons e, e', rowOf, List.append_assoc]
    rfl
theorem t8 {sz : List Int} {k : Nat} {p : List Sm} (c : Ct sz k p) {s : List Int} (hs : InC (twos k) s) {xs : List (List Int)} (hx : ∀ x ∈ xs, InC sz x) (hl : xs.length ≤ 60) : ∃ y z, kb8 (W A ob x2 (some (.fz (cT sz k p))) x4 x5 x6 x7 x8 x9 x10 (some (.own (.lst (xs.map tupI)))) (some (.own (.lst []))) (some (.fz (tupI s))) x15 x16)
    = some (.nx, W A ob x2 (some (.fz (cT sz k p))) x4 x5 x6 x7 x8 x9 x10 (some (.fz (.lst (xs.map tupI)))) (some (.own (.lst (rowOf k p s xs)))) z y x16) := by
  obtain ⟨y, e⟩ := tr_loop (A := A) (ob := ob) (x2 := x2) (x4 := x4) (x5 := x5) (x6 := x6) (x7 := x7) (x8 := x8) (x9 := x9) (x10 := x10) (x11 := some (.fz (.lst (xs.map tupI)))) (x16 := x16) (fun s x hs hx => c.lscan hs hx) c.k5 xs s [] x15 hx hs (by rw [List.length_nil]; exact sz4 (by omega))
  refine ⟨y, some (.fz (tupI (lastOf k p s xs))), ?_⟩
  unfold kb8
  rw [sFor_ap, show iOfX (eVar 11) (W A ob x2 (some (.fz (cT sz k p))) x4 x5 x6 x7 x8 x9 x10 (some (.own (.lst (xs.map tupI)))) (some (.own (.lst []))) (some (.fz (tupI s))) x15 x16) = some (xs.map tupI, W A ob x2 (some (.fz (cT sz k p))) x4 x5 x6 x7 x8 x9 x10 (some (.fz (.lst (xs.map tupI)))) (some (.own (.lst []))) (some (.fz (tupI s))) x15 x16) by kernel_rfl]
  exact e
end DL.Law
/-! E4: one turn, its tests. -/
namespace DL.Law
open PySem PySem.Spec PyProof.Rows L2 DL
variable {A : D} {ob : Ob} {x2 x3 x4 x5 x6 x7 x8 x9 x10 x11 x13 x14 x15 x16 : Option SV}
theorem cO_d (sz : List Int) (k : Nat) (p : List Sm) : (cO sz k p).d = cD sz k (sz ++ twos k) p := rfl
theorem sp_rowL (k : Nat) (p : List Sm) (s : List Int) (xs : List (List Int)) : Sp 4 (.lst (rowOf k p s xs)) := Sp.lst (n := 3) (sp_row k p xs s)
theorem t9 {sz : List Int} {k : Nat} {p : List Sm} (c : Ct sz k p) {s : List Int} (hs : InC (twos k) s) {xs : List (List Int)} (hx : ∀ x ∈ xs, InC sz x) (hl : xs.length ≤ 60) : kb9 (W A ob x2 x3 x4 x5 x6 (some (.own (cO sz k p))) x8 x9 (some (.fz (tupI s))) (some (.fz (.lst (xs.map tupI)))) (some (.own (.lst (rowOf k p s xs)))) x14 x15 x16)
    = some (.nx, W A ob x2 x3 x4 x5 x6 (some (.fz (cD sz k (sz ++ twos k) p))) x8 x9 (some (.fz (tupI s))) (some (.fz (.lst (xs.map tupI)))) (some (.own (.lst (rowOf k p s xs)))) x14 x15 x16) := by
  have f1 := scanned_of (S := sz ++ twos k) c hs (d := .lst (xs.map tupI)) (l := xs) (.inl rfl) hx (by omega)
  have f2 := scanned_of (S := sz ++ twos k) c hs (d := .tup (xs.map tupI)) (l := xs) (.inr rfl) hx (by omega)
  unfold kb9
  refine sIf_ff (d1 := W A ob x2 x3 x4 x5 x6 (some (.fz (cD sz k (sz ++ twos k) p))) x8 x9 (some (.fz (tupI s))) (some (.fz (.lst (xs.map tupI)))) (some (.own (.lst (rowOf k p s xs)))) x14 x15 x16) (bOr_ff (d1 := W A ob x2 x3 x4 x5 x6 (some (.fz (cD sz k (sz ++ twos k) p))) x8 x9 (some (.fz (tupI s))) (some (.fz (.lst (xs.map tupI)))) (some (.own (.lst (rowOf k p s xs)))) x14 x15 x16) ?_ ?_) rfl
  · refine same_if (ds1 := W A ob x2 x3 x4 x5 x6 (some (.fz (cD sz k (sz ++ twos k) p))) x8 x9 (some (.fz (tupI s))) (some (.fz (.lst (xs.map tupI)))) (some (.own (.lst (rowOf k p s xs)))) x14 x15 x16) (r1 := .own (.lst (rowOf k p s xs))) (r2 := .slot 13) ?_ rfl rfl rfl (sp_rowL k p s xs) (by decide)
    unfold W
    simp -implicitDefEqProofs [cO_d, f1]
  · refine same_if (ds1 := W A ob x2 x3 x4 x5 x6 (some (.fz (cD sz k (sz ++ twos k) p))) x8 x9 (some (.fz (tupI s))) (some (.fz (.lst (xs.map tupI)))) (some (.own (.lst (rowOf k p s xs)))) x14 x15 x16) (r1 := .own (.lst (rowOf k p s xs))) (r2 := .slot 13) ?_ rfl rfl rfl (sp_rowL k p s xs) (by decide)
    unfold W
    simp -implicitDefEqProofs [f2]
theorem t10 (xs : List (List Int)) : kb10 (W A ob x2 x3 x4 x5 x6 x7 x8 x9 x10 (some (.fz (.lst (xs.map tupI)))) x13 x14 x15 x16) = some (.nx, W A ob x2 x3 x4 x5 x6 x7 x8 x9 x10 (some (.fz (.lst (xs.map tupI)))) x13 x14 x15 (some (.fz (.int ((xs.length / 2 : Nat)))))) := by
  have q : gFdiv (.int (xs.length : Nat)) (.int 2) = some (.fz (.int ((xs.length / 2 : Nat)))) := by
    rw [gFdiv_int (by decide) (by decide)]
    congr 3
    rw [Int.fdiv_eq_ediv_of_nonneg _ (by decide)]
    omega
  unfold kb10 W
  simp -implicitDefEqProofs [gLenX, gLen_lst, q]
theorem rowOf_drop (k : Nat) (p : List Sm) : ∀ (m : Nat) (s : List Int) (xs : List (List Int)), (rowOf k p s xs).drop m = rowOf k p (lastOf k p s (xs.take m)) (xs.drop m)
  | 0, s, xs => rfl
  | m + 1, s, [] => rfl
  | m + 1, s, x :: xs => by
    rw [rowOf, List.drop_succ_cons, rowOf_drop k p m, List.take_succ_cons, List.drop_succ_cons]
    rfl
theorem rowOf_at (k : Nat) (p : List Sm) : ∀ (m : Nat) (s : List Int) (xs : List (List Int)), m < xs.length → ∃ u x, (rowOf k p s xs)[m]? = some (scanD k p u x) ∧ nextOf k p u x = lastOf k p s (xs.take (m + 1))
  | 0, s, [], h => absurd h (by simp)
  | m + 1, s, [], h => absurd h (by simp)
  | 0, s, x :: xs, _ => ⟨s, x, rfl, rfl⟩
  | m + 1, s, x :: xs, h => by
    rw [List.length_cons] at h
    obtain ⟨u, y, e1, e2⟩ := rowOf_at k p m (nextOf k p s x) xs (by omega)
    refine ⟨u, y, ?_, ?_⟩
    · rw [rowOf, List.getElem?_cons_succ, e1]
    · rw [e2, List.take_succ_cons]
      rfl
theorem last_in {k : Nat} {p : List Sm} (hk : k ≤ 5) : ∀ (xs : List (List Int)) (s : List Int), InC (twos k) s → InC (twos k) (lastOf k p s xs)
  | [], s, h => h
  | x :: xs, s, h => last_in hk xs _ (state_in _ _ hk)
theorem cut_drop {α : Type} (l : List α) (m : Nat) : cutL l (some (m : Int)) none = l.drop m := by
  unfold cutL HT.sIx
  dsimp only
  rw [if_neg (by omega), Int.toNat_natCast]
  by_cases h : m ≤ l.length
  · rw [Nat.min_eq_left h, List.take_of_length_le (by rw [List.length_drop]; exact Nat.le_refl _)]
  · rw [Nat.min_eq_right (by omega), List.drop_of_length_le (Nat.le_refl _), List.drop_of_length_le (by omega)]
    simp
theorem t11 {sz : List Int} {k : Nat} {p : List Sm} (c : Ct sz k p) {s : List Int} (hs : InC (twos k) s) {xs : List (List Int)} (hx : ∀ x ∈ xs, InC sz x) (hl : xs.length ≤ 60) : kb11 (W A ob x2 x3 x4 x5 x6 (some (.fz (cD sz k (sz ++ twos k) p))) x8 x9 x10 (some (.fz (.lst (xs.map tupI)))) (some (.own (.lst (rowOf k p s xs)))) x14 x15 (some (.fz (.int ((xs.length / 2 : Nat))))))
    = some (.nx, W A ob x2 x3 x4 x5 x6 (some (.fz (cD sz k (sz ++ twos k) p))) x8 x9 x10 (some (.fz (.lst (xs.map tupI)))) (some (.own (.lst (rowOf k p s xs)))) x14 x15 (some (.fz (.int ((xs.length / 2 : Nat)))))) := by
  unfold kb11
  generalize hm : xs.length / 2 = m
  by_cases h0 : 0 < m
  · have hml : m - 1 < xs.length := by omega
    obtain ⟨u, y, e1, e2⟩ := rowOf_at k p (m - 1) s xs hml
    rw [show m - 1 + 1 = m by omega] at e2
    have f1 := scanned_of (S := sz ++ twos k) c (last_in (p := p) c.k5 (xs.take m) s hs) (d := .lst ((xs.drop m).map tupI)) (l := xs.drop m) (.inl rfl) (fun x h => hx x (List.mem_of_mem_drop h)) (by rw [List.length_drop]; omega)
    have a1 : tOf (eBin gGtD (eVar 16) (eC (.int 0))) (W A ob x2 x3 x4 x5 x6 (some (.fz (cD sz k (sz ++ twos k) p))) x8 x9 x10 (some (.fz (.lst (xs.map tupI)))) (some (.own (.lst (rowOf k p s xs)))) x14 x15 (some (.fz (.int (m : Nat))))) = some (true, W A ob x2 x3 x4 x5 x6 (some (.fz (cD sz k (sz ++ twos k) p))) x8 x9 x10 (some (.fz (.lst (xs.map tupI)))) (some (.own (.lst (rowOf k p s xs)))) x14 x15 (some (.fz (.int (m : Nat))))) := by
      unfold W
      simp -implicitDefEqProofs [h0]
    refine sIf_ff (d1 := W A ob x2 x3 x4 x5 x6 (some (.fz (cD sz k (sz ++ twos k) p))) x8 x9 x10 (some (.fz (.lst (xs.map tupI)))) (some (.own (.lst (rowOf k p s xs)))) x14 x15 (some (.fz (.int (m : Nat))))) ?_ rfl
    rw [bAnd_ap, a1]
    refine same_if (ds1 := W A ob x2 x3 x4 x5 x6 (some (.fz (cD sz k (sz ++ twos k) p))) x8 x9 x10 (some (.fz (.lst (xs.map tupI)))) (some (.own (.lst (rowOf k p s xs)))) x14 x15 (some (.fz (.int (m : Nat))))) (r1 := .own (.lst (rowOf k p (lastOf k p s (xs.take m)) (xs.drop m)))) (r2 := .own (.lst (rowOf k p (lastOf k p s (xs.take m)) (xs.drop m)))) ?_ ?_ rfl rfl (sp_rowL k p _ _) (by decide)
    · have g1 : gSub (.int (m : Nat)) (.int 1) = some (.fz (.int ((m - 1 : Nat)))) := by
        show some (DL.R.fz (.int ((m : Int) - 1))) = _
        congr 3
        omega
      have g2 : gAtT (.lst (rowOf k p s xs)) (.int ((m - 1 : Nat))) = some (.fz (scanD k p u y)) := by
        have hlt : m - 1 < (rowOf k p s xs).length := by rw [rowOf_len]; exact hml
        rw [pick_get hlt]
        rw [List.getElem?_eq_getElem hlt] at e1
        rw [Option.some.inj e1]
      have g3 : gAtT (scanD k p u y) (.int 0) = some (.fz (tupI (lastOf k p s (xs.take m)))) := by
        rw [← e2]
        kernel_rfl
      have g4 := cut_drop (xs.map tupI) m
      rw [← List.map_drop] at g4
      unfold W
      simp -implicitDefEqProofs [g1, g2, g3, g4, f1, -List.map_drop]
    · have g4 := cut_drop (rowOf k p s xs) m
      rw [rowOf_drop] at g4
      unfold W
      simp -implicitDefEqProofs [g4]
  · have a1 : tOf (eBin gGtD (eVar 16) (eC (.int 0))) (W A ob x2 x3 x4 x5 x6 (some (.fz (cD sz k (sz ++ twos k) p))) x8 x9 x10 (some (.fz (.lst (xs.map tupI)))) (some (.own (.lst (rowOf k p s xs)))) x14 x15 (some (.fz (.int (m : Nat))))) = some (false, W A ob x2 x3 x4 x5 x6 (some (.fz (cD sz k (sz ++ twos k) p))) x8 x9 x10 (some (.fz (.lst (xs.map tupI)))) (some (.own (.lst (rowOf k p s xs)))) x14 x15 (some (.fz (.int (m : Nat))))) := by
      have : m = 0 := by omega
      subst this
      unfold W
      simp -implicitDefEqProofs
    refine sIf_ff (d1 := W A ob x2 x3 x4 x5 x6 (some (.fz (cD sz k (sz ++ twos k) p))) x8 x9 x10 (some (.fz (.lst (xs.map tupI)))) (some (.own (.lst (rowOf k p s xs)))) x14 x15 (some (.fz (.int (m : Nat))))) ?_ rfl
    rw [bAnd_ap, a1]
    rfl
end DL.Law
/-! E5: the last tests; the whole turn; the law. -/
namespace DL.Law
open PySem PySem.Spec PyProof.Rows L2 DL
variable {A : D} {ob : Ob} {x2 x3 x4 x5 x6 x7 x8 x9 x10 x11 x13 x14 x15 x16 : Option SV}
theorem t12 {sz : List Int} (hS : Szs sz) (hp : 1 ≤ sz.length) (h : Tape ob) : ∃ (x : List Int) (ob' : Ob), InC sz x ∧ Tape ob' ∧ kb12 (W A ob x2 x3 x4 x5 x6 x7 (some (.fz (.lst ((prodL sz).map tupI)))) x9 x10 x11 x13 x14 x15 x16)
    = some (.nx, W A ob' x2 x3 x4 x5 x6 x7 (some (.fz (.lst ((prodL sz).map tupI)))) x9 x10 x11 x13 x14 (some (.fz (tupI x))) x16) := by
  have h0 := pickC hS hp
  have h1 := prodL_len hS
  obtain ⟨r, ob', hr, t, e⟩ := drawN h h0 (by omega)
  refine ⟨(prodL sz)[r], ob', prod_inC (List.getElem_mem hr), t, ?_⟩
  have e2 := pick_get (l := (prodL sz).map tupI) (r := r) (by rw [List.length_map]; exact hr)
  rw [List.getElem_map] at e2
  unfold kb12 W
  simp -implicitDefEqProofs [gLenX, gLen_lst, e, e2]
section
variable {sz : List Int} {k : Nat} {p : List Sm} (c : Ct sz k p) {s x : List Int} (hs : InC (twos k) s) (hx : InC sz x)
include c hs hx
theorem t13 : kb13 (W A ob x2 (some (.fz (cT sz k p))) x4 x5 x6 (some (.fz (cD sz k (sz ++ twos k) p))) x8 x9 (some (.fz (tupI s))) x11 x13 x14 (some (.fz (tupI x))) x16) = some (.nx, W A ob x2 (some (.fz (cT sz k p))) x4 x5 x6 (some (.fz (cD sz k (sz ++ twos k) p))) x8 x9 (some (.fz (tupI s))) x11 x13 x14 (some (.fz (tupI x))) x16) := by
  have f1 := scan_ok (S := sz ++ twos k) c hs hx
  have f2 := c.lscan hs hx
  unfold kb13
  refine sIf_ff (same_if (ds1 := W A ob x2 (some (.fz (cT sz k p))) x4 x5 x6 (some (.fz (cD sz k (sz ++ twos k) p))) x8 x9 (some (.fz (tupI s))) x11 x13 x14 (some (.fz (tupI x))) x16) (ds2 := W A ob x2 (some (.fz (cT sz k p))) x4 x5 x6 (some (.fz (cD sz k (sz ++ twos k) p))) x8 x9 (some (.fz (tupI s))) x11 x13 x14 (some (.fz (tupI x))) x16) (r1 := .fz (scanD k p s x)) (r2 := .fz (scanD k p s x)) ?_ ?_ rfl rfl (sp_scan k p s x) (by decide)) rfl
  · unfold W
    simp -implicitDefEqProofs [f1]
  · unfold W
    simp -implicitDefEqProofs [f2]
theorem t14 : kb14 (W A ob x2 (some (.fz (cT sz k p))) x4 x5 x6 (some (.fz (cD sz k (sz ++ twos k) p))) x8 x9 (some (.fz (tupI s))) x11 x13 x14 (some (.fz (tupI x))) x16) = some (.nx, W A ob x2 (some (.fz (cT sz k p))) x4 x5 x6 (some (.fz (cD sz k (sz ++ twos k) p))) x8 x9 (some (.fz (tupI s))) x11 x13 x14 (some (.fz (tupI x))) x16) := by
  have f1 := states_ok (S := sz ++ twos k) c
  have f2 := reached_of c
  unfold kb14
  refine sIf_ff (same_if (ds1 := W A ob x2 (some (.fz (cT sz k p))) x4 x5 x6 (some (.fz (cD sz k (sz ++ twos k) p))) x8 x9 (some (.fz (tupI s))) x11 x13 x14 (some (.fz (tupI x))) x16) (ds2 := W A ob x2 (some (.fz (cT sz k p))) x4 x5 x6 (some (.fz (cD sz k (sz ++ twos k) p))) x8 x9 (some (.fz (tupI s))) x11 x13 x14 (some (.fz (tupI x))) x16) (r1 := .own (.lst ((sortT (statesL sz k p)).map tupI))) (r2 := .own (.lst ((sortT (statesL sz k p)).map tupI))) ?_ ?_ rfl rfl (sp_rows (sortT (statesL sz k p))) (by decide)) rfl
  · unfold W
    simp -implicitDefEqProofs [f1]
  · unfold W
    simp -implicitDefEqProofs [f2]
theorem t15 : kb15 (W A ob x2 (some (.fz (cT sz k p))) x4 x5 x6 (some (.fz (cD sz k (sz ++ twos k) p))) x8 x9 (some (.fz (tupI s))) x11 x13 x14 (some (.fz (tupI x))) x16) = some (.nx, W A ob x2 (some (.fz (cT sz k p))) x4 x5 x6 (some (.fz (cD sz k (sz ++ twos k) p))) x8 x9 (some (.fz (tupI s))) x11 x13 x14 (some (.fz (tupI x))) x16) := by
  obtain ⟨R', t', f1, f2⟩ := settled_of (S := sz ++ twos k) c hs hx
  have hd : Sp 2 (settD R' t') := Sp.tup (n := 1) fun y hy => by
    simp only [List.mem_cons, List.not_mem_nil, or_false] at hy
    rcases hy with rfl | rfl <;> exact Sp.int _
  unfold kb15
  refine sIf_ff (same_if (ds1 := W A ob x2 (some (.fz (cT sz k p))) x4 x5 x6 (some (.fz (cD sz k (sz ++ twos k) p))) x8 x9 (some (.fz (tupI s))) x11 x13 x14 (some (.fz (tupI x))) x16) (ds2 := W A ob x2 (some (.fz (cT sz k p))) x4 x5 x6 (some (.fz (cD sz k (sz ++ twos k) p))) x8 x9 (some (.fz (tupI s))) x11 x13 x14 (some (.fz (tupI x))) x16) (r1 := .fz (settD R' t')) (r2 := .fz (settD R' t')) ?_ ?_ rfl rfl hd (by decide)) rfl
  · unfold W
    simp -implicitDefEqProofs [f1]
  · unfold W
    simp -implicitDefEqProofs [f2]
theorem t16 : kb16 (W A ob x2 (some (.fz (cT sz k p))) x4 x5 x6 (some (.fz (cD sz k (sz ++ twos k) p))) x8 (some (.fz (.lst ((prodL (twos k)).map tupI)))) (some (.fz (tupI s))) x11 x13 x14 (some (.fz (tupI x))) x16) = some (.nx, W A ob x2 (some (.fz (cT sz k p))) x4 x5 x6 (some (.fz (cD sz k (sz ++ twos k) p))) x8 (some (.fz (.lst ((prodL (twos k)).map tupI)))) (some (.fz (tupI s))) x11 x13 x14 (some (.fz (tupI x))) x16) := by
  have f1 := steady_of (S := sz ++ twos k) c hx
  have e := eLC_B (fi := iOfX (eVar 9)) (g := gN 17) (t := tOf (eBin gEqD (eBin gAtT (eCall m__law_scan (aCons (eVar 3) (aCons (eVar 17) (aCons (eVar 15) (aNil))))) (eC (.int 0))) (eVar 17))) (f := eVar 17) (vs := [17]) (enc := tupI) (l := prodL (twos k)) (fun s => if decide (nextOf k p s x = s) = true then some (tupI s) else none)
    (ds := W A ob x2 (some (.fz (cT sz k p))) x4 x5 x6 (some (.fz (cD sz k (sz ++ twos k) p))) x8 (some (.fz (.lst ((prodL (twos k)).map tupI)))) (some (.fz (tupI s))) x11 x13 x14 (some (.fz (tupI x))) x16) (ds1 := W A ob x2 (some (.fz (cT sz k p))) x4 x5 x6 (some (.fz (cD sz k (sz ++ twos k) p))) x8 (some (.fz (.lst ((prodL (twos k)).map tupI)))) (some (.fz (tupI s))) x11 x13 x14 (some (.fz (tupI x))) x16)
    (by kernel_rfl) rfl (sz4 (Nat.le_trans (twos_len c.k5) (by decide))) fun s hs => by
      have e4 := c.lscan (prod_inC hs) hx
      have e5 : gAtT (scanD k p s x) (.int 0) = some (.fz (tupI (nextOf k p s x))) := by kernel_rfl
      unfold W
      by_cases h : nextOf k p s x = s
      · simp -implicitDefEqProofs [lcB, e4, e5, h]
      · simp -implicitDefEqProofs [lcB, e4, e5, h]
  rw [fm_filter] at e
  unfold kb16
  refine sIf_ff (same_if (ds1 := W A ob x2 (some (.fz (cT sz k p))) x4 x5 x6 (some (.fz (cD sz k (sz ++ twos k) p))) x8 (some (.fz (.lst ((prodL (twos k)).map tupI)))) (some (.fz (tupI s))) x11 x13 x14 (some (.fz (tupI x))) x16) (ds2 := W A ob x2 (some (.fz (cT sz k p))) x4 x5 x6 (some (.fz (cD sz k (sz ++ twos k) p))) x8 (some (.fz (.lst ((prodL (twos k)).map tupI)))) (some (.fz (tupI s))) x11 x13 x14 (some (.fz (tupI x))) x16) (r1 := .own (.lst ((stays k p x).map tupI))) (r2 := .own (.lst ((stays k p x).map tupI))) ?_ ?_ rfl rfl (sp_rows (stays k p x)) (by decide)) rfl
  · unfold W
    simp -implicitDefEqProofs [f1]
  · exact e
theorem t17 : kb17 (W A ob x2 (some (.fz (cT sz k p))) x4 x5 x6 (some (.fz (cD sz k (sz ++ twos k) p))) x8 x9 (some (.fz (tupI s))) x11 x13 x14 (some (.fz (tupI x))) x16) = some (.nx, W A ob x2 (some (.fz (cT sz k p))) x4 x5 x6 (some (.fz (cD sz k (sz ++ twos k) p))) x8 x9 (some (.fz (tupI s))) x11 x13 x14 (some (.fz (tupI x))) x16) := by
  unfold kb17
  refine sIf_ff (same_if (ds1 := W A ob x2 (some (.fz (cT sz k p))) x4 x5 x6 (some (.fz (cD sz k (sz ++ twos k) p))) x8 x9 (some (.fz (tupI s))) x11 x13 x14 (some (.fz (tupI x))) x16) (ds2 := W A ob x2 (some (.fz (cT sz k p))) x4 x5 x6 (some (.fz (cD sz k (sz ++ twos k) p))) x8 x9 (some (.fz (tupI s))) x11 x13 x14 (some (.fz (tupI x))) x16) (r1 := .fz (cT sz k p)) (r2 := .fz (cT sz k p)) ?_ ?_ rfl rfl (sp_cT sz k p) (by decide)) rfl
  · kernel_rfl
  · rfl
end
def StL (A : D) (ds : DS) : Prop := ∃ (ob : Ob) (x2 x3 x4 x5 x6 x7 x8 x9 x10 x11 x13 x14 x15 x16 : Option SV), Tape ob ∧ ds = W A ob x2 x3 x4 x5 x6 x7 x8 x9 x10 x11 x13 x14 x15 x16
theorem turn (A : D) (a : D) (ds : DS) (h : StL A ds) : ∃ ds', foB (gN 2) kB a ds = some (.nx, ds') ∧ StL A ds' := by
  obtain ⟨ob, x2, x3, x4, x5, x6, x7, x8, x9, x10, x11, x13, x14, x15, x16, t, rfl⟩ := h
  unfold foB
  show ∃ ds', Option.bind (some (W A ob (some (.fz a)) x3 x4 x5 x6 x7 x8 x9 x10 x11 x13 x14 x15 x16)) kB = some (.nx, ds') ∧ StL A ds'
  rw [bind_some']
  unfold kB
  obtain ⟨sz, k, p, ob1, d, q1, e0⟩ := t0 (A := A) (x2 := some (.fz a)) (x3 := x3) (x4 := x4) (x5 := x5) (x6 := x6) (x7 := x7) (x8 := x8) (x9 := x9) (x10 := x10) (x11 := x11) (x13 := x13) (x14 := x14) (x15 := x15) (x16 := x16) t
  have c := d.ct
  rw [sSeq_nx e0, sSeq_nx (t1 sz k p), sSeq_nx (t2 d), sSeq_nx (t3 d)]
  obtain ⟨s, ob2, hs, q2, e4⟩ := t4 (A := A) (ob := ob1) (x2 := some (.fz a)) (x3 := some (.fz (cT sz k p))) (x4 := some (.fz (tupI sz))) (x5 := some (.fz (.int (k : Nat)))) (x6 := some (.fz (.tup (p.map Sm.d)))) (x7 := some (.own (cO sz k p))) (x8 := some (.fz (.lst ((prodL sz).map tupI)))) (x10 := x10) (x11 := x11) (x13 := x13) (x14 := x14) (x15 := x15) (x16 := x16) c.k5 q1
  rw [sSeq_nx e4]
  obtain ⟨xs, ob3, hx, hl, q3, e5⟩ := t5 (A := A) (ob := ob2) (x2 := some (.fz a)) (x3 := some (.fz (cT sz k p))) (x4 := some (.fz (tupI sz))) (x5 := some (.fz (.int (k : Nat)))) (x6 := some (.fz (.tup (p.map Sm.d)))) (x7 := some (.own (cO sz k p))) (x9 := some (.fz (.lst ((prodL (twos k)).map tupI)))) (x10 := some (.fz (tupI s))) (x11 := x11) (x13 := x13) (x14 := x14) (x15 := x15) (x16 := x16) d.szs d.pos q2 rfl
  rw [sSeq_nx e5, sSeq_nx t6, sSeq_nx (t7 (tupI s))]
  obtain ⟨y, z, e8⟩ := t8 (A := A) (ob := ob3) (x2 := some (.fz a)) (x4 := some (.fz (tupI sz))) (x5 := some (.fz (.int (k : Nat)))) (x6 := some (.fz (.tup (p.map Sm.d)))) (x7 := some (.own (cO sz k p))) (x8 := some (.fz (.lst ((prodL sz).map tupI)))) (x9 := some (.fz (.lst ((prodL (twos k)).map tupI)))) (x10 := some (.fz (tupI s))) (x15 := x15) (x16 := x16) c hs hx hl
  rw [sSeq_nx e8, sSeq_nx (t9 c hs hx hl), sSeq_nx (t10 xs), sSeq_nx (t11 c hs hx hl)]
  obtain ⟨x, ob4, hx1, q4, e12⟩ := t12 (A := A) (ob := ob3) (x2 := some (.fz a)) (x3 := some (.fz (cT sz k p))) (x4 := some (.fz (tupI sz))) (x5 := some (.fz (.int (k : Nat)))) (x6 := some (.fz (.tup (p.map Sm.d)))) (x7 := some (.fz (cD sz k (sz ++ twos k) p))) (x9 := some (.fz (.lst ((prodL (twos k)).map tupI)))) (x10 := some (.fz (tupI s))) (x11 := some (.fz (.lst (xs.map tupI)))) (x13 := some (.own (.lst (rowOf k p s xs)))) (x14 := z) (x15 := y) (x16 := some (.fz (.int ((xs.length / 2 : Nat))))) d.szs d.pos q3
  rw [sSeq_nx e12, sSeq_nx (t13 c hs hx1), sSeq_nx (t14 c hs hx1), sSeq_nx (t15 c hs hx1), sSeq_nx (t16 c hs hx1), sSeq_nx (t17 c hs hx1)]
  exact ⟨_, rfl, ob4, _, _, _, _, _, _, _, _, _, _, _, _, _, _, q4, rfl⟩
theorem law_true (ns : List Int) (hn : ns.length ≤ 63) : m_law [.lst (ns.map D.int)] = some (.fz (.bl true)) := by
  obtain ⟨ob, t, e⟩ := hand_of ns hn
  unfold m_law dfn
  show Option.bind (g_law [some (.fz (.lst (ns.map D.int))), none, none, none, none, none, none, none, none, none, none, none, none, none, none, none, none, none]) fin = _
  rw [law_split, sSeq_nx (ds1 := W (.lst (ns.map D.int)) ob none none none none none none none none none none none none none none) (by
    unfold W
    simp -implicitDefEqProofs [e])]
  obtain ⟨ds', ef, hds⟩ := forL_N (g := gN 2) (b := kB) 3 (fun _ ds => StL (.lst (ns.map D.int)) ds) (l := rng 0 3) (n := 0) (ds := W (.lst (ns.map D.int)) ob none none none none none none none none none none none none none none) (fun a _ n ds _ h => turn _ a ds h) ⟨ob, none, none, none, none, none, none, none, none, none, none, none, none, none, none, t, rfl⟩ (by rw [rng0_len]; decide)
  rw [sSeq_nx (ds1 := ds') (by
    rw [sFor_ap, show iR1 (aCons (eC (.int 3)) (aNil)) (W (.lst (ns.map D.int)) ob none none none none none none none none none none none none none none) = some (rng 0 3, W (.lst (ns.map D.int)) ob none none none none none none none none none none none none none none) by kernel_rfl]
    exact ef)]
  rfl
end DL.Law
set_option maxHeartbeats 4000000
set_option maxHeartbeats 0
/-! printed by gen2.py: that the defs do that -/
namespace DL.Law
open PySem PySem.Spec PyProof.Rows L2 DL
abbrev prg : Program := PySem.Challenge.pw_twostandings_k47_whole_controllers_scann
def top (i : Nat) : Stmt := prg.main.body.getD i (.Pass ⟨0, 0, 0, 0⟩)
abbrev st__law_hand : Stmt := top 50
abbrev st__law_draw : Stmt := top 51
abbrev st__law_sizes : Stmt := top 57
abbrev st__law_name : Stmt := top 65
abbrev st__law_test : Stmt := top 64
abbrev st__law_statements : Stmt := top 66
abbrev st__law_pieces : Stmt := top 68
abbrev st__law_controller : Stmt := top 67
abbrev st_is_integer : Stmt := top 1
abbrev st_is_within : Stmt := top 2
abbrev st_are_inputs : Stmt := top 37
abbrev st_Controller_init : Stmt := (clsBody (top 38)).getD 0 (.Pass ⟨0, 0, 0, 0⟩)
abbrev st_check_sizes : Stmt := top 19
abbrev st_is_content : Stmt := top 21
abbrev st_sizes_at : Stmt := top 23
abbrev st_is_pair : Stmt := top 4
abbrev st_is_lot : Stmt := top 3
abbrev st_is_test : Stmt := top 28
abbrev st_is_name : Stmt := top 5
abbrev st_is_statement : Stmt := top 29
abbrev st_Program_init : Stmt := (clsBody (top 30)).getD 0 (.Pass ⟨0, 0, 0, 0⟩)
abbrev st__law_made : Stmt := top 71
abbrev st__law_contents : Stmt := top 52
abbrev st_check_state : Stmt := top 41
abbrev st_check_content : Stmt := top 22
abbrev st_Run_init : Stmt := (clsBody (top 33)).getD 0 (.Pass ⟨0, 0, 0, 0⟩)
abbrev st_joint_of : Stmt := top 24
abbrev st_shows : Stmt := top 31
abbrev st_changed : Stmt := top 32
abbrev st_Run_step : Stmt := (clsBody (top 33)).getD 1 (.Pass ⟨0, 0, 0, 0⟩)
abbrev st_run_of : Stmt := top 34
abbrev st_scan_of : Stmt := top 40
abbrev st_scan : Stmt := top 42
abbrev st__law_joint : Stmt := top 53
abbrev st__law_run : Stmt := top 63
abbrev st__law_scan : Stmt := top 69
abbrev st_first_state : Stmt := top 39
abbrev st_tuples_of : Stmt := top 20
abbrev st_states_of : Stmt := top 45
abbrev st_states : Stmt := top 46
abbrev st__law_reached : Stmt := top 70
abbrev st_settled : Stmt := top 47
abbrev st__law_settled : Stmt := top 72
abbrev st_steady : Stmt := top 48
abbrev st_first_bad : Stmt := top 43
abbrev st_scanned : Stmt := top 44
abbrev st_law : Stmt := top 73
def fn : List He.DefD := [⟨("_law_hand", none), "_law_hand", "_law_hand", defArgs st__law_hand, defBody st__law_hand, defScope st__law_hand, [], []⟩,
  ⟨("_law_draw", none), "_law_draw", "_law_draw", defArgs st__law_draw, defBody st__law_draw, defScope st__law_draw, [], []⟩,
  ⟨("_law_sizes", none), "_law_sizes", "_law_sizes", defArgs st__law_sizes, defBody st__law_sizes, defScope st__law_sizes, [], []⟩,
  ⟨("_law_name", none), "_law_name", "_law_name", defArgs st__law_name, defBody st__law_name, defScope st__law_name, [], []⟩,
  ⟨("_law_test", none), "_law_test", "_law_test", defArgs st__law_test, defBody st__law_test, defScope st__law_test, [], []⟩,
  ⟨("_law_statements", none), "_law_statements", "_law_statements", defArgs st__law_statements, defBody st__law_statements, defScope st__law_statements, [], []⟩,
  ⟨("_law_pieces", none), "_law_pieces", "_law_pieces", defArgs st__law_pieces, defBody st__law_pieces, defScope st__law_pieces, [], []⟩,
  ⟨("_law_controller", none), "_law_controller", "_law_controller", defArgs st__law_controller, defBody st__law_controller, defScope st__law_controller, [], []⟩,
  ⟨("is_integer", none), "is_integer", "is_integer", defArgs st_is_integer, defBody st_is_integer, defScope st_is_integer, [], []⟩,
  ⟨("is_within", none), "is_within", "is_within", defArgs st_is_within, defBody st_is_within, defScope st_is_within, [], []⟩,
  ⟨("are_inputs", none), "are_inputs", "are_inputs", defArgs st_are_inputs, defBody st_are_inputs, defScope st_are_inputs, [], []⟩,
  ⟨("Controller", some "__init__"), "__init__", "Controller.__init__", defArgs st_Controller_init, defBody st_Controller_init, defScope st_Controller_init, [], []⟩,
  ⟨("check_sizes", none), "check_sizes", "check_sizes", defArgs st_check_sizes, defBody st_check_sizes, defScope st_check_sizes, [], []⟩,
  ⟨("is_content", none), "is_content", "is_content", defArgs st_is_content, defBody st_is_content, defScope st_is_content, [], []⟩,
  ⟨("sizes_at", none), "sizes_at", "sizes_at", defArgs st_sizes_at, defBody st_sizes_at, defScope st_sizes_at, [], []⟩,
  ⟨("is_pair", none), "is_pair", "is_pair", defArgs st_is_pair, defBody st_is_pair, defScope st_is_pair, [], []⟩,
  ⟨("is_lot", none), "is_lot", "is_lot", defArgs st_is_lot, defBody st_is_lot, defScope st_is_lot, [], []⟩,
  ⟨("is_test", none), "is_test", "is_test", defArgs st_is_test, defBody st_is_test, defScope st_is_test, [], []⟩,
  ⟨("is_name", none), "is_name", "is_name", defArgs st_is_name, defBody st_is_name, defScope st_is_name, [], []⟩,
  ⟨("is_statement", none), "is_statement", "is_statement", defArgs st_is_statement, defBody st_is_statement, defScope st_is_statement, [], []⟩,
  ⟨("Program", some "__init__"), "__init__", "Program.__init__", defArgs st_Program_init, defBody st_Program_init, defScope st_Program_init, [], []⟩,
  ⟨("_law_made", none), "_law_made", "_law_made", defArgs st__law_made, defBody st__law_made, defScope st__law_made, [], []⟩,
  ⟨("_law_contents", none), "_law_contents", "_law_contents", defArgs st__law_contents, defBody st__law_contents, defScope st__law_contents, [], []⟩,
  ⟨("check_state", none), "check_state", "check_state", defArgs st_check_state, defBody st_check_state, defScope st_check_state, [], []⟩,
  ⟨("check_content", none), "check_content", "check_content", defArgs st_check_content, defBody st_check_content, defScope st_check_content, [], []⟩,
  ⟨("Run", some "__init__"), "__init__", "Run.__init__", defArgs st_Run_init, defBody st_Run_init, defScope st_Run_init, [], []⟩,
  ⟨("joint_of", none), "joint_of", "joint_of", defArgs st_joint_of, defBody st_joint_of, defScope st_joint_of, [], []⟩,
  ⟨("shows", none), "shows", "shows", defArgs st_shows, defBody st_shows, defScope st_shows, [], []⟩,
  ⟨("changed", none), "changed", "changed", defArgs st_changed, defBody st_changed, defScope st_changed, [], []⟩,
  ⟨("Run", some "step"), "step", "Run.step", defArgs st_Run_step, defBody st_Run_step, defScope st_Run_step, [], []⟩,
  ⟨("run_of", none), "run_of", "run_of", defArgs st_run_of, defBody st_run_of, defScope st_run_of, [], []⟩,
  ⟨("scan_of", none), "scan_of", "scan_of", defArgs st_scan_of, defBody st_scan_of, defScope st_scan_of, [], []⟩,
  ⟨("scan", none), "scan", "scan", defArgs st_scan, defBody st_scan, defScope st_scan, [], []⟩,
  ⟨("_law_joint", none), "_law_joint", "_law_joint", defArgs st__law_joint, defBody st__law_joint, defScope st__law_joint, [], []⟩,
  ⟨("_law_run", none), "_law_run", "_law_run", defArgs st__law_run, defBody st__law_run, defScope st__law_run, [], []⟩,
  ⟨("_law_scan", none), "_law_scan", "_law_scan", defArgs st__law_scan, defBody st__law_scan, defScope st__law_scan, [], []⟩,
  ⟨("first_state", none), "first_state", "first_state", defArgs st_first_state, defBody st_first_state, defScope st_first_state, [], []⟩,
  ⟨("tuples_of", none), "tuples_of", "tuples_of", defArgs st_tuples_of, defBody st_tuples_of, defScope st_tuples_of, [], []⟩,
  ⟨("states_of", none), "states_of", "states_of", defArgs st_states_of, defBody st_states_of, defScope st_states_of, [], []⟩,
  ⟨("states", none), "states", "states", defArgs st_states, defBody st_states, defScope st_states, [], []⟩,
  ⟨("_law_reached", none), "_law_reached", "_law_reached", defArgs st__law_reached, defBody st__law_reached, defScope st__law_reached, [], []⟩,
  ⟨("settled", none), "settled", "settled", defArgs st_settled, defBody st_settled, defScope st_settled, [], []⟩,
  ⟨("_law_settled", none), "_law_settled", "_law_settled", defArgs st__law_settled, defBody st__law_settled, defScope st__law_settled, [], []⟩,
  ⟨("steady", none), "steady", "steady", defArgs st_steady, defBody st_steady, defScope st_steady, [], []⟩,
  ⟨("first_bad", none), "first_bad", "first_bad", defArgs st_first_bad, defBody st_first_bad, defScope st_first_bad, [], []⟩,
  ⟨("scanned", none), "scanned", "scanned", defArgs st_scanned, defBody st_scanned, defScope st_scanned, [], []⟩,
  ⟨("law", none), "law", "law", defArgs st_law, defBody st_law, defScope st_law, [], []⟩]
def fa : List He.Fa := [.free "int", .free "abs", .free "len", .free "range", .free "tuple", .free "sorted", .free "set", .free "list", .free "min", .free "isinstance", .free "bool", .free "all", .cls "Program", .noat "Program" "sizes", .glo "Program", .cls "Controller", .noat "Controller" "sizes", .noat "Controller" "cells", .noat "Controller" "program", .free "zip", .free "str", .free "enumerate", .noat "Program" "statements", .cls "Run", .noat "Run" "content", .noat "Run" "flag", .noat "Run" "left", .noat "Run" "names", .glo "_law_hand", .glo "_law_draw", .glo "_law_sizes", .glo "_law_name", .glo "_law_test", .glo "_law_statements", .glo "_law_pieces", .glo "_law_controller", .glo "is_integer", .glo "is_within", .glo "are_inputs", .glo "check_sizes", .glo "is_content", .glo "sizes_at", .glo "is_pair", .glo "is_lot", .glo "is_test", .glo "is_name", .glo "is_statement", .glo "_law_made", .glo "_law_contents", .glo "check_state", .glo "check_content", .glo "joint_of", .glo "shows", .glo "changed", .glo "run_of", .glo "scan_of", .glo "scan", .glo "_law_joint", .glo "_law_run", .glo "_law_scan", .glo "first_state", .glo "tuples_of", .glo "states_of", .glo "states", .glo "_law_reached", .glo "settled", .glo "_law_settled", .glo "steady", .glo "first_bad", .glo "scanned", .glo "law", .mkr "Program", .glo "Run", .mkr "Run", .glo "Controller", .mkr "Controller", .meth "Run" "step"]
def ts : List He.Tab := []
def exs (K : PySem.W.Frag) : List Bool := [conW K "MOST_PINS" (.int 6),
  conW K "LEAST_WORTHS" (.int 2),
  conW K "MOST_WORTHS" (.int 4),
  conW K "MOST_LOOKED" (.int 3),
  conW K "CHANGES" (.tup [(.str "set"), (.str "clear"), (.str "turn")]),
  conW K "MOST_STATEMENTS" (.int 5000),
  conW K "LETTERS" (.str "abcdef"),
  isoB K "Program"]
def ex (K : PySem.W.Frag) : Bool := (exs K).all id
abbrev Sy (w : World) (h : Heap) (K : PySem.W.Frag) : Prop := He.SaysX fa fn ts [] ex w h K
section
variable {P : Program} {w : World} {K : PySem.W.Frag} {mg : Str → Option Value} {base : Heap} {h : Heap}
theorem exs_at (c : Sy w h K) (i : Nat) {b : Bool} (e : (exs K)[i]? = some b) : b = true := by
  have h1 := List.all_eq_true.mp (show (exs K).all id = true from c.more) b (List.mem_of_getElem? e)
  exact h1
theorem free_int (X : K.In h) (G : h.Ns mainGlobals mg) (c : Sy w h K) : mg "int" = none := He.free_ok X G (c.t.d.fact 0 rfl)
theorem free_abs (X : K.In h) (G : h.Ns mainGlobals mg) (c : Sy w h K) : mg "abs" = none := He.free_ok X G (c.t.d.fact 1 rfl)
theorem free_len (X : K.In h) (G : h.Ns mainGlobals mg) (c : Sy w h K) : mg "len" = none := He.free_ok X G (c.t.d.fact 2 rfl)
theorem free_range (X : K.In h) (G : h.Ns mainGlobals mg) (c : Sy w h K) : mg "range" = none := He.free_ok X G (c.t.d.fact 3 rfl)
theorem free_tuple (X : K.In h) (G : h.Ns mainGlobals mg) (c : Sy w h K) : mg "tuple" = none := He.free_ok X G (c.t.d.fact 4 rfl)
theorem free_sorted (X : K.In h) (G : h.Ns mainGlobals mg) (c : Sy w h K) : mg "sorted" = none := He.free_ok X G (c.t.d.fact 5 rfl)
theorem free_set (X : K.In h) (G : h.Ns mainGlobals mg) (c : Sy w h K) : mg "set" = none := He.free_ok X G (c.t.d.fact 6 rfl)
theorem free_list (X : K.In h) (G : h.Ns mainGlobals mg) (c : Sy w h K) : mg "list" = none := He.free_ok X G (c.t.d.fact 7 rfl)
theorem free_min (X : K.In h) (G : h.Ns mainGlobals mg) (c : Sy w h K) : mg "min" = none := He.free_ok X G (c.t.d.fact 8 rfl)
theorem free_isinstance (X : K.In h) (G : h.Ns mainGlobals mg) (c : Sy w h K) : mg "isinstance" = none := He.free_ok X G (c.t.d.fact 9 rfl)
theorem free_bool (X : K.In h) (G : h.Ns mainGlobals mg) (c : Sy w h K) : mg "bool" = none := He.free_ok X G (c.t.d.fact 10 rfl)
theorem free_all (X : K.In h) (G : h.Ns mainGlobals mg) (c : Sy w h K) : mg "all" = none := He.free_ok X G (c.t.d.fact 11 rfl)
theorem cls_Program (c : Sy w h K) : Cls K (He.ga K "Program") := He.cls_ok (c.t.d.fact 12 rfl)
theorem noat_Program_sizes (c : Sy w h K) : NoAttr K (He.ga K "Program") "sizes" := He.noat_ok (c.t.d.fact 13 rfl)
theorem glo_Program (X : K.In h) (G : h.Ns mainGlobals mg) (c : Sy w h K) : mg "Program" = some (.ref (He.ga K "Program")) := He.glo_ok X G (c.t.d.fact 14 rfl)
theorem cls_Controller (c : Sy w h K) : Cls K (He.ga K "Controller") := He.cls_ok (c.t.d.fact 15 rfl)
theorem noat_Controller_sizes (c : Sy w h K) : NoAttr K (He.ga K "Controller") "sizes" := He.noat_ok (c.t.d.fact 16 rfl)
theorem noat_Controller_cells (c : Sy w h K) : NoAttr K (He.ga K "Controller") "cells" := He.noat_ok (c.t.d.fact 17 rfl)
theorem noat_Controller_program (c : Sy w h K) : NoAttr K (He.ga K "Controller") "program" := He.noat_ok (c.t.d.fact 18 rfl)
theorem free_zip (X : K.In h) (G : h.Ns mainGlobals mg) (c : Sy w h K) : mg "zip" = none := He.free_ok X G (c.t.d.fact 19 rfl)
theorem free_str (X : K.In h) (G : h.Ns mainGlobals mg) (c : Sy w h K) : mg "str" = none := He.free_ok X G (c.t.d.fact 20 rfl)
theorem free_enumerate (X : K.In h) (G : h.Ns mainGlobals mg) (c : Sy w h K) : mg "enumerate" = none := He.free_ok X G (c.t.d.fact 21 rfl)
theorem noat_Program_statements (c : Sy w h K) : NoAttr K (He.ga K "Program") "statements" := He.noat_ok (c.t.d.fact 22 rfl)
theorem cls_Run (c : Sy w h K) : Cls K (He.ga K "Run") := He.cls_ok (c.t.d.fact 23 rfl)
theorem noat_Run_content (c : Sy w h K) : NoAttr K (He.ga K "Run") "content" := He.noat_ok (c.t.d.fact 24 rfl)
theorem noat_Run_flag (c : Sy w h K) : NoAttr K (He.ga K "Run") "flag" := He.noat_ok (c.t.d.fact 25 rfl)
theorem noat_Run_left (c : Sy w h K) : NoAttr K (He.ga K "Run") "left" := He.noat_ok (c.t.d.fact 26 rfl)
theorem noat_Run_names (c : Sy w h K) : NoAttr K (He.ga K "Run") "names" := He.noat_ok (c.t.d.fact 27 rfl)
theorem glo__law_hand (X : K.In h) (G : h.Ns mainGlobals mg) (c : Sy w h K) : mg "_law_hand" = some (.ref (He.ga K "_law_hand")) := He.glo_ok X G (c.t.d.fact 28 rfl)
theorem glo__law_draw (X : K.In h) (G : h.Ns mainGlobals mg) (c : Sy w h K) : mg "_law_draw" = some (.ref (He.ga K "_law_draw")) := He.glo_ok X G (c.t.d.fact 29 rfl)
theorem glo__law_sizes (X : K.In h) (G : h.Ns mainGlobals mg) (c : Sy w h K) : mg "_law_sizes" = some (.ref (He.ga K "_law_sizes")) := He.glo_ok X G (c.t.d.fact 30 rfl)
theorem glo__law_name (X : K.In h) (G : h.Ns mainGlobals mg) (c : Sy w h K) : mg "_law_name" = some (.ref (He.ga K "_law_name")) := He.glo_ok X G (c.t.d.fact 31 rfl)
theorem glo__law_test (X : K.In h) (G : h.Ns mainGlobals mg) (c : Sy w h K) : mg "_law_test" = some (.ref (He.ga K "_law_test")) := He.glo_ok X G (c.t.d.fact 32 rfl)
theorem glo__law_statements (X : K.In h) (G : h.Ns mainGlobals mg) (c : Sy w h K) : mg "_law_statements" = some (.ref (He.ga K "_law_statements")) := He.glo_ok X G (c.t.d.fact 33 rfl)
theorem glo__law_pieces (X : K.In h) (G : h.Ns mainGlobals mg) (c : Sy w h K) : mg "_law_pieces" = some (.ref (He.ga K "_law_pieces")) := He.glo_ok X G (c.t.d.fact 34 rfl)
theorem glo__law_controller (X : K.In h) (G : h.Ns mainGlobals mg) (c : Sy w h K) : mg "_law_controller" = some (.ref (He.ga K "_law_controller")) := He.glo_ok X G (c.t.d.fact 35 rfl)
theorem glo_is_integer (X : K.In h) (G : h.Ns mainGlobals mg) (c : Sy w h K) : mg "is_integer" = some (.ref (He.ga K "is_integer")) := He.glo_ok X G (c.t.d.fact 36 rfl)
theorem glo_is_within (X : K.In h) (G : h.Ns mainGlobals mg) (c : Sy w h K) : mg "is_within" = some (.ref (He.ga K "is_within")) := He.glo_ok X G (c.t.d.fact 37 rfl)
theorem glo_are_inputs (X : K.In h) (G : h.Ns mainGlobals mg) (c : Sy w h K) : mg "are_inputs" = some (.ref (He.ga K "are_inputs")) := He.glo_ok X G (c.t.d.fact 38 rfl)
theorem glo_check_sizes (X : K.In h) (G : h.Ns mainGlobals mg) (c : Sy w h K) : mg "check_sizes" = some (.ref (He.ga K "check_sizes")) := He.glo_ok X G (c.t.d.fact 39 rfl)
theorem glo_is_content (X : K.In h) (G : h.Ns mainGlobals mg) (c : Sy w h K) : mg "is_content" = some (.ref (He.ga K "is_content")) := He.glo_ok X G (c.t.d.fact 40 rfl)
theorem glo_sizes_at (X : K.In h) (G : h.Ns mainGlobals mg) (c : Sy w h K) : mg "sizes_at" = some (.ref (He.ga K "sizes_at")) := He.glo_ok X G (c.t.d.fact 41 rfl)
theorem glo_is_pair (X : K.In h) (G : h.Ns mainGlobals mg) (c : Sy w h K) : mg "is_pair" = some (.ref (He.ga K "is_pair")) := He.glo_ok X G (c.t.d.fact 42 rfl)
theorem glo_is_lot (X : K.In h) (G : h.Ns mainGlobals mg) (c : Sy w h K) : mg "is_lot" = some (.ref (He.ga K "is_lot")) := He.glo_ok X G (c.t.d.fact 43 rfl)
theorem glo_is_test (X : K.In h) (G : h.Ns mainGlobals mg) (c : Sy w h K) : mg "is_test" = some (.ref (He.ga K "is_test")) := He.glo_ok X G (c.t.d.fact 44 rfl)
theorem glo_is_name (X : K.In h) (G : h.Ns mainGlobals mg) (c : Sy w h K) : mg "is_name" = some (.ref (He.ga K "is_name")) := He.glo_ok X G (c.t.d.fact 45 rfl)
theorem glo_is_statement (X : K.In h) (G : h.Ns mainGlobals mg) (c : Sy w h K) : mg "is_statement" = some (.ref (He.ga K "is_statement")) := He.glo_ok X G (c.t.d.fact 46 rfl)
theorem glo__law_made (X : K.In h) (G : h.Ns mainGlobals mg) (c : Sy w h K) : mg "_law_made" = some (.ref (He.ga K "_law_made")) := He.glo_ok X G (c.t.d.fact 47 rfl)
theorem glo__law_contents (X : K.In h) (G : h.Ns mainGlobals mg) (c : Sy w h K) : mg "_law_contents" = some (.ref (He.ga K "_law_contents")) := He.glo_ok X G (c.t.d.fact 48 rfl)
theorem glo_check_state (X : K.In h) (G : h.Ns mainGlobals mg) (c : Sy w h K) : mg "check_state" = some (.ref (He.ga K "check_state")) := He.glo_ok X G (c.t.d.fact 49 rfl)
theorem glo_check_content (X : K.In h) (G : h.Ns mainGlobals mg) (c : Sy w h K) : mg "check_content" = some (.ref (He.ga K "check_content")) := He.glo_ok X G (c.t.d.fact 50 rfl)
theorem glo_joint_of (X : K.In h) (G : h.Ns mainGlobals mg) (c : Sy w h K) : mg "joint_of" = some (.ref (He.ga K "joint_of")) := He.glo_ok X G (c.t.d.fact 51 rfl)
theorem glo_shows (X : K.In h) (G : h.Ns mainGlobals mg) (c : Sy w h K) : mg "shows" = some (.ref (He.ga K "shows")) := He.glo_ok X G (c.t.d.fact 52 rfl)
theorem glo_changed (X : K.In h) (G : h.Ns mainGlobals mg) (c : Sy w h K) : mg "changed" = some (.ref (He.ga K "changed")) := He.glo_ok X G (c.t.d.fact 53 rfl)
theorem glo_run_of (X : K.In h) (G : h.Ns mainGlobals mg) (c : Sy w h K) : mg "run_of" = some (.ref (He.ga K "run_of")) := He.glo_ok X G (c.t.d.fact 54 rfl)
theorem glo_scan_of (X : K.In h) (G : h.Ns mainGlobals mg) (c : Sy w h K) : mg "scan_of" = some (.ref (He.ga K "scan_of")) := He.glo_ok X G (c.t.d.fact 55 rfl)
theorem glo_scan (X : K.In h) (G : h.Ns mainGlobals mg) (c : Sy w h K) : mg "scan" = some (.ref (He.ga K "scan")) := He.glo_ok X G (c.t.d.fact 56 rfl)
theorem glo__law_joint (X : K.In h) (G : h.Ns mainGlobals mg) (c : Sy w h K) : mg "_law_joint" = some (.ref (He.ga K "_law_joint")) := He.glo_ok X G (c.t.d.fact 57 rfl)
theorem glo__law_run (X : K.In h) (G : h.Ns mainGlobals mg) (c : Sy w h K) : mg "_law_run" = some (.ref (He.ga K "_law_run")) := He.glo_ok X G (c.t.d.fact 58 rfl)
theorem glo__law_scan (X : K.In h) (G : h.Ns mainGlobals mg) (c : Sy w h K) : mg "_law_scan" = some (.ref (He.ga K "_law_scan")) := He.glo_ok X G (c.t.d.fact 59 rfl)
theorem glo_first_state (X : K.In h) (G : h.Ns mainGlobals mg) (c : Sy w h K) : mg "first_state" = some (.ref (He.ga K "first_state")) := He.glo_ok X G (c.t.d.fact 60 rfl)
theorem glo_tuples_of (X : K.In h) (G : h.Ns mainGlobals mg) (c : Sy w h K) : mg "tuples_of" = some (.ref (He.ga K "tuples_of")) := He.glo_ok X G (c.t.d.fact 61 rfl)
theorem glo_states_of (X : K.In h) (G : h.Ns mainGlobals mg) (c : Sy w h K) : mg "states_of" = some (.ref (He.ga K "states_of")) := He.glo_ok X G (c.t.d.fact 62 rfl)
theorem glo_states (X : K.In h) (G : h.Ns mainGlobals mg) (c : Sy w h K) : mg "states" = some (.ref (He.ga K "states")) := He.glo_ok X G (c.t.d.fact 63 rfl)
theorem glo__law_reached (X : K.In h) (G : h.Ns mainGlobals mg) (c : Sy w h K) : mg "_law_reached" = some (.ref (He.ga K "_law_reached")) := He.glo_ok X G (c.t.d.fact 64 rfl)
theorem glo_settled (X : K.In h) (G : h.Ns mainGlobals mg) (c : Sy w h K) : mg "settled" = some (.ref (He.ga K "settled")) := He.glo_ok X G (c.t.d.fact 65 rfl)
theorem glo__law_settled (X : K.In h) (G : h.Ns mainGlobals mg) (c : Sy w h K) : mg "_law_settled" = some (.ref (He.ga K "_law_settled")) := He.glo_ok X G (c.t.d.fact 66 rfl)
theorem glo_steady (X : K.In h) (G : h.Ns mainGlobals mg) (c : Sy w h K) : mg "steady" = some (.ref (He.ga K "steady")) := He.glo_ok X G (c.t.d.fact 67 rfl)
theorem glo_first_bad (X : K.In h) (G : h.Ns mainGlobals mg) (c : Sy w h K) : mg "first_bad" = some (.ref (He.ga K "first_bad")) := He.glo_ok X G (c.t.d.fact 68 rfl)
theorem glo_scanned (X : K.In h) (G : h.Ns mainGlobals mg) (c : Sy w h K) : mg "scanned" = some (.ref (He.ga K "scanned")) := He.glo_ok X G (c.t.d.fact 69 rfl)
theorem glo_law (X : K.In h) (G : h.Ns mainGlobals mg) (c : Sy w h K) : mg "law" = some (.ref (He.ga K "law")) := He.glo_ok X G (c.t.d.fact 70 rfl)
theorem mkr_Program (c : Sy w h K) : Mk K (He.ga K "Program") (He.ma K (He.ga K "Program") "__init__") := He.mkr_ok (c.t.d.fact 71 rfl)
theorem glo_Run (X : K.In h) (G : h.Ns mainGlobals mg) (c : Sy w h K) : mg "Run" = some (.ref (He.ga K "Run")) := He.glo_ok X G (c.t.d.fact 72 rfl)
theorem mkr_Run (c : Sy w h K) : Mk K (He.ga K "Run") (He.ma K (He.ga K "Run") "__init__") := He.mkr_ok (c.t.d.fact 73 rfl)
theorem glo_Controller (X : K.In h) (G : h.Ns mainGlobals mg) (c : Sy w h K) : mg "Controller" = some (.ref (He.ga K "Controller")) := He.glo_ok X G (c.t.d.fact 74 rfl)
theorem mkr_Controller (c : Sy w h K) : Mk K (He.ga K "Controller") (He.ma K (He.ga K "Controller") "__init__") := He.mkr_ok (c.t.d.fact 75 rfl)
theorem meth_Run_step (c : Sy w h K) : Meth K (He.ga K "Run") "step" (He.ma K (He.ga K "Run") "step") := He.meth_ok (c.t.d.fact 76 rfl)
theorem con_MOST_PINS (X : K.In h) (G : h.Ns mainGlobals mg) (c : Sy w h K) : DL.Con K mg "MOST_PINS" (.int 6) := conW_ok X G (exs_at c 0 rfl)
theorem con_LEAST_WORTHS (X : K.In h) (G : h.Ns mainGlobals mg) (c : Sy w h K) : DL.Con K mg "LEAST_WORTHS" (.int 2) := conW_ok X G (exs_at c 1 rfl)
theorem con_MOST_WORTHS (X : K.In h) (G : h.Ns mainGlobals mg) (c : Sy w h K) : DL.Con K mg "MOST_WORTHS" (.int 4) := conW_ok X G (exs_at c 2 rfl)
theorem con_MOST_LOOKED (X : K.In h) (G : h.Ns mainGlobals mg) (c : Sy w h K) : DL.Con K mg "MOST_LOOKED" (.int 3) := conW_ok X G (exs_at c 3 rfl)
theorem con_CHANGES (X : K.In h) (G : h.Ns mainGlobals mg) (c : Sy w h K) : DL.Con K mg "CHANGES" (.tup [(.str "set"), (.str "clear"), (.str "turn")]) := conW_ok X G (exs_at c 4 rfl)
theorem con_MOST_STATEMENTS (X : K.In h) (G : h.Ns mainGlobals mg) (c : Sy w h K) : DL.Con K mg "MOST_STATEMENTS" (.int 5000) := conW_ok X G (exs_at c 5 rfl)
theorem con_LETTERS (X : K.In h) (G : h.Ns mainGlobals mg) (c : Sy w h K) : DL.Con K mg "LETTERS" (.str "abcdef") := conW_ok X G (exs_at c 6 rfl)
theorem iso_Program (c : Sy w h K) : IsO K (He.ga K "Program") := isoB_ok (cls_Program c) (exs_at c 7 rfl)
theorem S__law_hand : FnScope ["script", "cells", "cell"] ["script"] (defScope st__law_hand) := ⟨rfl, rfl, rfl, by decide +kernel, rfl, by decide +kernel, by decide +kernel⟩
theorem ok__law_hand (X : K.In h) (G : h.Ns mainGlobals mg) (c : Sy w h K) : Ok P w K mg base "_law_hand" 1 1 m__law_hand :=
  Ok.mk' S__law_hand rfl rfl (c.t.d.def_ 0 rfl) (glo__law_hand X G c) (fun _ _ _ _ _ _ us hl => match us, hl with | [_], _ => rfl)
  (fun cdv A outer s H E hr => dss_cons (ds_setLc (i := 1) (own := [("cell", 2)]) rfl S__law_hand.nd rfl rfl (.inl rfl) (by rfl) (.inl rfl) (by decide) (by decide) (blkOk_by (own := [("cell", 2)]) (by rfl)) (di_ofX (d_slice (d_var 0) (do_none) (do_some (d_int)))) (fun s H C cl fp => dg_name (i := 2) S__law_hand.nd rfl (by first | exact .inl rfl | exact .inr rfl) (.inl rfl)) (fun s H C cl fp => dts_nil) (fun s H C cl fp => d_callB (cd_abs) rfl (free_abs X G c) (by rfl) (da_cons (d_callTy (cd_int) rfl (free_int X G c) (by rfl) (da_cons (d_var 2) (da_nil))) (da_nil)))) (dss_cons (ds_ret (d_lst (da_cons (d_var 1) (da_cons (d_int) (da_cons (d_int) (da_cons (d_bin opd_add (d_int) (d_callB (cd_lenX) rfl (free_len X G c) (by rfl) (da_cons (d_var 1) (da_nil)))) (da_cons (d_int) (da_nil)))))))) dss_nil))
theorem S__law_draw : FnScope ["hand", "many", "cell", "digit", "number"] ["hand", "many"] (defScope st__law_draw) := ⟨rfl, rfl, rfl, by decide +kernel, rfl, by decide +kernel, by decide +kernel⟩
theorem ok__law_draw (X : K.In h) (G : h.Ns mainGlobals mg) (c : Sy w h K) : OkIo P w K mg base "_law_draw" 1 2 m__law_draw :=
  OkIo.mk' S__law_draw rfl rfl (c.t.d.def_ 1 rfl) (glo__law_draw X G c) (fun _ _ _ _ _ _ us hl => match us, hl with | [_, _], _ => rfl)
  (fun cdv A outer s H E hr => dss_cons (ds_if (DW.dt (dw_and (DC.dt (dc_op (opd_eq hr.units) (d_atT hr.units (d_var 0) (d_int)) (d_int))) (dw_and1 (DC.dt (dc_op (opd_lt hr.units) (d_atT hr.units (d_var 0) (d_int)) (d_callB (cd_lenX) rfl (free_len X G c) (by rfl) (da_cons (d_atT hr.units (d_var 0) (d_int)) (da_nil)))))))) (dss_cons (ds_set (i := 2) S__law_draw.nd rfl (by first | exact .inl rfl | exact .inr rfl) (.inr (by decide)) (d_atT hr.units (d_atT hr.units (d_var 0) (d_int)) (d_atT hr.units (d_var 0) (d_int)))) (dss_cons (ds_putT hr.units (d_var 0) (d_int) (d_bin opd_add (d_atT hr.units (d_var 0) (d_int)) (d_int))) (dss_cons (ds_putT hr.units (d_var 0) (d_int) (d_bin opd_mod (d_callTy (cd_int) rfl (free_int X G c) (by rfl) (da_cons (d_bin opd_add (d_bin opd_add (d_bin opd_mulX (d_atT hr.units (d_var 0) (d_int)) (d_int)) (d_var 2)) (d_int)) (da_nil))) (d_int))) (dss_cons (ds_if (DC.dt (dc_op (opd_ge hr.units) (d_var 2) (d_bin opd_pow (d_int) (d_int)))) (dss_cons (ds_putT hr.units (d_var 0) (d_int) (d_var 2)) dss_nil) (dss_nil)) dss_nil)))) (dss_nil)) (dss_cons (ds_if (DC.dt (dc_op (opd_gt hr.units) (d_atT hr.units (d_var 0) (d_int)) (d_int))) (dss_cons (ds_set (i := 3) S__law_draw.nd rfl (by first | exact .inl rfl | exact .inr rfl) (.inr (by decide)) (d_bin opd_mod (d_callTy (cd_int) rfl (free_int X G c) (by rfl) (da_cons (d_atT hr.units (d_var 0) (d_int)) (da_nil))) (d_var 1))) (dss_cons (ds_putT hr.units (d_var 0) (d_int) (d_bin opd_fdiv (d_atT hr.units (d_var 0) (d_int)) (d_var 1))) (dss_cons (ds_ret (d_var 3)) dss_nil))) (dss_nil)) (dss_cons (ds_putT hr.units (d_var 0) (d_int) (d_bin opd_add (d_atT hr.units (d_var 0) (d_int)) (d_int))) (dss_cons (ds_set (i := 4) S__law_draw.nd rfl (by first | exact .inl rfl | exact .inr rfl) (.inr (by decide)) (d_bin opd_mod (d_callTy (cd_int) rfl (free_int X G c) (by rfl) (da_cons (d_bin opd_mulX (d_callTy (cd_int) rfl (free_int X G c) (by rfl) (da_cons (d_bin opd_add (d_atT hr.units (d_var 0) (d_int)) (d_bin opd_mulX (d_int) (d_atT hr.units (d_var 0) (d_int)))) (da_nil))) (d_int)) (da_nil))) (d_int))) (dss_cons (ds_set (i := 4) S__law_draw.nd rfl (by first | exact .inl rfl | exact .inr rfl) (.inr (by decide)) (d_bin opd_mod (d_callTy (cd_int) rfl (free_int X G c) (by rfl) (da_cons (d_bin opd_mulX (d_var 4) (d_bin opd_add (d_bin opd_fdiv (d_var 4) (d_int)) (d_int))) (da_nil))) (d_int))) (dss_cons (ds_set (i := 4) S__law_draw.nd rfl (by first | exact .inl rfl | exact .inr rfl) (.inr (by decide)) (d_bin opd_mod (d_callTy (cd_int) rfl (free_int X G c) (by rfl) (da_cons (d_bin opd_mulX (d_var 4) (d_bin opd_add (d_bin opd_fdiv (d_var 4) (d_int)) (d_int))) (da_nil))) (d_int))) (dss_cons (ds_ret (d_bin opd_mod (d_callTy (cd_int) rfl (free_int X G c) (by rfl) (da_cons (d_bin opd_fdiv (d_var 4) (d_int)) (da_nil))) (d_var 1))) dss_nil)))))))
theorem S__law_sizes : FnScope ["hand", "most", "found", "total", "pin", "size"] ["hand", "most"] (defScope st__law_sizes) := ⟨rfl, rfl, rfl, by decide +kernel, rfl, by decide +kernel, by decide +kernel⟩
theorem ok__law_sizes (X : K.In h) (G : h.Ns mainGlobals mg) (c : Sy w h K) : OkIo P w K mg base "_law_sizes" 2 2 m__law_sizes :=
  OkIo.mk' S__law_sizes rfl rfl (c.t.d.def_ 2 rfl) (glo__law_sizes X G c) (fun _ _ _ _ _ _ us hl => match us, hl with | [_, _], _ => rfl)
  (fun cdv A outer s H E hr => dss_cons (ds_set (i := 2) S__law_sizes.nd rfl (by first | exact .inl rfl | exact .inr rfl) (.inr (by decide)) (d_lst (da_nil))) (dss_cons (ds_set (i := 3) S__law_sizes.nd rfl (by first | exact .inl rfl | exact .inr rfl) (.inr (by decide)) (d_int)) (dss_cons (ds_for own_nox rfl (di_range1 rfl (free_range X G c) (da_cons (d_bin opd_add (d_int) (c_callIo (ok__law_draw X G c) hr (by decide) (da_cons (d_var 0) (da_cons (d_int) (da_nil))))) (da_nil))) (dg_name (i := 4) S__law_sizes.nd rfl (by first | exact .inl rfl | exact .inr rfl) (.inr (by decide))) (dss_cons (ds_set (i := 5) S__law_sizes.nd rfl (by first | exact .inl rfl | exact .inr rfl) (.inr (by decide)) (d_atT hr.units (d_lst (da_cons (d_int) (da_cons (d_int) (da_cons (d_int) (da_cons (d_int) (da_cons (d_int) (da_cons (d_int) (da_nil)))))))) (c_callIo (ok__law_draw X G c) hr (by decide) (da_cons (d_var 0) (da_cons (d_int) (da_nil)))))) (dss_cons (ds_if (DC.dt (dc_op (opd_le hr.units) (d_bin opd_mulX (d_var 3) (d_var 5)) (d_var 1))) (dss_cons (ds_expr (d_lm ld_append PySem.F.plainAttrs_list PySem.F.slot_list_append (by first | rfl | kernel_rfl) (d_var 2) (da_cons (d_var 5) (da_nil)))) (dss_cons (ds_set (i := 3) S__law_sizes.nd rfl (by first | exact .inl rfl | exact .inr rfl) (.inr (by decide)) (d_bin opd_mulX (d_var 3) (d_var 5))) dss_nil)) (dss_nil)) dss_nil))) (dss_cons (ds_ret (d_if (DC.dt (dc_op (opd_gt hr.units) (d_callB (cd_lenX) rfl (free_len X G c) (by rfl) (da_cons (d_var 2) (da_nil))) (d_int))) (d_callTy (cd_tuple) rfl (free_tuple X G c) (by rfl) (da_cons (d_var 2) (da_nil))) (d_tup (da_cons (d_int) (da_nil))))) dss_nil))))
theorem S__law_name : FnScope ["hand", "names"] ["hand", "names"] (defScope st__law_name) := ⟨rfl, rfl, rfl, by decide +kernel, rfl, by decide +kernel, by decide +kernel⟩
theorem ok__law_name (X : K.In h) (G : h.Ns mainGlobals mg) (c : Sy w h K) : OkIo P w K mg base "_law_name" 2 2 m__law_name :=
  OkIo.mk' S__law_name rfl rfl (c.t.d.def_ 3 rfl) (glo__law_name X G c) (fun _ _ _ _ _ _ us hl => match us, hl with | [_, _], _ => rfl)
  (fun cdv A outer s H E hr => dss_cons (ds_ret (d_atT hr.units (d_var 1) (c_callIo (ok__law_draw X G c) hr (by decide) (da_cons (d_var 0) (da_cons (d_callB (cd_lenX) rfl (free_len X G c) (by rfl) (da_cons (d_var 1) (da_nil))) (da_nil)))))) dss_nil)
theorem S__law_test : FnScope ["hand", "sizes", "lot", "pin"] ["hand", "sizes"] (defScope st__law_test) := ⟨rfl, rfl, rfl, by decide +kernel, rfl, by decide +kernel, by decide +kernel⟩
theorem ok__law_test (X : K.In h) (G : h.Ns mainGlobals mg) (c : Sy w h K) : OkIo P w K mg base "_law_test" 2 2 m__law_test :=
  OkIo.mk' S__law_test rfl rfl (c.t.d.def_ 4 rfl) (glo__law_test X G c) (fun _ _ _ _ _ _ us hl => match us, hl with | [_, _], _ => rfl)
  (fun cdv A outer s H E hr => dss_cons (ds_set (i := 2) S__law_test.nd rfl (by first | exact .inl rfl | exact .inr rfl) (.inr (by decide)) (d_callTy (cd_tuple) rfl (free_tuple X G c) (by rfl) (da_cons (d_sortSet rfl rfl (free_sorted X G c) rfl (free_set X G c) (da_cons (d_lc (own := [("pin", 3)]) rfl S__law_test.nd (.inr (by decide)) (by decide) (by decide) (blkOk_by (own := [("pin", 3)]) (by rfl)) (di_range1 rfl (free_range X G c) (da_cons (c_callIo (ok__law_draw X G c) hr (by decide) (da_cons (d_var 0) (da_cons (d_int) (da_nil)))) (da_nil))) (fun s H C cl fp => dg_name (i := 3) S__law_test.nd rfl (by first | exact .inl rfl | exact .inr rfl) (.inr (by decide))) (fun s H C cl fp => dts_nil) (fun s H C cl fp => c_callIo (ok__law_draw X G c) hr (by decide) (da_cons (d_var 0) (da_cons (d_callB (cd_lenX) rfl (free_len X G c) (by rfl) (da_cons (d_var 1) (da_nil))) (da_nil))))) (da_nil))) (da_nil)))) (dss_cons (ds_ret (d_tup (da_cons (d_var 2) (da_cons (d_callTy (cd_tuple) rfl (free_tuple X G c) (by rfl) (da_cons (d_lc (own := [("pin", 3)]) rfl S__law_test.nd (.inr (by decide)) (by decide) (by decide) (blkOk_by (own := [("pin", 3)]) (by rfl)) (di_ofX (d_var 2)) (fun s H C cl fp => dg_name (i := 3) S__law_test.nd rfl (by first | exact .inl rfl | exact .inr rfl) (.inr (by decide))) (fun s H C cl fp => dts_nil) (fun s H C cl fp => c_callIo (ok__law_draw X G c) hr (by decide) (da_cons (d_var 0) (da_cons (d_atT hr.units (d_var 1) (d_var 3)) (da_nil))))) (da_nil))) (da_nil))))) dss_nil))
theorem S__law_statements : FnScope ["hand", "sizes", "names", "most", "found", "turn", "word"] ["hand", "sizes", "names", "most"] (defScope st__law_statements) := ⟨rfl, rfl, rfl, by decide +kernel, rfl, by decide +kernel, by decide +kernel⟩
theorem ok__law_statements (X : K.In h) (G : h.Ns mainGlobals mg) (c : Sy w h K) : OkIo P w K mg base "_law_statements" 3 4 m__law_statements :=
  OkIo.mk' S__law_statements rfl rfl (c.t.d.def_ 5 rfl) (glo__law_statements X G c) (fun _ _ _ _ _ _ us hl => match us, hl with | [_, _, _, _], _ => rfl)
  (fun cdv A outer s H E hr => dss_cons (ds_set (i := 4) S__law_statements.nd rfl (by first | exact .inl rfl | exact .inr rfl) (.inr (by decide)) (d_lst (da_nil))) (dss_cons (ds_for own_nox rfl (di_range1 rfl (free_range X G c) (da_cons (c_callIo (ok__law_draw X G c) hr (by decide) (da_cons (d_var 0) (da_cons (d_bin opd_add (d_var 3) (d_int)) (da_nil)))) (da_nil))) (dg_name (i := 5) S__law_statements.nd rfl (by first | exact .inl rfl | exact .inr rfl) (.inr (by decide))) (dss_cons (ds_set (i := 6) S__law_statements.nd rfl (by first | exact .inl rfl | exact .inr rfl) (.inr (by decide)) (d_atT hr.units (d_lst (da_cons (d_str) (da_cons (d_str) (da_cons (d_str) (da_cons (d_str) (da_cons (d_str) (da_cons (d_str) (da_cons (d_str) (da_cons (d_str) (da_nil)))))))))) (c_callIo (ok__law_draw X G c) hr (by decide) (da_cons (d_var 0) (da_cons (d_int) (da_nil)))))) (dss_cons (ds_if (DC.dt (dc_op (opd_eq hr.units) (d_var 6) (d_str))) (dss_cons (ds_expr (d_lm ld_append PySem.F.plainAttrs_list PySem.F.slot_list_append (by first | rfl | kernel_rfl) (d_var 4) (da_cons (d_tup (da_cons (d_var 6) (da_cons (c_callIo (ok__law_name X G c) hr (by decide) (da_cons (d_var 0) (da_cons (d_var 2) (da_nil)))) (da_nil)))) (da_nil)))) dss_nil) (dss_cons (ds_if (DC.dt (dc_op (opd_eq hr.units) (d_var 6) (d_str))) (dss_cons (ds_expr (d_lm ld_append PySem.F.plainAttrs_list PySem.F.slot_list_append (by first | rfl | kernel_rfl) (d_var 4) (da_cons (d_tup (da_cons (d_var 6) (da_cons (d_bin opd_add (d_int) (c_callIo (ok__law_draw X G c) hr (by decide) (da_cons (d_var 0) (da_cons (d_int) (da_nil))))) (da_cons (c_callIo (ok__law_test X G c) hr (by decide) (da_cons (d_var 0) (da_cons (d_var 1) (da_nil)))) (da_nil))))) (da_nil)))) dss_nil) (dss_cons (ds_expr (d_lm ld_append PySem.F.plainAttrs_list PySem.F.slot_list_append (by first | rfl | kernel_rfl) (d_var 4) (da_cons (d_tup (da_cons (d_var 6) (da_cons (c_callIo (ok__law_test X G c) hr (by decide) (da_cons (d_var 0) (da_cons (d_var 1) (da_nil)))) (da_nil)))) (da_nil)))) dss_nil)) dss_nil)) dss_nil))) (dss_cons (ds_ret (d_callTy (cd_tuple) rfl (free_tuple X G c) (by rfl) (da_cons (d_var 4) (da_nil)))) dss_nil)))
theorem S__law_pieces : FnScope ["hand", "sizes", "names", "left", "found", "name", "turn", "lot", "pin", "word"] ["hand", "sizes", "names"] (defScope st__law_pieces) := ⟨rfl, rfl, rfl, by decide +kernel, rfl, by decide +kernel, by decide +kernel⟩
theorem ok__law_pieces (X : K.In h) (G : h.Ns mainGlobals mg) (c : Sy w h K) : OkIo P w K mg base "_law_pieces" 2 3 m__law_pieces :=
  OkIo.mk' S__law_pieces rfl rfl (c.t.d.def_ 6 rfl) (glo__law_pieces X G c) (fun _ _ _ _ _ _ us hl => match us, hl with | [_, _, _], _ => rfl)
  (fun cdv A outer s H E hr => dss_cons (ds_par (i := 3) (j := 4) rfl S__law_pieces.nd rfl rfl (by decide) rfl rfl (.inr (by decide)) (.inr (by decide)) (da_cons (d_callTy (cd_listY rfl) rfl (free_list X G c) (by rfl) (da_cons (d_var 2) (da_nil))) (da_cons (d_lst (da_nil)) (da_nil))) (by rfl)) (dss_cons (ds_while (n := fuel) own_nox (DC.dt (dc_op (opd_gt hr.units) (d_callB (cd_lenX) rfl (free_len X G c) (by rfl) (da_cons (d_var 3) (da_nil))) (d_int))) (dss_cons (ds_set (i := 5) S__law_pieces.nd rfl (by first | exact .inl rfl | exact .inr rfl) (.inr (by decide)) (d_lm ld_pop PySem.F.plainAttrs_list PySem.F.slot_list_pop (by first | rfl | kernel_rfl) (d_var 3) (da_cons (c_callIo (ok__law_draw X G c) hr (by decide) (da_cons (d_var 0) (da_cons (d_callB (cd_lenX) rfl (free_len X G c) (by rfl) (da_cons (d_var 3) (da_nil))) (da_nil)))) (da_nil)))) (dss_cons (ds_if (DC.dt (dc_op (opd_gt hr.units) (c_callIo (ok__law_draw X G c) hr (by decide) (da_cons (d_var 0) (da_cons (d_int) (da_nil)))) (d_int))) (dss_cons (ds_expr (d_lm ld_append PySem.F.plainAttrs_list PySem.F.slot_list_append (by first | rfl | kernel_rfl) (d_var 4) (da_cons (d_tup (da_cons (d_atT hr.units (d_lst (da_cons (d_str) (da_cons (d_str) (da_nil)))) (c_callIo (ok__law_draw X G c) hr (by decide) (da_cons (d_var 0) (da_cons (d_int) (da_nil))))) (da_cons (d_tup (da_cons (d_tup (da_nil)) (da_cons (d_tup (da_nil)) (da_nil)))) (da_nil)))) (da_nil)))) dss_nil) (dss_nil)) (dss_cons (ds_for own_nox rfl (di_range1 rfl (free_range X G c) (da_cons (d_bin opd_add (d_int) (c_callIo (ok__law_draw X G c) hr (by decide) (da_cons (d_var 0) (da_cons (d_int) (da_nil))))) (da_nil))) (dg_name (i := 6) S__law_pieces.nd rfl (by first | exact .inl rfl | exact .inr rfl) (.inr (by decide))) (dss_cons (ds_set (i := 7) S__law_pieces.nd rfl (by first | exact .inl rfl | exact .inr rfl) (.inr (by decide)) (d_callTy (cd_tuple) rfl (free_tuple X G c) (by rfl) (da_cons (d_sortSet rfl rfl (free_sorted X G c) rfl (free_set X G c) (da_cons (d_lc (own := [("pin", 8)]) rfl S__law_pieces.nd (.inr (by decide)) (by decide) (by decide) (blkOk_by (own := [("pin", 8)]) (by rfl)) (di_range1 rfl (free_range X G c) (da_cons (d_bin opd_add (d_int) (c_callIo (ok__law_draw X G c) hr (by decide) (da_cons (d_var 0) (da_cons (d_int) (da_nil))))) (da_nil))) (fun s H C cl fp => dg_name (i := 8) S__law_pieces.nd rfl (by first | exact .inl rfl | exact .inr rfl) (.inr (by decide))) (fun s H C cl fp => dts_nil) (fun s H C cl fp => c_callIo (ok__law_draw X G c) hr (by decide) (da_cons (d_var 0) (da_cons (d_callB (cd_lenX) rfl (free_len X G c) (by rfl) (da_cons (d_var 1) (da_nil))) (da_nil))))) (da_nil))) (da_nil)))) (dss_cons (ds_set (i := 9) S__law_pieces.nd rfl (by first | exact .inl rfl | exact .inr rfl) (.inr (by decide)) (d_atT hr.units (d_lst (da_cons (d_str) (da_cons (d_str) (da_cons (d_str) (da_cons (d_str) (da_nil)))))) (c_callIo (ok__law_draw X G c) hr (by decide) (da_cons (d_var 0) (da_cons (d_int) (da_nil)))))) (dss_cons (ds_expr (d_lm ld_append PySem.F.plainAttrs_list PySem.F.slot_list_append (by first | rfl | kernel_rfl) (d_var 4) (da_cons (d_tup (da_cons (d_var 9) (da_cons (d_tup (da_cons (d_var 7) (da_cons (d_callTy (cd_tuple) rfl (free_tuple X G c) (by rfl) (da_cons (d_lc (own := [("pin", 8)]) rfl S__law_pieces.nd (.inr (by decide)) (by decide) (by decide) (blkOk_by (own := [("pin", 8)]) (by rfl)) (di_ofX (d_var 7)) (fun s H C cl fp => dg_name (i := 8) S__law_pieces.nd rfl (by first | exact .inl rfl | exact .inr rfl) (.inr (by decide))) (fun s H C cl fp => dts_nil) (fun s H C cl fp => c_callIo (ok__law_draw X G c) hr (by decide) (da_cons (d_var 0) (da_cons (d_atT hr.units (d_var 1) (d_var 8)) (da_nil))))) (da_nil))) (da_nil)))) (da_nil)))) (da_nil)))) dss_nil)))) (dss_cons (ds_expr (d_lm ld_append PySem.F.plainAttrs_list PySem.F.slot_list_append (by first | rfl | kernel_rfl) (d_var 4) (da_cons (d_tup (da_cons (d_str) (da_cons (d_var 5) (da_nil)))) (da_nil)))) dss_nil))))) (dss_cons (ds_ret (d_callTy (cd_tuple) rfl (free_tuple X G c) (by rfl) (da_cons (d_var 4) (da_nil)))) dss_nil)))
theorem S__law_controller : FnScope ["hand", "most", "sizes", "cells", "names"] ["hand", "most"] (defScope st__law_controller) := ⟨rfl, rfl, rfl, by decide +kernel, rfl, by decide +kernel, by decide +kernel⟩
theorem ok__law_controller (X : K.In h) (G : h.Ns mainGlobals mg) (c : Sy w h K) : OkIo P w K mg base "_law_controller" 4 2 m__law_controller :=
  OkIo.mk' S__law_controller rfl rfl (c.t.d.def_ 7 rfl) (glo__law_controller X G c) (fun _ _ _ _ _ _ us hl => match us, hl with | [_, _], _ => rfl)
  (fun cdv A outer s H E hr => dss_cons (ds_set (i := 2) S__law_controller.nd rfl (by first | exact .inl rfl | exact .inr rfl) (.inr (by decide)) (d_slice (c_callIo (ok__law_sizes X G c) hr (by decide) (da_cons (d_var 0) (da_cons (d_bin opd_fdiv (d_var 1) (d_int)) (da_nil)))) (do_none) (do_some (d_int)))) (dss_cons (ds_set (i := 3) S__law_controller.nd rfl (by first | exact .inl rfl | exact .inr rfl) (.inr (by decide)) (d_atT hr.units (d_lst (da_cons (d_int) (da_cons (d_int) (da_cons (d_int) (da_cons (d_int) (da_cons (d_int) (da_cons (d_int) (da_nil)))))))) (c_callIo (ok__law_draw X G c) hr (by decide) (da_cons (d_var 0) (da_cons (d_int) (da_nil)))))) (dss_cons (ds_set (i := 3) S__law_controller.nd rfl (by first | exact .inl rfl | exact .inr rfl) (.inr (by decide)) (d_callB (cd_min2 rfl) rfl (free_min X G c) (by rfl) (da_cons (d_var 3) (da_cons (d_bin opd_sub (d_int) (d_callB (cd_lenX) rfl (free_len X G c) (by rfl) (da_cons (d_var 2) (da_nil)))) (da_nil))))) (dss_cons (ds_set (i := 4) S__law_controller.nd rfl (by first | exact .inl rfl | exact .inr rfl) (.inr (by decide)) (d_bin opd_add (d_lst (da_cons (d_str) (da_cons (d_str) (da_cons (d_str) (da_nil))))) (d_slice (d_lst (da_cons (d_str) (da_cons (d_str) (da_cons (d_str) (da_cons (d_str) (da_cons (d_str) (da_nil))))))) (do_none) (do_some (d_atT hr.units (d_lst (da_cons (d_int) (da_cons (d_int) (da_cons (d_int) (da_cons (d_int) (da_nil)))))) (d_var 3)))))) (dss_cons (ds_if (DC.dt (dc_op (opd_gt hr.units) (c_callIo (ok__law_draw X G c) hr (by decide) (da_cons (d_var 0) (da_cons (d_int) (da_nil)))) (d_int))) (dss_cons (ds_ret (d_tup (da_cons (d_var 2) (da_cons (d_var 3) (da_cons (c_callIo (ok__law_pieces X G c) hr (by decide) (da_cons (d_var 0) (da_cons (d_bin opd_add (d_var 2) (d_bin opd_mulX (d_tup (da_cons (d_int) (da_nil))) (d_var 3))) (da_cons (d_bin opd_add (d_slice (d_lst (da_cons (d_str) (da_cons (d_str) (da_cons (d_str) (da_nil))))) (do_none) (do_some (d_var 3))) (d_lst (da_cons (d_str) (da_cons (d_str) (da_nil))))) (da_nil))))) (da_nil)))))) dss_nil) (dss_nil)) (dss_cons (ds_ret (d_tup (da_cons (d_var 2) (da_cons (d_var 3) (da_cons (c_callIo (ok__law_statements X G c) hr (by decide) (da_cons (d_var 0) (da_cons (d_bin opd_add (d_var 2) (d_bin opd_mulX (d_tup (da_cons (d_int) (da_nil))) (d_var 3))) (da_cons (d_var 4) (da_cons (d_atT hr.units (d_lst (da_cons (d_int) (da_cons (d_int) (da_cons (d_int) (da_nil))))) (c_callIo (ok__law_draw X G c) hr (by decide) (da_cons (d_var 0) (da_cons (d_int) (da_nil))))) (da_nil)))))) (da_nil)))))) dss_nil))))))
theorem S_is_integer : FnScope ["thing"] ["thing"] (defScope st_is_integer) := ⟨rfl, rfl, rfl, by decide +kernel, rfl, by decide +kernel, by decide +kernel⟩
theorem ok_is_integer (X : K.In h) (G : h.Ns mainGlobals mg) (c : Sy w h K) : Ok P w K mg base "is_integer" 1 1 m_is_integer :=
  Ok.mk' S_is_integer rfl rfl (c.t.d.def_ 8 rfl) (glo_is_integer X G c) (fun _ _ _ _ _ _ us hl => match us, hl with | [_], _ => rfl)
  (fun cdv A outer s H E hr => dss_cons (ds_ret (d_and (d_isi (T := "int") (by decide +kernel) (by decide) rfl (free_isinstance X G c) (by rfl) (d_var 0) rfl (free_int X G c) (by rfl)) (d_one (d_not (d_isi (T := "bool") (by decide +kernel) (by decide) rfl (free_isinstance X G c) (by rfl) (d_var 0) rfl (free_bool X G c) (by rfl)))))) dss_nil)
theorem S_is_within : FnScope ["thing", "least", "most"] ["thing", "least", "most"] (defScope st_is_within) := ⟨rfl, rfl, rfl, by decide +kernel, rfl, by decide +kernel, by decide +kernel⟩
theorem ok_is_within (X : K.In h) (G : h.Ns mainGlobals mg) (c : Sy w h K) : Ok P w K mg base "is_within" 2 3 m_is_within :=
  Ok.mk' S_is_within rfl rfl (c.t.d.def_ 9 rfl) (glo_is_within X G c) (fun _ _ _ _ _ _ us hl => match us, hl with | [_, _, _], _ => rfl)
  (fun cdv A outer s H E hr => dss_cons (ds_ret (d_and (c_call (ok_is_integer X G c) hr (by decide) (da_cons (d_var 0) (da_nil))) (d_one (d_chain (opd_le hr.units) (opd_le hr.units) (d_var 1) (d_var 0) (d_var 2))))) dss_nil)
theorem S_are_inputs : FnScope ["thing", "size"] ["thing"] (defScope st_are_inputs) := ⟨rfl, rfl, rfl, by decide +kernel, rfl, by decide +kernel, by decide +kernel⟩
theorem ok_are_inputs (X : K.In h) (G : h.Ns mainGlobals mg) (c : Sy w h K) : Ok P w K mg base "are_inputs" 3 1 m_are_inputs :=
  Ok.mk' S_are_inputs rfl rfl (c.t.d.def_ 10 rfl) (glo_are_inputs X G c) (fun _ _ _ _ _ _ us hl => match us, hl with | [_], _ => rfl)
  (fun cdv A outer s H E hr => dss_cons (ds_if (DW.dt (dw_or (dt_not (dt_val (d_isi (T := "tuple") (by decide +kernel) (by decide) rfl (free_isinstance X G c) (by rfl) (d_var 0) rfl (free_tuple X G c) (by rfl)))) (dw_or1 (dt_not (dt_chain (d_chain (opd_le hr.units) (opd_le hr.units) (d_int) (d_callB (cd_lenX) rfl (free_len X G c) (by rfl) (da_cons (d_var 0) (da_nil))) (c_con (con_MOST_PINS X G c))) (opd_le hr.units) (opd_le hr.units) (d_int) (d_callB (cd_lenX) rfl (free_len X G c) (by rfl) (da_cons (d_var 0) (da_nil))) (c_con (con_MOST_PINS X G c))))))) (dss_cons (ds_ret (d_bl)) dss_nil) (dss_nil)) (dss_cons (ds_ret (d_callB (cd_all rfl) rfl (free_all X G c) (by rfl) (da_cons (d_lc (own := [("size", 1)]) rfl S_are_inputs.nd (.inl rfl) (by decide) (by decide) (blkOk_by (own := [("size", 1)]) (by rfl)) (di_ofX (d_var 0)) (fun s H C cl fp => dg_name (i := 1) S_are_inputs.nd rfl (by first | exact .inl rfl | exact .inr rfl) (.inl rfl)) (fun s H C cl fp => dts_nil) (fun s H C cl fp => c_call (ok_is_within X G c) hr (by decide) (da_cons (d_var 1) (da_cons (c_con (con_LEAST_WORTHS X G c)) (da_cons (c_con (con_MOST_WORTHS X G c)) (da_nil)))))) (da_nil)))) dss_nil))
theorem S_Controller_init : FnScope ["self", "sizes", "cells", "program"] ["self", "sizes", "cells", "program"] (defScope st_Controller_init) := ⟨rfl, rfl, rfl, by decide +kernel, rfl, by decide +kernel, by decide +kernel⟩
theorem mk_Controller (X : K.In h) (G : h.Ns mainGlobals mg) (c : Sy w h K) : OkMk P w K mg base "Controller" 4 4 m_Controller_init :=
  OkMk.mk' S_Controller_init rfl rfl (mkr_Controller c) (c.t.d.def_ 11 rfl) (glo_Controller X G c) (fun _ _ _ _ _ _ us hl => match us, hl with | [_, _, _, _], _ => rfl)
  (fun cdv A outer s H E hr => dss_cons (ds_if (dt_not (dt_val (c_call (ok_are_inputs X G c) hr (by decide) (da_cons (d_var 1) (da_nil))))) (dss_no) (dss_nil)) (dss_cons (ds_if (dt_not (dt_val (c_call (ok_is_within X G c) hr (by decide) (da_cons (d_var 2) (da_cons (d_int) (da_cons (d_bin opd_sub (c_con (con_MOST_PINS X G c)) (d_callB (cd_lenX) rfl (free_len X G c) (by rfl) (da_cons (d_var 1) (da_nil)))) (da_nil))))))) (dss_no) (dss_nil)) (dss_cons (ds_if (DW.dt (dw_or (dt_not (dt_val (d_isO (iso_Program c) rfl (free_isinstance X G c) (d_var 3) rfl (glo_Program X G c)))) (dw_or1 (DC.dt (dc_op (opd_ne hr.units) (d_fld (cls_Program c) (noat_Program_sizes c) (d_var 3)) (d_bin opd_add (d_var 1) (d_bin opd_mulX (d_tup (da_cons (d_int) (da_nil))) (d_var 2)))))))) (dss_no) (dss_nil)) (dss_cons (ds_fld (cls_Controller c) (noat_Controller_sizes c) (d_var 0) (d_var 1)) (dss_cons (ds_fld (cls_Controller c) (noat_Controller_cells c) (d_var 0) (d_var 2)) (dss_cons (ds_fld (cls_Controller c) (noat_Controller_program c) (d_var 0) (d_var 3)) dss_nil))))))
theorem S_check_sizes : FnScope ["thing", "size"] ["thing"] (defScope st_check_sizes) := ⟨rfl, rfl, rfl, by decide +kernel, rfl, by decide +kernel, by decide +kernel⟩
theorem ok_check_sizes (X : K.In h) (G : h.Ns mainGlobals mg) (c : Sy w h K) : Ok P w K mg base "check_sizes" 3 1 m_check_sizes :=
  Ok.mk' S_check_sizes rfl rfl (c.t.d.def_ 12 rfl) (glo_check_sizes X G c) (fun _ _ _ _ _ _ us hl => match us, hl with | [_], _ => rfl)
  (fun cdv A outer s H E hr => dss_cons (ds_if (DW.dt (dw_or (dt_not (dt_val (d_isi (T := "tuple") (by decide +kernel) (by decide) rfl (free_isinstance X G c) (by rfl) (d_var 0) rfl (free_tuple X G c) (by rfl)))) (dw_or1 (dt_not (dt_chain (d_chain (opd_le hr.units) (opd_le hr.units) (d_int) (d_callB (cd_lenX) rfl (free_len X G c) (by rfl) (da_cons (d_var 0) (da_nil))) (c_con (con_MOST_PINS X G c))) (opd_le hr.units) (opd_le hr.units) (d_int) (d_callB (cd_lenX) rfl (free_len X G c) (by rfl) (da_cons (d_var 0) (da_nil))) (c_con (con_MOST_PINS X G c))))))) (dss_no) (dss_nil)) (dss_cons (ds_if (dt_not (dt_val (d_callB (cd_all rfl) rfl (free_all X G c) (by rfl) (da_cons (d_lc (own := [("size", 1)]) rfl S_check_sizes.nd (.inl rfl) (by decide) (by decide) (blkOk_by (own := [("size", 1)]) (by rfl)) (di_ofX (d_var 0)) (fun s H C cl fp => dg_name (i := 1) S_check_sizes.nd rfl (by first | exact .inl rfl | exact .inr rfl) (.inl rfl)) (fun s H C cl fp => dts_nil) (fun s H C cl fp => c_call (ok_is_within X G c) hr (by decide) (da_cons (d_var 1) (da_cons (c_con (con_LEAST_WORTHS X G c)) (da_cons (c_con (con_MOST_WORTHS X G c)) (da_nil)))))) (da_nil))))) (dss_no) (dss_nil)) dss_nil))
theorem S_is_content : FnScope ["sizes", "thing", "size", "worth"] ["sizes", "thing"] (defScope st_is_content) := ⟨rfl, rfl, rfl, by decide +kernel, rfl, by decide +kernel, by decide +kernel⟩
theorem ok_is_content (X : K.In h) (G : h.Ns mainGlobals mg) (c : Sy w h K) : Ok P w K mg base "is_content" 3 2 m_is_content :=
  Ok.mk' S_is_content rfl rfl (c.t.d.def_ 13 rfl) (glo_is_content X G c) (fun _ _ _ _ _ _ us hl => match us, hl with | [_, _], _ => rfl)
  (fun cdv A outer s H E hr => dss_cons (ds_if (DW.dt (dw_or (dt_not (dt_val (d_isi (T := "tuple") (by decide +kernel) (by decide) rfl (free_isinstance X G c) (by rfl) (d_var 1) rfl (free_tuple X G c) (by rfl)))) (dw_or1 (DC.dt (dc_op (opd_ne hr.units) (d_callB (cd_lenX) rfl (free_len X G c) (by rfl) (da_cons (d_var 1) (da_nil))) (d_callB (cd_lenX) rfl (free_len X G c) (by rfl) (da_cons (d_var 0) (da_nil)))))))) (dss_cons (ds_ret (d_bl)) dss_nil) (dss_nil)) (dss_cons (ds_ret (d_callB (cd_all rfl) rfl (free_all X G c) (by rfl) (da_cons (d_lc (own := [("size", 2), ("worth", 3)]) rfl S_is_content.nd (.inl rfl) (by decide) (by decide) (blkOk_by (own := [("size", 2), ("worth", 3)]) (by rfl)) (di_zip rfl (free_zip X G c) (da_cons (d_var 0) (da_cons (d_var 1) (da_nil)))) (fun s H C cl fp => dg_tup rfl (dgs_cons (dg_name (i := 2) S_is_content.nd rfl (by first | exact .inl rfl | exact .inr rfl) (.inl rfl)) (dgs_cons (dg_name (i := 3) S_is_content.nd rfl (by first | exact .inl rfl | exact .inr rfl) (.inl rfl)) (dgs_nil))) ((gCons_len (gCons_len (fun _ _ _ h => gNil_len h))))) (fun s H C cl fp => dts_nil) (fun s H C cl fp => c_call (ok_is_within X G c) hr (by decide) (da_cons (d_var 3) (da_cons (d_int) (da_cons (d_bin opd_sub (d_var 2) (d_int)) (da_nil)))))) (da_nil)))) dss_nil))
theorem S_sizes_at : FnScope ["sizes", "lot", "pin"] ["sizes", "lot"] (defScope st_sizes_at) := ⟨rfl, rfl, rfl, by decide +kernel, rfl, by decide +kernel, by decide +kernel⟩
theorem ok_sizes_at (X : K.In h) (G : h.Ns mainGlobals mg) (c : Sy w h K) : Ok P w K mg base "sizes_at" 1 2 m_sizes_at :=
  Ok.mk' S_sizes_at rfl rfl (c.t.d.def_ 14 rfl) (glo_sizes_at X G c) (fun _ _ _ _ _ _ us hl => match us, hl with | [_, _], _ => rfl)
  (fun cdv A outer s H E hr => dss_cons (ds_ret (d_callTy (cd_tuple) rfl (free_tuple X G c) (by rfl) (da_cons (d_lc (own := [("pin", 2)]) rfl S_sizes_at.nd (.inl rfl) (by decide) (by decide) (blkOk_by (own := [("pin", 2)]) (by rfl)) (di_ofX (d_var 1)) (fun s H C cl fp => dg_name (i := 2) S_sizes_at.nd rfl (by first | exact .inl rfl | exact .inr rfl) (.inl rfl)) (fun s H C cl fp => dts_nil) (fun s H C cl fp => d_atT hr.units (d_var 0) (d_var 2))) (da_nil)))) dss_nil)
theorem S_is_pair : FnScope ["thing"] ["thing"] (defScope st_is_pair) := ⟨rfl, rfl, rfl, by decide +kernel, rfl, by decide +kernel, by decide +kernel⟩
theorem ok_is_pair (X : K.In h) (G : h.Ns mainGlobals mg) (c : Sy w h K) : Ok P w K mg base "is_pair" 1 1 m_is_pair :=
  Ok.mk' S_is_pair rfl rfl (c.t.d.def_ 15 rfl) (glo_is_pair X G c) (fun _ _ _ _ _ _ us hl => match us, hl with | [_], _ => rfl)
  (fun cdv A outer s H E hr => dss_cons (ds_ret (d_and (d_isi (T := "tuple") (by decide +kernel) (by decide) rfl (free_isinstance X G c) (by rfl) (d_var 0) rfl (free_tuple X G c) (by rfl)) (d_one (DC.de (dc_op (opd_eq hr.units) (d_callB (cd_lenX) rfl (free_len X G c) (by rfl) (da_cons (d_var 0) (da_nil))) (d_int)))))) dss_nil)
theorem S_is_lot : FnScope ["thing", "many", "last", "number"] ["thing", "many"] (defScope st_is_lot) := ⟨rfl, rfl, rfl, by decide +kernel, rfl, by decide +kernel, by decide +kernel⟩
theorem ok_is_lot (X : K.In h) (G : h.Ns mainGlobals mg) (c : Sy w h K) : Ok P w K mg base "is_lot" 3 2 m_is_lot :=
  Ok.mk' S_is_lot rfl rfl (c.t.d.def_ 16 rfl) (glo_is_lot X G c) (fun _ _ _ _ _ _ us hl => match us, hl with | [_, _], _ => rfl)
  (fun cdv A outer s H E hr => dss_cons (ds_if (dt_not (dt_val (d_isi (T := "tuple") (by decide +kernel) (by decide) rfl (free_isinstance X G c) (by rfl) (d_var 0) rfl (free_tuple X G c) (by rfl)))) (dss_cons (ds_ret (d_bl)) dss_nil) (dss_nil)) (dss_cons (ds_set (i := 2) S_is_lot.nd rfl (by first | exact .inl rfl | exact .inr rfl) (.inl rfl) (d_neg (d_int))) (dss_cons (ds_for own_nox rfl (di_ofX (d_var 0)) (dg_name (i := 3) S_is_lot.nd rfl (by first | exact .inl rfl | exact .inr rfl) (.inl rfl)) (dss_cons (ds_if (dt_not (dt_val (c_call (ok_is_within X G c) hr (by decide) (da_cons (d_var 3) (da_cons (d_bin opd_add (d_var 2) (d_int)) (da_cons (d_bin opd_sub (d_var 1) (d_int)) (da_nil))))))) (dss_cons (ds_ret (d_bl)) dss_nil) (dss_nil)) (dss_cons (ds_set (i := 2) S_is_lot.nd rfl (by first | exact .inl rfl | exact .inr rfl) (.inl rfl) (d_var 3)) dss_nil))) (dss_cons (ds_ret (d_bl)) dss_nil))))
theorem S_is_test : FnScope ["sizes", "thing"] ["sizes", "thing"] (defScope st_is_test) := ⟨rfl, rfl, rfl, by decide +kernel, rfl, by decide +kernel, by decide +kernel⟩
theorem ok_is_test (X : K.In h) (G : h.Ns mainGlobals mg) (c : Sy w h K) : Ok P w K mg base "is_test" 4 2 m_is_test :=
  Ok.mk' S_is_test rfl rfl (c.t.d.def_ 17 rfl) (glo_is_test X G c) (fun _ _ _ _ _ _ us hl => match us, hl with | [_, _], _ => rfl)
  (fun cdv A outer s H E hr => dss_cons (ds_if (DW.dt (dw_or (dt_not (dt_val (c_call (ok_is_pair X G c) hr (by decide) (da_cons (d_var 1) (da_nil))))) (dw_or (dt_not (dt_val (c_call (ok_is_lot X G c) hr (by decide) (da_cons (d_atT hr.units (d_var 1) (d_int)) (da_cons (d_callB (cd_lenX) rfl (free_len X G c) (by rfl) (da_cons (d_var 0) (da_nil))) (da_nil)))))) (dw_or1 (DC.dt (dc_op (opd_gt hr.units) (d_callB (cd_lenX) rfl (free_len X G c) (by rfl) (da_cons (d_atT hr.units (d_var 1) (d_int)) (da_nil))) (c_con (con_MOST_LOOKED X G c)))))))) (dss_cons (ds_ret (d_bl)) dss_nil) (dss_nil)) (dss_cons (ds_ret (c_call (ok_is_content X G c) hr (by decide) (da_cons (c_call (ok_sizes_at X G c) hr (by decide) (da_cons (d_var 0) (da_cons (d_atT hr.units (d_var 1) (d_int)) (da_nil)))) (da_cons (d_atT hr.units (d_var 1) (d_int)) (da_nil))))) dss_nil))
theorem S_is_name : FnScope ["thing", "sign"] ["thing"] (defScope st_is_name) := ⟨rfl, rfl, rfl, by decide +kernel, rfl, by decide +kernel, by decide +kernel⟩
theorem ok_is_name (X : K.In h) (G : h.Ns mainGlobals mg) (c : Sy w h K) : Ok P w K mg base "is_name" 1 1 m_is_name :=
  Ok.mk' S_is_name rfl rfl (c.t.d.def_ 18 rfl) (glo_is_name X G c) (fun _ _ _ _ _ _ us hl => match us, hl with | [_], _ => rfl)
  (fun cdv A outer s H E hr => dss_cons (ds_if (DW.dt (dw_or (dt_not (dt_val (d_isi (T := "str") (by decide +kernel) (by decide) rfl (free_isinstance X G c) (by rfl) (d_var 0) rfl (free_str X G c) (by rfl)))) (dw_or1 (dt_not (dt_chain (d_chain (opd_le hr.units) (opd_le hr.units) (d_int) (d_callB (cd_lenX) rfl (free_len X G c) (by rfl) (da_cons (d_var 0) (da_nil))) (d_int)) (opd_le hr.units) (opd_le hr.units) (d_int) (d_callB (cd_lenX) rfl (free_len X G c) (by rfl) (da_cons (d_var 0) (da_nil))) (d_int)))))) (dss_cons (ds_ret (d_bl)) dss_nil) (dss_nil)) (dss_cons (ds_ret (d_callB (cd_all rfl) rfl (free_all X G c) (by rfl) (da_cons (d_lc (own := [("sign", 1)]) rfl S_is_name.nd (.inl rfl) (by decide) (by decide) (blkOk_by (own := [("sign", 1)]) (by rfl)) (di_ofX (d_var 0)) (fun s H C cl fp => dg_name (i := 1) S_is_name.nd rfl (by first | exact .inl rfl | exact .inr rfl) (.inl rfl)) (fun s H C cl fp => dts_nil) (fun s H C cl fp => d_chain (opd_le hr.units) (opd_le hr.units) (d_str) (d_var 1) (d_str))) (da_nil)))) dss_nil))
theorem S_is_statement : FnScope ["sizes", "thing"] ["sizes", "thing"] (defScope st_is_statement) := ⟨rfl, rfl, rfl, by decide +kernel, rfl, by decide +kernel, by decide +kernel⟩
theorem ok_is_statement (X : K.In h) (G : h.Ns mainGlobals mg) (c : Sy w h K) : Ok P w K mg base "is_statement" 5 2 m_is_statement :=
  Ok.mk' S_is_statement rfl rfl (c.t.d.def_ 19 rfl) (glo_is_statement X G c) (fun _ _ _ _ _ _ us hl => match us, hl with | [_, _], _ => rfl)
  (fun cdv A outer s H E hr => dss_cons (ds_if (DW.dt (dw_or (dt_not (dt_val (d_isi (T := "tuple") (by decide +kernel) (by decide) rfl (free_isinstance X G c) (by rfl) (d_var 1) rfl (free_tuple X G c) (by rfl)))) (dw_or (DC.dt (dc_op (opd_lt hr.units) (d_callB (cd_lenX) rfl (free_len X G c) (by rfl) (da_cons (d_var 1) (da_nil))) (d_int))) (dw_or1 (dt_not (dt_val (d_isi (T := "str") (by decide +kernel) (by decide) rfl (free_isinstance X G c) (by rfl) (d_atT hr.units (d_var 1) (d_int)) rfl (free_str X G c) (by rfl)))))))) (dss_cons (ds_ret (d_bl)) dss_nil) (dss_nil)) (dss_cons (ds_if (DC.dt (dc_op (opd_eq hr.units) (d_atT hr.units (d_var 1) (d_int)) (d_str))) (dss_cons (ds_ret (d_and (DC.de (dc_op (opd_eq hr.units) (d_callB (cd_lenX) rfl (free_len X G c) (by rfl) (da_cons (d_var 1) (da_nil))) (d_int))) (d_and (c_call (ok_is_within X G c) hr (by decide) (da_cons (d_atT hr.units (d_var 1) (d_int)) (da_cons (d_int) (da_cons (d_int) (da_nil))))) (d_one (c_call (ok_is_test X G c) hr (by decide) (da_cons (d_var 0) (da_cons (d_atT hr.units (d_var 1) (d_int)) (da_nil)))))))) dss_nil) (dss_nil)) (dss_cons (ds_if (DC.dt (dc_op (opd_eq hr.units) (d_atT hr.units (d_var 1) (d_int)) (d_str))) (dss_cons (ds_ret (d_and (DC.de (dc_op (opd_eq hr.units) (d_callB (cd_lenX) rfl (free_len X G c) (by rfl) (da_cons (d_var 1) (da_nil))) (d_int))) (d_one (c_call (ok_is_name X G c) hr (by decide) (da_cons (d_atT hr.units (d_var 1) (d_int)) (da_nil)))))) dss_nil) (dss_nil)) (dss_cons (ds_ret (d_and (DC.de (dc_inS hr.units (d_atT hr.units (d_var 1) (d_int)) (c_con (con_CHANGES X G c)))) (d_and (DC.de (dc_op (opd_eq hr.units) (d_callB (cd_lenX) rfl (free_len X G c) (by rfl) (da_cons (d_var 1) (da_nil))) (d_int))) (d_one (c_call (ok_is_test X G c) hr (by decide) (da_cons (d_var 0) (da_cons (d_atT hr.units (d_var 1) (d_int)) (da_nil)))))))) dss_nil))))
theorem S_Program_init : FnScope ["self", "sizes", "statements", "at", "statement"] ["self", "sizes", "statements"] (defScope st_Program_init) := ⟨rfl, rfl, rfl, by decide +kernel, rfl, by decide +kernel, by decide +kernel⟩
theorem mk_Program (X : K.In h) (G : h.Ns mainGlobals mg) (c : Sy w h K) : OkMk P w K mg base "Program" 6 3 m_Program_init :=
  OkMk.mk' S_Program_init rfl rfl (mkr_Program c) (c.t.d.def_ 20 rfl) (glo_Program X G c) (fun _ _ _ _ _ _ us hl => match us, hl with | [_, _, _], _ => rfl)
  (fun cdv A outer s H E hr => dss_cons (ds_expr (c_call (ok_check_sizes X G c) hr (by decide) (da_cons (d_var 1) (da_nil)))) (dss_cons (ds_if (DW.dt (dw_or (dt_not (dt_val (d_isi (T := "tuple") (by decide +kernel) (by decide) rfl (free_isinstance X G c) (by rfl) (d_var 2) rfl (free_tuple X G c) (by rfl)))) (dw_or1 (DC.dt (dc_op (opd_gt hr.units) (d_callB (cd_lenX) rfl (free_len X G c) (by rfl) (da_cons (d_var 2) (da_nil))) (c_con (con_MOST_STATEMENTS X G c))))))) (dss_no) (dss_nil)) (dss_cons (ds_for own_nox rfl (di_enum rfl (free_enumerate X G c) (da_cons (d_var 2) (da_nil))) (dg_tup rfl (dgs_cons (dg_name (i := 3) S_Program_init.nd rfl (by first | exact .inl rfl | exact .inr rfl) (.inr (by decide))) (dgs_cons (dg_name (i := 4) S_Program_init.nd rfl (by first | exact .inl rfl | exact .inr rfl) (.inr (by decide))) (dgs_nil))) ((gCons_len (gCons_len (fun _ _ _ h => gNil_len h))))) (dss_cons (ds_if (dt_not (dt_val (c_call (ok_is_statement X G c) hr (by decide) (da_cons (d_var 1) (da_cons (d_var 4) (da_nil)))))) (dss_no) (dss_nil)) dss_nil)) (dss_cons (ds_fld (cls_Program c) (noat_Program_sizes c) (d_var 0) (d_var 1)) (dss_cons (ds_fld (cls_Program c) (noat_Program_statements c) (d_var 0) (d_var 2)) dss_nil)))))
theorem S__law_made : FnScope ["parts", "sizes", "cells", "statements"] ["parts"] (defScope st__law_made) := ⟨rfl, rfl, rfl, by decide +kernel, rfl, by decide +kernel, by decide +kernel⟩
theorem ok__law_made (X : K.In h) (G : h.Ns mainGlobals mg) (c : Sy w h K) : Ok P w K mg base "_law_made" 8 1 m__law_made :=
  Ok.mk' S__law_made rfl rfl (c.t.d.def_ 21 rfl) (glo__law_made X G c) (fun _ _ _ _ _ _ us hl => match us, hl with | [_], _ => rfl)
  (fun cdv A outer s H E hr => dss_cons (ds_asg (d_var 0) (dg_tup rfl (dgs_cons (dg_name (i := 1) S__law_made.nd rfl (by first | exact .inl rfl | exact .inr rfl) (.inl rfl)) (dgs_cons (dg_name (i := 2) S__law_made.nd rfl (by first | exact .inl rfl | exact .inr rfl) (.inl rfl)) (dgs_cons (dg_name (i := 3) S__law_made.nd rfl (by first | exact .inl rfl | exact .inr rfl) (.inl rfl)) (dgs_nil)))) ((gCons_len (gCons_len (gCons_len (fun _ _ _ h => gNil_len h))))))) (dss_cons (ds_ret (c_make (mk_Controller X G c) hr (by decide) (da_cons (d_var 1) (da_cons (d_var 2) (da_cons (c_make (mk_Program X G c) hr (by decide) (da_cons (d_bin opd_add (d_var 1) (d_bin opd_mulX (d_tup (da_cons (d_int) (da_nil))) (d_var 2))) (da_cons (d_var 3) (da_nil)))) (da_nil)))))) dss_nil))
theorem S__law_contents : FnScope ["sizes", "found", "size", "longer", "row", "worth"] ["sizes"] (defScope st__law_contents) := ⟨rfl, rfl, rfl, by decide +kernel, rfl, by decide +kernel, by decide +kernel⟩
theorem ok__law_contents (X : K.In h) (G : h.Ns mainGlobals mg) (c : Sy w h K) : Ok P w K mg base "_law_contents" 1 1 m__law_contents :=
  Ok.mk' S__law_contents rfl rfl (c.t.d.def_ 22 rfl) (glo__law_contents X G c) (fun _ _ _ _ _ _ us hl => match us, hl with | [_], _ => rfl)
  (fun cdv A outer s H E hr => dss_cons (ds_set (i := 1) S__law_contents.nd rfl (by first | exact .inl rfl | exact .inr rfl) (.inl rfl) (d_lst (da_cons (d_tup (da_nil)) (da_nil)))) (dss_cons (ds_for own_nox rfl (di_ofX (d_var 0)) (dg_name (i := 2) S__law_contents.nd rfl (by first | exact .inl rfl | exact .inr rfl) (.inl rfl)) (dss_cons (ds_set (i := 3) S__law_contents.nd rfl (by first | exact .inl rfl | exact .inr rfl) (.inl rfl) (d_lst (da_nil))) (dss_cons (ds_for own_nox rfl (di_ofX (d_var 1)) (dg_name (i := 4) S__law_contents.nd rfl (by first | exact .inl rfl | exact .inr rfl) (.inl rfl)) (dss_cons (ds_expr (d_lm ld_extend PySem.F.plainAttrs_list PySem.F.slot_list_extend (by first | rfl | kernel_rfl) (d_var 3) (da_cons (d_lc (own := [("worth", 5)]) rfl S__law_contents.nd (.inl rfl) (by decide) (by decide) (blkOk_by (own := [("worth", 5)]) (by rfl)) (di_range1 rfl (free_range X G c) (da_cons (d_var 2) (da_nil))) (fun s H C cl fp => dg_name (i := 5) S__law_contents.nd rfl (by first | exact .inl rfl | exact .inr rfl) (.inl rfl)) (fun s H C cl fp => dts_nil) (fun s H C cl fp => d_bin opd_add (d_var 4) (d_tup (da_cons (d_var 5) (da_nil))))) (da_nil)))) dss_nil)) (dss_cons (ds_set (i := 1) S__law_contents.nd rfl (by first | exact .inl rfl | exact .inr rfl) (.inl rfl) (d_var 3)) dss_nil)))) (dss_cons (ds_ret (d_var 1)) dss_nil)))
theorem S_check_state : FnScope ["controller", "thing"] ["controller", "thing"] (defScope st_check_state) := ⟨rfl, rfl, rfl, by decide +kernel, rfl, by decide +kernel, by decide +kernel⟩
theorem ok_check_state (X : K.In h) (G : h.Ns mainGlobals mg) (c : Sy w h K) : Ok P w K mg base "check_state" 4 2 m_check_state :=
  Ok.mk' S_check_state rfl rfl (c.t.d.def_ 23 rfl) (glo_check_state X G c) (fun _ _ _ _ _ _ us hl => match us, hl with | [_, _], _ => rfl)
  (fun cdv A outer s H E hr => dss_cons (ds_if (dt_not (dt_val (c_call (ok_is_content X G c) hr (by decide) (da_cons (d_bin opd_mulX (d_tup (da_cons (d_int) (da_nil))) (d_fld (cls_Controller c) (noat_Controller_cells c) (d_var 0))) (da_cons (d_var 1) (da_nil)))))) (dss_no) (dss_nil)) dss_nil)
theorem S_check_content : FnScope ["sizes", "thing"] ["sizes", "thing"] (defScope st_check_content) := ⟨rfl, rfl, rfl, by decide +kernel, rfl, by decide +kernel, by decide +kernel⟩
theorem ok_check_content (X : K.In h) (G : h.Ns mainGlobals mg) (c : Sy w h K) : Ok P w K mg base "check_content" 4 2 m_check_content :=
  Ok.mk' S_check_content rfl rfl (c.t.d.def_ 24 rfl) (glo_check_content X G c) (fun _ _ _ _ _ _ us hl => match us, hl with | [_, _], _ => rfl)
  (fun cdv A outer s H E hr => dss_cons (ds_if (dt_not (dt_val (c_call (ok_is_content X G c) hr (by decide) (da_cons (d_var 0) (da_cons (d_var 1) (da_nil)))))) (dss_no) (dss_nil)) dss_nil)
theorem S_Run_init : FnScope ["self", "content"] ["self", "content"] (defScope st_Run_init) := ⟨rfl, rfl, rfl, by decide +kernel, rfl, by decide +kernel, by decide +kernel⟩
theorem mk_Run (X : K.In h) (G : h.Ns mainGlobals mg) (c : Sy w h K) : OkMk P w K mg base "Run" 1 2 m_Run_init :=
  OkMk.mk' S_Run_init rfl rfl (mkr_Run c) (c.t.d.def_ 25 rfl) (glo_Run X G c) (fun _ _ _ _ _ _ us hl => match us, hl with | [_, _], _ => rfl)
  (fun cdv A outer s H E hr => dss_cons (ds_fldO (cls_Run c) (noat_Run_content c) (d_var 0) (d_var 1)) (dss_cons (ds_fldO (cls_Run c) (noat_Run_flag c) (d_var 0) (d_bl)) (dss_cons (ds_fldO (cls_Run c) (noat_Run_left c) (d_var 0) (d_int)) (dss_cons (ds_fldK (cls_Run c) (noat_Run_names c) (d_var 0) (d_lst (da_nil))) dss_nil))))
theorem S_joint_of : FnScope ["lot", "content", "pin"] ["lot", "content"] (defScope st_joint_of) := ⟨rfl, rfl, rfl, by decide +kernel, rfl, by decide +kernel, by decide +kernel⟩
theorem ok_joint_of (X : K.In h) (G : h.Ns mainGlobals mg) (c : Sy w h K) : Ok P w K mg base "joint_of" 1 2 m_joint_of :=
  Ok.mk' S_joint_of rfl rfl (c.t.d.def_ 26 rfl) (glo_joint_of X G c) (fun _ _ _ _ _ _ us hl => match us, hl with | [_, _], _ => rfl)
  (fun cdv A outer s H E hr => dss_cons (ds_ret (d_callTy (cd_tuple) rfl (free_tuple X G c) (by rfl) (da_cons (d_lc (own := [("pin", 2)]) rfl S_joint_of.nd (.inl rfl) (by decide) (by decide) (blkOk_by (own := [("pin", 2)]) (by rfl)) (di_ofX (d_var 0)) (fun s H C cl fp => dg_name (i := 2) S_joint_of.nd rfl (by first | exact .inl rfl | exact .inr rfl) (.inl rfl)) (fun s H C cl fp => dts_nil) (fun s H C cl fp => d_atT hr.units (d_var 1) (d_var 2))) (da_nil)))) dss_nil)
theorem S_shows : FnScope ["content", "test"] ["content", "test"] (defScope st_shows) := ⟨rfl, rfl, rfl, by decide +kernel, rfl, by decide +kernel, by decide +kernel⟩
theorem ok_shows (X : K.In h) (G : h.Ns mainGlobals mg) (c : Sy w h K) : Ok P w K mg base "shows" 2 2 m_shows :=
  Ok.mk' S_shows rfl rfl (c.t.d.def_ 27 rfl) (glo_shows X G c) (fun _ _ _ _ _ _ us hl => match us, hl with | [_, _], _ => rfl)
  (fun cdv A outer s H E hr => dss_cons (ds_ret (DC.de (dc_op (opd_eq hr.units) (c_call (ok_joint_of X G c) hr (by decide) (da_cons (d_atT hr.units (d_var 1) (d_int)) (da_cons (d_var 0) (da_nil)))) (d_atT hr.units (d_var 1) (d_int))))) dss_nil)
theorem S_changed : FnScope ["flag", "word"] ["flag", "word"] (defScope st_changed) := ⟨rfl, rfl, rfl, by decide +kernel, rfl, by decide +kernel, by decide +kernel⟩
theorem ok_changed (X : K.In h) (G : h.Ns mainGlobals mg) (c : Sy w h K) : Ok P w K mg base "changed" 1 2 m_changed :=
  Ok.mk' S_changed rfl rfl (c.t.d.def_ 28 rfl) (glo_changed X G c) (fun _ _ _ _ _ _ us hl => match us, hl with | [_, _], _ => rfl)
  (fun cdv A outer s H E hr => dss_cons (ds_ret (d_if (DC.dt (dc_op (opd_eq hr.units) (d_var 1) (d_str))) (d_not (d_var 0)) (DC.de (dc_op (opd_eq hr.units) (d_var 1) (d_str))))) dss_nil)
theorem S_Run_step : FnScope ["self", "statement", "word"] ["self", "statement"] (defScope st_Run_step) := ⟨rfl, rfl, rfl, by decide +kernel, rfl, by decide +kernel, by decide +kernel⟩
theorem mt_Run_step (X : K.In h) (G : h.Ns mainGlobals mg) (c : Sy w h K) : OkMt P w K mg base "Run" "step" 3 2 m_Run_step := by
  obtain ⟨fd, F⟩ := (c.t.d.def_ 29 rfl)
  exact ⟨⟨fd, _, Fn.io S_Run_step rfl rfl F
  (fun cdv A outer s H E hr => dss_cons (ds_if (DC.dt (dc_op (opd_gt hr.units) (d_fldO (cls_Run c) (noat_Run_left c) (d_var 0)) (d_int))) (dss_cons (ds_augO (cls_Run c) (noat_Run_left c) ipd_sub (d_var 0) (d_int)) (dss_cons (ds_ret (d_bl)) dss_nil)) (dss_nil)) (dss_cons (ds_set (i := 2) S_Run_step.nd rfl (by first | exact .inl rfl | exact .inr rfl) (.inr (by decide)) (d_atT hr.units (d_var 1) (d_int))) (dss_cons (ds_if (DC.dt (dc_op (opd_eq hr.units) (d_var 2) (d_str))) (dss_cons (ds_if (dt_val (d_fldO (cls_Run c) (noat_Run_flag c) (d_var 0))) (dss_cons (ds_expr (d_lmF ld_append PySem.F.plainAttrs_list PySem.F.slot_list_append (by first | rfl | kernel_rfl) (cls_Run c) (noat_Run_names c) (d_var 0) (da_cons (d_atT hr.units (d_var 1) (d_int)) (da_nil)))) dss_nil) (dss_nil)) dss_nil) (dss_cons (ds_if (dt_val (c_call (ok_shows X G c) hr (by decide) (da_cons (d_fldO (cls_Run c) (noat_Run_content c) (d_var 0)) (da_cons (d_atT hr.units (d_var 1) (d_neg (d_int))) (da_nil))))) (dss_cons (ds_if (DC.dt (dc_op (opd_eq hr.units) (d_var 2) (d_str))) (dss_cons (ds_fldO (cls_Run c) (noat_Run_left c) (d_var 0) (d_atT hr.units (d_var 1) (d_int))) dss_nil) (dss_cons (ds_fldO (cls_Run c) (noat_Run_flag c) (d_var 0) (c_call (ok_changed X G c) hr (by decide) (da_cons (d_fldO (cls_Run c) (noat_Run_flag c) (d_var 0)) (da_cons (d_var 2) (da_nil))))) dss_nil)) dss_nil) (dss_nil)) dss_nil)) (dss_cons (ds_ret (d_bl)) dss_nil)))), F.bindsN (fun _ _ _ _ _ _ us hl => match us, hl with | [_, _], _ => rfl)⟩, meth_Run_step c, cls_Run c, dfnIo_len⟩
theorem S_run_of : FnScope ["program", "content", "found", "statement"] ["program", "content"] (defScope st_run_of) := ⟨rfl, rfl, rfl, by decide +kernel, rfl, by decide +kernel, by decide +kernel⟩
theorem ok_run_of (X : K.In h) (G : h.Ns mainGlobals mg) (c : Sy w h K) : Ok P w K mg base "run_of" 4 2 m_run_of :=
  Ok.mk' S_run_of rfl rfl (c.t.d.def_ 30 rfl) (glo_run_of X G c) (fun _ _ _ _ _ _ us hl => match us, hl with | [_, _], _ => rfl)
  (fun cdv A outer s H E hr => dss_cons (ds_set (i := 2) S_run_of.nd rfl (by first | exact .inl rfl | exact .inr rfl) (.inl rfl) (c_makeO (mk_Run X G c) hr (by decide) (da_cons (d_var 1) (da_nil)))) (dss_cons (ds_for own_nox rfl (di_ofX (d_fld (cls_Program c) (noat_Program_statements c) (d_var 0))) (dg_name (i := 3) S_run_of.nd rfl (by first | exact .inl rfl | exact .inr rfl) (.inl rfl)) (dss_cons (ds_expr (c_methO (mt_Run_step X G c) hr (by decide) (d_var 2) (da_cons (d_var 3) (da_nil)))) dss_nil)) (dss_cons (ds_ret (d_var 2)) dss_nil)))
theorem S_scan_of : FnScope ["controller", "state", "content", "done", "cells", "later", "letter", "name"] ["controller", "state", "content"] (defScope st_scan_of) := ⟨rfl, rfl, rfl, by decide +kernel, rfl, by decide +kernel, by decide +kernel⟩
theorem ok_scan_of (X : K.In h) (G : h.Ns mainGlobals mg) (c : Sy w h K) : Ok P w K mg base "scan_of" 5 3 m_scan_of :=
  Ok.mk' S_scan_of rfl rfl (c.t.d.def_ 31 rfl) (glo_scan_of X G c) (fun _ _ _ _ _ _ us hl => match us, hl with | [_, _, _], _ => rfl)
  (fun cdv A outer s H E hr => dss_cons (ds_set (i := 3) S_scan_of.nd rfl (by first | exact .inl rfl | exact .inr rfl) (.inl rfl) (d_fldF (cls_Run c) (noat_Run_names c) (c_call (ok_run_of X G c) hr (by decide) (da_cons (d_fld (cls_Controller c) (noat_Controller_program c) (d_var 0)) (da_cons (d_bin opd_add (d_var 2) (d_var 1)) (da_nil)))))) (dss_cons (ds_set (i := 4) S_scan_of.nd rfl (by first | exact .inl rfl | exact .inr rfl) (.inl rfl) (d_slice (c_con (con_LETTERS X G c)) (do_none) (do_some (d_fld (cls_Controller c) (noat_Controller_cells c) (d_var 0))))) (dss_cons (ds_set (i := 5) S_scan_of.nd rfl (by first | exact .inl rfl | exact .inr rfl) (.inl rfl) (d_callTy (cd_tuple) rfl (free_tuple X G c) (by rfl) (da_cons (d_lc (own := [("letter", 6)]) rfl S_scan_of.nd (.inl rfl) (by decide) (by decide) (blkOk_by (own := [("letter", 6)]) (by rfl)) (di_ofX (d_var 4)) (fun s H C cl fp => dg_name (i := 6) S_scan_of.nd rfl (by first | exact .inl rfl | exact .inr rfl) (.inl rfl)) (fun s H C cl fp => dts_nil) (fun s H C cl fp => d_callTy (cd_int) rfl (free_int X G c) (by rfl) (da_cons (DC.de (dc_inS hr.units (d_var 6) (d_var 3))) (da_nil)))) (da_nil)))) (dss_cons (ds_ret (d_tup (da_cons (d_var 5) (da_cons (d_lc (own := [("name", 7)]) rfl S_scan_of.nd (.inl rfl) (by decide) (by decide) (blkOk_by (own := [("name", 7)]) (by rfl)) (di_ofX (d_var 3)) (fun s H C cl fp => dg_name (i := 7) S_scan_of.nd rfl (by first | exact .inl rfl | exact .inr rfl) (.inl rfl)) (fun s H C cl fp => dts_one (dt_not (DW.dt (dw_and (DC.dt (dc_op (opd_eq hr.units) (d_callB (cd_lenX) rfl (free_len X G c) (by rfl) (da_cons (d_var 7) (da_nil))) (d_int))) (dw_and1 (DC.dt (dc_inS hr.units (d_var 7) (d_var 4)))))))) (fun s H C cl fp => d_var 7)) (da_nil))))) dss_nil))))
theorem S_scan : FnScope ["controller", "state", "content"] ["controller", "state", "content"] (defScope st_scan) := ⟨rfl, rfl, rfl, by decide +kernel, rfl, by decide +kernel, by decide +kernel⟩
theorem ok_scan (X : K.In h) (G : h.Ns mainGlobals mg) (c : Sy w h K) : Ok P w K mg base "scan" 6 3 m_scan :=
  Ok.mk' S_scan rfl rfl (c.t.d.def_ 32 rfl) (glo_scan X G c) (fun _ _ _ _ _ _ us hl => match us, hl with | [_, _, _], _ => rfl)
  (fun cdv A outer s H E hr => dss_cons (ds_expr (c_call (ok_check_state X G c) hr (by decide) (da_cons (d_var 0) (da_cons (d_var 1) (da_nil))))) (dss_cons (ds_expr (c_call (ok_check_content X G c) hr (by decide) (da_cons (d_fld (cls_Controller c) (noat_Controller_sizes c) (d_var 0)) (da_cons (d_var 2) (da_nil))))) (dss_cons (ds_ret (c_call (ok_scan_of X G c) hr (by decide) (da_cons (d_var 0) (da_cons (d_var 1) (da_cons (d_var 2) (da_nil)))))) dss_nil)))
theorem S__law_joint : FnScope ["lot", "content", "pin"] ["lot", "content"] (defScope st__law_joint) := ⟨rfl, rfl, rfl, by decide +kernel, rfl, by decide +kernel, by decide +kernel⟩
theorem ok__law_joint (X : K.In h) (G : h.Ns mainGlobals mg) (c : Sy w h K) : Ok P w K mg base "_law_joint" 1 2 m__law_joint :=
  Ok.mk' S__law_joint rfl rfl (c.t.d.def_ 33 rfl) (glo__law_joint X G c) (fun _ _ _ _ _ _ us hl => match us, hl with | [_, _], _ => rfl)
  (fun cdv A outer s H E hr => dss_cons (ds_ret (d_callTy (cd_tuple) rfl (free_tuple X G c) (by rfl) (da_cons (d_lc (own := [("pin", 2)]) rfl S__law_joint.nd (.inl rfl) (by decide) (by decide) (blkOk_by (own := [("pin", 2)]) (by rfl)) (di_ofX (d_var 0)) (fun s H C cl fp => dg_name (i := 2) S__law_joint.nd rfl (by first | exact .inl rfl | exact .inr rfl) (.inl rfl)) (fun s H C cl fp => dts_nil) (fun s H C cl fp => d_atT hr.units (d_var 1) (d_var 2))) (da_nil)))) dss_nil)
theorem S__law_run : FnScope ["statements", "content", "flag", "left", "done", "statement"] ["statements", "content"] (defScope st__law_run) := ⟨rfl, rfl, rfl, by decide +kernel, rfl, by decide +kernel, by decide +kernel⟩
theorem ok__law_run (X : K.In h) (G : h.Ns mainGlobals mg) (c : Sy w h K) : Ok P w K mg base "_law_run" 2 2 m__law_run :=
  Ok.mk' S__law_run rfl rfl (c.t.d.def_ 34 rfl) (glo__law_run X G c) (fun _ _ _ _ _ _ us hl => match us, hl with | [_, _], _ => rfl)
  (fun cdv A outer s H E hr => dss_cons (ds_par3 (i := 2) (j := 3) (l := 4) rfl S__law_run.nd rfl rfl rfl (by decide) (by decide) (by decide) rfl rfl rfl (.inl rfl) (.inl rfl) (.inl rfl) (da_cons (d_int) (da_cons (d_int) (da_cons (d_lst (da_nil)) (da_nil)))) (by rfl)) (dss_cons (ds_for own_nox rfl (di_ofX (d_var 0)) (dg_name (i := 5) S__law_run.nd rfl (by first | exact .inl rfl | exact .inr rfl) (.inl rfl)) (dss_cons (ds_if (DC.dt (dc_op (opd_gt hr.units) (d_var 3) (d_int))) (dss_cons (ds_set (i := 3) S__law_run.nd rfl (by first | exact .inl rfl | exact .inr rfl) (.inl rfl) (d_bin opd_sub (d_var 3) (d_int))) dss_nil) (dss_cons (ds_if (DC.dt (dc_op (opd_eq hr.units) (d_atT hr.units (d_var 5) (d_int)) (d_str))) (dss_cons (ds_if (DC.dt (dc_op (opd_eq hr.units) (d_var 2) (d_int))) (dss_cons (ds_expr (d_lm ld_append PySem.F.plainAttrs_list PySem.F.slot_list_append (by first | rfl | kernel_rfl) (d_var 4) (da_cons (d_atT hr.units (d_var 5) (d_int)) (da_nil)))) dss_nil) (dss_nil)) dss_nil) (dss_cons (ds_if (DC.dt (dc_op (opd_eq hr.units) (c_call (ok__law_joint X G c) hr (by decide) (da_cons (d_atT hr.units (d_atT hr.units (d_var 5) (d_neg (d_int))) (d_int)) (da_cons (d_var 1) (da_nil)))) (d_atT hr.units (d_atT hr.units (d_var 5) (d_neg (d_int))) (d_int)))) (dss_cons (ds_if (DC.dt (dc_op (opd_eq hr.units) (d_atT hr.units (d_var 5) (d_int)) (d_str))) (dss_cons (ds_set (i := 3) S__law_run.nd rfl (by first | exact .inl rfl | exact .inr rfl) (.inl rfl) (d_atT hr.units (d_var 5) (d_int))) dss_nil) (dss_cons (ds_set (i := 2) S__law_run.nd rfl (by first | exact .inl rfl | exact .inr rfl) (.inl rfl) (d_atT hr.units (d_dispX (d_disp (dp_cons (d_str) (d_int) (dp_cons (d_str) (d_int) (dp_cons (d_str) (d_bin opd_sub (d_int) (d_var 2)) (dp_nil))))) (d_dispT hr.units (dp_cons (d_str) (d_int) (dp_cons (d_str) (d_int) (dp_cons (d_str) (d_bin opd_sub (d_int) (d_var 2)) (dp_nil)))))) (d_atT hr.units (d_var 5) (d_int)))) dss_nil)) dss_nil) (dss_nil)) dss_nil)) dss_nil)) dss_nil)) (dss_cons (ds_ret (d_tup (da_cons (d_var 2) (da_cons (d_var 4) (da_nil))))) dss_nil)))
theorem S__law_scan : FnScope ["parts", "state", "content", "sizes", "cells", "statements", "done", "letters", "letter", "name"] ["parts", "state", "content"] (defScope st__law_scan) := ⟨rfl, rfl, rfl, by decide +kernel, rfl, by decide +kernel, by decide +kernel⟩
theorem ok__law_scan (X : K.In h) (G : h.Ns mainGlobals mg) (c : Sy w h K) : Ok P w K mg base "_law_scan" 3 3 m__law_scan :=
  Ok.mk' S__law_scan rfl rfl (c.t.d.def_ 35 rfl) (glo__law_scan X G c) (fun _ _ _ _ _ _ us hl => match us, hl with | [_, _, _], _ => rfl)
  (fun cdv A outer s H E hr => dss_cons (ds_asg (d_var 0) (dg_tup rfl (dgs_cons (dg_name (i := 3) S__law_scan.nd rfl (by first | exact .inl rfl | exact .inr rfl) (.inl rfl)) (dgs_cons (dg_name (i := 4) S__law_scan.nd rfl (by first | exact .inl rfl | exact .inr rfl) (.inl rfl)) (dgs_cons (dg_name (i := 5) S__law_scan.nd rfl (by first | exact .inl rfl | exact .inr rfl) (.inl rfl)) (dgs_nil)))) ((gCons_len (gCons_len (gCons_len (fun _ _ _ h => gNil_len h))))))) (dss_cons (ds_set (i := 6) S__law_scan.nd rfl (by first | exact .inl rfl | exact .inr rfl) (.inl rfl) (d_atT hr.units (c_call (ok__law_run X G c) hr (by decide) (da_cons (d_var 5) (da_cons (d_bin opd_add (d_var 2) (d_var 1)) (da_nil)))) (d_int))) (dss_cons (ds_set (i := 7) S__law_scan.nd rfl (by first | exact .inl rfl | exact .inr rfl) (.inl rfl) (d_slice (d_lst (da_cons (d_str) (da_cons (d_str) (da_cons (d_str) (da_cons (d_str) (da_cons (d_str) (da_nil))))))) (do_none) (do_some (d_var 4)))) (dss_cons (ds_ret (d_tup (da_cons (d_callTy (cd_tuple) rfl (free_tuple X G c) (by rfl) (da_cons (d_lc (own := [("letter", 8)]) rfl S__law_scan.nd (.inl rfl) (by decide) (by decide) (blkOk_by (own := [("letter", 8)]) (by rfl)) (di_ofX (d_var 7)) (fun s H C cl fp => dg_name (i := 8) S__law_scan.nd rfl (by first | exact .inl rfl | exact .inr rfl) (.inl rfl)) (fun s H C cl fp => dts_nil) (fun s H C cl fp => d_callTy (cd_int) rfl (free_int X G c) (by rfl) (da_cons (DC.de (dc_inS hr.units (d_var 8) (d_var 6))) (da_nil)))) (da_nil))) (da_cons (d_lc (own := [("name", 9)]) rfl S__law_scan.nd (.inl rfl) (by decide) (by decide) (blkOk_by (own := [("name", 9)]) (by rfl)) (di_ofX (d_var 6)) (fun s H C cl fp => dg_name (i := 9) S__law_scan.nd rfl (by first | exact .inl rfl | exact .inr rfl) (.inl rfl)) (fun s H C cl fp => dts_one (DC.dt (dc_notInS hr.units (d_var 9) (d_var 7)))) (fun s H C cl fp => d_var 9)) (da_nil))))) dss_nil))))
theorem S_first_state : FnScope ["controller"] ["controller"] (defScope st_first_state) := ⟨rfl, rfl, rfl, by decide +kernel, rfl, by decide +kernel, by decide +kernel⟩
theorem ok_first_state (X : K.In h) (G : h.Ns mainGlobals mg) (c : Sy w h K) : Ok P w K mg base "first_state" 1 1 m_first_state :=
  Ok.mk' S_first_state rfl rfl (c.t.d.def_ 36 rfl) (glo_first_state X G c) (fun _ _ _ _ _ _ us hl => match us, hl with | [_], _ => rfl)
  (fun cdv A outer s H E hr => dss_cons (ds_ret (d_bin opd_mulX (d_tup (da_cons (d_int) (da_nil))) (d_fld (cls_Controller c) (noat_Controller_cells c) (d_var 0)))) dss_nil)
theorem S_tuples_of : FnScope ["sizes", "found", "size", "row", "worth"] ["sizes"] (defScope st_tuples_of) := ⟨rfl, rfl, rfl, by decide +kernel, rfl, by decide +kernel, by decide +kernel⟩
theorem ok_tuples_of (X : K.In h) (G : h.Ns mainGlobals mg) (c : Sy w h K) : Ok P w K mg base "tuples_of" 1 1 m_tuples_of :=
  Ok.mk' S_tuples_of rfl rfl (c.t.d.def_ 37 rfl) (glo_tuples_of X G c) (fun _ _ _ _ _ _ us hl => match us, hl with | [_], _ => rfl)
  (fun cdv A outer s H E hr => dss_cons (ds_set (i := 1) S_tuples_of.nd rfl (by first | exact .inl rfl | exact .inr rfl) (.inl rfl) (d_lst (da_cons (d_tup (da_nil)) (da_nil)))) (dss_cons (ds_for own_nox rfl (di_ofX (d_var 0)) (dg_name (i := 2) S_tuples_of.nd rfl (by first | exact .inl rfl | exact .inr rfl) (.inl rfl)) (dss_cons (ds_setLc2 (i := 1) (own := [("row", 3), ("worth", 4)]) (vs1 := [4]) rfl S_tuples_of.nd rfl rfl (.inl rfl) (by rfl) (.inl rfl) (by decide) (by decide) (by decide) (by decide) (blkOk_by (own := [("row", 3), ("worth", 4)]) (by rfl)) (di_ofX (d_var 1)) (fun s H C cl fp => dg_name (i := 3) S_tuples_of.nd rfl (by first | exact .inl rfl | exact .inr rfl) (.inl rfl)) (fun s H C cl fp => dts_nil) (fun s H C cl fp => di_range1 rfl (free_range X G c) (da_cons (d_var 2) (da_nil))) (fun s H C cl fp => dg_name (i := 4) S_tuples_of.nd rfl (by first | exact .inl rfl | exact .inr rfl) (.inl rfl)) (fun s H C cl fp => dts_nil) (fun s H C cl fp => d_bin opd_add (d_var 3) (d_tup (da_cons (d_var 4) (da_nil))))) dss_nil)) (dss_cons (ds_ret (d_var 1)) dss_nil)))
theorem S_states_of : FnScope ["controller", "waiting", "found", "state", "content", "later"] ["controller"] (defScope st_states_of) := ⟨rfl, rfl, rfl, by decide +kernel, rfl, by decide +kernel, by decide +kernel⟩
theorem ok_states_of (X : K.In h) (G : h.Ns mainGlobals mg) (c : Sy w h K) : Ok P w K mg base "states_of" 6 1 m_states_of :=
  Ok.mk' S_states_of rfl rfl (c.t.d.def_ 38 rfl) (glo_states_of X G c) (fun _ _ _ _ _ _ us hl => match us, hl with | [_], _ => rfl)
  (fun cdv A outer s H E hr => dss_cons (ds_set (i := 1) S_states_of.nd rfl (by first | exact .inl rfl | exact .inr rfl) (.inl rfl) (d_lst (da_cons (c_call (ok_first_state X G c) hr (by decide) (da_cons (d_var 0) (da_nil))) (da_nil)))) (dss_cons (ds_set (i := 2) S_states_of.nd rfl (by first | exact .inl rfl | exact .inr rfl) (.inl rfl) (d_dispX (d_disp (dp_cons (d_atT hr.units (d_var 1) (d_int)) (d_bl) (dp_nil))) (d_dispT hr.units (dp_cons (d_atT hr.units (d_var 1) (d_int)) (d_bl) (dp_nil))))) (dss_cons (ds_while (n := fuel) own_nox (DC.dt (dc_op (opd_gt hr.units) (d_callB (cd_lenX) rfl (free_len X G c) (by rfl) (da_cons (d_var 1) (da_nil))) (d_int))) (dss_cons (ds_set (i := 3) S_states_of.nd rfl (by first | exact .inl rfl | exact .inr rfl) (.inl rfl) (d_lm0 ld_pop PySem.F.plainAttrs_list PySem.F.slot_list_pop (by first | rfl | kernel_rfl) (d_var 1))) (dss_cons (ds_for own_nox rfl (di_ofX (c_call (ok_tuples_of X G c) hr (by decide) (da_cons (d_fld (cls_Controller c) (noat_Controller_sizes c) (d_var 0)) (da_nil)))) (dg_name (i := 4) S_states_of.nd rfl (by first | exact .inl rfl | exact .inr rfl) (.inl rfl)) (dss_cons (ds_set (i := 5) S_states_of.nd rfl (by first | exact .inl rfl | exact .inr rfl) (.inl rfl) (d_atT hr.units (c_call (ok_scan_of X G c) hr (by decide) (da_cons (d_var 0) (da_cons (d_var 3) (da_cons (d_var 4) (da_nil))))) (d_int))) (dss_cons (ds_if (DC.dt (dc_notInS hr.units (d_var 5) (d_var 2))) (dss_cons (ds_putT hr.units (d_var 2) (d_var 5) (d_bl)) (dss_cons (ds_expr (d_lm ld_append PySem.F.plainAttrs_list PySem.F.slot_list_append (by first | rfl | kernel_rfl) (d_var 1) (da_cons (d_var 5) (da_nil)))) dss_nil)) (dss_nil)) dss_nil))) dss_nil))) (dss_cons (ds_ret (d_callB (cd_sortedX rfl hr.units) rfl (free_sorted X G c) (by rfl) (da_cons (d_var 2) (da_nil)))) dss_nil))))
theorem S_states : FnScope ["controller"] ["controller"] (defScope st_states) := ⟨rfl, rfl, rfl, by decide +kernel, rfl, by decide +kernel, by decide +kernel⟩
theorem ok_states (X : K.In h) (G : h.Ns mainGlobals mg) (c : Sy w h K) : Ok P w K mg base "states" 7 1 m_states :=
  Ok.mk' S_states rfl rfl (c.t.d.def_ 39 rfl) (glo_states X G c) (fun _ _ _ _ _ _ us hl => match us, hl with | [_], _ => rfl)
  (fun cdv A outer s H E hr => dss_cons (ds_ret (c_call (ok_states_of X G c) hr (by decide) (da_cons (d_var 0) (da_nil)))) dss_nil)
theorem S__law_reached : FnScope ["parts", "first", "known", "waiting", "state", "content", "later"] ["parts"] (defScope st__law_reached) := ⟨rfl, rfl, rfl, by decide +kernel, rfl, by decide +kernel, by decide +kernel⟩
theorem ok__law_reached (X : K.In h) (G : h.Ns mainGlobals mg) (c : Sy w h K) : Ok P w K mg base "_law_reached" 4 1 m__law_reached :=
  Ok.mk' S__law_reached rfl rfl (c.t.d.def_ 40 rfl) (glo__law_reached X G c) (fun _ _ _ _ _ _ us hl => match us, hl with | [_], _ => rfl)
  (fun cdv A outer s H E hr => dss_cons (ds_set (i := 1) S__law_reached.nd rfl (by first | exact .inl rfl | exact .inr rfl) (.inl rfl) (d_bin opd_mulX (d_tup (da_cons (d_int) (da_nil))) (d_atT hr.units (d_var 0) (d_int)))) (dss_cons (ds_set (i := 2) S__law_reached.nd rfl (by first | exact .inl rfl | exact .inr rfl) (.inl rfl) (d_dispX (d_disp (dp_cons (d_var 1) (d_bl) (dp_nil))) (d_dispT hr.units (dp_cons (d_var 1) (d_bl) (dp_nil))))) (dss_cons (ds_set (i := 3) S__law_reached.nd rfl (by first | exact .inl rfl | exact .inr rfl) (.inl rfl) (d_lst (da_cons (d_var 1) (da_nil)))) (dss_cons (ds_while (n := fuel) own_nox (DC.dt (dc_op (opd_gt hr.units) (d_callB (cd_lenX) rfl (free_len X G c) (by rfl) (da_cons (d_var 3) (da_nil))) (d_int))) (dss_cons (ds_set (i := 4) S__law_reached.nd rfl (by first | exact .inl rfl | exact .inr rfl) (.inl rfl) (d_lm0 ld_pop PySem.F.plainAttrs_list PySem.F.slot_list_pop (by first | rfl | kernel_rfl) (d_var 3))) (dss_cons (ds_for own_nox rfl (di_ofX (c_call (ok__law_contents X G c) hr (by decide) (da_cons (d_atT hr.units (d_var 0) (d_int)) (da_nil)))) (dg_name (i := 5) S__law_reached.nd rfl (by first | exact .inl rfl | exact .inr rfl) (.inl rfl)) (dss_cons (ds_set (i := 6) S__law_reached.nd rfl (by first | exact .inl rfl | exact .inr rfl) (.inl rfl) (d_atT hr.units (c_call (ok__law_scan X G c) hr (by decide) (da_cons (d_var 0) (da_cons (d_var 4) (da_cons (d_var 5) (da_nil))))) (d_int))) (dss_cons (ds_if (DC.dt (dc_notInS hr.units (d_var 6) (d_var 2))) (dss_cons (ds_putT hr.units (d_var 2) (d_var 6) (d_bl)) (dss_cons (ds_expr (d_lm ld_append PySem.F.plainAttrs_list PySem.F.slot_list_append (by first | rfl | kernel_rfl) (d_var 3) (da_cons (d_var 6) (da_nil)))) dss_nil)) (dss_nil)) dss_nil))) dss_nil))) (dss_cons (ds_ret (d_callB (cd_sortedX rfl hr.units) rfl (free_sorted X G c) (by rfl) (da_cons (d_callTy (cd_listY rfl) rfl (free_list X G c) (by rfl) (da_cons (d_var 2) (da_nil))) (da_nil)))) dss_nil)))))
theorem S_settled : FnScope ["controller", "state", "content", "found", "here"] ["controller", "state", "content"] (defScope st_settled) := ⟨rfl, rfl, rfl, by decide +kernel, rfl, by decide +kernel, by decide +kernel⟩
theorem ok_settled (X : K.In h) (G : h.Ns mainGlobals mg) (c : Sy w h K) : Ok P w K mg base "settled" 6 3 m_settled :=
  Ok.mk' S_settled rfl rfl (c.t.d.def_ 41 rfl) (glo_settled X G c) (fun _ _ _ _ _ _ us hl => match us, hl with | [_, _, _], _ => rfl)
  (fun cdv A outer s H E hr => dss_cons (ds_expr (c_call (ok_check_state X G c) hr (by decide) (da_cons (d_var 0) (da_cons (d_var 1) (da_nil))))) (dss_cons (ds_expr (c_call (ok_check_content X G c) hr (by decide) (da_cons (d_fld (cls_Controller c) (noat_Controller_sizes c) (d_var 0)) (da_cons (d_var 2) (da_nil))))) (dss_cons (ds_set (i := 3) S_settled.nd rfl (by first | exact .inl rfl | exact .inr rfl) (.inl rfl) (d_dct0T)) (dss_cons (ds_set (i := 4) S_settled.nd rfl (by first | exact .inl rfl | exact .inr rfl) (.inl rfl) (d_var 1)) (dss_cons (ds_while (n := fuel) own_nox (DC.dt (dc_notInS hr.units (d_var 4) (d_var 3))) (dss_cons (ds_putT hr.units (d_var 3) (d_var 4) (d_callB (cd_lenX) rfl (free_len X G c) (by rfl) (da_cons (d_var 3) (da_nil)))) (dss_cons (ds_set (i := 4) S_settled.nd rfl (by first | exact .inl rfl | exact .inr rfl) (.inl rfl) (d_atT hr.units (c_call (ok_scan_of X G c) hr (by decide) (da_cons (d_var 0) (da_cons (d_var 4) (da_cons (d_var 2) (da_nil))))) (d_int))) dss_nil))) (dss_cons (ds_ret (d_tup (da_cons (d_atT hr.units (d_var 3) (d_var 4)) (da_cons (d_bin opd_sub (d_callB (cd_lenX) rfl (free_len X G c) (by rfl) (da_cons (d_var 3) (da_nil))) (d_atT hr.units (d_var 3) (d_var 4))) (da_nil))))) dss_nil))))))
theorem S__law_settled : FnScope ["parts", "state", "content", "found"] ["parts", "state", "content"] (defScope st__law_settled) := ⟨rfl, rfl, rfl, by decide +kernel, rfl, by decide +kernel, by decide +kernel⟩
theorem ok__law_settled (X : K.In h) (G : h.Ns mainGlobals mg) (c : Sy w h K) : Ok P w K mg base "_law_settled" 4 3 m__law_settled :=
  Ok.mk' S__law_settled rfl rfl (c.t.d.def_ 42 rfl) (glo__law_settled X G c) (fun _ _ _ _ _ _ us hl => match us, hl with | [_, _, _], _ => rfl)
  (fun cdv A outer s H E hr => dss_cons (ds_set (i := 3) S__law_settled.nd rfl (by first | exact .inl rfl | exact .inr rfl) (.inl rfl) (d_lst (da_nil))) (dss_cons (ds_while (n := fuel) own_nox (DC.dt (dc_notInS hr.units (d_var 1) (d_var 3))) (dss_cons (ds_expr (d_lm ld_append PySem.F.plainAttrs_list PySem.F.slot_list_append (by first | rfl | kernel_rfl) (d_var 3) (da_cons (d_var 1) (da_nil)))) (dss_cons (ds_set (i := 1) S__law_settled.nd rfl (by first | exact .inl rfl | exact .inr rfl) (.inl rfl) (d_atT hr.units (c_call (ok__law_scan X G c) hr (by decide) (da_cons (d_var 0) (da_cons (d_var 1) (da_cons (d_var 2) (da_nil))))) (d_int))) dss_nil))) (dss_cons (ds_ret (d_tup (da_cons (d_index (units65 hr) (d_var 3) (da_cons (d_var 1) (da_nil))) (da_cons (d_bin opd_sub (d_callB (cd_lenX) rfl (free_len X G c) (by rfl) (da_cons (d_var 3) (da_nil))) (d_index (units65 hr) (d_var 3) (da_cons (d_var 1) (da_nil)))) (da_nil))))) dss_nil)))
theorem S_steady : FnScope ["controller", "content", "every", "state"] ["controller", "content"] (defScope st_steady) := ⟨rfl, rfl, rfl, by decide +kernel, rfl, by decide +kernel, by decide +kernel⟩
theorem ok_steady (X : K.In h) (G : h.Ns mainGlobals mg) (c : Sy w h K) : Ok P w K mg base "steady" 6 2 m_steady :=
  Ok.mk' S_steady rfl rfl (c.t.d.def_ 43 rfl) (glo_steady X G c) (fun _ _ _ _ _ _ us hl => match us, hl with | [_, _], _ => rfl)
  (fun cdv A outer s H E hr => dss_cons (ds_expr (c_call (ok_check_content X G c) hr (by decide) (da_cons (d_fld (cls_Controller c) (noat_Controller_sizes c) (d_var 0)) (da_cons (d_var 1) (da_nil))))) (dss_cons (ds_set (i := 2) S_steady.nd rfl (by first | exact .inl rfl | exact .inr rfl) (.inl rfl) (c_call (ok_tuples_of X G c) hr (by decide) (da_cons (d_bin opd_mulX (d_tup (da_cons (d_int) (da_nil))) (d_fld (cls_Controller c) (noat_Controller_cells c) (d_var 0))) (da_nil)))) (dss_cons (ds_ret (d_lc (own := [("state", 3)]) rfl S_steady.nd (.inl rfl) (by decide) (by decide) (blkOk_by (own := [("state", 3)]) (by rfl)) (di_ofX (d_var 2)) (fun s H C cl fp => dg_name (i := 3) S_steady.nd rfl (by first | exact .inl rfl | exact .inr rfl) (.inl rfl)) (fun s H C cl fp => dts_one (DC.dt (dc_op (opd_eq hr.units) (d_atT hr.units (c_call (ok_scan_of X G c) hr (by decide) (da_cons (d_var 0) (da_cons (d_var 3) (da_cons (d_var 1) (da_nil))))) (d_int)) (d_var 3)))) (fun s H C cl fp => d_var 3))) dss_nil)))
theorem S_first_bad : FnScope ["controller", "rows", "index", "content"] ["controller", "rows"] (defScope st_first_bad) := ⟨rfl, rfl, rfl, by decide +kernel, rfl, by decide +kernel, by decide +kernel⟩
theorem ok_first_bad (X : K.In h) (G : h.Ns mainGlobals mg) (c : Sy w h K) : Ok P w K mg base "first_bad" 4 2 m_first_bad :=
  Ok.mk' S_first_bad rfl rfl (c.t.d.def_ 44 rfl) (glo_first_bad X G c) (fun _ _ _ _ _ _ us hl => match us, hl with | [_, _], _ => rfl)
  (fun cdv A outer s H E hr => dss_cons (ds_if (dt_not (dt_val (d_isi2 (T := "list") (U := "tuple") (by decide +kernel) (by decide) (by decide +kernel) (by decide) rfl (free_isinstance X G c) (by rfl) (d_var 1) rfl (free_list X G c) (by rfl) rfl (free_tuple X G c) (by rfl)))) (dss_cons (ds_ret (d_neg (d_int))) dss_nil) (dss_nil)) (dss_cons (ds_for own_nox rfl (di_enum rfl (free_enumerate X G c) (da_cons (d_var 1) (da_nil))) (dg_tup rfl (dgs_cons (dg_name (i := 2) S_first_bad.nd rfl (by first | exact .inl rfl | exact .inr rfl) (.inl rfl)) (dgs_cons (dg_name (i := 3) S_first_bad.nd rfl (by first | exact .inl rfl | exact .inr rfl) (.inl rfl)) (dgs_nil))) ((gCons_len (gCons_len (fun _ _ _ h => gNil_len h))))) (dss_cons (ds_if (dt_not (dt_val (c_call (ok_is_content X G c) hr (by decide) (da_cons (d_fld (cls_Controller c) (noat_Controller_sizes c) (d_var 0)) (da_cons (d_var 3) (da_nil)))))) (dss_cons (ds_ret (d_var 2)) dss_nil) (dss_nil)) dss_nil)) (dss_cons (ds_ret (d_non)) dss_nil)))
theorem S_scanned : FnScope ["controller", "state", "rows", "bad", "found", "here", "content"] ["controller", "state", "rows"] (defScope st_scanned) := ⟨rfl, rfl, rfl, by decide +kernel, rfl, by decide +kernel, by decide +kernel⟩
theorem ok_scanned (X : K.In h) (G : h.Ns mainGlobals mg) (c : Sy w h K) : Ok P w K mg base "scanned" 6 3 m_scanned :=
  Ok.mk' S_scanned rfl rfl (c.t.d.def_ 45 rfl) (glo_scanned X G c) (fun _ _ _ _ _ _ us hl => match us, hl with | [_, _, _], _ => rfl)
  (fun cdv A outer s H E hr => dss_cons (ds_expr (c_call (ok_check_state X G c) hr (by decide) (da_cons (d_var 0) (da_cons (d_var 1) (da_nil))))) (dss_cons (ds_set (i := 3) S_scanned.nd rfl (by first | exact .inl rfl | exact .inr rfl) (.inl rfl) (c_call (ok_first_bad X G c) hr (by decide) (da_cons (d_var 0) (da_cons (d_var 2) (da_nil))))) (dss_cons (ds_if (DC.dt (dc_op (opd_notN) (d_var 3) (d_non))) (dss_no) (dss_nil)) (dss_cons (ds_set (i := 4) S_scanned.nd rfl (by first | exact .inl rfl | exact .inr rfl) (.inl rfl) (d_lst (da_nil))) (dss_cons (ds_set (i := 5) S_scanned.nd rfl (by first | exact .inl rfl | exact .inr rfl) (.inl rfl) (d_var 1)) (dss_cons (ds_for own_nox rfl (di_ofX (d_var 2)) (dg_name (i := 6) S_scanned.nd rfl (by first | exact .inl rfl | exact .inr rfl) (.inl rfl)) (dss_cons (ds_expr (d_lm ld_append PySem.F.plainAttrs_list PySem.F.slot_list_append (by first | rfl | kernel_rfl) (d_var 4) (da_cons (c_call (ok_scan_of X G c) hr (by decide) (da_cons (d_var 0) (da_cons (d_var 5) (da_cons (d_var 6) (da_nil))))) (da_nil)))) (dss_cons (ds_set (i := 5) S_scanned.nd rfl (by first | exact .inl rfl | exact .inr rfl) (.inl rfl) (d_atT hr.units (d_atT hr.units (d_var 4) (d_neg (d_int))) (d_int))) dss_nil))) (dss_cons (ds_ret (d_var 4)) dss_nil)))))))
theorem S_law : FnScope ["script", "hand", "turn", "parts", "sizes", "cells", "statements", "controller", "every", "all_states", "state", "rows", "step", "due", "here", "content", "half", "one"] ["script"] (defScope st_law) := ⟨rfl, rfl, rfl, by decide +kernel, rfl, by decide +kernel, by decide +kernel⟩
theorem fnok_law (X : K.In h) (G : h.Ns mainGlobals mg) (c : Sy w h K) {fd : FuncData} (F : FunD K "law" "law" (defArgs st_law) (defBody st_law) (defScope st_law) [] [] (He.ga K "law") fd) : FnOk P w K mg base CX0 9 (He.ga K "law") fd ["script"] (spP ⟨K, P, w⟩ 1 m_law) :=
  Fn.pure S_law rfl rfl F
  (fun cdv A outer s H E hr => dss_cons (ds_set (i := 1) S_law.nd rfl (by first | exact .inl rfl | exact .inr rfl) (.inl rfl) (c_call (ok__law_hand X G c) hr (by decide) (da_cons (d_var 0) (da_nil)))) (dss_cons (ds_for own_nox rfl (di_range1 rfl (free_range X G c) (da_cons (d_int) (da_nil))) (dg_name (i := 2) S_law.nd rfl (by first | exact .inl rfl | exact .inr rfl) (.inl rfl)) (dss_cons (ds_set (i := 3) S_law.nd rfl (by first | exact .inl rfl | exact .inr rfl) (.inl rfl) (c_callIo (ok__law_controller X G c) hr (by decide) (da_cons (d_var 1) (da_cons (d_int) (da_nil))))) (dss_cons (ds_asg (d_var 3) (dg_tup rfl (dgs_cons (dg_name (i := 4) S_law.nd rfl (by first | exact .inl rfl | exact .inr rfl) (.inl rfl)) (dgs_cons (dg_name (i := 5) S_law.nd rfl (by first | exact .inl rfl | exact .inr rfl) (.inl rfl)) (dgs_cons (dg_name (i := 6) S_law.nd rfl (by first | exact .inl rfl | exact .inr rfl) (.inl rfl)) (dgs_nil)))) ((gCons_len (gCons_len (gCons_len (fun _ _ _ h => gNil_len h))))))) (dss_cons (ds_set (i := 7) S_law.nd rfl (by first | exact .inl rfl | exact .inr rfl) (.inl rfl) (c_call (ok__law_made X G c) hr (by decide) (da_cons (d_var 3) (da_nil)))) (dss_cons (ds_asg (d_tup (da_cons (c_call (ok__law_contents X G c) hr (by decide) (da_cons (d_var 4) (da_nil))) (da_cons (c_call (ok__law_contents X G c) hr (by decide) (da_cons (d_bin opd_mulX (d_tup (da_cons (d_int) (da_nil))) (d_var 5)) (da_nil))) (da_nil)))) (dg_tup rfl (dgs_cons (dg_name (i := 8) S_law.nd rfl (by first | exact .inl rfl | exact .inr rfl) (.inl rfl)) (dgs_cons (dg_name (i := 9) S_law.nd rfl (by first | exact .inl rfl | exact .inr rfl) (.inl rfl)) (dgs_nil))) ((gCons_len (gCons_len (fun _ _ _ h => gNil_len h)))))) (dss_cons (ds_set (i := 10) S_law.nd rfl (by first | exact .inl rfl | exact .inr rfl) (.inl rfl) (d_atT hr.units (d_var 9) (c_callIo (ok__law_draw X G c) hr (by decide) (da_cons (d_var 1) (da_cons (d_callB (cd_lenX) rfl (free_len X G c) (by rfl) (da_cons (d_var 9) (da_nil))) (da_nil)))))) (dss_cons (ds_setLc (i := 11) (own := [("step", 12)]) rfl S_law.nd rfl rfl (.inl rfl) (by rfl) (.inl rfl) (by decide) (by decide) (blkOk_by (own := [("step", 12)]) (by rfl)) (di_range1 rfl (free_range X G c) (da_cons (c_callIo (ok__law_draw X G c) hr (by decide) (da_cons (d_var 1) (da_cons (d_int) (da_nil)))) (da_nil))) (fun s H C cl fp => dg_name (i := 12) S_law.nd rfl (by first | exact .inl rfl | exact .inr rfl) (.inl rfl)) (fun s H C cl fp => dts_nil) (fun s H C cl fp => d_atT hr.units (d_var 8) (c_callIo (ok__law_draw X G c) hr (by decide) (da_cons (d_var 1) (da_cons (d_callB (cd_lenX) rfl (free_len X G c) (by rfl) (da_cons (d_var 8) (da_nil))) (da_nil)))))) (dss_cons (ds_set (i := 13) S_law.nd rfl (by first | exact .inl rfl | exact .inr rfl) (.inl rfl) (d_lst (da_nil))) (dss_cons (ds_set (i := 14) S_law.nd rfl (by first | exact .inl rfl | exact .inr rfl) (.inl rfl) (d_var 10)) (dss_cons (ds_for own_nox rfl (di_ofX (d_var 11)) (dg_name (i := 15) S_law.nd rfl (by first | exact .inl rfl | exact .inr rfl) (.inl rfl)) (dss_cons (ds_expr (d_lm ld_append PySem.F.plainAttrs_list PySem.F.slot_list_append (by first | rfl | kernel_rfl) (d_var 13) (da_cons (c_call (ok__law_scan X G c) hr (by decide) (da_cons (d_var 3) (da_cons (d_var 14) (da_cons (d_var 15) (da_nil))))) (da_nil)))) (dss_cons (ds_set (i := 14) S_law.nd rfl (by first | exact .inl rfl | exact .inr rfl) (.inl rfl) (d_atT hr.units (d_atT hr.units (d_var 13) (d_neg (d_int))) (d_int))) dss_nil))) (dss_cons (ds_if (DW.dt (dw_or (DC.dt (dc_op (opd_ne hr.units) (c_call (ok_scanned X G c) hr (by decide) (da_cons (d_var 7) (da_cons (d_var 10) (da_cons (d_var 11) (da_nil))))) (d_var 13))) (dw_or1 (DC.dt (dc_op (opd_ne hr.units) (c_call (ok_scanned X G c) hr (by decide) (da_cons (d_var 7) (da_cons (d_var 10) (da_cons (d_callTy (cd_tuple) rfl (free_tuple X G c) (by rfl) (da_cons (d_var 11) (da_nil))) (da_nil))))) (d_var 13)))))) (dss_cons (ds_ret (d_bl)) dss_nil) (dss_nil)) (dss_cons (ds_set (i := 16) S_law.nd rfl (by first | exact .inl rfl | exact .inr rfl) (.inl rfl) (d_bin opd_fdiv (d_callB (cd_lenX) rfl (free_len X G c) (by rfl) (da_cons (d_var 11) (da_nil))) (d_int))) (dss_cons (ds_if (DW.dt (dw_and (DC.dt (dc_op (opd_gt hr.units) (d_var 16) (d_int))) (dw_and1 (DC.dt (dc_op (opd_ne hr.units) (c_call (ok_scanned X G c) hr (by decide) (da_cons (d_var 7) (da_cons (d_atT hr.units (d_atT hr.units (d_var 13) (d_bin opd_sub (d_var 16) (d_int))) (d_int)) (da_cons (d_slice (d_var 11) (do_some (d_var 16)) (do_none)) (da_nil))))) (d_slice (d_var 13) (do_some (d_var 16)) (do_none))))))) (dss_cons (ds_ret (d_bl)) dss_nil) (dss_nil)) (dss_cons (ds_set (i := 15) S_law.nd rfl (by first | exact .inl rfl | exact .inr rfl) (.inl rfl) (d_atT hr.units (d_var 8) (c_callIo (ok__law_draw X G c) hr (by decide) (da_cons (d_var 1) (da_cons (d_callB (cd_lenX) rfl (free_len X G c) (by rfl) (da_cons (d_var 8) (da_nil))) (da_nil)))))) (dss_cons (ds_if (DC.dt (dc_op (opd_ne hr.units) (c_call (ok_scan X G c) hr (by decide) (da_cons (d_var 7) (da_cons (d_var 10) (da_cons (d_var 15) (da_nil))))) (c_call (ok__law_scan X G c) hr (by decide) (da_cons (d_var 3) (da_cons (d_var 10) (da_cons (d_var 15) (da_nil))))))) (dss_cons (ds_ret (d_bl)) dss_nil) (dss_nil)) (dss_cons (ds_if (DC.dt (dc_op (opd_ne hr.units) (c_call (ok_states X G c) hr (by decide) (da_cons (d_var 7) (da_nil))) (c_call (ok__law_reached X G c) hr (by decide) (da_cons (d_var 3) (da_nil))))) (dss_cons (ds_ret (d_bl)) dss_nil) (dss_nil)) (dss_cons (ds_if (DC.dt (dc_op (opd_ne hr.units) (c_call (ok_settled X G c) hr (by decide) (da_cons (d_var 7) (da_cons (d_var 10) (da_cons (d_var 15) (da_nil))))) (c_call (ok__law_settled X G c) hr (by decide) (da_cons (d_var 3) (da_cons (d_var 10) (da_cons (d_var 15) (da_nil))))))) (dss_cons (ds_ret (d_bl)) dss_nil) (dss_nil)) (dss_cons (ds_if (DC.dt (dc_op (opd_ne hr.units) (c_call (ok_steady X G c) hr (by decide) (da_cons (d_var 7) (da_cons (d_var 15) (da_nil)))) (d_lc (own := [("one", 17)]) rfl S_law.nd (.inl rfl) (by decide) (by decide) (blkOk_by (own := [("one", 17)]) (by rfl)) (di_ofX (d_var 9)) (fun s H C cl fp => dg_name (i := 17) S_law.nd rfl (by first | exact .inl rfl | exact .inr rfl) (.inl rfl)) (fun s H C cl fp => dts_one (DC.dt (dc_op (opd_eq hr.units) (d_atT hr.units (c_call (ok__law_scan X G c) hr (by decide) (da_cons (d_var 3) (da_cons (d_var 17) (da_cons (d_var 15) (da_nil))))) (d_int)) (d_var 17)))) (fun s H C cl fp => d_var 17)))) (dss_cons (ds_ret (d_bl)) dss_nil) (dss_nil)) (dss_cons (ds_if (DC.dt (dc_op (opd_ne hr.units) (d_tup (da_cons (d_fld (cls_Controller c) (noat_Controller_sizes c) (d_var 7)) (da_cons (d_fld (cls_Controller c) (noat_Controller_cells c) (d_var 7)) (da_cons (d_fld (cls_Program c) (noat_Program_statements c) (d_fld (cls_Controller c) (noat_Controller_program c) (d_var 7))) (da_nil))))) (d_var 3))) (dss_cons (ds_ret (d_bl)) dss_nil) (dss_nil)) dss_nil))))))))))))))))))) (dss_cons (ds_ret (d_bl)) dss_nil)))
end
end DL.Law
set_option maxHeartbeats 0
namespace DL.Law
open PySem PySem.Spec PyProof.Rows L2 DL
abbrev lrow : PySem.W.OpenLaw := PySem.Challenge.rw_twostandings_k47_whole_controllers_scann
abbrev R : PySem.W.OpenRow := PySem.W.OpenLaw.row lrow
def loose0 : List Str := ["is_integer", "is_within", "is_lot", "is_pair", "is_name", "FlagError", "BadSizes", "NoContent", "BadProgram", "BadController", "NoState", "BadRows", "MOST_PINS", "LEAST_WORTHS", "MOST_WORTHS", "MOST_LOOKED", "check_sizes", "tuples_of", "is_content", "check_content"]
def loose1 : List Str := ["sizes_at", "joint_of", "MOST_STATEMENTS", "CHANGES", "is_test", "is_statement", "Program", "shows", "changed", "Run", "run_of", "LETTERS", "are_inputs", "Controller", "first_state", "scan_of", "check_state", "scan", "first_bad", "scanned"]
def loose2 : List Str := ["states_of", "states", "settled", "steady", "_law_hand", "_law_draw", "_law_contents", "_law_joint", "_law_joints", "_law_slice", "_law_slices", "_law_sizes", "_law_wiring", "_law_tables", "_law_sum", "_law_sums", "_law_answers", "_law_run", "_law_test", "_law_name"]
def loose3 : List Str := ["_law_statements", "_law_controller", "_law_pieces", "_law_scan", "_law_reached", "_law_made", "_law_settled"]
def loose : List Str := loose0 ++ (loose1 ++ (loose2 ++ (loose3)))
abbrev hk : PySem.W.Hook := He.hookX 6 fa fn ts [] ex
def ob (s : PySem.W.SharedT) : He.AlX := He.obsX 6 fa fn ts [] ex (HandSHeadRun.getT s)
theorem ob_eq (s : PySem.W.SharedT) : ob s = hk.obs s.abs := He.obsX_eq (HandSHeadRun.getT_eq s)
theorem run_f (w : World) : HandSHeadRun.RunEq R (PySem.W.view R.prog [73]) hk ob 6000 loose (w.withFollow "special-get-raises" false) := by
  intro os
  kernel_rfl
theorem run_t (w : World) : HandSHeadRun.RunEq R (PySem.W.view R.prog [73]) hk ob 6000 loose (w.withFollow "special-get-raises" true) := by
  intro os
  kernel_rfl
theorem run (w : World) : HandSHeadRun.RunEq R (PySem.W.view R.prog [73]) hk ob 6000 loose w := PySem.W.byRow2 "special-get-raises" (P := fun w => HandSHeadRun.RunEq R (PySem.W.view R.prog [73]) hk ob 6000 loose w) run_f run_t w
end DL.Law
namespace DL.Law
open PySem PySem.Spec PyProof.Rows L2 DL
theorem sp_law {K : PySem.W.Frag} {P : Program} {w : World} (hl : ∀ ns : List Int, ns.length ≤ 63 → m_law [.lst (ns.map D.int)] = some (.fz (.bl true))) (H : Hp) (a : Addr) (ns : List Int) (hn : ns.length ≤ 63) (hO : Only H) (hS : SqL K H a (ns.map V.int)) :
    spP ⟨K, P, w⟩ 1 m_law [.ref a] H (fun v _ => v = .bl true) fun _ _ _ => False := by
  have w0 : ∀ H', FzL ⟨K, P, w⟩ H' (ns.map V.int) (ns.map D.int) := fun H' => FzL.ofInts ns
  have fz : Fz ⟨K, P, w⟩ H (.ref a) (.lst (ns.map D.int)) := by
    rcases hS with (h | ⟨o, h⟩) | h
    · rcases hO a with z | ⟨o, xs, z⟩
      · rw [z] at h; cases h
      · rw [z] at h; cases h
    · exact .lst h (w0 H)
    · exact .lstW h (w0 H)
  refine ⟨[.lst (ns.map D.int)], .fz (.bl true), rfl, hl ns hn, .cons fz .nil, fun v H' sm rv _ => ?_⟩
  cases rv with
  | fz wv => cases wv; rfl
theorem facts {P : Program} {w : World} {K : PySem.W.Frag} {h : Heap} {mg : Str → Option Value} {f : Addr} (X : K.In h) (G : h.Ns mainGlobals mg) (hfa : mg ("law" : Str) = some (.ref f)) (c : Sy w h K) :
    ∃ fd : FuncData, (∀ (s : Shared) (v : Value), BindsTo s fd ⟨[v], []⟩ [("script", v)]) ∧ ∀ base : Heap, K.In base → base.Ns mainGlobals mg → FnOk P w K mg base CX0 9 f fd ["script"] (spP ⟨K, P, w⟩ 1 m_law) := by
  obtain ⟨fd, F⟩ := c.t.d.def_ 46 rfl
  have e := hfa.symm.trans (glo_law X G c)
  cases e
  have b := FunD.bindsA (ps := ["script"]) F fun _ _ _ _ _ _ us hl => match us, hl with | [_], _ => rfl
  exact ⟨fd, fun s v => b s [v] rfl, fun base _ _ => fnok_law X G c F⟩
end DL.Law
open PySem PySem.W PySem.Calls PyProof.Rows in
theorem holds_of (hl : ∀ ns : List Int, ns.length ≤ 63 → DL.Law.m_law [.lst (ns.map DL.D.int)] = some (.fz (.bl true))) : DL.Law.lrow.Holds := by
  w_on; o_law
  refine HandSHeadRun.head_any (r := DL.Law.R) (q := view (DL.Law.R).prog [73]) (H := DL.Law.hk) (ob := DL.Law.ob) (M := 6000) (loose := DL.Law.loose) (d := HandSHeadRun.topDef (DL.Law.R).prog 73) (kwd := []) DL.Law.ob_eq
    (by kernel_rfl) (fun s => by kernel_rfl) DL.Law.run (by kernel_rfl) (by kernel_rfl) (by kernel_rfl) (by rfl) (by first | assumption | decide +kernel) (by decide +kernel) ⟨rfl, rfl, rfl, rfl, rfl, by decide +kernel⟩ ?hw ?hc
  case hw => w_witness2
  case hc =>
    refine L2.walk_ofE (l := DL.Law.lrow) (n := 63) (k := 9) (x := "script") (CX := L2.CX0) rfl (by decide) (by kernel_rfl) ⟨rfl, by decide, by decide⟩ ?F (fun _ _ _ _ z => z)
    intro w mg fa h Y G hmg0
    obtain ⟨K, KX, c⟩ := Y
    have hmg : mg ("law" : PySem.Str) = some (.ref fa) := by
      have e : (HandSHeadRun.topDef (DL.Law.R).prog 73).name = ("law" : PySem.Str) := by kernel_rfl
      rw [← e]
      exact hmg0
    obtain ⟨fd, hb, hF⟩ := DL.Law.facts (P := DL.Law.lrow.prog) (w := w) KX G hmg c
    exact ⟨K, fd, _, KX, hb, fun H a ns hn hO hS => DL.Law.sp_law hl H a ns hn hO hS, hF⟩
open PySem PySem.W PyProof.Rows
theorem PySem.Challenge.cw_twostandings_k47_whole_controllers_scann_holds : PySem.Challenge.rw_twostandings_k47_whole_controllers_scann.Holds :=
  holds_of DL.Law.law_true
